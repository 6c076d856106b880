import PyProof.Rows.All
import Wide.All
import OpenK.AllK
import Wide.FinOn
import HandS.ForMost
import HandS.ForExc
import HandS.CallSlots
import HandS.IsInst
import HandS.TupAny
import HandS.Style
import HandS.Flow
import HandS.StrMore
import HandS.New0
import HandS.Walk
import HandS.Defaults
import HandS.Replace
import HandS.ReplaceLit
import HandS.HeadHook4
import HandS.Head2
import HandS.HeadWalk
import HandS.ReplaceList
import PySem.Challenge.RW_formsmith_k02_read_as_it_was_coded
section
set_option Elab.async false
set_option linter.all false
set_option maxRecDepth 100000
/-! DL0: data as trees, worlds, what a value stands for. -/
namespace DL
open PySem L2

abbrev Tx := List Nat
def tS (l : Tx) : Str := ⟨l.toArray⟩
abbrev DKey := Sum Int Tx
def dk : DKey → Key
  | .inl i => .inl i
  | .inr l => .inr (tS l)

inductive D where
  | non
  | bl (b : Bool)
  | int (i : Int)
  | str (s : Tx)
  | tup (l : List D)
  | lst (l : List D)
  | dic (l : List (DKey × D))
  | obj (c : Nat)
  | ref (n : Nat)
  | clo (c : Nat) (l : List D)
  /-- the script, read only -/
  | scr (ns : List Int)
  deriving Inhabited

/-- what is in the store: things that are changed in place -/
inductive O where
  | lst (l : List D)
  | dic (l : List (DKey × D))
  | ins (c : Nat) (fs : List (Str × D))

abbrev Sto := List O
structure Exn where
  c : Nat
  at_ : Option D
inductive Res (α : Type) where
  | ok (a : α) (s : Sto)
  | raise (x : Exn) (s : Sto)
  | stuck
def M (α : Type) : Type := Sto → Res α
@[inline] def M.pure {α : Type} (a : α) : M α := fun s => .ok a s
@[inline] def M.bind {α β : Type} (m : M α) (k : α → M β) : M β := fun s => match m s with
  | .ok a s' => k a s'
  | .raise x s' => .raise x s'
  | .stuck => .stuck
instance : Monad M where
  pure := M.pure
  bind := M.bind
def stuck {α : Type} : M α := fun _ => .stuck
def raiseM {α : Type} (x : Exn) : M α := fun s => .raise x s

/-- the link: the written part, the classes by number -/
structure Lk where
  K : PySem.W.Frag
  cl : Nat → Addr
/-- a world: what is frozen, where the store's things stand, the heap -/
structure G where
  F : Addr → Prop
  ι : List Addr
  H : Hp

def FT (L : Lk) (g : G) (a : Addr) (xs : List V) : Prop :=
  (g.F a ∧ Rd g.H a (.tup xs)) ∨ ∃ (o : Obj) (its : Array Value) (n : Nat), L.K.lookup a = some o ∧ o.cls = .type "tuple" ∧ o.data = .seq its n ∧ its.size ≤ sizeLine ∧ Vals xs its.toList
def FL (L : Lk) (g : G) (a : Addr) (xs : List V) : Prop :=
  (g.F a ∧ Rd g.H a (.lst xs)) ∨ ∃ (o : Obj) (its : Array Value) (n : Nat), L.K.lookup a = some o ∧ o.cls = .type "list" ∧ o.dict = none ∧ o.data = .seq its n ∧ its.size ≤ sizeLine ∧ Vals xs its.toList
theorem FT.sq {L : Lk} {g : G} {a : Addr} {xs : List V} (h : FT L g a xs) : SqT L.K g.H a xs := by
  rcases h with ⟨_, h⟩ | h
  · exact .inl h
  · exact .inr h
theorem FL.sq {L : Lk} {g : G} {a : Addr} {xs : List V} (h : FL L g a xs) : SqL L.K g.H a xs := by
  rcases h with ⟨_, h⟩ | h
  · exact .inl h
  · exact .inr h

mutual
def Den (L : Lk) (g : G) : D → V → Prop
  | .non, v => v = .non
  | .bl b, v => v = .bl b
  | .int i, v => v = .int i
  | .str s, v => v = .str (tS s)
  | .tup l, v => ∃ a vs, v = .ref a ∧ FT L g a vs ∧ DenL L g l vs
  | .lst l, v => ∃ a vs, v = .ref a ∧ g.F a ∧ g.H a = some (.lst vs) ∧ DenL L g l vs
  | .dic l, v => ∃ a kvs, v = .ref a ∧ g.F a ∧ g.H a = some (.dK kvs) ∧ DenK L g l kvs
  | .obj c, v => ∃ a dx, v = .ref a ∧ g.F a ∧ g.H a = some (.ins (L.cl c) dx [])
  | .ref n, v => ∃ a, g.ι[n]? = some a ∧ v = .ref a
  | .clo _ _, _ => False
  | .scr ns, v => ∃ a, v = .ref a ∧ FL L g a (ns.map V.int)
def DenL (L : Lk) (g : G) : List D → List V → Prop
  | [], vs => vs = []
  | d :: ds, vs => ∃ v r, vs = v :: r ∧ Den L g d v ∧ DenL L g ds r
def DenK (L : Lk) (g : G) : List (DKey × D) → List (Key × V) → Prop
  | [], vs => vs = []
  | (k, d) :: ds, vs => ∃ v r, vs = (dk k, v) :: r ∧ Den L g d v ∧ DenK L g ds r
end

structure Grow (g g' : G) : Prop where
  f : ∀ a, g.F a → g'.F a
  fn : ∀ a, g'.F a → g.F a ∨ g.H a = none
  st : ∃ κ, g'.ι = g.ι ++ κ ∧ ∀ a ∈ κ, g.H a = none
  kp : ∀ a o, g.H a = some o → a ∉ g.ι → g'.H a = some o
  dm : ∀ a o, g.H a = some o → ∃ o', g'.H a = some o'

def ObjAt (L : Lk) (g : G) (a : Addr) : O → Prop
  | .lst ds => ∃ vs, g.H a = some (.lst vs) ∧ DenL L g ds vs
  | .dic ds => ∃ kvs, g.H a = some (.dK kvs) ∧ DenK L g ds kvs
  | .ins c fs => ∃ dx vs, g.H a = some (.ins (L.cl c) dx ((fs.map (·.1)).zip vs)) ∧ DenL L g (fs.map (·.2)) vs

structure Wld (L : Lk) (g : G) (s : Sto) : Prop where
  fd : ∀ a, g.F a → ∃ o, g.H a = some o
  nd : g.ι.Nodup
  dj : ∀ a ∈ g.ι, ¬ g.F a
  ln : g.ι.length = s.length
  ob : ∀ (n : Nat) (o : O), s[n]? = some o → ∃ a, g.ι[n]? = some a ∧ ObjAt L g a o

theorem Grow.refl (g : G) : Grow g g := ⟨fun _ h => h, fun _ h => .inl h, ⟨[], by simp⟩, fun _ _ h _ => h, fun _ o h => ⟨o, h⟩⟩
theorem Grow.trans {g1 g2 g3 : G} (a : Grow g1 g2) (b : Grow g2 g3) : Grow g1 g3 where
  f := fun x h => b.f x (a.f x h)
  fn := fun x h => by
    rcases b.fn x h with h | h
    · exact a.fn x h
    · right
      cases e : g1.H x with
      | none => rfl
      | some o =>
        obtain ⟨o', e'⟩ := a.dm x o e
        rw [h] at e'; cases e'
  st := by
    obtain ⟨κ1, e1, h1⟩ := a.st
    obtain ⟨κ2, e2, h2⟩ := b.st
    refine ⟨κ1 ++ κ2, by rw [e2, e1, List.append_assoc], fun x hx => ?_⟩
    rcases List.mem_append.mp hx with hx | hx
    · exact h1 x hx
    · have n := h2 x hx
      cases e : g1.H x with
      | none => rfl
      | some o =>
        obtain ⟨o', e'⟩ := a.dm x o e
        rw [n] at e'; cases e'
  kp := fun x o h n => by
    obtain ⟨κ1, e1, h1⟩ := a.st
    refine b.kp x o (a.kp x o h n) ?_
    rw [e1]
    intro hx
    rcases List.mem_append.mp hx with hx | hx
    · exact n hx
    · rw [h1 x hx] at h; cases h
  dm := fun x o h => by
    obtain ⟨o', e⟩ := a.dm x o h
    exact b.dm x o' e

theorem Rd_keep {g g' : G} {a : Addr} {u : HO} (gr : Grow g g') (n : a ∉ g.ι) (h : Rd g.H a u) : Rd g'.H a u := by
  rcases h with h | ⟨o, h⟩
  · exact .inl (gr.kp _ _ h n)
  · exact .inr ⟨o, gr.kp _ _ h n⟩
/-- frozen things stay as they are: what the monotony needs of the elder world -/
def Apart (g : G) : Prop := ∀ a ∈ g.ι, ¬ g.F a
theorem Wld.apart {L : Lk} {g : G} {s : Sto} (w : Wld L g s) : Apart g := w.dj
theorem Apart.ni {g : G} (w : Apart g) {a : Addr} (h : g.F a) : a ∉ g.ι := fun q => w a q h

/-- what data ask of a younger world -/
structure Ext (g g' : G) : Prop where
  f : ∀ a, g.F a → g'.F a
  st : ∀ (n : Nat) (a : Addr), g.ι[n]? = some a → g'.ι[n]? = some a
  kp : ∀ a o, g.F a → g.H a = some o → g'.H a = some o
theorem ι_mono {g g' : G} (gr : Grow g g') {n : Nat} {a : Addr} (h : g.ι[n]? = some a) : g'.ι[n]? = some a := by
  obtain ⟨κ, e, _⟩ := gr.st
  rw [e, List.getElem?_append_left (List.getElem?_eq_some_iff.mp h).1]
  exact h
theorem Grow.ext {g g' : G} (gr : Grow g g') (w : Apart g) : Ext g g' := ⟨gr.f, fun _ _ h => ι_mono gr h, fun a o f h => gr.kp a o h (w.ni f)⟩
theorem Ext.refl (g : G) : Ext g g := ⟨fun _ h => h, fun _ _ h => h, fun _ _ _ h => h⟩
theorem Ext.trans {g1 g2 g3 : G} (a : Ext g1 g2) (b : Ext g2 g3) : Ext g1 g3 := ⟨fun x h => b.f x (a.f x h), fun n x h => b.st n x (a.st n x h), fun x o f h => b.kp x o (a.f x f) (a.kp x o f h)⟩
theorem Ext.rd {g g' : G} (x : Ext g g') {a : Addr} {u : HO} (f : g.F a) (h : Rd g.H a u) : Rd g'.H a u := by
  rcases h with h | ⟨o, h⟩
  · exact .inl (x.kp _ _ f h)
  · exact .inr ⟨o, x.kp _ _ f h⟩
theorem FT.mono {L : Lk} {g g' : G} {a : Addr} {xs : List V} (x : Ext g g') (h : FT L g a xs) : FT L g' a xs := by
  rcases h with ⟨f, h⟩ | h
  · exact .inl ⟨x.f _ f, x.rd f h⟩
  · exact .inr h
theorem FL.mono {L : Lk} {g g' : G} {a : Addr} {xs : List V} (x : Ext g g') (h : FL L g a xs) : FL L g' a xs := by
  rcases h with ⟨f, h⟩ | h
  · exact .inl ⟨x.f _ f, x.rd f h⟩
  · exact .inr h

mutual
theorem Den.ext {L : Lk} {g g' : G} (gr : Ext g g') : ∀ (d : D) (v : V), Den L g d v → Den L g' d v
  | .non, v, h => by simpa only [Den] using h
  | .bl b, v, h => by simpa only [Den] using h
  | .int i, v, h => by simpa only [Den] using h
  | .str s, v, h => by simpa only [Den] using h
  | .tup l, v, h => by
    simp only [Den] at h ⊢
    obtain ⟨a, vs, e, f, q⟩ := h
    exact ⟨a, vs, e, f.mono gr, DenL.ext gr l vs q⟩
  | .lst l, v, h => by
    simp only [Den] at h ⊢
    obtain ⟨a, vs, e, f, r, q⟩ := h
    exact ⟨a, vs, e, gr.f _ f, gr.kp _ _ f r, DenL.ext gr l vs q⟩
  | .dic l, v, h => by
    simp only [Den] at h ⊢
    obtain ⟨a, vs, e, f, r, q⟩ := h
    exact ⟨a, vs, e, gr.f _ f, gr.kp _ _ f r, DenK.ext gr l vs q⟩
  | .obj c, v, h => by
    simp only [Den] at h ⊢
    obtain ⟨a, dx, e, f, r⟩ := h
    exact ⟨a, dx, e, gr.f _ f, gr.kp _ _ f r⟩
  | .ref n, v, h => by
    simp only [Den] at h ⊢
    obtain ⟨a, e, r⟩ := h
    exact ⟨a, gr.st _ _ e, r⟩
  | .clo _ _, v, h => by simp only [Den] at h
  | .scr ns, v, h => by
    simp only [Den] at h ⊢
    obtain ⟨a, e, f⟩ := h
    exact ⟨a, e, f.mono gr⟩
theorem DenL.ext {L : Lk} {g g' : G} (gr : Ext g g') : ∀ (d : List D) (v : List V), DenL L g d v → DenL L g' d v
  | [], v, h => by simpa only [DenL] using h
  | d :: ds, v, h => by
    simp only [DenL] at h ⊢
    obtain ⟨x, r, e, p, q⟩ := h
    exact ⟨x, r, e, Den.ext gr d x p, DenL.ext gr ds r q⟩
theorem DenK.ext {L : Lk} {g g' : G} (gr : Ext g g') : ∀ (d : List (DKey × D)) (v : List (Key × V)), DenK L g d v → DenK L g' d v
  | [], v, h => by simpa only [DenK] using h
  | (k, d) :: ds, v, h => by
    simp only [DenK] at h ⊢
    obtain ⟨x, r, e, p, q⟩ := h
    exact ⟨x, r, e, Den.ext gr d x p, DenK.ext gr ds r q⟩
end
theorem Den.mono {L : Lk} {g g' : G} (w : Apart g) (gr : Grow g g') (d : D) (v : V) (h : Den L g d v) : Den L g' d v := Den.ext (gr.ext w) d v h
theorem DenL.mono {L : Lk} {g g' : G} (w : Apart g) (gr : Grow g g') (d : List D) (v : List V) (h : DenL L g d v) : DenL L g' d v := DenL.ext (gr.ext w) d v h
theorem DenK.mono {L : Lk} {g g' : G} (w : Apart g) (gr : Grow g g') (d : List (DKey × D)) (v : List (Key × V)) (h : DenK L g d v) : DenK L g' d v := DenK.ext (gr.ext w) d v h

theorem ObjAt.ext {L : Lk} {g g' : G} (gr : Ext g g') {a : Addr} (e : g'.H a = g.H a) {o : O} (h : ObjAt L g a o) : ObjAt L g' a o := by
  cases o <;> simp only [ObjAt] at h ⊢
  · obtain ⟨vs, h1, h2⟩ := h; exact ⟨vs, e.trans h1, DenL.ext gr _ _ h2⟩
  · obtain ⟨vs, h1, h2⟩ := h; exact ⟨vs, e.trans h1, DenK.ext gr _ _ h2⟩
  · obtain ⟨dx, vs, h1, h2⟩ := h; exact ⟨dx, vs, e.trans h1, DenL.ext gr _ _ h2⟩
theorem ObjAt.mono {L : Lk} {g g' : G} (w : Apart g) (gr : Grow g g') {a : Addr} (e : g'.H a = g.H a) {o : O} (h : ObjAt L g a o) : ObjAt L g' a o := h.ext (gr.ext w) e
theorem ObjAt.there {L : Lk} {g : G} {a : Addr} {o : O} (h : ObjAt L g a o) : ∃ u, g.H a = some u := by
  cases o <;> simp only [ObjAt] at h
  · obtain ⟨vs, h1, h2⟩ := h; exact ⟨_, h1⟩
  · obtain ⟨vs, h1, h2⟩ := h; exact ⟨_, h1⟩
  · obtain ⟨dx, vs, h1, h2⟩ := h; exact ⟨_, h1⟩
theorem Wld.there {L : Lk} {g : G} {s : Sto} (w : Wld L g s) {a : Addr} (h : a ∈ g.ι) : ∃ u, g.H a = some u := by
  obtain ⟨n, hn, e⟩ := List.getElem_of_mem h
  have hs : n < s.length := by rw [← w.ln]; exact hn
  obtain ⟨b, eb, q⟩ := w.ob n s[n] (List.getElem?_eq_getElem hs)
  rw [List.getElem?_eq_getElem hn] at eb
  cases eb
  rw [e] at q
  exact q.there
/-- a new frozen thing -/
def G.lay (g : G) (p : Addr) (o : HO) : G := ⟨fun a => g.F a ∨ a = p, g.ι, upd g.H p o⟩
theorem lay_at {g : G} {p : Addr} {o : HO} : (g.lay p o).H p = some o := upd_same
theorem lay_F {g : G} {p : Addr} {o : HO} : (g.lay p o).F p := Or.inr rfl
theorem lay_grow {g : G} {p : Addr} {o : HO} (h : g.H p = none) : Grow g (g.lay p o) where
  f := fun _ x => .inl x
  fn := fun a x => by
    rcases x with x | x
    · exact .inl x
    · right; rw [x]; exact h
  st := ⟨[], by simp [G.lay], fun _ x => nomatch x⟩
  kp := fun a u e _ => (upd_ne (ne_of_none e h)).trans e
  dm := fun a u e => ⟨u, (upd_ne (ne_of_none e h)).trans e⟩
theorem lay_wld {L : Lk} {g : G} {s : Sto} {p : Addr} {o : HO} (w : Wld L g s) (h : g.H p = none) : Wld L (g.lay p o) s where
  fd := fun a x => by
    rcases x with x | x
    · obtain ⟨u, e⟩ := w.fd a x
      exact ⟨u, (upd_ne (ne_of_none e h)).trans e⟩
    · rw [x]; exact ⟨_, upd_same⟩
  nd := w.nd
  dj := fun a x q => by
    rcases q with q | q
    · exact w.dj a x q
    · obtain ⟨u, e⟩ := w.there x
      rw [q, h] at e; cases e
  ln := w.ln
  ob := fun n u e => by
    obtain ⟨a, ea, q⟩ := w.ob n u e
    obtain ⟨v, ev⟩ := q.there
    exact ⟨a, ea, q.mono w.apart (lay_grow h) (upd_ne (ne_of_none ev h))⟩
/-- an owned thing at p is written -/
def G.own (g : G) (p : Addr) (o : HO) : G := ⟨g.F, g.ι, upd g.H p o⟩
theorem own_ext {g : G} {p : Addr} {o : HO} (h : ¬ g.F p) : Ext g (g.own p o) where
  f := fun _ x => x
  st := fun _ _ x => x
  kp := fun a u f e => (upd_ne (fun q => by rw [q] at f; exact h f)).trans e
theorem own_wld {L : Lk} {g : G} {s : Sto} {p : Addr} {o : HO} (w : Wld L g s) (h : ¬ g.F p) (hi : p ∉ g.ι) : Wld L (g.own p o) s where
  fd := fun a x => by
    obtain ⟨u, e⟩ := w.fd a x
    exact ⟨u, (upd_ne (fun q => by rw [q] at x; exact h x)).trans e⟩
  nd := w.nd
  dj := w.dj
  ln := w.ln
  ob := fun n u e => by
    obtain ⟨a, ea, q⟩ := w.ob n u e
    refine ⟨a, ea, q.ext (own_ext h) (upd_ne fun z => ?_)⟩
    exact hi (z ▸ List.mem_of_getElem? ea)
/-- .. of a younger world than g0, where it was not yet -/
theorem own_grow {g0 g : G} {p : Addr} {o : HO} (gr : Grow g0 g) (h : g0.H p = none) : Grow g0 (g.own p o) where
  f := gr.f
  fn := gr.fn
  st := gr.st
  kp := fun a u e n => (upd_ne (ne_of_none e h)).trans (gr.kp a u e n)
  dm := fun a u e => by
    obtain ⟨u', e'⟩ := gr.dm a u e
    exact ⟨u', (upd_ne (ne_of_none e h)).trans e'⟩
/-- an owned thing is frozen -/
def G.frz (g : G) (p : Addr) : G := ⟨fun a => g.F a ∨ a = p, g.ι, g.H⟩
theorem frz_ext {g : G} {p : Addr} : Ext g (g.frz p) := ⟨fun _ x => .inl x, fun _ _ x => x, fun _ _ _ e => e⟩
theorem frz_wld {L : Lk} {g : G} {s : Sto} {p : Addr} (w : Wld L g s) (h : ∃ o, g.H p = some o) (hi : p ∉ g.ι) : Wld L (g.frz p) s where
  fd := fun a x => by
    rcases x with x | x
    · exact w.fd a x
    · rw [x]; exact h
  nd := w.nd
  dj := fun a x q => by
    rcases q with q | q
    · exact w.dj a x q
    · exact hi (q ▸ x)
  ln := w.ln
  ob := fun n u e => by
    obtain ⟨a, ea, q⟩ := w.ob n u e
    exact ⟨a, ea, q.ext frz_ext rfl⟩
theorem frz_grow {g0 g : G} {p : Addr} (gr : Grow g0 g) (h : g0.H p = none) : Grow g0 (g.frz p) where
  f := fun a x => .inl (gr.f a x)
  fn := fun a x => by
    rcases x with x | x
    · exact gr.fn a x
    · right; rw [x]; exact h
  st := gr.st
  kp := gr.kp
  dm := gr.dm
theorem DenL.len {L : Lk} {g : G} : ∀ {ds : List D} {vs : List V}, DenL L g ds vs → vs.length = ds.length
  | [], vs, h => by simp only [DenL] at h; subst h; rfl
  | d :: ds, vs, h => by
    simp only [DenL] at h
    obtain ⟨v, r, e, _, q⟩ := h
    subst e
    simp [DenL.len q]
theorem DenL.app {L : Lk} {g : G} : ∀ {ds es : List D} {vs us : List V}, DenL L g ds vs → DenL L g es us → DenL L g (ds ++ es) (vs ++ us)
  | [], es, vs, us, h, k => by simp only [DenL] at h; subst h; exact k
  | d :: ds, es, vs, us, h, k => by
    simp only [DenL] at h
    obtain ⟨v, r, e, x, q⟩ := h
    subst e
    simp only [List.cons_append, DenL]
    exact ⟨v, _, rfl, x, DenL.app q k⟩
theorem DenL.get {L : Lk} {g : G} : ∀ {ds : List D} {vs : List V} {i : Nat} {d : D}, DenL L g ds vs → ds[i]? = some d → ∃ v, vs[i]? = some v ∧ Den L g d v
  | [], vs, i, d, h, e => by simp at e
  | d :: ds, vs, 0, d', h, e => by
    simp only [DenL] at h
    obtain ⟨v, r, ev, x, q⟩ := h
    subst ev
    simp at e; subst e
    exact ⟨v, rfl, x⟩
  | d :: ds, vs, i + 1, d', h, e => by
    simp only [DenL] at h
    obtain ⟨v, r, ev, x, q⟩ := h
    subst ev
    simp at e
    obtain ⟨u, eu, y⟩ := DenL.get q e
    exact ⟨u, by simpa using eu, y⟩
theorem DenL.drop {L : Lk} {g : G} : ∀ {ds : List D} {vs : List V} (n : Nat), DenL L g ds vs → DenL L g (ds.drop n) (vs.drop n)
  | ds, vs, 0, h => h
  | [], vs, n + 1, h => by simp only [DenL] at h; subst h; simp [DenL]
  | d :: ds, vs, n + 1, h => by
    simp only [DenL] at h
    obtain ⟨v, r, ev, x, q⟩ := h
    subst ev
    exact DenL.drop n q
theorem DenL.take {L : Lk} {g : G} : ∀ {ds : List D} {vs : List V} (n : Nat), DenL L g ds vs → DenL L g (ds.take n) (vs.take n)
  | ds, vs, 0, h => by simp [DenL]
  | [], vs, n + 1, h => by simp only [DenL] at h; subst h; simp [DenL]
  | d :: ds, vs, n + 1, h => by
    simp only [DenL] at h
    obtain ⟨v, r, ev, x, q⟩ := h
    subst ev
    simp only [List.take_succ_cons, DenL]
    exact ⟨v, _, rfl, x, DenL.take n q⟩
theorem DenL.nilI {L : Lk} {g : G} : DenL L g [] [] := by simp only [DenL]
theorem DenL.consI {L : Lk} {g : G} {d : D} {ds : List D} {v : V} {vs : List V} (h : Den L g d v) (k : DenL L g ds vs) : DenL L g (d :: ds) (v :: vs) := by
  simp only [DenL]; exact ⟨v, vs, rfl, h, k⟩
end DL
end
section
set_option Elab.async false
set_option linter.all false
set_option maxRecDepth 100000
/-! DL1: frames, readings of mirrors, expressions. -/
namespace DL
open PySem L2

inductive Sl where
  | no
  | val (d : D)
  | own (d : D)
abbrev Env := List Sl

def OwnAt (L : Lk) (g : G) (p : Addr) : D → Prop
  | .lst ds => ∃ vs, g.H p = some (.lst vs) ∧ DenL L g ds vs
  | .dic ds => ∃ kvs, g.H p = some (.dK kvs) ∧ DenK L g ds kvs
  | _ => False
def SlOk (L : Lk) (g0 g : G) (a : Option Addr) (o : Option (Option V)) : Sl → Prop
  | .no => a = none
  | .val d => a = none ∧ ∃ v, o = some (some v) ∧ Den L g d v
  | .own d => ∃ p, a = some p ∧ o = some (some (.ref p)) ∧ g0.H p = none ∧ ¬ g.F p ∧ p ∉ g.ι ∧ OwnAt L g p d
structure Frm (L : Lk) (g0 g : G) (ρ : Env) (os : Nat → Option Addr) (σ : L2.St) : Prop where
  ln : σ.length = ρ.length
  sl : ∀ (i : Nat) (s : Sl), ρ[i]? = some s → SlOk L g0 g (os i) σ[i]? s
  hi : ∀ i, ρ.length ≤ i → os i = none
  inj : ∀ i j p, os i = some p → os j = some p → i = j

theorem OwnAt.there {L : Lk} {g : G} {p : Addr} {d : D} (h : OwnAt L g p d) : ∃ o, g.H p = some o := by
  cases d <;> simp only [OwnAt] at h
  · obtain ⟨vs, e, _⟩ := h; exact ⟨_, e⟩
  · obtain ⟨vs, e, _⟩ := h; exact ⟨_, e⟩
theorem OwnAt.ext {L : Lk} {g g' : G} {p : Addr} {d : D} (x : Ext g g') (e : ∀ o, g.H p = some o → g'.H p = some o) (h : OwnAt L g p d) : OwnAt L g' p d := by
  cases d <;> simp only [OwnAt] at h ⊢
  · obtain ⟨vs, q, r⟩ := h; exact ⟨vs, e _ q, DenL.ext x _ _ r⟩
  · obtain ⟨vs, q, r⟩ := h; exact ⟨vs, e _ q, DenK.ext x _ _ r⟩
theorem OwnAt.mono {L : Lk} {g g' : G} {p : Addr} {d : D} (w : Apart g) (gr : Grow g g') (n : p ∉ g.ι) (h : OwnAt L g p d) : OwnAt L g' p d := OwnAt.ext (gr.ext w) (fun o q => gr.kp _ _ q n) h
theorem own_free {g g' : G} {p : Addr} (gr : Grow g g') (e : ∃ o, g.H p = some o) (nf : ¬ g.F p) (ni : p ∉ g.ι) : ¬ g'.F p ∧ p ∉ g'.ι := by
  obtain ⟨o, e⟩ := e
  constructor
  · intro q
    rcases gr.fn _ q with q | q
    · exact nf q
    · rw [e] at q; cases q
  · obtain ⟨κ, ek, hk⟩ := gr.st
    rw [ek]
    intro q
    rcases List.mem_append.mp q with q | q
    · exact ni q
    · have := hk _ q
      rw [e] at this; cases this
theorem SlOk.mono {L : Lk} {g0 g g' : G} {a : Option Addr} {o : Option (Option V)} {s : Sl} (w : Apart g) (gr : Grow g g') (h : SlOk L g0 g a o s) : SlOk L g0 g' a o s := by
  cases s with
  | no => exact h
  | val d =>
    obtain ⟨e, v, ev, q⟩ := h
    exact ⟨e, v, ev, Den.mono w gr _ _ q⟩
  | own d =>
    obtain ⟨p, e, ev, f0, nf, ni, q⟩ := h
    obtain ⟨a1, a2⟩ := own_free gr q.there nf ni
    exact ⟨p, e, ev, f0, a1, a2, q.mono w gr ni⟩
theorem Frm.mono {L : Lk} {g0 g g' : G} {ρ : Env} {os : Nat → Option Addr} {σ : L2.St} (w : Apart g) (gr : Grow g g') (h : Frm L g0 g ρ os σ) : Frm L g0 g' ρ os σ :=
  ⟨h.ln, fun i s e => (h.sl i s e).mono w gr, h.hi, h.inj⟩

/-- what an exception stands for -/
def XD (L : Lk) (g : G) (c : Value) (dx : Option Addr) (x : Exn) : Prop :=
  c = .ref (L.cl x.c) ∧ match x.at_ with
    | none => dx = none
    | some d => ∃ a v, dx = some a ∧ g.F a ∧ g.H a = some (.xd [("at", v)]) ∧ Den L g d v

/-- what is wanted of a mirror's outcome -/
def Post {α : Type} (L : Lk) (W : WX) (σ : L2.St) (g : G) (K : α → Sto → G → Prop) : Res α → Prop
  | .ok a s' => ∀ g', Grow g g' → Wld L g' s' → K a s' g'
  | .raise x s' => ∀ g' c dx, Grow g g' → Wld L g' s' → XD L g' c dx x → W c dx σ g'.H
  | .stuck => False
theorem Post.weak {α : Type} {L : Lk} {W : WX} {σ : L2.St} {g g1 : G} {K : α → Sto → G → Prop} {r : Res α} (gr : Grow g g1) (h : Post L W σ g K r) : Post L W σ g1 K r := by
  cases r with
  | ok a s => exact fun g' q => h g' (gr.trans q)
  | raise x s => exact fun g' c dx q => h g' c dx (gr.trans q)
  | stuck => exact h
theorem Post.imp {α : Type} {L : Lk} {W : WX} {σ : L2.St} {g : G} {K K' : α → Sto → G → Prop} {r : Res α} (h : Post L W σ g K r) (k : ∀ a s' g', Grow g g' → Wld L g' s' → K a s' g' → K' a s' g') : Post L W σ g K' r := by
  cases r with
  | ok a s => exact fun g' q w => k a s g' q w (h g' q w)
  | raise x s => exact h
  | stuck => exact h
theorem Post.bind {α β : Type} {L : Lk} {W : WX} {σ : L2.St} {g : G} {K : β → Sto → G → Prop} {m : M α} {k : α → M β} {s : Sto} (h : Post L W σ g K ((m >>= k) s)) : Post L W σ g (fun a s1 g1 => Post L W σ g1 K (k a s1)) (m s) := by
  have e : (m >>= k) s = M.bind m k s := rfl
  rw [e] at h
  unfold M.bind at h
  cases q : m s with
  | ok a s1 => rw [q] at h; exact fun g' gr w => h.weak gr
  | raise x s1 => rw [q] at h; exact h
  | stuck => rw [q] at h; exact h
/-- .. told from the elder world -/
theorem Post.bind0 {α β : Type} {L : Lk} {W : WX} {σ : L2.St} {g : G} {K : β → Sto → G → Prop} {m : M α} {k : α → M β} {s : Sto} (h : Post L W σ g K ((m >>= k) s)) : Post L W σ g (fun a s1 _ => Post L W σ g K (k a s1)) (m s) := by
  have e : (m >>= k) s = M.bind m k s := rfl
  rw [e] at h
  unfold M.bind at h
  cases q : m s with
  | ok a s1 => rw [q] at h; exact fun g' gr w => h
  | raise x s1 => rw [q] at h; exact h
  | stuck => rw [q] at h; exact h
theorem Post.pure {α : Type} {L : Lk} {W : WX} {σ : L2.St} {g : G} {K : α → Sto → G → Prop} {a : α} {s : Sto} (w : Wld L g s) (h : Post L W σ g K ((Pure.pure a : M α) s)) : K a s g := h g (Grow.refl g) w

def valK (L : Lk) (Q : VK) : D → Sto → G → Prop := fun d _ g => ∀ v, Den L g d v → Q v g.H
def lstK (L : Lk) (Q : List V → Hp → Prop) : List D → Sto → G → Prop := fun d _ g => ∀ v, DenL L g d v → Q v g.H
def blK (Q : Bool → Hp → Prop) : Bool → Sto → G → Prop := fun b _ g => Q b g.H

abbrev ME := Env → M D
abbrev MA := Env → M (List D)
abbrev MT := Env → M Bool
def rdE (L : Lk) (W : WX) (m : ME) : TE := fun σ H Q => ∃ g0 g s ρ os, g.H = H ∧ Wld L g s ∧ Frm L g0 g ρ os σ ∧ Post L W σ g (valK L Q) (m ρ s)
def rdA (L : Lk) (W : WX) (m : MA) : TA := fun σ H Q => ∃ g0 g s ρ os, g.H = H ∧ Wld L g s ∧ Frm L g0 g ρ os σ ∧ Post L W σ g (lstK L Q) (m ρ s)
def rdT (L : Lk) (W : WX) (m : MT) : TT := fun σ H Q => ∃ g0 g s ρ os, g.H = H ∧ Wld L g s ∧ Frm L g0 g ρ os σ ∧ Post L W σ g (blK Q) (m ρ s)

theorem pe_imp {X : Cx} {e : Expr} {t t' : TE} (h : PE X e t) (k : ∀ σ H Q, t' σ H Q → t σ H Q) : PE X e t' := ⟨fun pins s σ H Q I q => h.run pins s σ H Q I (k σ H Q q)⟩
theorem pt_imp {X : Cx} {e : Expr} {t t' : TT} (h : PT X e t) (k : ∀ σ H Q, t' σ H Q → t σ H Q) : PT X e t' := ⟨fun pins s σ H Q I q => h.run pins s σ H Q I (k σ H Q q)⟩
theorem pw_imp {X : Cx} {e : Expr} {t t' : TT} (h : PW X e t) (k : ∀ σ H Q, t' σ H Q → t σ H Q) : PW X e t' := ⟨fun wh pins s σ H Q I q => h.run wh pins s σ H Q I (k σ H Q q)⟩
theorem pa_imp {X : Cx} {e : List Expr} {t t' : TA} (h : PA X e t) (k : ∀ σ H Q, t' σ H Q → t σ H Q) : PA X e t' := ⟨fun pos pins s σ H Q I q => h.run pos pins s σ H Q I (k σ H Q q)⟩
theorem ps_imp {X : Cx} {e : Stmt} {t t' : TS} (h : PS X e t) (k : ∀ D σ H, t' D σ H → t D σ H) : PS X e t' := ⟨fun pins s σ H D I q => h.run pins s σ H D I (k D σ H q)⟩
theorem pss_imp {X : Cx} {e : List Stmt} {t t' : TS} (h : PSs X e t) (k : ∀ D σ H, t' D σ H → t D σ H) : PSs X e t' := ⟨fun pins s σ H D I q => h.run pins s σ H D I (k D σ H q)⟩

abbrev DE (X : Cx) (L : Lk) (W : WX) (e : Expr) (m : ME) : Prop := PE X e (rdE L W m)
abbrev DA (X : Cx) (L : Lk) (W : WX) (e : List Expr) (m : MA) : Prop := PA X e (rdA L W m)
abbrev DT (X : Cx) (L : Lk) (W : WX) (e : Expr) (m : MT) : Prop := PT X e (rdT L W m)
abbrev DW (X : Cx) (L : Lk) (W : WX) (e : Expr) (m : MT) : Prop := PW X e (rdT L W m)

/-! ### the step from a reading to the parts' readings -/
theorem rd1 {L : Lk} {W : WX} {ma : ME} {k : D → M D} {σ : L2.St} {H : Hp} {Q R : VK}
    (h : rdE L W (fun ρ => ma ρ >>= k) σ H Q) (hr : ∀ g s a x, Wld L g s → Den L g a x → Post L W σ g (valK L Q) (k a s) → R x g.H) : rdE L W ma σ H R := by
  obtain ⟨g0, g, s, ρ, os, e, w, fr, po⟩ := h
  refine ⟨g0, g, s, ρ, os, e, w, fr, po.bind.imp fun a s1 g1 gr w1 q v dv => ?_⟩
  exact hr g1 s1 a v w1 dv q
theorem rd2 {L : Lk} {W : WX} {ma mb : ME} {k : D → D → M D} {σ : L2.St} {H : Hp} {Q : VK} {R : V → V → Hp → Prop}
    (h : rdE L W (fun ρ => do let a ← ma ρ; let b ← mb ρ; k a b) σ H Q) (hr : ∀ g s a b x y, Wld L g s → Den L g a x → Den L g b y → Post L W σ g (valK L Q) (k a b s) → R x y g.H) :
    rdE L W ma σ H fun x H1 => rdE L W mb σ H1 fun y H2 => R x y H2 := by
  obtain ⟨g0, g, s, ρ, os, e, w, fr, po⟩ := h
  refine ⟨g0, g, s, ρ, os, e, w, fr, po.bind.imp fun a s1 g1 gr w1 q v dv => ?_⟩
  refine ⟨g0, g1, s1, ρ, os, rfl, w1, fr.mono w.apart gr, q.bind.imp fun b s2 g2 gr2 w2 q2 u du => ?_⟩
  exact hr g2 s2 a b v u w2 (Den.mono w1.apart gr2 _ _ dv) du q2

/-! ### names, constants -/
def mVar (i : Nat) : ME := fun ρ => match ρ[i]? with
  | some (.val d) => pure d
  | _ => stuck
def mC (d : D) : ME := fun _ => pure d
section
variable {X : Cx} {L : Lk} {W : WX} {pos : Pos}
theorem de_var {i : Nat} {e : Expr} (h : PE X e (tVar i)) : DE X L W e (mVar i) := by
  refine pe_imp h fun σ H Q ⟨g0, g, s, ρ, os, e, w, fr, po⟩ => ?_
  subst e
  unfold mVar at po
  cases q : ρ[i]? with
  | none => rw [q] at po; exact po.elim
  | some sl =>
    rw [q] at po
    cases sl with
    | no => exact po.elim
    | own d => exact po.elim
    | val d =>
      obtain ⟨_, v, ev, dv⟩ := fr.sl i _ q
      exact ⟨v, ev, Post.pure w po v dv⟩
/-- a constant -/
theorem de_const {e : Expr} {v : V} {d : D} (h : PE X e (tC v)) (dv : ∀ g, Den L g d v) : DE X L W e (mC d) := by
  refine pe_imp h fun σ H Q ⟨g0, g, s, ρ, os, e, w, fr, po⟩ => ?_
  subst e
  exact Post.pure w po v (dv g)
theorem de_int {i : Int} {j} : DE X L W (.Constant (.int i) j pos) (mC (.int i)) := de_const pe_int fun g => by simp only [Den]
theorem de_bl {i : Bool} {j} : DE X L W (.Constant (.bool i) j pos) (mC (.bl i)) := de_const pe_bl fun g => by simp only [Den]
theorem de_non {j} : DE X L W (.Constant .none j pos) (mC .non) := de_const pe_non fun g => by simp only [Den]
theorem de_str {x : Str} {l : Tx} {j} (e : x = tS l) : DE X L W (.Constant (.str x) j pos) (mC (.str l)) := de_const pe_str fun g => by subst e; simp only [Den]

/-! ### operations -/
def DOp (L : Lk) (W : WX) (r : R2) (f : D → D → M D) : Prop := ∀ g s σ a b x y Q, Wld L g s → Den L g a x → Den L g b y → Post L W σ g (valK L Q) (f a b s) → r x y g.H Q
def mBin (f : D → D → M D) (ma mb : ME) : ME := fun ρ => do let a ← ma ρ; let b ← mb ρ; f a b
theorem de_bin {op : Operator} {a b : Expr} {ma mb : ME} {f : D → D → M D} {r : R2} (ho : OpR X (binaryOp op) r) (hd : DOp L W r f) (ha : DE X L W a ma) (hb : DE X L W b mb) : DE X L W (.BinOp a op b pos) (mBin f ma mb) :=
  pe_imp (pe_op ho ha hb) fun σ H Q h => rd2 h fun g s a b x y w dx dy po => hd g s σ a b x y Q w dx dy po
theorem de_cmp {op : CmpOp} {a b : Expr} {ma mb : ME} {f : D → D → M D} {r : R2} (ho : OpR X (compareOp op) r) (hm : behindInMarks op b = false) (hd : DOp L W r f) (ha : DE X L W a ma) (hb : DE X L W b mb) : DE X L W (.Compare a [op] [b] pos) (mBin f ma mb) :=
  pe_imp (pe_cmpR ho ha hb hm) fun σ H Q h => rd2 h fun g s a b x y w dx dy po => hd g s σ a b x y Q w dx dy po
end
end DL
end
section
set_option Elab.async false
set_option linter.all false
set_option maxRecDepth 100000
set_option maxHeartbeats 4000000
/-! DL2: operations of two values. -/
namespace DL
open PySem L2

theorem opr_imp {X : Cx} {f : Value → Value → Sem Value} {r r' : R2} (h : OpR X f r) (k : ∀ x y H Q, r' x y H Q → r x y H Q) : OpR X f r' :=
  fun pins s σ H x y v u Q I rx ry q => h pins s σ H x y v u Q I rx ry (k x y H Q q)
/-- a mirror's operation, as a reading -/
def rdO (L : Lk) (W : WX) (m : D → D → M D) : R2 := fun x y H Q => ∃ g s σ a b, g.H = H ∧ Wld L g s ∧ Den L g a x ∧ Den L g b y ∧ Post L W σ g (valK L Q) (m a b s)
theorem rdO_dop {L : Lk} {W : WX} {m : D → D → M D} : DOp L W (rdO L W m) m := fun g s σ a b x y Q w da db po => ⟨g, s, σ, a, b, rfl, w, da, db, po⟩

theorem den_non {L : Lk} {g : G} {v : V} (h : Den L g .non v) : v = .non := by simpa only [Den] using h
theorem den_bl {L : Lk} {g : G} {v : V} {b : Bool} (h : Den L g (.bl b) v) : v = .bl b := by simpa only [Den] using h
theorem den_int {L : Lk} {g : G} {v : V} {b : Int} (h : Den L g (.int b) v) : v = .int b := by simpa only [Den] using h
theorem den_str {L : Lk} {g : G} {v : V} {b : Tx} (h : Den L g (.str b) v) : v = .str (tS b) := by simpa only [Den] using h
theorem den_tup {L : Lk} {g : G} {v : V} {l : List D} (h : Den L g (.tup l) v) : ∃ a vs, v = .ref a ∧ FT L g a vs ∧ DenL L g l vs := by simpa only [Den] using h
theorem den_lst {L : Lk} {g : G} {v : V} {l : List D} (h : Den L g (.lst l) v) : ∃ a vs, v = .ref a ∧ g.F a ∧ g.H a = some (.lst vs) ∧ DenL L g l vs := by simpa only [Den] using h
theorem den_dic {L : Lk} {g : G} {v : V} {l : List (DKey × D)} (h : Den L g (.dic l) v) : ∃ a vs, v = .ref a ∧ g.F a ∧ g.H a = some (.dK vs) ∧ DenK L g l vs := by simpa only [Den] using h
theorem den_obj {L : Lk} {g : G} {v : V} {c : Nat} (h : Den L g (.obj c) v) : ∃ a dx, v = .ref a ∧ g.F a ∧ g.H a = some (.ins (L.cl c) dx []) := by simpa only [Den] using h
theorem den_ref {L : Lk} {g : G} {v : V} {n : Nat} (h : Den L g (.ref n) v) : ∃ a, g.ι[n]? = some a ∧ v = .ref a := by simpa only [Den] using h
theorem den_scr {L : Lk} {g : G} {v : V} {l : List Int} (h : Den L g (.scr l) v) : ∃ a, v = .ref a ∧ FL L g a (l.map V.int) := by simpa only [Den] using h
theorem den_clo {L : Lk} {g : G} {v : V} {c : Nat} {l : List D} (h : Den L g (.clo c l) v) : False := by simp only [Den] at h
theorem bl_den {L : Lk} {g : G} {b : Bool} : Den L g (.bl b) (.bl b) := by simp only [Den]
theorem int_den {L : Lk} {g : G} {b : Int} : Den L g (.int b) (.int b) := by simp only [Den]
theorem str_den {L : Lk} {g : G} {b : Tx} : Den L g (.str b) (.str (tS b)) := by simp only [Den]
theorem non_den {L : Lk} {g : G} : Den L g .non .non := by simp only [Den]
theorem tup_den {L : Lk} {g : G} {a : Addr} {vs : List V} {l : List D} (f : g.F a) (h : g.H a = some (.tup vs)) (q : DenL L g l vs) : Den L g (.tup l) (.ref a) := by
  simp only [Den]; exact ⟨a, vs, rfl, .inl ⟨f, .inl h⟩, q⟩
theorem lst_den {L : Lk} {g : G} {a : Addr} {vs : List V} {l : List D} (f : g.F a) (h : g.H a = some (.lst vs)) (q : DenL L g l vs) : Den L g (.lst l) (.ref a) := by
  simp only [Den]; exact ⟨a, vs, rfl, f, h, q⟩
theorem tS_len (l : Tx) : (tS l).length = l.length := by simp [tS, PySem.Str.length]
theorem tS_app (a b : Tx) : tS a ++ tS b = tS (a ++ b) := by
  apply TL.ext_tl
  rw [TL.tl_append]
  simp [tS, TL.tl_mk]
theorem tS_inj {a b : Tx} (h : tS a = tS b) : a = b := by
  have := congrArg (fun s : Str => s.cps.toList) h
  simpa [tS] using this
theorem tS_cps (a : Tx) : (tS a).cps.toList = a := by simp [tS]
theorem tS_dec (a b : Tx) : decide (V.str (tS a) = V.str (tS b)) = decide (a = b) := by
  by_cases e : a = b
  · subst e; simp
  · rw [decide_eq_false e, decide_eq_false]
    intro q; exact e (tS_inj (V.str.inj q))

/-- the end of an operation -/
theorem Post.val {L : Lk} {W : WX} {σ : L2.St} {g : G} {Q : VK} {d : D} {s : Sto} {v : V} (po : Post L W σ g (valK L Q) ((Pure.pure d : M D) s)) (w : Wld L g s) (h : Den L g d v) : Q v g.H := Post.pure w po v h
/-- .. by a new frozen thing -/
theorem Post.new {L : Lk} {W : WX} {σ : L2.St} {g : G} {Q : VK} {d : D} {s : Sto} (po : Post L W σ g (valK L Q) ((Pure.pure d : M D) s)) (w : Wld L g s) {p : Addr} {o : HO} (hp : g.H p = none) (h : Den L (g.lay p o) d (.ref p)) : Q (.ref p) (upd g.H p o) :=
  po (g.lay p o) (lay_grow hp) (lay_wld w hp) (.ref p) h
theorem new_tup {L : Lk} {g : G} {s : Sto} (w : Wld L g s) {p : Addr} {vs : List V} {l : List D} (hp : g.H p = none) (h : DenL L g l vs) : Den L (g.lay p (.tup vs)) (.tup l) (.ref p) :=
  tup_den lay_F lay_at (DenL.mono w.apart (lay_grow hp) _ _ h)
theorem new_lst {L : Lk} {g : G} {s : Sto} (w : Wld L g s) {p : Addr} {vs : List V} {l : List D} (hp : g.H p = none) (h : DenL L g l vs) : Den L (g.lay p (.lst vs)) (.lst l) (.ref p) :=
  lst_den lay_F lay_at (DenL.mono w.apart (lay_grow hp) _ _ h)

/-- a value under a condition -/
def gd {α : Type} (c : Prop) [Decidable c] (d : α) : M α := if c then pure d else stuck
theorem Post.gd {α : Type} {L : Lk} {W : WX} {σ : L2.St} {g : G} {K : α → Sto → G → Prop} {c : Prop} [Decidable c] {d : α} {s : Sto} (po : Post L W σ g K (DL.gd c d s)) : c ∧ Post L W σ g K ((Pure.pure d : M α) s) := by
  unfold DL.gd at po
  by_cases h : c
  · rw [if_pos h] at po; exact ⟨h, po⟩
  · rw [if_neg h] at po; exact False.elim po
/-! ### + - * % // ** -/
def fAdd : D → D → M D
  | .int i, .int j => pure (.int (i + j))
  | .str a, .str b => gd (a.length + b.length ≤ sizeLine) (.str (a ++ b))
  | .lst a, .lst b => gd (a.length + b.length ≤ sizeLine) (.lst (a ++ b))
  | .tup a, .tup b => gd (a.length + b.length ≤ sizeLine) (.tup (a ++ b))
  | _, _ => stuck
def fSub : D → D → M D
  | .int i, .int j => pure (.int (i - j))
  | _, _ => stuck
/-- one factor below 2^64 -/
def mulOk (i j : Int) : Bool := (decide (-(2 ^ 64) < i) && decide (i < 2 ^ 64)) || (decide (-(2 ^ 64) < j) && decide (j < 2 ^ 64))
def fMul : D → D → M D
  | .int i, .int j => gd (mulOk i j) (.int (i * j))
  | _, _ => stuck
def fMod : D → D → M D
  | .int i, .int j => gd (0 < j) (.int (i % j))
  | _, _ => stuck
def fDiv : D → D → M D
  | .int i, .int j => gd (0 < j ∧ j < 1073741824) (.int (i / j))
  | _, _ => stuck
def fPow : D → D → M D
  | .int i, .int j => gd (0 ≤ j ∧ j ≤ 1000000 ∧ i.natAbs < 2 ^ 64) (.int (i ^ j.toNat))
  | _, _ => stuck
section
variable {X : Cx} {L : Lk} {W : WX}
theorem op_fAdd (hK : L.K = X.K) : OpR X (binaryOp .Add) (rdO L W fAdd) := by
  refine opr_imp (OpR.or op_add (OpR.or op_add_str (OpR.or op_cat op_catA))) fun x y H Q ⟨g, s, σ, a, b, e, w, da, db, po⟩ => ?_
  subst e
  cases a <;> cases b <;> try exact False.elim po
  · rw [den_int da, den_int db]
    exact .inl ⟨_, _, rfl, rfl, po.val w int_den⟩
  · rename_i a b
    rw [den_str da, den_str db]
    obtain ⟨hl, po⟩ := Post.gd po
    · skip
      refine .inr (.inl ⟨_, _, rfl, rfl, by rw [tS_len, tS_len]; exact hl, ?_⟩)
      rw [tS_app]
      exact po.val w str_den
  · rename_i a b
    obtain ⟨p, vs, rfl, fp, qa⟩ := den_tup da
    obtain ⟨q, us, rfl, fq, qb⟩ := den_tup db
    have hp := fp.sq
    have hq := fq.sq
    obtain ⟨hl, po⟩ := Post.gd po
    · skip
      refine .inr (.inr (.inr ⟨p, q, vs, us, rfl, rfl, hK ▸ hp, hK ▸ hq, by rw [qa.len, qb.len]; exact hl, ?_, ?_, ?_⟩))
      · intro e
        subst e
        have : a = [] := List.eq_nil_of_length_eq_zero (by rw [← qa.len]; rfl)
        subst this
        refine po.val w ?_
        simpa using db
      · intro _ e
        subst e
        have : b = [] := List.eq_nil_of_length_eq_zero (by rw [← qb.len]; rfl)
        subst this
        refine po.val w ?_
        simpa using da
      · intro _ _ z hz
        exact po.new w hz (new_tup w hz (qa.app qb))
  · rename_i a b
    obtain ⟨p, vs, rfl, fp, hp, qa⟩ := den_lst da
    obtain ⟨q, us, rfl, fq, hq, qb⟩ := den_lst db
    obtain ⟨hl, po⟩ := Post.gd po
    · skip
      refine .inr (.inr (.inl ⟨p, q, vs, us, rfl, rfl, hp, hq, by rw [qa.len, qb.len]; exact hl, fun z hz => ?_⟩))
      exact po.new w hz (new_lst w hz (qa.app qb))
theorem op_fSub : OpR X (binaryOp .Sub) (rdO L W fSub) := by
  refine opr_imp op_sub fun x y H Q ⟨g, s, σ, a, b, e, w, da, db, po⟩ => ?_
  subst e
  cases a <;> cases b <;> try exact False.elim po
  rw [den_int da, den_int db]
  exact ⟨_, _, rfl, rfl, po.val w int_den⟩
theorem op_fMul : OpR X (binaryOp .Mult) (rdO L W fMul) := by
  refine opr_imp op_mul fun x y H Q ⟨g, s, σ, a, b, e, w, da, db, po⟩ => ?_
  subst e
  cases a <;> cases b <;> try exact False.elim po
  rename_i i j
  rw [den_int da, den_int db]
  obtain ⟨hl, po⟩ := Post.gd po
  · skip
    refine ⟨_, _, rfl, rfl, ?_, po.val w int_den⟩
    unfold mulOk at hl
    simp only [Bool.or_eq_true, Bool.and_eq_true, decide_eq_true_eq] at hl
    exact hl
theorem op_fMod : OpR X (binaryOp .Mod) (rdO L W fMod) := by
  refine opr_imp op_mod fun x y H Q ⟨g, s, σ, a, b, e, w, da, db, po⟩ => ?_
  subst e
  cases a <;> cases b <;> try exact False.elim po
  rename_i i j
  rw [den_int da, den_int db]
  obtain ⟨hl, po⟩ := Post.gd po
  · skip
    exact ⟨_, _, rfl, rfl, hl, po.val w int_den⟩
theorem op_fDiv : OpR X (binaryOp .FloorDiv) (rdO L W fDiv) := by
  refine opr_imp op_fdiv fun x y H Q ⟨g, s, σ, a, b, e, w, da, db, po⟩ => ?_
  subst e
  cases a <;> cases b <;> try exact False.elim po
  rename_i i j
  rw [den_int da, den_int db]
  obtain ⟨hl, po⟩ := Post.gd po
  · skip
    exact ⟨_, _, rfl, rfl, hl, po.val w int_den⟩
theorem op_fPow : OpR X (binaryOp .Pow) (rdO L W fPow) := by
  refine opr_imp op_pow fun x y H Q ⟨g, s, σ, a, b, e, w, da, db, po⟩ => ?_
  subst e
  cases a <;> cases b <;> try exact False.elim po
  rename_i i j
  rw [den_int da, den_int db]
  obtain ⟨hl, po⟩ := Post.gd po
  · skip
    exact ⟨_, _, rfl, rfl, hl, po.val w int_den⟩
end
/-! ### == != -/
mutual
def toP : D → PyData
  | .non => .none
  | .bl b => .bool b
  | .int i => .int i
  | .str s => .str (tS s)
  | .tup l => .tuple (toPs l)
  | .lst l => .list (toPs l)
  | _ => .dict []
def toPs : List D → List PyData
  | [] => []
  | d :: ds => toP d :: toPs ds
end
def eqO (a b : D) : Option Bool := match a, b with
  | .str x, .str y => some (decide (x = y))
  | .int x, .int y => some (decide (x = y))
  | .bl x, .bl y => some (decide (x = y))
  | .non, .non => some true
  | .non, .int _ => some false | .int _, .non => some false
  | .non, .bl _ => some false | .bl _, .non => some false
  | .non, .str _ => some false | .str _, .non => some false
  | .int _, .str _ => some false | .str _, .int _ => some false
  | .bl _, .str _ => some false | .str _, .bl _ => some false
  | a, b => if SeqAt.shaped (toP a) && SeqAt.shaped (toP b) then some (PyData.eqv (toP a) (toP b)) else none
def fEq (a b : D) : M D := match eqO a b with
  | some k => pure (.bl k)
  | none => stuck
def fNe (a b : D) : M D := match eqO a b with
  | some k => pure (.bl !k)
  | none => stuck
mutual
theorem Den.dp {L : Lk} {g : G} : ∀ (d : D) (v : V), Den L g d v → (toP d).canLay0 = true → Dp L.K g.H v (toP d)
  | .non, v, h, _ => by rw [den_non h]; exact .non
  | .bl b, v, h, _ => by rw [den_bl h]; exact .bl b
  | .int i, v, h, _ => by rw [den_int h]; exact .int i
  | .str s, v, h, _ => by rw [den_str h]; exact .str _
  | .tup l, v, h, c => by
    obtain ⟨a, vs, rfl, f, q⟩ := den_tup h
    simp only [toP]
    exact .tup f.sq (DenL.dp l vs q (by simpa only [toP, PyData.canLay0] using c))
  | .lst l, v, h, c => by
    obtain ⟨a, vs, rfl, f, hp, q⟩ := den_lst h
    simp only [toP]
    exact .lst (SqL.of hp) (DenL.dp l vs q (by simpa only [toP, PyData.canLay0] using c))
  | .dic l, v, h, c => by simp [toP, PyData.canLay0] at c
  | .obj _, v, h, c => by simp [toP, PyData.canLay0] at c
  | .ref _, v, h, c => by simp [toP, PyData.canLay0] at c
  | .clo _ _, v, h, c => by simp [toP, PyData.canLay0] at c
  | .scr _, v, h, c => by simp [toP, PyData.canLay0] at c
theorem DenL.dp {L : Lk} {g : G} : ∀ (d : List D) (v : List V), DenL L g d v → PyData.canLayAll0 (toPs d) = true → DpAll L.K g.H v (toPs d)
  | [], v, h, _ => by simp only [DenL] at h; subst h; exact .nil
  | d :: ds, v, h, c => by
    simp only [DenL] at h
    obtain ⟨x, r, rfl, p, q⟩ := h
    simp only [toPs, PyData.canLayAll0, Bool.and_eq_true] at c ⊢
    exact .cons (Den.dp d x p c.1) (DenL.dp ds r q c.2)
end
theorem dec_vint {i j : Int} : decide (V.int i = V.int j) = decide (i = j) := by simp
theorem dec_vbl {i j : Bool} : decide (V.bl i = V.bl j) = decide (i = j) := by simp
section
variable {X : Cx} {L : Lk} {W : WX}
/-- what the two rules for == ask -/
theorem eqO_ok {g : G} {s : Sto} {a b : D} {x y : V} {k : Bool} (da : Den L g a x) (db : Den L g b y) (e : eqO a b = some k) :
    (scal x y = true ∧ decide (x = y) = k) ∨ (Dp L.K g.H x (toP a) ∧ Dp L.K g.H y (toP b) ∧ SeqAt.shaped (toP a) = true ∧ SeqAt.shaped (toP b) = true ∧ PyData.eqv (toP a) (toP b) = k) := by
  have gen : (if SeqAt.shaped (toP a) && SeqAt.shaped (toP b) then some (PyData.eqv (toP a) (toP b)) else none) = some k →
      (Dp L.K g.H x (toP a) ∧ Dp L.K g.H y (toP b) ∧ SeqAt.shaped (toP a) = true ∧ SeqAt.shaped (toP b) = true ∧ PyData.eqv (toP a) (toP b) = k) := fun e => by
    split at e
    · rename_i h
      obtain ⟨h1, h2⟩ := Bool.and_eq_true_iff.mp h
      exact ⟨Den.dp a x da (SeqAt.canLay_of_shaped h1), Den.dp b y db (SeqAt.canLay_of_shaped h2), h1, h2, Option.some.inj e⟩
    · cases e
  cases a <;> cases b <;> first
    | exact .inr (gen e)
    | (left
       simp only [eqO, Option.some.injEq] at e
       first
         | (rw [den_str da, den_str db]; exact ⟨rfl, by rw [tS_dec]; exact e⟩)
         | (rw [den_int da, den_int db]; exact ⟨rfl, by rw [dec_vint]; exact e⟩)
         | (rw [den_bl da, den_bl db]; exact ⟨rfl, by rw [dec_vbl]; exact e⟩)
         | (rw [den_non da, den_non db]; exact ⟨rfl, e ▸ by decide⟩)
         | (rw [den_non da, den_int db]; exact ⟨rfl, e ▸ decide_eq_false (fun q => nomatch q)⟩)
         | (rw [den_int da, den_non db]; exact ⟨rfl, e ▸ decide_eq_false (fun q => nomatch q)⟩)
         | (rw [den_non da, den_bl db]; exact ⟨rfl, e ▸ decide_eq_false (fun q => nomatch q)⟩)
         | (rw [den_bl da, den_non db]; exact ⟨rfl, e ▸ decide_eq_false (fun q => nomatch q)⟩)
         | (rw [den_non da, den_str db]; exact ⟨rfl, e ▸ decide_eq_false (fun q => nomatch q)⟩)
         | (rw [den_str da, den_non db]; exact ⟨rfl, e ▸ decide_eq_false (fun q => nomatch q)⟩)
         | (rw [den_int da, den_str db]; exact ⟨rfl, e ▸ decide_eq_false (fun q => nomatch q)⟩)
         | (rw [den_str da, den_int db]; exact ⟨rfl, e ▸ decide_eq_false (fun q => nomatch q)⟩)
         | (rw [den_bl da, den_str db]; exact ⟨rfl, e ▸ decide_eq_false (fun q => nomatch q)⟩)
         | (rw [den_str da, den_bl db]; exact ⟨rfl, e ▸ decide_eq_false (fun q => nomatch q)⟩))
theorem op_fEq (hK : L.K = X.K) (hu : X.A.units + 64 < cLine) : OpR X (compareOp .Eq) (rdO L W fEq) := by
  refine opr_imp (OpR.or op_eq (op_eqD hu)) fun x y H Q ⟨g, s, σ, a, b, e, w, da, db, po⟩ => ?_
  subst e
  unfold fEq at po
  cases e : eqO a b with
  | none => rw [e] at po; exact False.elim po
  | some k =>
    rw [e] at po
    have q := po.val w bl_den
    rcases eqO_ok (s := s) da db e with ⟨h1, h2⟩ | ⟨h1, h2, h3, h4, h5⟩
    · exact .inl ⟨h1, by rw [h2]; exact q⟩
    · exact .inr ⟨_, _, hK ▸ h1, hK ▸ h2, h3, h4, by rw [h5]; exact q⟩
theorem op_fNe (hK : L.K = X.K) (hu : X.A.units + 64 < cLine) : OpR X (compareOp .NotEq) (rdO L W fNe) := by
  refine opr_imp (OpR.or op_ne (op_neD hu)) fun x y H Q ⟨g, s, σ, a, b, e, w, da, db, po⟩ => ?_
  subst e
  unfold fNe at po
  cases e : eqO a b with
  | none => rw [e] at po; exact False.elim po
  | some k =>
    rw [e] at po
    have q := po.val w bl_den
    rcases eqO_ok (s := s) da db e with ⟨h1, h2⟩ | ⟨h1, h2, h3, h4, h5⟩
    · exact .inl ⟨h1, by rw [h2]; exact q⟩
    · exact .inr ⟨_, _, hK ▸ h1, hK ▸ h2, h3, h4, by rw [h5]; exact q⟩
end
/-! ### order, is, in -/
def fLt : D → D → M D
  | .int i, .int j => pure (.bl (decide (i < j)))
  | _, _ => stuck
def fLe : D → D → M D
  | .int i, .int j => pure (.bl (decide (i ≤ j)))
  | _, _ => stuck
def fGt : D → D → M D
  | .int i, .int j => pure (.bl (decide (j < i)))
  | _, _ => stuck
def fGe : D → D → M D
  | .int i, .int j => pure (.bl (decide (j ≤ i)))
  | _, _ => stuck
def D.isNon : D → Bool
  | .non => true
  | _ => false
def fIs : D → D → M D
  | a, .non => pure (.bl a.isNon)
  | .bl a, .bl b => pure (.bl (decide (a = b)))
  | _, _ => stuck
def fIsNot : D → D → M D
  | a, .non => pure (.bl !a.isNon)
  | .bl a, .bl b => pure (.bl !(decide (a = b)))
  | _, _ => stuck
/-- a text in a text -/
def subIn (a b : Tx) : Bool := !(Builtin.Str.occurrences (tS b) (tS a) 0 (tS b).length 1).isEmpty
/-- flat data -/
def D.flat : D → Bool
  | .non => true
  | .bl _ => true
  | .int _ => true
  | .str _ => true
  | _ => false
def eqF : D → D → Bool
  | .non, .non => true
  | .bl a, .bl b => a == b
  | .bl a, .int b => (if a then 1 else 0) == b
  | .int a, .bl b => a == (if b then 1 else 0)
  | .int a, .int b => a == b
  | .str a, .str b => a == b
  | _, _ => false
def inL (x : D) (l : List D) : Bool := l.any fun y => eqF y x
def fIn : D → D → M D
  | .str a, .str b => pure (.bl (match a with
    | [c] => decide (c ∈ b)
    | _ => subIn a b))
  | x, .lst l => gd (x.flat && l.all D.flat) (.bl (inL x l))
  | x, .tup l => gd (x.flat && l.all D.flat) (.bl (inL x l))
  | _, _ => stuck
def fNotIn : D → D → M D
  | .str a, .str b => pure (.bl !(match a with
    | [c] => decide (c ∈ b)
    | _ => subIn a b))
  | x, .lst l => gd (x.flat && l.all D.flat) (.bl !(inL x l))
  | x, .tup l => gd (x.flat && l.all D.flat) (.bl !(inL x l))
  | _, _ => stuck
theorem Den.flat {L : Lk} {g : G} {d : D} {v : V} (h : Den L g d v) (f : d.flat = true) : flatV v = true := by
  cases d <;> simp only [D.flat] at f <;> first | cases f | skip
  · rw [den_non h]; rfl
  · rw [den_bl h]; rfl
  · rw [den_int h]; rfl
  · rw [den_str h]; rfl
theorem eqF_ok {L : Lk} {g : G} {d e : D} {v u : V} (h : Den L g d v) (k : Den L g e u) (f : d.flat = true) (f' : e.flat = true) : eqV v u = eqF d e := by
  cases d <;> simp only [D.flat] at f <;> (first | cases f | skip) <;> cases e <;> simp only [D.flat] at f' <;> (first | cases f' | skip)
  all_goals
    first
      | (rename_i a b
         rw [den_str h, den_str k]
         show (tS a == tS b) = (a == b)
         by_cases q : a = b
         · subst q; simp
         · have z : ¬ tS a = tS b := fun z => q (tS_inj z)
           rw [beq_eq_false_iff_ne.mpr q, beq_eq_false_iff_ne.mpr z])
      | (simp only [Den] at h k; subst h; subst k; rfl)
theorem inL_ok {L : Lk} {g : G} {x : D} {u : V} (k : Den L g x u) (f : x.flat = true) : ∀ {l : List D} {vs : List V}, DenL L g l vs → l.all D.flat = true → vs.all flatV = true ∧ inV u vs = inL x l
  | [], vs, h, _ => by simp only [DenL] at h; subst h; exact ⟨rfl, rfl⟩
  | d :: ds, vs, h, q => by
    simp only [DenL] at h
    obtain ⟨v, r, rfl, p, t⟩ := h
    simp only [List.all_cons, Bool.and_eq_true] at q
    obtain ⟨h1, h2⟩ := inL_ok k f t q.2
    refine ⟨by simp only [List.all_cons, Bool.and_eq_true]; exact ⟨p.flat q.1, h1⟩, ?_⟩
    unfold inV inL at h2 ⊢
    simp only [List.any_cons]
    rw [h2, eqF_ok p k q.1 f]
section
variable {X : Cx} {L : Lk} {W : WX}
theorem op_fLt : OpR X (compareOp .Lt) (rdO L W fLt) := by
  refine opr_imp op_lt fun x y H Q ⟨g, s, σ, a, b, e, w, da, db, po⟩ => ?_
  subst e
  cases a <;> cases b <;> try exact False.elim po
  rw [den_int da, den_int db]
  exact ⟨_, _, rfl, rfl, po.val w bl_den⟩
theorem op_fLe : OpR X (compareOp .LtE) (rdO L W fLe) := by
  refine opr_imp op_le fun x y H Q ⟨g, s, σ, a, b, e, w, da, db, po⟩ => ?_
  subst e
  cases a <;> cases b <;> try exact False.elim po
  rw [den_int da, den_int db]
  exact ⟨_, _, rfl, rfl, po.val w bl_den⟩
theorem op_fGt : OpR X (compareOp .Gt) (rdO L W fGt) := by
  refine opr_imp op_gt fun x y H Q ⟨g, s, σ, a, b, e, w, da, db, po⟩ => ?_
  subst e
  cases a <;> cases b <;> try exact False.elim po
  rw [den_int da, den_int db]
  exact ⟨_, _, rfl, rfl, po.val w bl_den⟩
theorem op_fGe : OpR X (compareOp .GtE) (rdO L W fGe) := by
  refine opr_imp op_ge fun x y H Q ⟨g, s, σ, a, b, e, w, da, db, po⟩ => ?_
  subst e
  cases a <;> cases b <;> try exact False.elim po
  rw [den_int da, den_int db]
  exact ⟨_, _, rfl, rfl, po.val w bl_den⟩
theorem isNon_ok {g : G} {a : D} {x : V} (h : Den L g a x) : decide (x = .non) = a.isNon := by
  cases a
  · rw [den_non h]; rfl
  · rw [den_bl h]; rfl
  · rw [den_int h]; rfl
  · rw [den_str h]; rfl
  · obtain ⟨p, vs, rfl, _⟩ := den_tup h; rfl
  · obtain ⟨p, vs, rfl, _⟩ := den_lst h; rfl
  · obtain ⟨p, vs, rfl, _⟩ := den_dic h; rfl
  · obtain ⟨p, vs, rfl, _⟩ := den_obj h; rfl
  · obtain ⟨p, _, rfl⟩ := den_ref h; rfl
  · exact (den_clo h).elim
  · obtain ⟨p, rfl, _⟩ := den_scr h; rfl
theorem op_fIs : OpR X (compareOp .Is) (rdO L W fIs) := by
  refine opr_imp (OpR.or op_isN op_isBl) fun x y H Q ⟨g, s, σ, a, b, e, w, da, db, po⟩ => ?_
  subst e
  cases b <;> try (cases a <;> exact False.elim po)
  · have ey := den_non db
    have po' : Post L W σ g (valK L Q) ((Pure.pure (.bl a.isNon) : M D) s) := by
      cases a <;> exact po
    exact .inl ⟨ey, by rw [isNon_ok da]; exact po'.val w bl_den⟩
  · cases a <;> try exact False.elim po
    rw [den_bl da, den_bl db]
    exact .inr ⟨_, _, rfl, rfl, po.val w bl_den⟩
theorem op_fIsNot : OpR X (compareOp .IsNot) (rdO L W fIsNot) := by
  refine opr_imp (OpR.or op_notN op_notBl) fun x y H Q ⟨g, s, σ, a, b, e, w, da, db, po⟩ => ?_
  subst e
  cases b <;> try (cases a <;> exact False.elim po)
  · have ey := den_non db
    have po' : Post L W σ g (valK L Q) ((Pure.pure (.bl !a.isNon) : M D) s) := by
      cases a <;> exact po
    exact .inl ⟨ey, by rw [isNon_ok da]; exact po'.val w bl_den⟩
  · cases a <;> try exact False.elim po
    rw [den_bl da, den_bl db]
    exact .inr ⟨_, _, rfl, rfl, po.val w bl_den⟩
theorem op_fIn (hK : L.K = X.K) : OpR X (compareOp .In) (rdO L W fIn) := by
  refine opr_imp (OpR.or op_in_sign (OpR.or op_in_str op_in_seq)) fun x y H Q ⟨g, s, σ, a, b, e, w, da, db, po⟩ => ?_
  subst e
  cases b <;> try (cases a <;> exact False.elim po)
  · rename_i b
    cases a <;> try exact False.elim po
    rename_i a
    rw [den_str da, den_str db]
    have q := po.val w bl_den
    rcases a with _ | ⟨c, _ | ⟨c', r⟩⟩
    · exact .inr (.inl ⟨_, _, rfl, rfl, q⟩)
    · exact .inl ⟨c, tS b, rfl, rfl, by rw [tS_cps]; exact q⟩
    · exact .inr (.inl ⟨_, _, rfl, rfl, q⟩)
  all_goals
    rename_i l
    have po' : Post L W σ g (valK L Q) ((gd (a.flat && l.all D.flat) (.bl (inL a l)) : M D) s) := by
      cases a <;> exact po
    obtain ⟨hf, po'⟩ := Post.gd po'
    · skip
      obtain ⟨f1, f2⟩ := Bool.and_eq_true_iff.mp hf
      first
        | (obtain ⟨p, vs, rfl, ft, qa⟩ := den_tup db
           obtain ⟨h1, h2⟩ := inL_ok da f1 qa f2
           exact .inr (.inr ⟨p, vs, rfl, .inr (hK ▸ ft.sq), da.flat f1, h1, by rw [h2]; exact po'.val w bl_den⟩))
        | (obtain ⟨p, vs, rfl, ft, hp, qa⟩ := den_lst db
           obtain ⟨h1, h2⟩ := inL_ok da f1 qa f2
           exact .inr (.inr ⟨p, vs, rfl, .inl (SqL.of hp), da.flat f1, h1, by rw [h2]; exact po'.val w bl_den⟩))
theorem op_fNotIn (hK : L.K = X.K) : OpR X (compareOp .NotIn) (rdO L W fNotIn) := by
  refine opr_imp (OpR.or op_notIn_sign (OpR.or op_notIn_str op_notIn_seq)) fun x y H Q ⟨g, s, σ, a, b, e, w, da, db, po⟩ => ?_
  subst e
  cases b <;> try (cases a <;> exact False.elim po)
  · rename_i b
    cases a <;> try exact False.elim po
    rename_i a
    rw [den_str da, den_str db]
    have q := po.val w bl_den
    rcases a with _ | ⟨c, _ | ⟨c', r⟩⟩
    · exact .inr (.inl ⟨_, _, rfl, rfl, q⟩)
    · exact .inl ⟨c, tS b, rfl, rfl, by rw [tS_cps]; exact q⟩
    · exact .inr (.inl ⟨_, _, rfl, rfl, q⟩)
  all_goals
    rename_i l
    have po' : Post L W σ g (valK L Q) ((gd (a.flat && l.all D.flat) (.bl !(inL a l)) : M D) s) := by
      cases a <;> exact po
    obtain ⟨hf, po'⟩ := Post.gd po'
    · skip
      obtain ⟨f1, f2⟩ := Bool.and_eq_true_iff.mp hf
      first
        | (obtain ⟨p, vs, rfl, ft, qa⟩ := den_tup db
           obtain ⟨h1, h2⟩ := inL_ok da f1 qa f2
           exact .inr (.inr ⟨p, vs, rfl, .inr (hK ▸ ft.sq), da.flat f1, h1, by rw [h2]; exact po'.val w bl_den⟩))
        | (obtain ⟨p, vs, rfl, ft, hp, qa⟩ := den_lst db
           obtain ⟨h1, h2⟩ := inL_ok da f1 qa f2
           exact .inr (.inr ⟨p, vs, rfl, .inl (SqL.of hp), da.flat f1, h1, by rw [h2]; exact po'.val w bl_den⟩))
end
end DL
end
section
set_option Elab.async false
set_option linter.all false
set_option maxRecDepth 100000
set_option maxHeartbeats 4000000
/-! DL3: tests, displays, subscripts, built-ins. -/
namespace DL
open PySem L2
section
variable {X : Cx} {L : Lk} {W : WX} {pos : Pos}

theorem Post.bl {L : Lk} {W : WX} {σ : L2.St} {g : G} {Q : Bool → Hp → Prop} {b : Bool} {s : Sto} (po : Post L W σ g (blK Q) ((Pure.pure b : M Bool) s)) (w : Wld L g s) : Q b g.H := po g (Grow.refl g) w
/-- a value, where there is one -/
def lf {α : Type} (o : Option α) (k : α → D) : M D := match o with
  | some a => pure (k a)
  | none => stuck
theorem Post.lf {α : Type} {L : Lk} {W : WX} {σ : L2.St} {g : G} {K : D → Sto → G → Prop} {o : Option α} {k : α → D} {s : Sto} (po : Post L W σ g K (DL.lf o k s)) : ∃ a, o = some a ∧ Post L W σ g K ((Pure.pure (k a) : M D) s) := by
  cases o with
  | none => exact False.elim po
  | some a => exact ⟨a, rfl, po⟩
theorem de_op {op : Operator} {a b : Expr} {ma mb : ME} {f : D → D → M D} (ho : OpR X (binaryOp op) (rdO L W f)) (ha : DE X L W a ma) (hb : DE X L W b mb) : DE X L W (.BinOp a op b pos) (mBin f ma mb) :=
  de_bin ho rdO_dop ha hb
theorem de_cp {op : CmpOp} {a b : Expr} {ma mb : ME} {f : D → D → M D} (ho : OpR X (compareOp op) (rdO L W f)) (hm : behindInMarks op b = false) (ha : DE X L W a ma) (hb : DE X L W b mb) : DE X L W (.Compare a [op] [b] pos) (mBin f ma mb) :=
  de_cmp ho hm rdO_dop ha hb
/-- a op b op' c -/
def mChain (f f' : D → D → M D) (ma mb mc : ME) : ME := fun ρ => do
  let a ← ma ρ
  let b ← mb ρ
  let r ← f a b
  match r with
  | .bl true => do
    let c ← mc ρ
    f' b c
  | .bl false => pure (.bl false)
  | _ => stuck
theorem de_chain {op op' : CmpOp} {a b c : Expr} {ma mb mc : ME} {f f' : D → D → M D} (ho : OpR X (compareOp op) (rdO L W f)) (ho' : OpR X (compareOp op') (rdO L W f')) (ha : DE X L W a ma) (hb : DE X L W b mb) (hc : DE X L W c mc)
    (hm : lastMarks [op, op'] [b, c] = false := by with_unfolding_all rfl) : DE X L W (.Compare a [op, op'] [b, c] pos) (mChain f f' ma mb mc) := by
  refine pe_imp (pe_chain ho ho' ha hb hc hm) fun σ H Q ⟨g0, g, s, ρ, os, e, w, fr, po⟩ => ?_
  subst e
  refine ⟨g0, g, s, ρ, os, rfl, w, fr, po.bind.imp fun a s1 g1 gr w1 q v dv => ?_⟩
  have fr1 := fr.mono w.apart gr
  refine ⟨g0, g1, s1, ρ, os, rfl, w1, fr1, q.bind.imp fun b s2 g2 gr2 w2 q2 u du => ?_⟩
  have fr2 := fr1.mono w1.apart gr2
  refine ⟨g2, s2, σ, a, b, rfl, w2, Den.mono w1.apart gr2 _ _ dv, du, q2.bind.imp fun r s3 g3 gr3 w3 q3 z dz => ?_⟩
  have fr3 := fr2.mono w2.apart gr3
  have du3 := Den.mono w2.apart gr3 _ _ du
  cases r <;> try exact False.elim q3
  rename_i k
  refine ⟨k, den_bl dz, ?_⟩
  cases k with
  | false => exact q3.val w3 bl_den
  | true =>
    show rdE L W mc σ g3.H _
    refine ⟨g0, g3, s3, ρ, os, rfl, w3, fr3, Post.imp (Post.bind q3) fun c s4 g4 gr4 w4 q4 x dx => ?_⟩
    exact ⟨g4, s4, σ, b, c, rfl, w4, Den.mono w3.apart gr4 _ _ du3, dx, q4⟩

/-! ### truth, tests -/
def D.truth : D → Option Bool
  | .non => some false
  | .bl b => some b
  | .int i => some (i != 0)
  | .str s => if s.length ≤ sizeLine then some ((s.length : Int) != 0) else none
  | .tup l => some (!l.isEmpty)
  | .lst l => some (!l.isEmpty)
  | .dic l => some (!l.isEmpty)
  | .scr l => some (!l.isEmpty)
  | _ => none
theorem DenL.emp {g : G} {ds : List D} {vs : List V} (h : DenL L g ds vs) : (!ds.isEmpty) = !vs.isEmpty := by
  cases ds <;> simp only [DenL] at h
  · subst h; rfl
  · obtain ⟨v, r, rfl, _⟩ := h; rfl
theorem DenK.emp {g : G} {ds : List (DKey × D)} {vs : List (Key × V)} (h : DenK L g ds vs) : (!ds.isEmpty) = !vs.isEmpty := by
  rcases ds with _ | ⟨⟨k, d⟩, ds⟩ <;> simp only [DenK] at h
  · subst h; rfl
  · obtain ⟨v, r, rfl, _⟩ := h; rfl
theorem Den.tru {g : G} {d : D} {v : V} {k : Bool} (h : Den L g d v) (e : d.truth = some k) : TruV L.K v g.H k := by
  cases d <;> simp only [D.truth, Option.some.injEq] at e
  · rw [den_non h]; exact e.symm
  · rw [den_bl h]; exact e.symm
  · rw [den_int h]; exact e.symm
  · rw [den_str h]
    split at e
    · rename_i hl
      refine ⟨by rw [tS_len]; exact hl, ?_⟩
      rw [tS_len]
      exact (Option.some.inj e).symm
    · cases e
  · obtain ⟨a, vs, rfl, f, q⟩ := den_tup h
    exact .inr (.inl ⟨vs, f.sq, by rw [← e]; exact q.emp⟩)
  · obtain ⟨a, vs, rfl, f, hp, q⟩ := den_lst h
    exact .inl ⟨vs, SqL.of hp, by rw [← e]; exact q.emp⟩
  · obtain ⟨a, vs, rfl, f, hp, q⟩ := den_dic h
    exact .inr (.inr ⟨vs, hp, by rw [← e]; exact q.emp⟩)
  · cases e
  · cases e
  · cases e
  · obtain ⟨a, rfl, f⟩ := den_scr h
    refine .inl ⟨_, f.sq, ?_⟩
    rw [← e]
    rename_i l
    cases l <;> rfl
def mTru (m : ME) : MT := fun ρ => do
  let d ← m ρ
  match d.truth with
  | some k => pure k
  | none => stuck
theorem dt_tru (hK : L.K = X.K) {e : Expr} {m : ME} (h : DE X L W e m) (he : ∀ whole, isTrue e X.env whole = (do let v ← whole; standAt e.pos; holding [v] (truthy v)) := by intro _; rfl) : DT X L W e (mTru m) := by
  refine pt_imp (pt_truth h he) fun σ H Q ⟨g0, g, s, ρ, os, e, w, fr, po⟩ => ?_
  subst e
  refine ⟨g0, g, s, ρ, os, rfl, w, fr, po.bind.imp fun a s1 g1 gr w1 q v dv => ?_⟩
  cases e : a.truth with
  | none => rw [e] at q; exact False.elim q
  | some k =>
    rw [e] at q
    exact ⟨k, hK ▸ dv.tru e, Post.bl q w1⟩
/-- a comparison as a test: its value is a truth -/
def mTest (m : ME) : MT := fun ρ => do
  let d ← m ρ
  match d with
  | .bl k => pure k
  | _ => stuck
theorem rdT_test {m : ME} {σ : L2.St} {H : Hp} {Q : Bool → Hp → Prop} (h : rdT L W (mTest m) σ H Q) : rdE L W m σ H fun x H' => ∃ k, x = .bl k ∧ Q k H' := by
  obtain ⟨g0, g, s, ρ, os, e, w, fr, po⟩ := h
  subst e
  refine ⟨g0, g, s, ρ, os, rfl, w, fr, po.bind.imp fun a s1 g1 gr w1 q v dv => ?_⟩
  cases a <;> try exact False.elim q
  exact ⟨_, den_bl dv, Post.bl q w1⟩
theorem dt_cp {op : CmpOp} {a b : Expr} {ma mb : ME} {f : D → D → M D} (ho : OpR X (compareOp op) (rdO L W f)) (hm : behindInMarks op b = false) (ha : DE X L W a ma) (hb : DE X L W b mb) : DT X L W (.Compare a [op] [b] pos) (mTest (mBin f ma mb)) := by
  refine pt_imp (pt_cmpR ho ha hb hm) fun σ H Q h => ?_
  have h := rdT_test h
  exact rd2 h fun g s a b x y w dx dy po => ⟨g, s, σ, a, b, rfl, w, dx, dy, po⟩
theorem dt_chain {op op' : CmpOp} {a b c : Expr} {ma mb mc : ME} {f f' : D → D → M D} (ho : OpR X (compareOp op) (rdO L W f)) (ho' : OpR X (compareOp op') (rdO L W f')) (ha : DE X L W a ma) (hb : DE X L W b mb) (hc : DE X L W c mc)
    (hm : lastMarks [op, op'] [b, c] = false := by with_unfolding_all rfl) : DT X L W (.Compare a [op, op'] [b, c] pos) (mTest (mChain f f' ma mb mc)) := by
  refine pt_imp (pt_chain ho ho' ha hb hc hm) fun σ H Q h => ?_
  obtain ⟨g0, g, s, ρ, os, e, w, fr, po⟩ := rdT_test h
  subst e
  refine ⟨g0, g, s, ρ, os, rfl, w, fr, po.bind.imp fun a s1 g1 gr w1 q v dv => ?_⟩
  have fr1 := fr.mono w.apart gr
  refine ⟨g0, g1, s1, ρ, os, rfl, w1, fr1, q.bind.imp fun b s2 g2 gr2 w2 q2 u du => ?_⟩
  have fr2 := fr1.mono w1.apart gr2
  refine ⟨g2, s2, σ, a, b, rfl, w2, Den.mono w1.apart gr2 _ _ dv, du, q2.bind.imp fun r s3 g3 gr3 w3 q3 z dz => ?_⟩
  have fr3 := fr2.mono w2.apart gr3
  have du3 := Den.mono w2.apart gr3 _ _ du
  cases r <;> try exact False.elim q3
  rename_i k
  refine ⟨k, den_bl dz, ?_⟩
  cases k with
  | false => exact q3.val w3 bl_den
  | true =>
    show rdE L W mc σ g3.H _
    refine ⟨g0, g3, s3, ρ, os, rfl, w3, fr3, Post.imp (Post.bind q3) fun c s4 g4 gr4 w4 q4 x dx => ?_⟩
    exact ⟨g4, s4, σ, b, c, rfl, w4, Den.mono w3.apart gr4 _ _ du3, dx, q4⟩
def mAnd (ma mb : MT) : MT := fun ρ => do
  let a ← ma ρ
  if a then mb ρ else pure false
def mOr (ma mb : MT) : MT := fun ρ => do
  let a ← ma ρ
  if a then pure true else mb ρ
def mNot (ma : MT) : MT := fun ρ => do
  let a ← ma ρ
  pure !a
theorem dw_and1 {a : Expr} {ma : MT} (h : DT X L W a ma) : DW X L W (.BoolOp .And [a] pos) ma := pw_and1 h
theorem dw_or1 {a : Expr} {ma : MT} (h : DT X L W a ma) : DW X L W (.BoolOp .Or [a] pos) ma := pw_or1 h
theorem dw_and {a b : Expr} {rest : List Expr} {ma mb : MT} (ha : DT X L W a ma) (hb : DW X L W (.BoolOp .And (b :: rest) pos) mb) : DW X L W (.BoolOp .And (a :: b :: rest) pos) (mAnd ma mb) := by
  refine pw_imp (pw_and ha hb) fun σ H Q ⟨g0, g, s, ρ, os, e, w, fr, po⟩ => ?_
  subst e
  refine ⟨g0, g, s, ρ, os, rfl, w, fr, po.bind.imp fun a s1 g1 gr w1 q => ?_⟩
  cases a with
  | true => exact ⟨g0, g1, s1, ρ, os, rfl, w1, fr.mono w.apart gr, q⟩
  | false => exact Post.bl (b := false) q w1
theorem dw_or {a b : Expr} {rest : List Expr} {ma mb : MT} (ha : DT X L W a ma) (hb : DW X L W (.BoolOp .Or (b :: rest) pos) mb) : DW X L W (.BoolOp .Or (a :: b :: rest) pos) (mOr ma mb) := by
  refine pw_imp (pw_or ha hb) fun σ H Q ⟨g0, g, s, ρ, os, e, w, fr, po⟩ => ?_
  subst e
  refine ⟨g0, g, s, ρ, os, rfl, w, fr, po.bind.imp fun a s1 g1 gr w1 q => ?_⟩
  cases a with
  | false => exact ⟨g0, g1, s1, ρ, os, rfl, w1, fr.mono w.apart gr, q⟩
  | true => exact Post.bl (b := true) q w1
theorem dt_w {e : Expr} {m : MT} (h : DW X L W e m) : DT X L W e m := h.pt
theorem dt_not {a : Expr} {ma : MT} (ha : DT X L W a ma) : DT X L W (.UnaryOp .Not a pos) (mNot ma) := by
  refine pt_imp (pt_not ha) fun σ H Q ⟨g0, g, s, ρ, os, e, w, fr, po⟩ => ?_
  subst e
  exact ⟨g0, g, s, ρ, os, rfl, w, fr, po.bind.imp fun a s1 g1 gr w1 q => Post.bl q w1⟩
/-- .. as values -/
def mAndV (ma mb : ME) : ME := fun ρ => do
  let a ← ma ρ
  match a.truth with
  | some true => mb ρ
  | some false => pure a
  | none => stuck
def mOrV (ma mb : ME) : ME := fun ρ => do
  let a ← ma ρ
  match a.truth with
  | some true => pure a
  | some false => mb ρ
  | none => stuck
def mNotV (ma : ME) : ME := fun ρ => do
  let a ← ma ρ
  match a.truth with
  | some k => pure (.bl !k)
  | none => stuck
theorem de_one {op} {a : Expr} {ma : ME} (h : DE X L W a ma) : DE X L W (.BoolOp op [a] pos) ma := pe_one h
theorem de_and (hK : L.K = X.K) {a b : Expr} {rest : List Expr} {ma mb : ME} (ha : DE X L W a ma) (hb : DE X L W (.BoolOp .And (b :: rest) pos) mb) : DE X L W (.BoolOp .And (a :: b :: rest) pos) (mAndV ma mb) := by
  refine pe_imp (pe_andT ha hb) fun σ H Q ⟨g0, g, s, ρ, os, e, w, fr, po⟩ => ?_
  subst e
  refine ⟨g0, g, s, ρ, os, rfl, w, fr, po.bind.imp fun a s1 g1 gr w1 q v dv => ?_⟩
  cases e : a.truth with
  | none => rw [e] at q; exact False.elim q
  | some k =>
    rw [e] at q
    refine ⟨k, hK ▸ dv.tru e, ?_⟩
    cases k with
    | true => exact ⟨g0, g1, s1, ρ, os, rfl, w1, fr.mono w.apart gr, q⟩
    | false => exact Post.val q w1 dv
theorem de_or (hK : L.K = X.K) {a b : Expr} {rest : List Expr} {ma mb : ME} (ha : DE X L W a ma) (hb : DE X L W (.BoolOp .Or (b :: rest) pos) mb) : DE X L W (.BoolOp .Or (a :: b :: rest) pos) (mOrV ma mb) := by
  refine pe_imp (pe_orT ha hb) fun σ H Q ⟨g0, g, s, ρ, os, e, w, fr, po⟩ => ?_
  subst e
  refine ⟨g0, g, s, ρ, os, rfl, w, fr, po.bind.imp fun a s1 g1 gr w1 q v dv => ?_⟩
  cases e : a.truth with
  | none => rw [e] at q; exact False.elim q
  | some k =>
    rw [e] at q
    refine ⟨k, hK ▸ dv.tru e, ?_⟩
    cases k with
    | false => exact ⟨g0, g1, s1, ρ, os, rfl, w1, fr.mono w.apart gr, q⟩
    | true => exact Post.val q w1 dv
theorem de_not (hK : L.K = X.K) {a : Expr} {ma : ME} (ha : DE X L W a ma) : DE X L W (.UnaryOp .Not a pos) (mNotV ma) := by
  refine pe_imp (pe_notT ha) fun σ H Q ⟨g0, g, s, ρ, os, e, w, fr, po⟩ => ?_
  subst e
  refine ⟨g0, g, s, ρ, os, rfl, w, fr, po.bind.imp fun a s1 g1 gr w1 q v dv => ?_⟩
  cases e : a.truth with
  | none => rw [e] at q; exact False.elim q
  | some k =>
    rw [e] at q
    exact ⟨k, hK ▸ dv.tru e, Post.val q w1 bl_den⟩
def mIfE (mt : MT) (ma mb : ME) : ME := fun ρ => do
  let c ← mt ρ
  if c then ma ρ else mb ρ
theorem de_if {c a b : Expr} {mt : MT} {ma mb : ME} (hc : DT X L W c mt) (ha : DE X L W a ma) (hb : DE X L W b mb) : DE X L W (.IfExp c a b pos) (mIfE mt ma mb) := by
  refine pe_imp (pe_ifExp hc ha hb) fun σ H Q ⟨g0, g, s, ρ, os, e, w, fr, po⟩ => ?_
  subst e
  refine ⟨g0, g, s, ρ, os, rfl, w, fr, po.bind.imp fun a s1 g1 gr w1 q => ?_⟩
  cases a with
  | true => exact ⟨g0, g1, s1, ρ, os, rfl, w1, fr.mono w.apart gr, q⟩
  | false => exact ⟨g0, g1, s1, ρ, os, rfl, w1, fr.mono w.apart gr, q⟩
def fNeg : D → M D
  | .int i => pure (.int (-i))
  | _ => stuck
def mUn (f : D → M D) (ma : ME) : ME := fun ρ => do
  let a ← ma ρ
  f a
theorem de_neg {a : Expr} {ma : ME} (ha : DE X L W a ma) : DE X L W (.UnaryOp .USub a pos) (mUn fNeg ma) := by
  refine pe_imp (pe_un un_neg ha) fun σ H Q h => rd1 h fun g s a x w dx po => ?_
  cases a <;> try exact False.elim po
  exact ⟨_, den_int dx, po.val w int_den⟩

/-! ### arguments, displays -/
def mNil : MA := fun _ => pure []
def mCons (me : ME) (ma : MA) : MA := fun ρ => do
  let d ← me ρ
  let ds ← ma ρ
  pure (d :: ds)
theorem da_nil : DA X L W [] mNil := by
  refine pa_imp pa_nil fun σ H Q ⟨g0, g, s, ρ, os, e, w, fr, po⟩ => ?_
  subst e
  exact Post.pure w po [] DenL.nilI
theorem da_cons {e : Expr} {es : List Expr} {me : ME} {ma : MA} (he : DE X L W e me) (ha : DA X L W es ma) (hs : starEach (e :: es) X.env = (false, eval e X.env) :: starEach es X.env := by rfl) : DA X L W (e :: es) (mCons me ma) := by
  refine pa_imp (pa_cons he ha hs) fun σ H Q ⟨g0, g, s, ρ, os, e, w, fr, po⟩ => ?_
  subst e
  refine ⟨g0, g, s, ρ, os, rfl, w, fr, po.bind.imp fun a s1 g1 gr w1 q v dv => ?_⟩
  refine ⟨g0, g1, s1, ρ, os, rfl, w1, fr.mono w.apart gr, q.bind.imp fun b s2 g2 gr2 w2 q2 u du => ?_⟩
  exact Post.pure w2 q2 _ (DenL.consI (Den.mono w1.apart gr2 _ _ dv) du)
def mTup (ma : MA) : ME := fun ρ => do
  let ds ← ma ρ
  gd (ds.length ≤ sizeLine) (.tup ds)
def mLst (ma : MA) : ME := fun ρ => do
  let ds ← ma ρ
  gd (ds.length ≤ sizeLine) (.lst ds)
theorem de_tup {es : List Expr} {ma : MA} {x1} (h : DA X L W es ma) : DE X L W (.Tuple es x1 pos) (mTup ma) := by
  refine pe_imp (pe_tup h) fun σ H Q ⟨g0, g, s, ρ, os, e, w, fr, po⟩ => ?_
  subst e
  refine ⟨g0, g, s, ρ, os, rfl, w, fr, po.bind.imp fun a s1 g1 gr w1 q vs dv => ?_⟩
  obtain ⟨hl, q⟩ := Post.gd q
  exact ⟨by rw [dv.len]; exact hl, fun p hp => q.new w1 hp (new_tup w1 hp dv)⟩
theorem de_lst {es : List Expr} {ma : MA} (h : DA X L W es ma) : DE X L W (.List es pos) (mLst ma) := by
  refine pe_imp (pe_lst h) fun σ H Q ⟨g0, g, s, ρ, os, e, w, fr, po⟩ => ?_
  subst e
  refine ⟨g0, g, s, ρ, os, rfl, w, fr, po.bind.imp fun a s1 g1 gr w1 q vs dv => ?_⟩
  obtain ⟨hl, q⟩ := Post.gd q
  exact ⟨by rw [dv.len]; exact hl, fun p hp => q.new w1 hp (new_lst w1 hp dv)⟩

/-! ### built-ins by their values -/
theorem callr_imp {f : Value} {r r' : List V → Hp → VK → Prop} (h : CallR X f r) (k : ∀ x H Q, r' x H Q → r x H Q) : CallR X f r' :=
  fun pins s σ H x u Q I rx q => h pins s σ H x u Q I rx (k x H Q q)
def rdN (L : Lk) (W : WX) (m : List D → M D) : List V → Hp → VK → Prop := fun vs H Q => ∃ g s σ ds, g.H = H ∧ Wld L g s ∧ DenL L g ds vs ∧ Post L W σ g (valK L Q) (m ds s)
def mCallF (f : List D → M D) (ma : MA) : ME := fun ρ => do
  let ds ← ma ρ
  f ds
theorem de_callB {id : String} {x : Str} {p : Pos} {e : Expr} {es : List Expr} {ma : MA} {f : List D → M D} (hc : CallR X (.builtin id) (rdN L W f)) (hg : Gl X x) (hm : X.mg x = none) (hv : bootBuiltins x = some (.builtin id)) (ha : DA X L W (e :: es) ma)
    (hn : x ≠ "__name__" := by decide) (hdb : (x == ("__debug__" : Str)) = false := by decide)
    (he : starEach (e :: es) X.env = (false, eval e X.env) :: starEach es X.env := by rfl) (hpl : (backTo pos (starEach es X.env)).any (·.1) = false := by rfl) : DE X L W (.Call (.Name x p) (e :: es) [] pos) (mCallF f ma) := by
  refine pe_imp (pe_callB hc hg hm hv ha hn hdb he hpl) fun σ H Q ⟨g0, g, s, ρ, os, e, w, fr, po⟩ => ?_
  subst e
  exact ⟨g0, g, s, ρ, os, rfl, w, fr, po.bind.imp fun a s1 g1 gr w1 q vs dv => ⟨g1, s1, σ, a, rfl, w1, dv, q⟩⟩
theorem de_callTy {id : String} {x : Str} {p : Pos} {e : Expr} {es : List Expr} {ma : MA} {f : List D → M D} (hc : CallR X (.type id) (rdN L W f)) (hg : Gl X x) (hm : X.mg x = none) (hv : bootBuiltins x = some (.type id)) (ha : DA X L W (e :: es) ma)
    (hn : x ≠ "__name__" := by decide) (hdb : (x == ("__debug__" : Str)) = false := by decide)
    (he : starEach (e :: es) X.env = (false, eval e X.env) :: starEach es X.env := by rfl) (hpl : (backTo pos (starEach es X.env)).any (·.1) = false := by rfl) : DE X L W (.Call (.Name x p) (e :: es) [] pos) (mCallF f ma) := by
  refine pe_imp (pe_callTy hc hg hm hv ha hn hdb he hpl) fun σ H Q ⟨g0, g, s, ρ, os, e, w, fr, po⟩ => ?_
  subst e
  exact ⟨g0, g, s, ρ, os, rfl, w, fr, po.bind.imp fun a s1 g1 gr w1 q vs dv => ⟨g1, s1, σ, a, rfl, w1, dv, q⟩⟩
theorem denL1 {g : G} {d : D} {vs : List V} (h : DenL L g [d] vs) : ∃ v, vs = [v] ∧ Den L g d v := by
  simp only [DenL] at h
  obtain ⟨v, r, rfl, p, rfl⟩ := h
  exact ⟨v, rfl, p⟩
theorem denL2 {g : G} {d e : D} {vs : List V} (h : DenL L g [d, e] vs) : ∃ v u, vs = [v, u] ∧ Den L g d v ∧ Den L g e u := by
  simp only [DenL] at h
  obtain ⟨v, r, rfl, p, u, r', rfl, q, rfl⟩ := h
  exact ⟨v, u, rfl, p, q⟩
/-- len -/
def D.len : D → Option Nat
  | .str s => if s.length ≤ sizeLine then some s.length else none
  | .tup l => some l.length
  | .lst l => some l.length
  | .dic l => some l.length
  | .scr l => some l.length
  | _ => none
def fLen : List D → M D
  | [d] => lf d.len fun n => .int n
  | _ => stuck
theorem DenK.len {g : G} : ∀ {ds : List (DKey × D)} {vs : List (Key × V)}, DenK L g ds vs → vs.length = ds.length
  | [], vs, h => by simp only [DenK] at h; subst h; rfl
  | (k, d) :: ds, vs, h => by
    simp only [DenK] at h
    obtain ⟨v, r, e, _, q⟩ := h
    subst e
    simp [DenK.len q]
theorem call_fLen (hK : L.K = X.K) : CallR X (.builtin "len") (rdN L W fLen) := by
  refine callr_imp (CallR.or call_len call_lenD) fun vs H Q ⟨g, s, σ, ds, e, w, dv, po⟩ => ?_
  subst e
  rcases ds with _ | ⟨d, _ | ⟨d', r⟩⟩ <;> try exact False.elim po
  obtain ⟨v, rfl, h⟩ := denL1 dv
  obtain ⟨n, e, po⟩ := Post.lf (o := d.len) po
  · have q := Post.val po w int_den
    cases d <;> simp only [D.len, Option.some.injEq] at e <;> try (cases e; done)
    · rw [den_str h]
      split at e
      · rename_i hl
        refine .inl ⟨_, n, rfl, ⟨by rw [tS_len]; exact hl, ?_⟩, q⟩
        rw [tS_len]; exact (Option.some.inj e).symm
      · cases e
    · obtain ⟨a, us, rfl, f, qq⟩ := den_tup h
      exact .inl ⟨_, n, rfl, .inr ⟨us, hK ▸ f.sq, by rw [qq.len]; exact e.symm⟩, q⟩
    · obtain ⟨a, us, rfl, f, hp, qq⟩ := den_lst h
      exact .inl ⟨_, n, rfl, .inl ⟨us, SqL.of hp, by rw [qq.len]; exact e.symm⟩, q⟩
    · obtain ⟨a, us, rfl, f, hp, qq⟩ := den_dic h
      refine .inr ⟨a, us, rfl, hp, ?_⟩
      rw [qq.len, e]; exact q
    · obtain ⟨a, rfl, f⟩ := den_scr h
      exact .inl ⟨_, n, rfl, .inl ⟨_, hK ▸ f.sq, by simpa using e.symm⟩, q⟩
/-- int(..) of an int, a truth -/
def fInt : List D → M D
  | [.int i] => pure (.int i)
  | [.bl b] => pure (.int (if b then 1 else 0))
  | [.str l] => if l.length ≤ 640 then lf (PySem.intText? (tS l)) .int else stuck
  | _ => stuck
theorem call_fInt : CallR X (.type "int") (rdN L W fInt) := by
  refine callr_imp (CallR.or call_int1 call_int_str) fun vs H Q ⟨g, s, σ, ds, e, w, dv, po⟩ => ?_
  subst e
  rcases ds with _ | ⟨d, _ | ⟨d', r⟩⟩ <;> try exact False.elim po
  · obtain ⟨v, rfl, h⟩ := denL1 dv
    cases d <;> try exact False.elim po
    · rw [den_bl h]; exact .inl (.inr ⟨_, rfl, Post.val po w int_den⟩)
    · rw [den_int h]; exact .inl (.inl ⟨_, rfl, Post.val po w int_den⟩)
    · rename_i l
      rw [den_str h]
      have po : Post L W σ g (valK L Q) ((if l.length ≤ 640 then lf (PySem.intText? (tS l)) D.int else stuck) s) := po
      by_cases hl : l.length ≤ 640
      · rw [if_pos hl] at po
        obtain ⟨n, e, po⟩ := Post.lf po
        exact .inr ⟨_, n, rfl, e, by rw [tS_len]; exact hl, Post.val po w int_den⟩
      · rw [if_neg hl] at po; exact False.elim po
  · cases d <;> exact False.elim po
/-- the signs of a number -/
def strI (i : Int) : Tx := (Str.ofString (toString i)).cps.toList
theorem tS_strI (i : Int) : tS (strI i) = Str.ofString (toString i) := by
  unfold tS strI
  simp
def fStr : List D → M D
  | [.int i] => gd (i.natAbs.log2 < 1920) (.str (strI i))
  | _ => stuck
theorem call_fStr : CallR X (.type "str") (rdN L W fStr) := by
  refine callr_imp call_str_int fun vs H Q ⟨g, s, σ, ds, e, w, dv, po⟩ => ?_
  subst e
  rcases ds with _ | ⟨d, _ | ⟨d', r⟩⟩ <;> try exact False.elim po
  · obtain ⟨v, rfl, h⟩ := denL1 dv
    cases d <;> try exact False.elim po
    rw [den_int h]
    obtain ⟨hl, po⟩ := Post.gd po
    exact ⟨_, rfl, hl, by have := Post.val po w str_den; rw [tS_strI] at this; exact this⟩
  · cases d <;> exact False.elim po
def fOrd : List D → M D
  | [.str [c]] => pure (.int (c : Int))
  | _ => stuck
theorem call_fOrd : CallR X (.builtin "ord") (rdN L W fOrd) := by
  refine callr_imp call_ord fun vs H Q ⟨g, s, σ, ds, e, w, dv, po⟩ => ?_
  subst e
  rcases ds with _ | ⟨d, _ | ⟨d', r⟩⟩ <;> try exact False.elim po
  · obtain ⟨v, rfl, h⟩ := denL1 dv
    cases d <;> try exact False.elim po
    rename_i l
    rcases l with _ | ⟨c, _ | ⟨c', r⟩⟩ <;> try exact False.elim po
    rw [den_str h]
    exact ⟨_, rfl, rfl, Post.val po w int_den⟩
  · cases d <;> try exact False.elim po
    rename_i l
    rcases l with _ | ⟨c, _ | ⟨c', r⟩⟩ <;> exact False.elim po
/-- all(..), any(..) of a list of truths -/
def bools : List D → Option (List Bool)
  | [] => some []
  | .bl b :: r => (bools r).map (b :: ·)
  | _ :: _ => none
theorem bools_ok {g : G} : ∀ {ds : List D} {vs : List V} {bs : List Bool}, DenL L g ds vs → bools ds = some bs → vs = bs.map V.bl
  | [], vs, bs, h, e => by simp only [DenL] at h; simp only [bools, Option.some.injEq] at e; subst h; subst e; rfl
  | d :: ds, vs, bs, h, e => by
    simp only [DenL] at h
    obtain ⟨v, r, rfl, p, q⟩ := h
    cases d <;> simp only [bools] at e <;> try (cases e; done)
    cases e' : bools ds with
    | none => rw [e'] at e; cases e
    | some bs' =>
      rw [e'] at e
      cases e
      rw [den_bl p, bools_ok q e']
      rfl
def fAll : List D → M D
  | [.lst l] => lf (bools l) fun bs => .bl (bs.all id)
  | _ => stuck
def fAny : List D → M D
  | [.lst l] => lf (bools l) fun bs => .bl (bs.any id)
  | _ => stuck
theorem call_fAll (hc : X.calm = true) : CallR X (.builtin "all") (rdN L W fAll) := by
  refine callr_imp (cr_all hc) fun vs H Q ⟨g, s, σ, ds, e, w, dv, po⟩ => ?_
  subst e
  rcases ds with _ | ⟨d, _ | ⟨d', r⟩⟩ <;> try exact False.elim po
  · obtain ⟨v, rfl, h⟩ := denL1 dv
    cases d <;> try exact False.elim po
    rename_i l
    obtain ⟨a, us, rfl, f, hp, qq⟩ := den_lst h
    obtain ⟨bs, e, po⟩ := Post.lf (o := bools l) po
    · rw [bools_ok qq e] at hp
      exact ⟨a, bs, rfl, SqL.of hp, Post.val po w bl_den⟩
  · cases d <;> exact False.elim po
theorem call_fAny (hc : X.calm = true) : CallR X (.builtin "any") (rdN L W fAny) := by
  refine callr_imp (cr_any hc) fun vs H Q ⟨g, s, σ, ds, e, w, dv, po⟩ => ?_
  subst e
  rcases ds with _ | ⟨d, _ | ⟨d', r⟩⟩ <;> try exact False.elim po
  · obtain ⟨v, rfl, h⟩ := denL1 dv
    cases d <;> try exact False.elim po
    rename_i l
    obtain ⟨a, us, rfl, f, hp, qq⟩ := den_lst h
    obtain ⟨bs, e, po⟩ := Post.lf (o := bools l) po
    · rw [bools_ok qq e] at hp
      exact ⟨a, bs, rfl, SqL.of hp, Post.val po w bl_den⟩
  · cases d <;> exact False.elim po
end
end DL
end
section
set_option Elab.async false
set_option linter.all false
set_option maxRecDepth 100000
set_option maxHeartbeats 4000000
/-! DL4: subscripts, methods of built-ins, isinstance, calls. -/
namespace DL
open PySem L2
section
variable {X : Cx} {L : Lk} {W : WX} {pos : Pos}

/-! ### subscripts, slices -/
/-- what a slice takes -/
def cutL {α : Type} (l : List α) (lo hi : Option Int) : List α := (l.drop (HT.sIx l.length 0 lo)).take (HT.sIx l.length l.length hi - HT.sIx l.length 0 lo)
def fCut (d : D) (lo hi : Option Int) : M D := match d with
  | .lst l => pure (.lst (cutL l lo hi))
  | .tup l => pure (.tup (cutL l lo hi))
  | .str l => gd (l.length ≤ sizeLine) (.str (cutL l lo hi))
  | .scr l => pure (.lst ((cutL l lo hi).map .int))
  | _ => stuck
abbrev MO := Env → M (Option Int)
def mNoPart : MO := fun _ => pure none
def mPart (m : ME) : MO := fun ρ => do
  let d ← m ρ
  match d with
  | .int i => pure (some i)
  | _ => stuck
def optK (Q : Option Int → Hp → Prop) : Option Int → Sto → G → Prop := fun o _ g => Q o g.H
def rdP (L : Lk) (W : WX) (m : MO) : TO := fun σ H Q => ∃ g0 g s ρ os, g.H = H ∧ Wld L g s ∧ Frm L g0 g ρ os σ ∧ Post L W σ g (optK Q) (m ρ s)
theorem po_imp {e : Option Expr} {t t' : TO} (h : PO X e t) (k : ∀ σ H Q, t' σ H Q → t σ H Q) : PO X e t' := ⟨fun pins s σ H Q I q => h.run pins s σ H Q I (k σ H Q q)⟩
theorem dp_none : PO X none (rdP L W mNoPart) := by
  refine po_imp po_none fun σ H Q ⟨g0, g, s, ρ, os, e, w, fr, po⟩ => ?_
  subst e
  exact po g (Grow.refl g) w
theorem dp_some {e : Expr} {m : ME} (h : DE X L W e m) : PO X (some e) (rdP L W (mPart m)) := by
  refine po_imp (po_some h) fun σ H Q ⟨g0, g, s, ρ, os, e, w, fr, po⟩ => ?_
  subst e
  refine ⟨g0, g, s, ρ, os, rfl, w, fr, po.bind.imp fun a s1 g1 gr w1 q v dv => ?_⟩
  cases a <;> try exact False.elim q
  exact ⟨_, den_int dv, q g1 (Grow.refl _) w1⟩
theorem DenL.cut {g : G} {ds : List D} {vs : List V} {lo hi : Option Int} (h : DenL L g ds vs) : DenL L g (cutL ds lo hi) (cutV vs lo hi) := by
  unfold cutL cutV
  rw [h.len]
  exact (h.drop _).take _
theorem cut_whole {α : Type} {l : List α} {lo hi : Option Int} (h : HT.sIx l.length 0 lo = 0 ∧ HT.sIx l.length l.length hi = l.length) : cutL l lo hi = l := by
  unfold cutL
  rw [h.1, h.2]
  simp
theorem denL_ints {g : G} : ∀ {l : List Int} {vs : List V}, vs = l.map V.int → DenL L g (l.map D.int) vs
  | [], vs, h => by subst h; exact DenL.nilI
  | i :: l, vs, h => by subst h; exact DenL.consI int_den (denL_ints rfl)
theorem cutV_map {l : List Int} {lo hi : Option Int} : cutV (l.map V.int) lo hi = (cutL l lo hi).map V.int := by
  unfold cutV cutL
  rw [List.length_map, List.map_take, List.map_drop]
def mCut (mo : ME) (ml mh : MO) : ME := fun ρ => do
  let d ← mo ρ
  let lo ← ml ρ
  let hi ← mh ρ
  fCut d lo hi
theorem de_cut (hK : L.K = X.K) {e : Expr} {lo hi : Option Expr} {p2 : Pos} {mo : ME} {ml mh : MO} (he : DE X L W e mo) (hl : PO X lo (rdP L W ml)) (hu : PO X hi (rdP L W mh)) : DE X L W (.Subscript e (.Slice lo hi none p2) pos) (mCut mo ml mh) := by
  refine pe_imp (pe_slice (SlR.or sl_list (SlR.or sl_tupA sl_str)) he hl hu) fun σ H Q ⟨g0, g, s, ρ, os, e, w, fr, po⟩ => ?_
  subst e
  refine ⟨g0, g, s, ρ, os, rfl, w, fr, po.bind.imp fun a s1 g1 gr w1 q v dv => ?_⟩
  have fr1 := fr.mono w.apart gr
  refine ⟨g0, g1, s1, ρ, os, rfl, w1, fr1, q.bind.imp fun lo s2 g2 gr2 w2 q2 => ?_⟩
  have fr2 := fr1.mono w1.apart gr2
  refine ⟨g0, g2, s2, ρ, os, rfl, w2, fr2, q2.bind.imp fun hi s3 g3 gr3 w3 q3 => ?_⟩
  have dv := Den.mono w1.apart (gr2.trans gr3) _ _ dv
  cases a with
  | str l =>
    rw [den_str dv]
    obtain ⟨hz, q3⟩ := Post.gd (c := l.length ≤ sizeLine) q3
    refine .inr (.inr ⟨_, rfl, by rw [tS_len]; exact hz, ?_⟩)
    have e : cutS (tS l) lo hi = tS (cutL l lo hi) := by
      unfold cutS
      rw [tS_cps, tS_len]
      rfl
    rw [e]
    exact Post.val q3 w3 str_den
  | tup l =>
    obtain ⟨p, vs, rfl, f, q⟩ := den_tup dv
    refine .inr (.inl ⟨p, vs, rfl, hK ▸ f.sq, ?_, ?_⟩)
    · intro hw
      rw [q.len] at hw
      refine Post.val q3 w3 ?_
      rw [cut_whole hw]
      exact dv
    · intro _ z hz
      exact Post.new q3 w3 hz (new_tup w3 hz q.cut)
  | lst l =>
    obtain ⟨p, vs, rfl, f, hp, q⟩ := den_lst dv
    exact .inl ⟨p, vs, rfl, SqL.of hp, fun z hz => Post.new q3 w3 hz (new_lst w3 hz q.cut)⟩
  | scr l =>
    obtain ⟨p, rfl, f⟩ := den_scr dv
    refine .inl ⟨p, _, rfl, hK ▸ f.sq, fun z hz => Post.new q3 w3 hz (new_lst w3 hz ?_)⟩
    exact denL_ints cutV_map
  | _ => exact False.elim q3

/-! ### methods of built-ins -/
theorem mtr_imp {id : String} {r r' : V → List V → Hp → VK → Prop} (h : MtR X id r) (k : ∀ x xs H Q, r' x xs H Q → r x xs H Q) : MtR X id r' :=
  fun pins s σ H x xs v u Q I rx rv q => h pins s σ H x xs v u Q I rx rv (k x xs H Q q)
def rdM (L : Lk) (W : WX) (m : D → List D → M D) : V → List V → Hp → VK → Prop := fun x vs H Q => ∃ g s σ d ds, g.H = H ∧ Wld L g s ∧ Den L g d x ∧ DenL L g ds vs ∧ Post L W σ g (valK L Q) (m d ds s)
def D.isTy (T : String) : D → Bool
  | .str _ => T == "str"
  | .int _ => T == "int"
  | .lst _ => T == "list"
  | .scr _ => T == "list"
  | .dic _ => T == "dict"
  | _ => false
theorem Den.tyV {g : G} {d : D} {v : V} {T : String} (h : Den L g d v) (e : d.isTy T = true) : L2.tyV L.K T v g.H := by
  cases d <;> simp only [D.isTy, beq_iff_eq] at e <;> try (cases e; done)
  · rw [den_int h]; exact e
  · rw [den_str h]; exact e
  · obtain ⟨a, vs, rfl, f, hp, q⟩ := den_lst h
    exact .inl ⟨e, vs, SqL.of hp⟩
  · obtain ⟨a, vs, rfl, f, hp, q⟩ := den_dic h
    exact .inr (.inr (.inl ⟨e, .inl ⟨vs, hp⟩⟩))
  · obtain ⟨a, rfl, f⟩ := den_scr h
    exact .inl ⟨e, _, f.sq⟩
def mBM (T : String) (f : D → List D → M D) (mo : ME) (ma : MA) : ME := fun ρ => do
  let o ← mo ρ
  if o.isTy T then do
    let ds ← ma ρ
    f o ds
  else stuck
theorem de_bm (hK : L.K = X.K) {o e : Expr} {es : List Expr} {mo : ME} {ma : MA} {name : Str} {apos : Pos} {T id : String} {f : D → List D → M D} (pa : PlainAttrs T) (slot : Slot T name id) (hty : typeOf (.builtin id) = pure (.type "method_descriptor")) (hm : MtR X id (rdM L W f)) (ho : DE X L W o mo) (ha : DA X L W (e :: es) ma)
    (hbase : attributeBase o name X.env (eval o X.env) = eval o X.env := by rfl)
    (hfew : ((backTo pos (starEach (e :: es) X.env)).all (fun x => !x.1) && (backToKw pos (keywordEach [] X.env)).all (fun x => x.1.isSome)
      && decide ((e :: es).length + ([] : List Keyword).length + (if ([] : List Keyword).isEmpty then 0 else 1) < 30)) = true := by rfl)
    (hline : (apos.endLine == pos.line) = true := by rfl) (hs : starEach (e :: es) X.env = (false, eval e X.env) :: starEach es X.env := by rfl) (hplain : (backTo pos (starEach es X.env)).any (·.1) = false := by rfl) :
    DE X L W (.Call (.Attribute o name apos) (e :: es) [] pos) (mBM T f mo ma) := by
  refine pe_imp (pe_bm pa slot hty hm ho ha hbase hfew hline hs hplain) fun σ H Q ⟨g0, g, s, ρ, os, e, w, fr, po⟩ => ?_
  subst e
  refine ⟨g0, g, s, ρ, os, rfl, w, fr, po.bind.imp fun a s1 g1 gr w1 q v dv => ?_⟩
  by_cases ht : a.isTy T = true
  · rw [if_pos ht] at q
    refine ⟨hK ▸ dv.tyV ht, g0, g1, s1, ρ, os, rfl, w1, fr.mono w.apart gr, q.bind.imp fun b s2 g2 gr2 w2 q2 u du => ?_⟩
    exact ⟨g2, s2, σ, a, b, rfl, w2, Den.mono w1.apart gr2 _ _ dv, du, q2⟩
  · rw [if_neg ht] at q; exact False.elim q
theorem de_bm0 (hK : L.K = X.K) {o : Expr} {mo : ME} {name : Str} {apos : Pos} {T id : String} {f : D → List D → M D} (pa : PlainAttrs T) (slot : Slot T name id) (hty : typeOf (.builtin id) = pure (.type "method_descriptor")) (hm : MtR X id (rdM L W f)) (ho : DE X L W o mo)
    (hbase : attributeBase o name X.env (eval o X.env) = eval o X.env := by rfl) (hline : (apos.endLine == pos.line) = true := by rfl) : DE X L W (.Call (.Attribute o name apos) [] [] pos) (mBM T f mo mNil) := by
  refine pe_imp (pe_bm0 pa slot hty hm ho hbase hline) fun σ H Q ⟨g0, g, s, ρ, os, e, w, fr, po⟩ => ?_
  subst e
  refine ⟨g0, g, s, ρ, os, rfl, w, fr, po.bind.imp fun a s1 g1 gr w1 q v dv => ?_⟩
  by_cases ht : a.isTy T = true
  · rw [if_pos ht] at q
    exact ⟨hK ▸ dv.tyV ht, g1, s1, σ, a, [], rfl, w1, dv, DenL.nilI, q⟩
  · rw [if_neg ht] at q; exact False.elim q
/-- texts in a row -/
def txts : List D → Option (List Tx)
  | [] => some []
  | .str b :: r => (txts r).map (b :: ·)
  | _ :: _ => none
theorem txts_ok {g : G} : ∀ {ds : List D} {vs : List V} {bs : List Tx}, DenL L g ds vs → txts ds = some bs → vs = (bs.map tS).map V.str
  | [], vs, bs, h, e => by simp only [DenL] at h; simp only [txts, Option.some.injEq] at e; subst h; subst e; rfl
  | d :: ds, vs, bs, h, e => by
    simp only [DenL] at h
    obtain ⟨v, r, rfl, p, q⟩ := h
    cases d <;> simp only [txts] at e <;> try (cases e; done)
    cases e' : txts ds with
    | none => rw [e'] at e; cases e
    | some bs' =>
      rw [e'] at e
      cases e
      rw [den_str p, txts_ok q e']
      rfl
theorem denL_txts {g : G} : ∀ {l : List Tx} {vs : List V}, vs = (l.map tS).map V.str → DenL L g (l.map D.str) vs
  | [], vs, h => by subst h; exact DenL.nilI
  | i :: l, vs, h => by subst h; exact DenL.consI str_den (denL_txts rfl)
def joinOk (a : Tx) (ys : List Tx) : Prop := (ys.map (·.length)).sum + ys.length * a.length ≤ 16777216
instance (a : Tx) (ys : List Tx) : Decidable (joinOk a ys) := by unfold joinOk; infer_instance
def fJoin : D → List D → M D
  | .str a, [.lst l] => match txts l with
    | some ys => gd (joinOk a ys) (.str (TL.joinL a ys))
    | none => stuck
  | .str a, [.tup l] => match txts l with
    | some ys => gd (joinOk a ys) (.str (TL.joinL a ys))
    | none => stuck
  | _, _ => stuck
theorem tS_join (a : Tx) (ys : List Tx) : Txt.join (tS a) (ys.map tS) = tS (TL.joinL a ys) := by
  rw [TL.join_eq]
  apply TL.ext_tl
  rw [TL.tl_join, List.map_map]
  have e : (TL.tl ∘ tS) = id := by funext x; simp [tS]
  rw [e, List.map_id]
  simp [tS]
theorem joinOk_iff {a : Tx} {ys : List Tx} (h : joinOk a ys) : ((ys.map tS).map (·.length)).sum + (ys.map tS).length * (tS a).length ≤ 16777216 := by
  unfold joinOk at h
  rw [tS_len, List.length_map, List.map_map]
  have e : ((fun x : Str => x.length) ∘ tS) = (fun x : Tx => x.length) := by funext x; exact tS_len x
  rw [e]; exact h
theorem mt_fJoin (hK : L.K = X.K) : MtR X "str.join" (rdM L W fJoin) := by
  refine mtr_imp mt_join fun x xs H Q ⟨g, s, σ, d, ds, e, w, dx, dv, po⟩ => ?_
  subst e
  have key : ∀ (a : Tx) (l : List D) (p : Addr) (vs : List V), (SqL X.K g.H p vs ∨ SqT X.K g.H p vs) → DenL L g l vs →
      Post L W σ g (valK L Q) ((match txts l with | some ys => gd (joinOk a ys) (.str (TL.joinL a ys)) | none => stuck : M D) s) →
      ∃ (a' : Str) (p' : Addr) (ys : List Str), V.str (tS a) = .str a' ∧ [V.ref p] = [.ref p'] ∧ (SqL X.K g.H p' (ys.map V.str) ∨ SqT X.K g.H p' (ys.map V.str)) ∧ (ys.map (·.length)).sum + ys.length * a'.length ≤ 16777216 ∧ Q (.str (Txt.join a' ys)) g.H := fun a l p vs hs q po => by
    cases e : txts l with
    | none => rw [e] at po; exact False.elim po
    | some ys =>
      rw [e] at po
      obtain ⟨hl, po⟩ := Post.gd po
      refine ⟨_, p, ys.map tS, rfl, rfl, ?_, joinOk_iff hl, ?_⟩
      · rw [← txts_ok q e]; exact hs
      · rw [tS_join]; exact Post.val po w str_den
  cases d with
  | str a =>
    rcases ds with _ | ⟨d, _ | ⟨d', r⟩⟩
    · exact False.elim po
    · obtain ⟨v, rfl, h⟩ := denL1 dv
      rw [den_str dx]
      cases d with
      | tup l =>
        obtain ⟨p, vs, rfl, f, q⟩ := den_tup h
        exact key a l p vs (.inr (hK ▸ f.sq)) q po
      | lst l =>
        obtain ⟨p, vs, rfl, f, hp, q⟩ := den_lst h
        exact key a l p vs (.inl (SqL.of hp)) q po
      | _ => exact False.elim po
    · cases d <;> exact False.elim po
  | _ => exact False.elim po
/-- a method of two texts that gives a value: by the library's function -/
def fS1 (C : Tx → Tx → Prop) [∀ a b, Decidable (C a b)] (k : Tx → Tx → D) : D → List D → M D
  | .str a, [.str b] => gd (C a b) (k a b)
  | _, _ => stuck
theorem mt_fS1 {id : String} {C : Tx → Tx → Prop} [∀ a b, Decidable (C a b)] {k : Tx → Tx → D} {r : V → List V → Hp → VK → Prop} (h : MtR X id r)
    (hk : ∀ a b H Q g s σ, g.H = H → Wld L g s → C a b → Post L W σ g (valK L Q) ((Pure.pure (k a b) : M D) s) → r (.str (tS a)) [.str (tS b)] H Q) : MtR X id (rdM L W (fS1 C k)) := by
  refine mtr_imp h fun x xs H Q ⟨g, s, σ, d, ds, e, w, dx, dv, po⟩ => ?_
  cases d <;> try exact False.elim po
  rename_i a
  rcases ds with _ | ⟨d, _ | ⟨d', r⟩⟩ <;> try exact False.elim po
  · obtain ⟨v, rfl, h⟩ := denL1 dv
    cases d <;> try exact False.elim po
    rename_i b
    obtain ⟨hl, po⟩ := Post.gd (c := C a b) po
    rw [den_str dx, den_str h]
    exact hk a b H Q g s σ e w hl po
  · cases d <;> exact False.elim po
def fLstrip : D → List D → M D := fS1 (fun a _ => a.length ≤ sizeLine) fun a b => .str (Txt.lstripChars (tS a) (tS b)).cps.toList
theorem tS_of (x : Str) : tS x.cps.toList = x := by cases x; simp [tS]
theorem mt_fLstrip : MtR X "str.lstrip" (rdM L W fLstrip) := mt_fS1 mt_lstripChars fun a b H Q g s σ e w hl po => by
  subst e
  refine ⟨_, _, rfl, rfl, by rw [tS_len]; exact hl, ?_⟩
  have := Post.val po w (L := L) str_den
  rw [tS_of] at this
  exact this

/-! ### dicts -/
def D.key : D → Option DKey
  | .int i => some (.inl i)
  | .str s => some (.inr s)
  | _ => none
theorem dk_inj {a b : DKey} (h : dk a = dk b) : a = b := by
  cases a <;> cases b <;> simp only [dk] at h
  · cases h; rfl
  · cases h
  · cases h
  · rw [tS_inj (Sum.inr.inj h)]
theorem dk_dec (a b : DKey) : decide (dk a = dk b) = decide (a = b) := by
  by_cases e : a = b
  · subst e; simp
  · rw [decide_eq_false e, decide_eq_false]
    intro q; exact e (dk_inj q)
theorem Den.key {g : G} {d : D} {v : V} {k : DKey} (h : Den L g d v) (e : d.key = some k) : v = kV (dk k) := by
  cases d <;> simp only [D.key, Option.some.injEq] at e <;> try (cases e; done)
  · subst e; rw [den_int h]; rfl
  · subst e; rw [den_str h]; rfl
def valD (l : List (DKey × D)) (k : DKey) : Option D := (l.find? fun kv => decide (kv.1 = k)).map (·.2)
def putD (l : List (DKey × D)) (k : DKey) (v : D) : List (DKey × D) :=
  if (l.any fun kv => decide (kv.1 = k)) = true then l.map (fun kv => if kv.1 = k then (kv.1, v) else kv) else l ++ [(k, v)]
def dropD (l : List (DKey × D)) (k : DKey) : List (DKey × D) := l.filter fun kv => decide (kv.1 ≠ k)
def DenO (L : Lk) (g : G) : Option D → Option V → Prop
  | none, none => True
  | some d, some v => Den L g d v
  | _, _ => False
theorem DenK.val {g : G} {k : DKey} : ∀ {l : List (DKey × D)} {kvs : List (Key × V)}, DenK L g l kvs → DenO L g (valD l k) (valV kvs (dk k))
  | [], kvs, h => by simp only [DenK] at h; subst h; trivial
  | (k', d) :: l, kvs, h => by
    simp only [DenK] at h
    obtain ⟨v, r, rfl, p, q⟩ := h
    have ih := DenK.val (k := k) q
    unfold valD valV at ih ⊢
    simp only [List.find?_cons]
    rw [dk_dec]
    by_cases e : k' = k
    · rw [decide_eq_true e]; exact p
    · rw [decide_eq_false e]; exact ih
theorem DenK.any {g : G} {k : DKey} : ∀ {l : List (DKey × D)} {kvs : List (Key × V)}, DenK L g l kvs → (kvs.any fun kv => decide (kv.1 = dk k)) = (l.any fun kv => decide (kv.1 = k))
  | [], kvs, h => by simp only [DenK] at h; subst h; rfl
  | (k', d) :: l, kvs, h => by
    simp only [DenK] at h
    obtain ⟨v, r, rfl, p, q⟩ := h
    simp only [List.any_cons]
    rw [dk_dec, DenK.any q]
theorem DenK.app {g : G} : ∀ {l m : List (DKey × D)} {kvs lvs : List (Key × V)}, DenK L g l kvs → DenK L g m lvs → DenK L g (l ++ m) (kvs ++ lvs)
  | [], m, kvs, lvs, h, k => by simp only [DenK] at h; subst h; exact k
  | (k', d) :: l, m, kvs, lvs, h, k => by
    simp only [DenK] at h
    obtain ⟨v, r, rfl, p, q⟩ := h
    simp only [List.cons_append, DenK]
    exact ⟨v, _, rfl, p, DenK.app q k⟩
theorem DenK.one {g : G} {k : DKey} {d : D} {v : V} (h : Den L g d v) : DenK L g [(k, d)] [(dk k, v)] := by
  simp only [DenK]; exact ⟨v, [], rfl, h, rfl⟩
theorem DenK.mapP {g : G} {k : DKey} {d : D} {v : V} (hd : Den L g d v) : ∀ {l : List (DKey × D)} {kvs : List (Key × V)}, DenK L g l kvs →
    DenK L g (l.map (fun kv => if kv.1 = k then (kv.1, d) else kv)) (kvs.map (fun kv => if kv.1 = dk k then (kv.1, v) else kv))
  | [], kvs, h => by simp only [DenK] at h; subst h; simp [DenK]
  | (k', d') :: l, kvs, h => by
    simp only [DenK] at h
    obtain ⟨u, r, rfl, p, q⟩ := h
    have ih := DenK.mapP (k := k) hd q
    simp only [List.map_cons]
    by_cases e : k' = k
    · subst e
      simp only [if_true, DenK]
      exact ⟨v, _, rfl, hd, ih⟩
    · have ne : ¬ dk k' = dk k := fun z => e (dk_inj z)
      simp only [if_neg e, if_neg ne, DenK]
      exact ⟨u, _, rfl, p, ih⟩
theorem DenK.put {g : G} {k : DKey} {d : D} {v : V} {l : List (DKey × D)} {kvs : List (Key × V)} (h : DenK L g l kvs) (hd : Den L g d v) : DenK L g (putD l k d) (putK kvs (dk k) v) := by
  unfold putD putK
  rw [h.any]
  by_cases e : (l.any fun kv => decide (kv.1 = k)) = true
  · rw [if_pos e, if_pos e]; exact h.mapP hd
  · rw [if_neg e, if_neg e]; exact h.app (DenK.one hd)
theorem DenK.drop {g : G} {k : DKey} : ∀ {l : List (DKey × D)} {kvs : List (Key × V)}, DenK L g l kvs → DenK L g (dropD l k) (dropK kvs (dk k))
  | [], kvs, h => by simp only [DenK] at h; subst h; simp [dropD, dropK, DenK]
  | (k', d') :: l, kvs, h => by
    simp only [DenK] at h
    obtain ⟨u, r, rfl, p, q⟩ := h
    have ih := DenK.drop (k := k) q
    unfold dropD dropK at ih ⊢
    by_cases e : k' = k
    · subst e
      simpa [List.filter_cons] using ih
    · have ne : ¬ dk k' = dk k := fun z => e (dk_inj z)
      simp only [List.filter_cons, ne_eq, e, ne, not_false_eq_true, decide_true, if_true, DenK]
      exact ⟨u, _, rfl, p, ih⟩
def fIx : D → D → M D
  | .lst l, .int i => lf (atI l i) id
  | .tup l, .int i => lf (atI l i) id
  | .str l, .int i => if l.length ≤ sizeLine then lf (atI l i) (fun c => .str [c]) else stuck
  | .scr l, .int i => lf (atI l i) .int
  | .dic l, b => match b.key with
    | some k => lf (valD l k) id
    | none => stuck
  | _, _ => stuck
theorem DenL.atI {g : G} {ds : List D} {vs : List V} {i : Int} {d : D} (h : DenL L g ds vs) (e : L2.atI ds i = some d) : ∃ v, L2.atI vs i = some v ∧ Den L g d v := by
  unfold L2.atI at e ⊢
  rw [h.len]
  cases q : ixN ds.length i with
  | none => rw [q] at e; cases e
  | some j =>
    rw [q] at e
    obtain ⟨v, ev, dv⟩ := h.get e
    exact ⟨v, ev, dv⟩
theorem atI_map {α β : Type} {f : α → β} {l : List α} {i : Int} {a : α} (e : L2.atI l i = some a) : L2.atI (l.map f) i = some (f a) := by
  unfold L2.atI at e ⊢
  rw [List.length_map]
  cases q : ixN l.length i with
  | none => rw [q] at e; cases e
  | some j =>
    rw [q] at e
    show (l.map f)[j]? = _
    have e' : l[j]? = some a := e
    rw [List.getElem?_map, e']; rfl
theorem tS_one (c : Nat) : tS [c] = ⟨#[c]⟩ := rfl
theorem ixr_imp {r r' : R2} (h : IxR X r) (k : ∀ x y H Q, r' x y H Q → r x y H Q) : IxR X r' :=
  fun value slice pins s σ H x y v u Q I rx ry q hs => h value slice pins s σ H x y v u Q I rx ry (k x y H Q q) hs
theorem ix_dict (hu : X.A.units + 1 < cLine) : IxR X (fun x y H Q => ∃ a v, x = .ref a ∧ DGet H a y (some v) ∧ Q v H) := by
  intro value slice pins s σ H x y v u Q I rx ry h hs
  obtain ⟨a, z, rfl, g, q⟩ := h
  obtain rfl : v = Value.ref a := rx
  exact PyProof.Rows.tail_any (dict_typeIs I g) PySem.F.slot_dict_getitem.lookup (d_getItem hu I g ry fun w' s' I' rw' => ⟨z, H, I', rw', q⟩) hs
theorem ix_fIx (hu : X.A.units + 1 < cLine) (hK : L.K = X.K) : IxR X (rdO L W fIx) := by
  refine ixr_imp (ix_seq.or (ix_dict hu)) fun x y H Q ⟨g, s, σ, a, b, e, w, da, db, po⟩ => ?_
  subst e
  by_cases hd : ∃ l, a = .dic l
  · obtain ⟨l, rfl⟩ := hd
    obtain ⟨p, kvs, rfl, fa, ha, qk⟩ := den_dic da
    have po : Post L W σ g (valK L Q) ((match b.key with
      | some k => lf (valD l k) id
      | none => stuck : M D) s) := by cases b <;> exact po
    cases ek : b.key with
    | none => rw [ek] at po; exact False.elim po
    | some k =>
      rw [ek] at po
      obtain ⟨d, e, po⟩ := Post.lf (o := valD l k) po
      have hv := qk.val (k := k)
      rw [e] at hv
      cases e2 : valV kvs (dk k) with
      | none => rw [e2] at hv; exact False.elim hv
      | some v =>
        rw [e2] at hv
        have ey := db.key ek
        subst ey
        refine .inr ⟨p, v, rfl, ?_, Post.val po w hv⟩
        have g := DGet.k (k := dk k) ha
        rwa [e2] at g
  refine .inl ?_
  cases a <;> try (exact absurd ⟨_, rfl⟩ hd)
  all_goals cases b <;> try exact False.elim po
  · rename_i l i
    rw [den_int db, den_str da]
    have po : Post L W σ g (valK L Q) ((if l.length ≤ sizeLine then lf (atI l i) (fun c => .str [c]) else stuck) s) := po
    by_cases hl : l.length ≤ sizeLine
    · rw [if_pos hl] at po
      obtain ⟨c, e, po⟩ := Post.lf po
      exact .inr (.inr ⟨_, i, c, rfl, rfl, by rw [tS_len]; exact hl, by rw [tS_cps]; exact e, Post.val po w str_den⟩)
    · rw [if_neg hl] at po; exact False.elim po
  · rename_i l i
    obtain ⟨p, vs, rfl, f, q⟩ := den_tup da
    rw [den_int db]
    obtain ⟨d, e, po⟩ := Post.lf (o := atI l i) po
    obtain ⟨v, ev, dv⟩ := q.atI e
    exact .inr (.inl ⟨p, vs, i, v, rfl, rfl, hK ▸ f.sq, ev, Post.val po w dv⟩)
  · rename_i l i
    obtain ⟨p, vs, rfl, f, hp, q⟩ := den_lst da
    rw [den_int db]
    obtain ⟨d, e, po⟩ := Post.lf (o := atI l i) po
    obtain ⟨v, ev, dv⟩ := q.atI e
    exact .inl ⟨p, vs, i, v, rfl, rfl, SqL.of hp, ev, Post.val po w dv⟩
  · rename_i l i
    obtain ⟨p, rfl, f⟩ := den_scr da
    rw [den_int db]
    obtain ⟨d, e, po⟩ := Post.lf (o := atI l i) po
    exact .inl ⟨p, _, i, _, rfl, rfl, hK ▸ f.sq, atI_map e, Post.val po w int_den⟩
theorem de_ix (hu : X.A.units + 1 < cLine) (hK : L.K = X.K) {a b : Expr} {ma mb : ME} (ha : DE X L W a ma) (hb : DE X L W b mb) (hs : PlainIx b := by intro _ _; rfl) : DE X L W (.Subscript a b pos) (mBin fIx ma mb) :=
  pe_imp (pe_ix (ix_fIx hu hK) ha hb hs) fun σ H Q h => rd2 h fun g s a b x y w dx dy po => rdO_dop g s σ a b x y Q w dx dy po
/-- d.get(k, x) -/
def mGet2 (mo mk mx : ME) : ME := fun ρ => do
  let o ← mo ρ
  match o with
  | .dic l => do
    let k ← mk ρ
    let x ← mx ρ
    lf k.key fun k => (valD l k).getD x
  | _ => stuck
theorem de_get2 (hu : X.A.units + 1 < cLine) {o e f : Expr} {mo mk mx : ME} {apos : Pos} (ho : DE X L W o mo) (he : DE X L W e mk) (hf : DE X L W f mx) (m : M2 X o "get" apos e f pos) : DE X L W (.Call (.Attribute o "get" apos) [e, f] [] pos) (mGet2 mo mk mx) := by
  refine pe_imp (pe_dget2 hu ho he hf m) fun σ H Q ⟨g0, g, s, ρ, os, e, w, fr, po⟩ => ?_
  subst e
  refine ⟨g0, g, s, ρ, os, rfl, w, fr, po.bind.imp fun a s1 g1 gr w1 q v dv => ?_⟩
  have fr1 := fr.mono w.apart gr
  cases a <;> try exact False.elim q
  rename_i l
  obtain ⟨a, kvs, rfl, fa, ha, qk⟩ := den_dic dv
  refine ⟨a, rfl, .inl ⟨kvs, .inl ha⟩, g0, g1, s1, ρ, os, rfl, w1, fr1, Post.imp (Post.bind q) fun b s2 g2 gr2 w2 q2 u du => ?_⟩
  have fr2 := fr1.mono w1.apart gr2
  refine ⟨g0, g2, s2, ρ, os, rfl, w2, fr2, q2.bind.imp fun c s3 g3 gr3 w3 q3 z dz => ?_⟩
  obtain ⟨k, ek, q3⟩ := Post.lf (o := b.key) q3
  have gr13 := gr2.trans gr3
  have ha3 := gr13.kp _ _ ha (w1.apart.ni fa)
  have qk3 := DenK.mono w1.apart gr13 _ _ qk
  have ez : u = kV (dk k) := du.key ek
  subst ez
  refine ⟨_, DGet.k ha3, ?_⟩
  have hv := qk3.val (k := k)
  cases e1 : valD l k with
  | none =>
    cases e2 : valV kvs (dk k) with
    | none => rw [e1] at q3; exact Post.val q3 w3 dz
    | some v => rw [e1, e2] at hv; exact False.elim hv
  | some d =>
    cases e2 : valV kvs (dk k) with
    | none => rw [e1, e2] at hv; exact False.elim hv
    | some v => rw [e1] at q3; rw [e1, e2] at hv; exact Post.val q3 w3 hv
/-- {k: v, ..} -/
def mPairs : List (ME × ME) → Env → M (List (DKey × D))
  | [], _ => pure []
  | (mk, mv) :: r, ρ => do
    let k ← mk ρ
    let v ← mv ρ
    match k.key with
    | some k => do
      let ds ← mPairs r ρ
      pure ((k, v) :: ds)
    | none => stuck
def mergeD (l more : List (DKey × D)) : List (DKey × D) := more.foldl (fun acc kv => putD acc kv.1 kv.2) l
def mDict (prs : List (ME × ME)) : ME := fun ρ => do
  let ds ← mPairs prs ρ
  gd (ds.length ≤ 15) (.dic (mergeD [] ds))
inductive DPs (X : Cx) (L : Lk) (W : WX) : List (Option Expr) → List Expr → List (ME × ME) → Prop where
  | nil : DPs X L W [] [] []
  | cons {k v : Expr} {ks : List (Option Expr)} {vs : List Expr} {mk mv : ME} {r : List (ME × ME)} (hk : DE X L W k mk) (hv : DE X L W v mv) (hr : DPs X L W ks vs r) : DPs X L W (some k :: ks) (v :: vs) ((mk, mv) :: r)
def rdPr (L : Lk) (W : WX) (prs : List (ME × ME)) : List (TE × TE) := prs.map fun p => (rdE L W p.1, rdE L W p.2)
theorem DPs.pps {ks : List (Option Expr)} {vs : List Expr} {prs : List (ME × ME)} (h : DPs X L W ks vs prs) : PPs X pos ks vs (rdPr L W prs) := by
  induction h with
  | nil => exact pps_nil
  | cons hk hv hr ih => exact pps_cons hk hv ih
theorem pairs_ok {g0 : G} {ρ : Env} {os : Nat → Option Addr} {σ : L2.St} : ∀ (prs : List (ME × ME)) (g : G) (s : Sto) (Q : List (V × V) → Hp → Prop), Wld L g s → Frm L g0 g ρ os σ →
    Post L W σ g (fun ds s' g' => ∀ kvs, DenK L g' ds kvs → Q (kvs.map fun kv => (kV kv.1, kv.2)) g'.H) (mPairs prs ρ s) → tPairs (rdPr L W prs) σ g.H Q
  | [], g, s, Q, w, fr, po => po g (Grow.refl g) w [] (by simp [DenK])
  | (mk, mv) :: r, g, s, Q, w, fr, po => by
    show rdE L W mk σ g.H fun x H1 => rdE L W mv σ H1 fun y H2 => tPairs (rdPr L W r) σ H2 fun ps H3 => Q ((x, y) :: ps) H3
    refine ⟨g0, g, s, ρ, os, rfl, w, fr, Post.imp (Post.bind (show Post L W σ g _ (((mk ρ) >>= fun k => do
      let v ← mv ρ
      match k.key with
      | some k => do
        let ds ← mPairs r ρ
        pure ((k, v) :: ds)
      | none => stuck : M (List (DKey × D))) s) from po)) fun a s1 g1 gr w1 q v dv => ?_⟩
    have fr1 := fr.mono w.apart gr
    refine ⟨g0, g1, s1, ρ, os, rfl, w1, fr1, q.bind.imp fun b s2 g2 gr2 w2 q2 u du => ?_⟩
    have fr2 := fr1.mono w1.apart gr2
    cases e : a.key with
    | none => rw [e] at q2; exact False.elim q2
    | some k =>
      rw [e] at q2
      refine pairs_ok r g2 s2 _ w2 fr2 (Post.imp (Post.bind q2) fun ds s3 g3 gr3 w3 q3 kvs dk' => ?_)
      have ez : v = kV (dk k) := dv.key e
      subst ez
      refine Post.pure w3 q3 ((dk k, u) :: kvs) ?_
      simp only [DenK]
      exact ⟨u, kvs, rfl, Den.mono w2.apart gr3 _ _ du, dk'⟩
theorem DenK.merge {g : G} : ∀ {more : List (DKey × D)} {mvs : List (Key × V)} {l : List (DKey × D)} {kvs : List (Key × V)}, DenK L g more mvs → DenK L g l kvs → DenK L g (mergeD l more) (mergeK kvs mvs)
  | [], mvs, l, kvs, h, k => by simp only [DenK] at h; subst h; exact k
  | (k', d) :: more, mvs, l, kvs, h, k => by
    simp only [DenK] at h
    obtain ⟨v, r, rfl, p, q⟩ := h
    show DenK L g (mergeD (putD l k' d) more) (mergeK (putK kvs (dk k') v) r)
    exact DenK.merge q (k.put p)
theorem own_grow1 {g : G} {p : Addr} {o : HO} (h : g.H p = none) : Grow g (g.own p o) := own_grow (Grow.refl g) h
theorem de_dict {ks : List (Option Expr)} {vs : List Expr} {prs : List (ME × ME)} (h : DPs X L W ks vs prs) (hall : ks.all (·.isSome) = true := by rfl) (hl : ks.length = vs.length := by rfl) (h0 : ks ≠ [] := by exact List.cons_ne_nil _ _)
    (h15 : ks.length ≤ 15 := by decide) : DE X L W (.Dict ks vs pos) (mDict prs) := by
  refine pe_imp (pe_disp h.pps hall hl h0 h15) fun σ H Q ⟨g0, g, s, ρ, os, e, w, fr, po⟩ => ?_
  subst e
  intro p hp
  have nf : ¬ g.F p := fun f => by
    obtain ⟨o, e⟩ := w.fd p f
    rw [hp] at e; cases e
  have ni : p ∉ g.ι := fun f => by
    obtain ⟨o, e⟩ := w.there f
    rw [hp] at e; cases e
  have w' : Wld L (g.own p (.dK [])) s := own_wld w nf ni
  have gr' : Grow g (g.own p (.dK [])) := own_grow1 hp
  refine pairs_ok prs (g.own p (.dK [])) s _ w' (fr.mono w.apart gr') (Post.imp ((po.bind0).weak gr') fun ds s1 g1 gr1 w1 q kvs dk' => ?_)
  have h1 : g1.H p = some (.dK []) := gr1.kp p _ upd_same ni
  have nf1 := own_free gr1 ⟨_, upd_same⟩ nf ni
  obtain ⟨hl, q⟩ := Post.gd q
  refine ⟨h1, kvs, rfl, by rw [dk'.len]; exact hl, ?_⟩
  have hm : DenK L g1 (mergeD [] ds) (mergeK [] kvs) := dk'.merge (by simp [DenK])
  have x1 : Ext g1 ((g1.own p (.dK (mergeK [] kvs))).frz p) := ⟨fun a f => .inl f, fun _ _ e => e, fun a o f e => (own_ext nf1.1).kp a o f e⟩
  have w2 : Wld L ((g1.own p (.dK (mergeK [] kvs))).frz p) s1 := frz_wld (own_wld w1 nf1.1 nf1.2) ⟨_, upd_same⟩ nf1.2
  have gg : Grow g ((g1.own p (.dK (mergeK [] kvs))).frz p) := frz_grow (own_grow (gr'.trans gr1) hp) hp
  refine q _ gg w2 (.ref p) ?_
  simp only [Den]
  exact ⟨p, _, rfl, .inr rfl, upd_same, DenK.ext x1 _ _ hm⟩
end
end DL
end
section
set_option Elab.async false
set_option linter.all false
set_option maxRecDepth 100000
set_option maxHeartbeats 4000000
/-! DL5: isinstance; calls of defs, of methods; instances without attributes. -/
namespace DL
open PySem L2
section
variable {X : Cx} {L : Lk} {W : WX} {pos : Pos}

/-! ### isinstance with a built-in class -/
def D.tyN : D → Option String
  | .non => some "NoneType"
  | .bl _ => some "bool"
  | .int _ => some "int"
  | .str _ => some "str"
  | .tup _ => some "tuple"
  | .lst _ => some "list"
  | .dic _ => some "dict"
  | .scr _ => some "list"
  | _ => none
theorem Den.ty {g : G} {d : D} {v : V} {T : String} (h : Den L g d v) (e : d.tyN = some T) : TyX L.K g.H v (.type T) := by
  cases d <;> simp only [D.tyN, Option.some.injEq] at e <;> try (cases e; done)
  all_goals subst e
  · rw [den_non h]; exact .base .non
  · rw [den_bl h]; exact .base (.bl _)
  · rw [den_int h]; exact .base (.int _)
  · rw [den_str h]; exact .base (.str _)
  · obtain ⟨a, vs, rfl, f, q⟩ := den_tup h
    rcases f with ⟨_, f | ⟨o, f⟩⟩ | ⟨o, its, n, e, c, _⟩
    · exact .base (.tup f)
    · exact .fTuple f
    · exact .kTuple e c
  · obtain ⟨a, vs, rfl, f, hp, q⟩ := den_lst h
    exact .base (.lst hp)
  · obtain ⟨a, vs, rfl, f, hp, q⟩ := den_dic h
    exact .base (.dK hp)
  · obtain ⟨a, rfl, f⟩ := den_scr h
    rcases f with ⟨_, f | ⟨o, f⟩⟩ | ⟨o, its, n, e, c, _⟩
    · exact .base (.lst f)
    · exact .base (.frz f)
    · exact .kList e c
/-- isinstance(e, T), T a built-in class -/
def isB (T : String) (d : D) : Option Bool := match d.tyN with
  | some a => kitB a T
  | none => none
def mIsB (T : String) (m : ME) : ME := fun ρ => do
  let d ← m ρ
  lf (isB T d) .bl
theorem pe_isi {e c : Expr} {te tc : TE} {p : Pos} {pos : Pos} (hg : Gl X "isinstance") (hm : X.mg "isinstance" = none) (he : PE X e te) (hc : PE X c tc)
    (hs : starEach [e, c] X.env = (false, eval e X.env) :: starEach [c] X.env := by rfl) (hs2 : starEach [c] X.env = (false, eval c X.env) :: starEach [] X.env := by rfl) (hpl : (backTo pos (starEach [c] X.env)).any (·.1) = false := by rfl) :
    PE X (.Call (.Name "isinstance" p) [e, c] [] pos) (tCB (rIsi X.K) (tCons te (tCons tc tNil))) :=
  pe_callB call_isi hg hm (by decide +kernel) (pa_cons he (pa_cons hc pa_nil hs2) hs) (he := hs) (hpl := hpl)
theorem de_isB (hK : L.K = X.K) {e c : Expr} {m : ME} {T : String} {p : Pos} (hg : Gl X "isinstance") (hm : X.mg "isinstance" = none) (he : DE X L W e m) (hc : PE X c (tC (.ty T)))
    (hs : starEach [e, c] X.env = (false, eval e X.env) :: starEach [c] X.env := by rfl) (hs2 : starEach [c] X.env = (false, eval c X.env) :: starEach [] X.env := by rfl) (hpl : (backTo pos (starEach [c] X.env)).any (·.1) = false := by rfl) :
    DE X L W (.Call (.Name "isinstance" p) [e, c] [] pos) (mIsB T m) := by
  refine pe_imp (pe_isi hg hm he hc hs hs2 hpl) fun σ H Q ⟨g0, g, s, ρ, os, e, w, fr, po⟩ => ?_
  subst e
  refine ⟨g0, g, s, ρ, os, rfl, w, fr, po.bind.imp fun a s1 g1 gr w1 q v dv => ?_⟩
  obtain ⟨b, e, q⟩ := Post.lf (o := isB T a) q
  show rIsi X.K [v, .ty T] g1.H Q
  unfold isB at e
  cases et : a.tyN with
  | none => rw [et] at e; cases e
  | some t =>
    rw [et] at e
    exact ⟨v, .ty T, _, _, b, rfl, .ty T, hK ▸ dv.ty et, kit_ty e, Post.val q w1 bl_den⟩

/-! ### a def's promise by its mirror -/
def spD (L : Lk) (np : Nat) (f : List D → M D) : Sp := fun vs H Q E => ∃ g s ds, g.H = H ∧ Wld L g s ∧ DenL L g ds vs ∧ ds.length = np ∧ Post L (fun c d _ H => E c d H) [] g (valK L Q) (f ds s)
theorem Post.toE {α : Type} {σ : L2.St} {g : G} {K : α → Sto → G → Prop} {r : Res α} (h : Post L W σ g K r) : Post L (fun c d _ H => WE W σ c d H) [] g K r := by
  cases r with
  | ok a s => exact h
  | raise x s => exact h
  | stuck => exact h
theorem Post.ofE {α : Type} {σ : L2.St} {g : G} {K : α → Sto → G → Prop} {r : Res α} (h : Post L (fun c d _ H => WE W σ c d H) [] g K r) : Post L W σ g K r := by
  cases r with
  | ok a s => exact h
  | raise x s => exact h
  | stuck => exact h
theorem spD_len {np : Nat} {f : List D → M D} {vs : List V} {H : Hp} {Q : VK} {E : XK} (h : spD L np f vs H Q E) : vs.length = np := by
  obtain ⟨g, s, ds, _, _, q, e, _⟩ := h
  rw [q.len, e]
def mCall (np : Nat) (f : List D → M D) (ma : MA) : ME := fun ρ => do
  let ds ← ma ρ
  if ds.length = np then f ds else stuck
structure Cal (X : Cx) (L : Lk) (x : Str) (np : Nat) (f : List D → M D) : Prop where
  ex : ∃ (k : Nat) (fa : Addr) (fd : FuncData) (ps : List Str), FnOk X.prog X.w X.K X.mg X.base (L2.CX X.prog X.w) k fa fd ps (spD L np f) ∧ Room k X.A ∧ X.mg x = some (.ref fa) ∧ PySem.W.keepIn X.K (.ref fa) = true ∧ Binds X.K fd ps []
theorem de_call {x : Str} {p : Pos} {e : Expr} {es : List Expr} {np : Nat} {f : List D → M D} {ma : MA} (hc : Cal X L x np f) (tk : Takes X W) (ha : DA X L W (e :: es) ma) (hg : Gl X x := by rfl)
    (hdb : (x == ("__debug__" : Str)) = false := by decide) (he : starEach (e :: es) X.env = (false, eval e X.env) :: starEach es X.env := by rfl) (hpl : (backTo pos (starEach es X.env)).any (·.1) = false := by rfl) :
    DE X L W (.Call (.Name x p) (e :: es) [] pos) (mCall np f ma) := by
  obtain ⟨k, fa, fd, ps, F, hr, hm, hk, hb⟩ := hc.ex
  refine pe_imp (pe_callSD F hr hg hm hk hb .nil (fun σ => passAt tk σ) ha hdb he hpl) fun σ H Q ⟨g0, g, s, ρ, os, e, w, fr, po⟩ => ?_
  subst e
  refine ⟨g0, g, s, ρ, os, rfl, w, fr, po.bind.imp fun a s1 g1 gr w1 q vs dv => ?_⟩
  by_cases hn : a.length = np
  · rw [if_pos hn] at q
    rw [List.append_nil]
    exact ⟨g1, s1, a, rfl, w1, dv, hn, q.toE⟩
  · rw [if_neg hn] at q; exact False.elim q
theorem de_call0 {x : Str} {p : Pos} {np : Nat} {f : List D → M D} (hc : Cal X L x np f) (tk : Takes X W) (hg : Gl X x := by rfl) (hdb : (x == ("__debug__" : Str)) = false := by decide) : DE X L W (.Call (.Name x p) [] [] pos) (mCall np f mNil) := by
  obtain ⟨k, fa, fd, ps, F, hr, hm, hk, hb⟩ := hc.ex
  refine ⟨fun pins s σ H Q I ⟨g0, g, t, ρ, os, e, w, fr, po⟩ => ?_⟩
  subst e
  refine wpAny_Call_Name_kw (ld_glob I hg hm ?_ hdb)
  refine PySem.W.callWith_K0 I.kIn hk ?_
  have po : Post L W σ g (valK L Q) ((if ([] : List D).length = np then f [] else stuck) t) := po
  by_cases hn : ([] : List D).length = np
  · rw [if_pos hn] at po
    exact run_fnSD (us := []) (vs := []) (E := WE W) F hr hb .nil (passAt tk σ) I .nil ⟨g, t, [], rfl, w, DenL.nilI, hn, po.toE⟩
  · rw [if_neg hn] at po; exact False.elim po

/-! ### methods -/
def CalM (X : Cx) (L : Lk) (m : Str) (np : Nat) (tbl : Nat → Option (List D → M D)) : Prop :=
  ∀ c f, tbl c = some f → ∃ (k : Nat) (fa : Addr) (fd : FuncData) (ps : List Str), Cls X.K (L.cl c) ∧ Meth X.K (L.cl c) m fa ∧ FnOk X.prog X.w X.K X.mg X.base (L2.CX X.prog X.w) k fa fd ps (spD L np f) ∧ Room k X.A ∧ Binds X.K fd ps []
def mMeth (np : Nat) (tbl : Nat → Option (List D → M D)) (mo : ME) (ma : MA) : ME := fun ρ => do
  let o ← mo ρ
  match o with
  | .obj c => match tbl c with
    | some f => do
      let ds ← ma ρ
      if (o :: ds).length = np then f (o :: ds) else stuck
    | none => stuck
  | _ => stuck
theorem de_meth {o e : Expr} {es : List Expr} {m : Str} {apos : Pos} {np : Nat} {tbl : Nat → Option (List D → M D)} {mo : ME} {ma : MA} {pl : Sem Bool} (hc : CalM X L m np tbl) (tk : Takes X W) (ho : DE X L W o mo) (ha : DA X L W (e :: es) ma)
    (hst : starEach (e :: es) X.env = (false, eval e X.env) :: starEach es X.env := by rfl) (hpl : (backTo pos (starEach es X.env)).any (·.1) = false := by rfl)
    (ht : eval (.Call (.Attribute o m apos) (e :: es) [] pos) X.env = (do
      let ov ← eval o X.env
      standAt apos.atName
      let (f, first) ← holding [ov] (getMethod ov m pl)
      callWith pos f first (backTo pos (starEach (e :: es) X.env)) (backToKw pos (keywordEach [] X.env))) := by rfl) : DE X L W (.Call (.Attribute o m apos) (e :: es) [] pos) (mMeth np tbl mo ma) := by
  refine ⟨fun pins s σ H Q I ⟨g0, g, t, ρ, os, e, w, fr, po⟩ => ?_⟩
  subst e
  refine PySem.W.methodCall_KW (pl := pl) (thn (ho.run pins s σ _ _ I ⟨g0, g, t, ρ, os, rfl, w, fr, po.bind.imp (K' := valK L (fun v H1 => ∃ g1 t1 c f, g1.H = H1 ∧ Wld L g1 t1 ∧ Frm L g0 g1 ρ os σ ∧ Den L g1 (.obj c) v ∧ tbl c = some f ∧
      Post L W σ g1 (valK L Q) (((ma ρ) >>= fun ds => (if (D.obj c :: ds).length = np then f (D.obj c :: ds) else stuck : M D)) t1))) fun a s1 g1 gr w1 q v dv => ?_⟩) fun u s1 ⟨x, H1, I1, rx, g1, t1, c, f, e1, w1, fr1, dx, et, q⟩ => ?_) ht
  · cases a <;> try exact False.elim q
    rename_i c
    have q : Post L W σ g1 (valK L Q) ((match tbl c with
      | some f => do
        let ds ← ma ρ
        if (D.obj c :: ds).length = np then f (D.obj c :: ds) else stuck
      | none => stuck : M D) s1) := q
    cases et : tbl c with
    | none => rw [et] at q; exact False.elim q
    | some f =>
      rw [et] at q
      exact ⟨g1, s1, c, f, rfl, w1, fr.mono w.apart gr, dv, et, q⟩
  · subst e1
    obtain ⟨a, dxx, rfl, fa, ha'⟩ := den_obj dx
    obtain rfl : u = Value.ref a := rx
    obtain ⟨k, fad, fd, ps, cl, hm, F, hr, hb⟩ := hc c f et
    refine getmeth_ok I1 ha' cl hm rfl ?_
    refine PySem.W.callWith_K (first := [.ref a]) (h₀ := X.base) I.ok.mod.kin hm.kp (thn (ha.run pos pins s1 σ _ (fun vs H2 => ∃ g2 t2 ds, g2.H = H2 ∧ Wld L g2 t2 ∧ Den L g2 (.obj c) (.ref a) ∧ DenL L g2 ds vs ∧
      Post L W σ g2 (valK L Q) ((if (D.obj c :: ds).length = np then f (D.obj c :: ds) else stuck : M D) t2)) I1 ⟨g0, g1, t1, ρ, os, rfl, w1, fr1, q.bind.imp fun ds t2 g2 gr2 w2 q2 vs dv => ?_⟩) fun us s2 ⟨vs, H2, I2, r, g2, t2, ds, e2, w2, d2, dv, q2⟩ => ⟨I2.kIn, ?_⟩) hst hpl
    · exact ⟨g2, t2, ds, rfl, w2, Den.mono w1.apart gr2 _ _ dx, dv, q2⟩
    · subst e2
      by_cases hn : (D.obj c :: ds).length = np
      · rw [if_pos hn] at q2
        exact run_fnSD (us := .ref a :: us) (vs := .ref a :: vs) (dvs := []) (E := WE W) F hr hb .nil (passAt tk σ) I2 (.cons rfl r) (by rw [List.append_nil]; exact ⟨g2, t2, _, rfl, w2, DenL.consI d2 dv, hn, q2.toE⟩)
      · rw [if_neg hn] at q2; exact False.elim q2
theorem de_meth0 {o : Expr} {m : Str} {apos : Pos} {np : Nat} {tbl : Nat → Option (List D → M D)} {mo : ME} {pl : Sem Bool} (hc : CalM X L m np tbl) (tk : Takes X W) (ho : DE X L W o mo)
    (ht : eval (.Call (.Attribute o m apos) [] [] pos) X.env = (do
      let ov ← eval o X.env
      standAt apos.atName
      let (f, first) ← holding [ov] (getMethod ov m pl)
      callWith pos f first (backTo pos (starEach [] X.env)) (backToKw pos (keywordEach [] X.env))) := by rfl) : DE X L W (.Call (.Attribute o m apos) [] [] pos) (mMeth np tbl mo mNil) := by
  refine ⟨fun pins s σ H Q I ⟨g0, g, t, ρ, os, e, w, fr, po⟩ => ?_⟩
  subst e
  refine PySem.W.methodCall_KW (pl := pl) (thn (ho.run pins s σ _ _ I ⟨g0, g, t, ρ, os, rfl, w, fr, po.bind.imp (K' := valK L (fun v H1 => ∃ g1 t1 c f, g1.H = H1 ∧ Wld L g1 t1 ∧ Den L g1 (.obj c) v ∧ tbl c = some f ∧
      Post L W σ g1 (valK L Q) ((if [D.obj c].length = np then f [D.obj c] else stuck : M D) t1))) fun a s1 g1 gr w1 q v dv => ?_⟩) fun u s1 ⟨x, H1, I1, rx, g1, t1, c, f, e1, w1, dx, et, q⟩ => ?_) ht
  · cases a <;> try exact False.elim q
    rename_i c
    have q : Post L W σ g1 (valK L Q) ((match tbl c with
      | some f => do
        let ds ← mNil ρ
        if (D.obj c :: ds).length = np then f (D.obj c :: ds) else stuck
      | none => stuck : M D) s1) := q
    cases et : tbl c with
    | none => rw [et] at q; exact False.elim q
    | some f =>
      rw [et] at q
      exact ⟨g1, s1, c, f, rfl, w1, dv, et, q⟩
  · subst e1
    obtain ⟨a, dxx, rfl, fa, ha'⟩ := den_obj dx
    obtain rfl : u = Value.ref a := rx
    obtain ⟨k, fad, fd, ps, cl, hm, F, hr, hb⟩ := hc c f et
    refine getmeth_ok I1 ha' cl hm rfl ?_
    refine PySem.W.callWith_K0 (first := [.ref a]) I1.kIn hm.kp ?_
    by_cases hn : [D.obj c].length = np
    · rw [if_pos hn] at q
      exact run_fnSD (us := [.ref a]) (vs := [.ref a]) (dvs := []) (E := WE W) F hr hb .nil (passAt tk σ) I1 (.cons rfl .nil) ⟨g1, t1, _, rfl, w1, DenL.consI dx DenL.nilI, hn, q.toE⟩
    · rw [if_neg hn] at q; exact False.elim q

/-! ### C() without __init__ -/
structure Mk0 (K : PySem.W.Frag) (C : Addr) : Prop where
  makes : PySem.W.makesIn K C = true
  init : PySem.W.findIn K (.ref C) "__init__" = some (some (.builtin "object.__init__"))
  top : PySem.W.mroIn K C (.type "object") = some true
  kp : PySem.W.keepIn K (.ref C) = true
theorem run_make0 {C : Addr} {pins : List (Addr × Obj)} {σ : L2.St} {H : Hp} {s : Shared} {Q : VK} (M : Mk0 X.K C) (I : Inv X pins σ H s)
    (h : ∀ x dx, H x = none → H dx = none → dx ≠ x → Q (.ref x) (upd (upd H dx (.own x)) x (.ins C dx []))) : wpAny (model X.prog X.w) X.A (call (.ref C) []) (EP X pins σ Q) X.xe s := by
  have hq := h (s.heap.objs.size + 1) s.heap.objs.size (I.hok.fresh (Nat.le_succ _)) (I.hok.fresh (Nat.le_refl _)) (Nat.ne_of_lt (Nat.lt_succ_self _))
  have I2 := Inv.made (C := C) I
  refine wpAny_call (make_map0 I.kIn M.makes M.init (fun self => PySem.W.Looks.of_pure (PySem.W.oi_bind _)) ?_)
  have X2 : X.K.In ((s.heap.push PySem.W.emptyDict).push (PySem.W.instObj C s.heap.objs.size)) := I2.kIn
  have ho : ((s.heap.push PySem.W.emptyDict).push (PySem.W.instObj C s.heap.objs.size)).get? (s.heap.objs.size + 1) = some (PySem.W.instObj C s.heap.objs.size) := by
    have z := Heap.get?_push_size (s.heap.push PySem.W.emptyDict) (o := PySem.W.instObj C s.heap.objs.size) rfl
    rw [Heap.size_push] at z
    exact z
  have t1 : PySem.W.Looks (model X.prog X.w) ((s.heap.push PySem.W.emptyDict).push (PySem.W.instObj C s.heap.objs.size)) (typeOf (.ref (s.heap.objs.size + 1))) (.ref C) := NwA.type_at ho rfl
  have t2 : PySem.W.Looks (model X.prog X.w) ((s.heap.push PySem.W.emptyDict).push (PySem.W.instObj C s.heap.objs.size)) (isInstance (.ref (s.heap.objs.size + 1)) (.type "object")) true := t1.andThen (PySem.W.looks_mroIn X2 M.top)
  refine PySem.codeAny_call_builtin PySem.W.oi_plain PySem.W.entry_oi (PySem.W.check_slot PySem.W.oi_kind PySem.W.oi_split t2 (NwA.oi_args_any _ _ _) ?_)
  rw [PySem.W.oi_run]
  exact wpAny_pure (And.intro rfl ⟨.ref (s.heap.objs.size + 1), _, I2, rfl, hq⟩)
theorem pe_make00 {C : Addr} {x : Str} {p : Pos} (M : Mk0 X.K C) (hm : X.mg x = some (.ref C)) (hg : Gl X x) (hdb : (x == ("__debug__" : Str)) = false := by decide) :
    PE X (.Call (.Name x p) [] [] pos) (fun _ H Q => ∀ x dx, H x = none → H dx = none → dx ≠ x → Q (.ref x) (upd (upd H dx (.own x)) x (.ins C dx []))) := by
  refine ⟨fun pins s σ H Q I h => ?_⟩
  refine wpAny_Call_Name_kw (ld_glob I hg hm ?_ hdb)
  exact PySem.W.callWith_K0 I.kIn M.kp (run_make0 M I h)
theorem upd2_grow {g : G} {x dx : Addr} {o u : HO} (h1 : g.H x = none) (h2 : g.H dx = none) : Grow g ⟨fun a => g.F a ∨ a = x, g.ι, upd (upd g.H dx o) x u⟩ where
  f := fun _ z => .inl z
  fn := fun a z => by
    rcases z with z | z
    · exact .inl z
    · right; rw [z]; exact h1
  st := ⟨[], by simp, fun _ z => nomatch z⟩
  kp := fun a v e _ => ((upd_ne (ne_of_none e h1)).trans (upd_ne (ne_of_none e h2))).trans e
  dm := fun a v e => ⟨v, ((upd_ne (ne_of_none e h1)).trans (upd_ne (ne_of_none e h2))).trans e⟩
theorem upd2_wld {g : G} {s : Sto} {x dx : Addr} {o u : HO} (w : Wld L g s) (h1 : g.H x = none) (h2 : g.H dx = none) : Wld L ⟨fun a => g.F a ∨ a = x, g.ι, upd (upd g.H dx o) x u⟩ s where
  fd := fun a z => by
    rcases z with z | z
    · obtain ⟨v, e⟩ := w.fd a z
      exact ⟨v, ((upd_ne (ne_of_none e h1)).trans (upd_ne (ne_of_none e h2))).trans e⟩
    · rw [z]; exact ⟨_, upd_same⟩
  nd := w.nd
  dj := fun a z q => by
    rcases q with q | q
    · exact w.dj a z q
    · obtain ⟨v, e⟩ := w.there z
      rw [q, h1] at e; cases e
  ln := w.ln
  ob := fun n v e => by
    obtain ⟨a, ea, q⟩ := w.ob n v e
    obtain ⟨t, et⟩ := q.there
    exact ⟨a, ea, q.mono w.apart (upd2_grow h1 h2) ((upd_ne (ne_of_none et h1)).trans (upd_ne (ne_of_none et h2)))⟩
theorem de_make0 {c : Nat} {x : Str} {p : Pos} (M : Mk0 X.K (L.cl c)) (hm : X.mg x = some (.ref (L.cl c))) (hg : Gl X x := by rfl) (hdb : (x == ("__debug__" : Str)) = false := by decide) : DE X L W (.Call (.Name x p) [] [] pos) (mC (.obj c)) := by
  refine pe_imp (pe_make00 M hm hg hdb) fun σ H Q ⟨g0, g, s, ρ, os, e, w, fr, po⟩ => ?_
  subst e
  intro x dx h1 h2 ne
  refine po _ (upd2_grow h1 h2) (upd2_wld w h1 h2) (.ref x) ?_
  simp only [Den]
  exact ⟨x, dx, rfl, .inr rfl, upd_same⟩
end
end DL
end
section
set_option Elab.async false
set_option linter.all false
set_option maxRecDepth 100000
set_option maxHeartbeats 4000000
/-! DL6: what is walked; targets; comprehensions. -/
namespace DL
open PySem PySem.Spec PyProof.Rows L2
section
variable {X : Cx} {L : Lk} {W : WX} {pos : Pos} {tg : Expr}

/-! ### what is walked -/
theorem pi_imp {iter : Expr} {t t' : TI} (h : PI X tg iter t) (k : ∀ σ H R, t' σ H R → t σ H R) : PI X tg iter t' := ⟨fun pins s σ H R I q => h.run pins s σ H R I (k σ H R q)⟩
/-- a list, a tuple or a text -/
def iSeq (K : PySem.W.Frag) (tl : TE) : TI := fun σ H R => tl σ H fun x H1 =>
  (∃ a xs, x = .ref a ∧ SqL K H1 a xs ∧ R (Itl K a) H1) ∨ (∃ a xs, x = .ref a ∧ SqT K H1 a xs ∧ R (Itt K a) H1) ∨ ∃ z, x = .str z ∧ R (Its z) H1
theorem pi_seq {l : Expr} {tl : TE} (hl : PE X l tl) : PI X tg l (iSeq X.K tl) := by
  refine ⟨fun pins s σ H R I h => ?_⟩
  refine thn (hl.run pins s σ H _ I h) fun v s1 ⟨x, H1, I1, r1, q1⟩ => ?_
  rcases q1 with ⟨a, xs, e, hq, q⟩ | ⟨a, xs, e, hq, q⟩ | ⟨z, e, q⟩
  · subst e
    cases r1
    obtain ⟨its, rv, p, hz⟩ := I1.list hq
    refine wpAny_pyIter_list p.isList ?_
    exact pi_one (tk := s1.toks) I1 _ (turn_list a _) ⟨_, Heap.get?_push_size _ rfl, rfl, rfl⟩ q
  · subst e
    cases r1
    obtain ⟨its, rv, p, hz⟩ := I1.tuple hq
    refine wpAny_pyIter_tuple (show s1.heap.IsTuple a its.toArray from p) ?_
    exact pi_one (tk := s1.toks) I1 _ (turn_tuple a _) ⟨_, Heap.get?_push_size _ rfl, rfl, rfl⟩ q
  · subst e
    obtain ⟨t, rfl⟩ := r1
    cases ha : z.cps.all (· < 128)
    · exact wpAny_pyIter_wide ha (pi_one (tk := s1.toks) I1 _ (turn_str _ z t "str_iterator" (.inr rfl)) ⟨_, Heap.get?_push_size _ rfl, rfl, rfl⟩ q)
    · exact wpAny_pyIter_ascii ha (pi_one (tk := s1.toks) I1 _ (turn_str _ z t "str_ascii_iterator" (.inl rfl)) ⟨_, Heap.get?_push_size _ rfl, rfl, rfl⟩ q)
/-- the iterator gives just these things, in every younger world -/
def IsIt (L : Lk) (g : G) (J : It) (items : List D) : Prop := ∀ g1, Ext g g1 → J.stop items.length g1.H ∧ ∀ i d, items[i]? = some d → J.go i g1.H ∧
  ∀ x H', J.yld i g1.H x H' → ∃ g2, g2.H = H' ∧ Grow g1 g2 ∧ (∀ s, Wld L g1 s → Wld L g2 s) ∧ Den L g2 d x
def rdI (L : Lk) (W : WX) (m : MA) : TI := fun σ H R => ∃ g0 g s ρ os, g.H = H ∧ Wld L g s ∧ Frm L g0 g ρ os σ ∧ Post L W σ g (fun ds _ g' => ∀ J, IsIt L g' J ds → R J g'.H) (m ρ s)
abbrev DI (X : Cx) (L : Lk) (W : WX) (tg iter : Expr) (m : MA) : Prop := PI X tg iter (rdI L W m)
/-- the items of a thing -/
def D.items : D → Option (List D)
  | .tup l => some l
  | .lst l => some l
  | .str l => some (l.map fun c => .str [c])
  | .scr l => some (l.map .int)
  | _ => none
def mItems (m : ME) : MA := fun ρ => do
  let d ← m ρ
  match d.items with
  | some l => pure l
  | none => stuck
theorem isIt_tup {g : G} {a : Addr} {vs : List V} {l : List D} (hK : L.K = X.K) (f : FT L g a vs) (q : DenL L g l vs) : IsIt L g (Itt X.K a) l := by
  intro g1 gr
  have f1 := (f.mono gr).sq
  have q1 := DenL.ext gr _ _ q
  rw [hK] at f1
  refine ⟨⟨vs, f1, Nat.le_of_eq q1.len⟩, fun i d e => ?_⟩
  obtain ⟨v, ev, dv⟩ := q1.get e
  refine ⟨⟨vs, v, f1, ev⟩, fun x H' ⟨e1, hx⟩ => ?_⟩
  refine ⟨g1, e1.symm, Grow.refl _, fun _ z => z, ?_⟩
  have := hx vs f1
  rw [ev] at this
  cases this
  exact dv
theorem isIt_lst {g : G} {a : Addr} {vs : List V} {l : List D} (hK : L.K = X.K) (f : FL L g a vs) (q : DenL L g l vs) : IsIt L g (Itl X.K a) l := by
  intro g1 gr
  have f1 := (f.mono gr).sq
  have q1 := DenL.ext gr _ _ q
  rw [hK] at f1
  refine ⟨⟨vs, f1, Nat.le_of_eq q1.len⟩, fun i d e => ?_⟩
  obtain ⟨v, ev, dv⟩ := q1.get e
  refine ⟨⟨vs, v, f1, ev⟩, fun x H' ⟨e1, hx⟩ => ?_⟩
  refine ⟨g1, e1.symm, Grow.refl _, fun _ z => z, ?_⟩
  have := hx vs f1
  rw [ev] at this
  cases this
  exact dv
theorem isIt_str {g : G} {l : Tx} : IsIt L g (Its (tS l)) (l.map fun c => .str [c]) := by
  intro g1 gr
  refine ⟨by show (tS l).cps.size ≤ _; simp [tS], fun i d e => ?_⟩
  rw [List.getElem?_map] at e
  cases q : l[i]? with
  | none => rw [q] at e; cases e
  | some c =>
    rw [q] at e
    cases e
    have hi := (List.getElem?_eq_some_iff.mp q).1
    refine ⟨by show i < (tS l).cps.size; simpa [tS] using hi, fun x H' ⟨e1, c', hc, hx⟩ => ?_⟩
    refine ⟨g1, e1.symm, Grow.refl _, fun _ z => z, ?_⟩
    have : c' = c := by
      have z : l[i]? = some c' := by simpa [tS] using hc
      rw [q] at z; cases z; rfl
    subst this
    subst hx
    exact str_den
theorem Post.its {σ : L2.St} {g : G} {s : Sto} {R : It → Hp → Prop} {l : List D} (po : Post L W σ g (fun ds _ g' => ∀ J, IsIt L g' J ds → R J g'.H) ((Pure.pure l : M (List D)) s)) (w : Wld L g s) {J : It} (h : IsIt L g J l) : R J g.H := po g (Grow.refl g) w J h
theorem di_seq (hK : L.K = X.K) {e : Expr} {m : ME} (h : DE X L W e m) : DI X L W tg e (mItems m) := by
  refine pi_imp (pi_seq h) fun σ H R ⟨g0, g, s, ρ, os, e, w, fr, po⟩ => ?_
  subst e
  refine ⟨g0, g, s, ρ, os, rfl, w, fr, po.bind.imp fun a s1 g1 gr w1 q v dv => ?_⟩
  cases a with
  | tup l =>
    obtain ⟨p, vs, rfl, f, q'⟩ := den_tup dv
    exact .inr (.inl ⟨p, vs, rfl, hK ▸ f.sq, Post.its (l := l) q w1 (isIt_tup hK f q')⟩)
  | lst l =>
    obtain ⟨p, vs, rfl, f, hp, q'⟩ := den_lst dv
    exact .inl ⟨p, vs, rfl, SqL.of hp, Post.its (l := l) q w1 (isIt_lst hK (.inl ⟨f, .inl hp⟩) q')⟩
  | str l =>
    exact .inr (.inr ⟨tS l, den_str dv, Post.its (l := l.map fun c => D.str [c]) q w1 isIt_str⟩)
  | scr l =>
    obtain ⟨p, rfl, f⟩ := den_scr dv
    exact .inl ⟨p, _, rfl, hK ▸ f.sq, Post.its (l := l.map D.int) q w1 (isIt_lst hK f (denL_ints rfl))⟩
  | _ => exact False.elim q
/-- range -/
def rangeL (lo : Int) (n : Nat) : List D := (List.range n).map fun (i : Nat) => D.int (lo + (i : Int))
def mRange1 (m : ME) : MA := fun ρ => do
  let d ← m ρ
  match d with
  | .int j => gd (-(2 ^ 62) ≤ j ∧ j < 2 ^ 62) (rangeL 0 j.toNat)
  | _ => stuck
def mRange2 (m n : ME) : MA := fun ρ => do
  let d ← m ρ
  let e ← n ρ
  match d, e with
  | .int i, .int j => gd (-(2 ^ 62) ≤ i ∧ i < 2 ^ 62 ∧ -(2 ^ 62) ≤ j ∧ j < 2 ^ 62) (rangeL i (j - i).toNat)
  | _, _ => stuck
theorem isIt_range {g : G} {lo : Int} {n : Nat} : IsIt L g (Itr lo n) (rangeL lo n) := by
  intro g1 gr
  refine ⟨by show n ≤ _; simp [rangeL], fun i d e => ?_⟩
  unfold rangeL at e
  rw [List.getElem?_map] at e
  by_cases hi : i < n
  · rw [List.getElem?_range hi] at e
    cases e
    refine ⟨hi, fun x H' ⟨e1, hx⟩ => ⟨g1, e1.symm, Grow.refl _, fun _ z => z, ?_⟩⟩
    subst hx
    exact int_den
  · rw [List.getElem?_eq_none (by simpa using hi)] at e; cases e
theorem di_range1 {a : Expr} {m : ME} {p : Pos} (hm : X.mg "range" = none) (ha : DE X L W a m) (hg : Gl X "range" := by rfl) (hs : starEach [a] X.env = [(false, eval a X.env)] := by rfl) : DI X L W tg (.Call (.Name "range" p) [a] [] pos) (mRange1 m) := by
  refine pi_imp (pi_range1 hg hm (pa_cons ha pa_nil hs) hs) fun σ H R ⟨g0, g, s, ρ, os, e, w, fr, po⟩ => ?_
  subst e
  refine ⟨g0, g, s, ρ, os, rfl, w, fr, po.bind.imp fun d s1 g1 gr w1 q v dv => ?_⟩
  cases d <;> try exact False.elim q
  obtain ⟨hl, q⟩ := Post.gd q
  rw [den_int dv]
  exact ⟨_, rfl, hl.1, hl.2, Post.its q w1 isIt_range⟩
theorem di_range2 {a b : Expr} {m n : ME} {p : Pos} (hm : X.mg "range" = none) (ha : DE X L W a m) (hb : DE X L W b n) (hg : Gl X "range" := by rfl) (hs : starEach [a, b] X.env = [(false, eval a X.env), (false, eval b X.env)] := by rfl) (hs2 : starEach [b] X.env = [(false, eval b X.env)] := by rfl) : DI X L W tg (.Call (.Name "range" p) [a, b] [] pos) (mRange2 m n) := by
  refine pi_imp (pi_range2 hg hm (pa_cons ha (pa_cons hb pa_nil hs2) (by rw [hs, hs2])) hs hs2) fun σ H R ⟨g0, g, s, ρ, os, e, w, fr, po⟩ => ?_
  subst e
  refine ⟨g0, g, s, ρ, os, rfl, w, fr, po.bind.imp fun d s1 g1 gr w1 q v dv => ?_⟩
  refine ⟨g0, g1, s1, ρ, os, rfl, w1, fr.mono w.apart gr, q.bind.imp fun d2 s2 g2 gr2 w2 q2 u du => ?_⟩
  cases d <;> try exact False.elim q2
  cases d2 <;> try exact False.elim q2
  obtain ⟨hl, q2⟩ := Post.gd q2
  rw [den_int dv, den_int du]
  exact ⟨_, _, rfl, hl, Post.its q2 w2 isIt_range⟩

/-! ### targets -/
theorem Frm.set {g0 g : G} {ρ : Env} {os : Nat → Option Addr} {σ : L2.St} {i : Nat} {d : D} {v : V} (fr : Frm L g0 g ρ os σ) (hi : i < ρ.length) (dv : Den L g d v) : Frm L g0 g (ρ.set i (.val d)) (fun j => if j = i then none else os j) (σ.set i (some v)) where
  ln := by rw [List.length_set, List.length_set]; exact fr.ln
  sl := fun j s e => by
    by_cases h : j = i
    · subst h
      rw [List.getElem?_set_self hi] at e
      cases e
      rw [List.getElem?_set_self (by rw [fr.ln]; exact hi)]
      exact ⟨if_pos rfl, v, rfl, dv⟩
    · rw [List.getElem?_set_ne (Ne.symm h)] at e ⊢
      show SlOk L g0 g (if j = i then none else os j) _ s
      rw [if_neg h]
      exact fr.sl j s e
  hi := fun j h => by
    rw [List.length_set] at h
    show (if j = i then none else os j) = none
    split
    · rfl
    · exact fr.hi j h
  inj := fun j k p e1 e2 => by
    have f1 : (if j = i then none else os j) = some p := e1
    have f2 : (if k = i then none else os k) = some p := e2
    split at f1
    · cases f1
    · split at f2
      · cases f2
      · exact fr.inj j k p f1 f2
abbrev Bnd := D → Env → Option Env
def rdG (L : Lk) (sl : List Nat) (b : Bnd) : TG := fun v σ H Q => ∃ g0 g ρ os d ρ', g.H = H ∧ Frm L g0 g ρ os σ ∧ Den L g d v ∧ b d ρ = some ρ' ∧
  ∀ σ' os', Frm L g0 g ρ' os' σ' → (∀ vs : List Nat, (∀ i ∈ sl, i ∈ vs) → wipe σ' vs = wipe σ vs) → Q σ' H
abbrev DG (X : Cx) (L : Lk) (tg : Expr) (sl : List Nat) (b : Bnd) : Prop := PG X tg (rdG L sl b)
theorem pg_imp {e : Expr} {t t' : TG} (h : PG X e t) (k : ∀ v σ H Q, t' v σ H Q → t v σ H Q) : PG X e t' := ⟨fun pins s σ H v u Q I r q => h.run pins s σ H v u Q I r (k v σ H Q q)⟩
def bName (i : Nat) : Bnd := fun d ρ => if i < ρ.length then some (ρ.set i (.val d)) else none
theorem wipe_set (σ : L2.St) (i : Nat) (o : Option V) : ∀ vs : List Nat, i ∈ vs → wipe (σ.set i o) vs = wipe σ vs
  | [], h => nomatch h
  | v :: vs, h => by
    by_cases e : v = i
    · subst e
      have : ∀ (vs : List Nat), (wipe (σ.set v o) vs).set v none = (wipe σ vs).set v none := fun vs => by
        induction vs with
        | nil => show (σ.set v o).set v none = σ.set v none; rw [List.set_set]
        | cons u us ih =>
          show ((wipe (σ.set v o) us).set u none).set v none = ((wipe σ us).set u none).set v none
          by_cases q : u = v
          · subst q; rw [List.set_set, List.set_set]; exact ih
          · rw [List.set_comm _ _ q, List.set_comm _ _ q, ih]
      exact this vs
    · show (wipe (σ.set i o) vs).set v none = (wipe σ vs).set v none
      rw [wipe_set σ i o vs ((List.mem_cons.mp h).resolve_left fun q => e q.symm)]
theorem wipe_idem (σ : L2.St) (vs : List Nat) : wipe (wipe σ vs) vs = wipe σ vs := by
  have : ∀ (us : List Nat), (∀ u ∈ us, u ∈ vs) → wipe (wipe σ us) vs = wipe σ vs := fun us => by
    induction us with
    | nil => intro _; rfl
    | cons u us ih =>
      intro h
      show wipe ((wipe σ us).set u none) vs = _
      rw [wipe_set _ u none vs (h u (by simp))]
      exact ih fun x hx => h x (List.mem_cons_of_mem _ hx)
  exact this vs fun _ h => h
theorem dg_name {i : Nat} {e : Expr} (h : PG X e (gName i)) : DG X L e [i] (bName i) := by
  refine pg_imp h fun v σ H Q ⟨g0, g, ρ, os, d, ρ', e, fr, dv, eb, k⟩ => ?_
  subst e
  unfold bName at eb
  by_cases hi : i < ρ.length
  · rw [if_pos hi] at eb
    cases eb
    exact k _ _ (fr.set hi dv) fun vs h => wipe_set σ i _ vs (h i (by simp))
  · rw [if_neg hi] at eb; cases eb
/-- (a, b, ..) = a tuple -/
abbrev Bnds := List D → Env → Option Env
def rdGs (L : Lk) (sl : List Nat) (b : Bnds) : TGs := fun vs σ H Q => ∃ g0 g ρ os ds ρ', g.H = H ∧ Frm L g0 g ρ os σ ∧ DenL L g ds vs ∧ b ds ρ = some ρ' ∧
  ∀ σ' os', Frm L g0 g ρ' os' σ' → (∀ vs : List Nat, (∀ i ∈ sl, i ∈ vs) → wipe σ' vs = wipe σ vs) → Q σ' H
abbrev DGs (X : Cx) (L : Lk) (tg : List Expr) (sl : List Nat) (b : Bnds) : Prop := PGs X tg (rdGs L sl b)
theorem pgs_imp {e : List Expr} {t t' : TGs} (h : PGs X e t) (k : ∀ v σ H Q, t' v σ H Q → t v σ H Q) : PGs X e t' := ⟨fun pins s σ H v u Q I r q => h.run pins s σ H v u Q I r (k v σ H Q q)⟩
def bNil : Bnds := fun ds ρ => match ds with
  | [] => some ρ
  | _ => none
def bCons (b : Bnd) (bs : Bnds) : Bnds := fun ds ρ => match ds with
  | d :: r => (b d ρ).bind (bs r)
  | [] => none
def bTup (bs : Bnds) : Bnd := fun d ρ => match d with
  | .tup l => bs l ρ
  | _ => none
theorem dgs_nil : DGs X L [] [] bNil := by
  refine pgs_imp pgs_nil fun v σ H Q ⟨g0, g, ρ, os, ds, ρ', e, fr, dv, eb, k⟩ => ?_
  subst e
  cases ds with
  | nil =>
    simp only [DenL] at dv
    subst dv
    cases eb
    exact ⟨rfl, k σ os fr fun vs _ => rfl⟩
  | cons d r => cases eb
theorem dgs_cons {e : Expr} {es : List Expr} {sl sl' : List Nat} {b : Bnd} {bs : Bnds} (h1 : DG X L e sl b) (h2 : DGs X L es sl' bs) (hs : (assignEach (e :: es) X.env).map (·.2) = assign e X.env :: (assignEach es X.env).map (·.2) := by rfl) : DGs X L (e :: es) (sl ++ sl') (bCons b bs) := by
  refine pgs_imp (pgs_cons h1 h2 hs) fun v σ H Q ⟨g0, g, ρ, os, ds, ρ', e, fr, dv, eb, k⟩ => ?_
  subst e
  cases ds with
  | nil => cases eb
  | cons d r =>
    simp only [DenL] at dv
    obtain ⟨v, us, rfl, p, q⟩ := dv
    have eb : (b d ρ).bind (bs r) = some ρ' := eb
    cases e1 : b d ρ with
    | none => rw [e1] at eb; cases eb
    | some ρ1 =>
      rw [e1] at eb
      have eb : bs r ρ1 = some ρ' := eb
      refine ⟨v, us, rfl, g0, g, ρ, os, d, ρ1, rfl, fr, p, e1, fun σ1 os1 fr1 hw1 => ?_⟩
      refine ⟨g0, g, ρ1, os1, r, ρ', rfl, fr1, q, eb, fun σ2 os2 fr2 hw2 => ?_⟩
      exact k σ2 os2 fr2 fun vs h => (hw2 vs fun i hi => h i (List.mem_append_right _ hi)).trans (hw1 vs fun i hi => h i (List.mem_append_left _ hi))
theorem bs_len : ∀ {es : List Expr} {sl : List Nat} {bs : Bnds}, True := trivial
theorem dg_tup (hK : L.K = X.K) {es : List Expr} {k n : Nat} {sl : List Nat} {bs : Bnds} (hc : X.calm = true) (h : DGs X L es sl bs) (hb : ∀ ds ρ ρ', bs ds ρ = some ρ' → ds.length = n)
    (hn : (assignEach es X.env).length = n := by rfl) (hst : (assignEach es X.env).findIdx? (·.1) = none := by rfl) : DG X L (.Tuple es k pos) sl (bTup bs) := by
  refine pg_imp (pg_tup hc h hn hst) fun v σ H Q ⟨g0, g, ρ, os, d, ρ', e, fr, dv, eb, kk⟩ => ?_
  subst e
  cases d <;> try (cases eb; done)
  rename_i l
  have eb : bs l ρ = some ρ' := eb
  obtain ⟨a, vs, rfl, f, q⟩ := den_tup dv
  exact ⟨a, vs, rfl, hK ▸ f.sq, by rw [q.len]; exact hb _ _ _ eb, g0, g, ρ, os, l, ρ', rfl, fr, q, eb, kk⟩
theorem bNil_len (ds : List D) (ρ ρ' : Env) (h : bNil ds ρ = some ρ') : ds.length = 0 := by
  cases ds with
  | nil => rfl
  | cons d r => cases h
theorem bCons_len {b : Bnd} {bs : Bnds} {n : Nat} (hb : ∀ ds ρ ρ', bs ds ρ = some ρ' → ds.length = n) (ds : List D) (ρ ρ' : Env) (h : bCons b bs ds ρ = some ρ') : ds.length = n + 1 := by
  cases ds with
  | nil => cases h
  | cons d r =>
    have h : (b d ρ).bind (bs r) = some ρ' := h
    cases e1 : b d ρ with
    | none => rw [e1] at h; cases h
    | some ρ1 =>
      rw [e1] at h
      rw [List.length_cons, hb r ρ1 ρ' h]

/-! ### comprehensions -/
/-- no exception -/
def nr {α : Type} (m : M α) : M α := fun s => match m s with
  | .ok a s' => .ok a s'
  | _ => .stuck
theorem Post.nr {α : Type} {W W' : WX} {σ σ' : L2.St} {g : G} {K : α → Sto → G → Prop} {m : M α} {s : Sto} (h : Post L W σ g K (DL.nr m s)) : Post L W' σ' g K (m s) := by
  unfold DL.nr at h
  cases e : m s with
  | ok a s' => rw [e] at h; exact h
  | raise x s' => rw [e] at h; exact False.elim h
  | stuck => rw [e] at h; exact False.elim h
def wipeE (ρ : Env) : List Nat → Env
  | [] => ρ
  | v :: vs => (wipeE ρ vs).set v .no
def compL (b : Bnd) (ρ : Env) (tt : MT) (te : ME) : List D → List D → M (List D)
  | [], acc => pure acc
  | d :: ds, acc => match b d ρ with
    | none => stuck
    | some ρ' => do
      let c ← nr (tt ρ')
      if c then do
        let y ← nr (te ρ')
        if acc.length < sizeLine then compL b ρ tt te ds (acc ++ [y]) else stuck
      else compL b ρ tt te ds acc
def mComp (sl : List Nat) (mi : MA) (b : Bnd) (tt : MT) (te : ME) : ME := fun ρ => do
  let items ← mi ρ
  let l ← compL b (wipeE ρ sl) tt te items []
  pure (.lst l)
def mYes : MT := fun _ => pure true
theorem dt_yes : PTs X [] (rdT L W mYes) := by
  refine ⟨fun pins s σ H Q I ⟨g0, g, t, ρ, os, e, w, fr, po⟩ => ?_⟩
  subst e
  exact pts_nil.run pins s σ _ Q I (Post.bl po w)
/-- at least nothing is known of the wiped slots -/
theorem Frm.wipe {g0 g : G} {ρ : Env} {os : Nat → Option Addr} {σ : L2.St} (fr : Frm L g0 g ρ os σ) : ∀ sl : List Nat, ∃ os', Frm L g0 g (wipeE ρ sl) os' (L2.wipe σ sl) ∧ (∀ i p, os' i = some p → os i = some p)
  | [] => ⟨os, fr, fun _ _ h => h⟩
  | v :: vs => by
    obtain ⟨os', fr', hs⟩ := Frm.wipe fr vs
    refine ⟨fun j => if j = v then none else os' j, ⟨?_, ?_, ?_, ?_⟩, ?_⟩
    · show ((L2.wipe σ vs).set v none).length = ((wipeE ρ vs).set v .no).length
      rw [List.length_set, List.length_set]; exact fr'.ln
    · intro j s e
      have e : ((wipeE ρ vs).set v .no)[j]? = some s := e
      show SlOk L g0 g (if j = v then none else os' j) ((L2.wipe σ vs).set v none)[j]? s
      by_cases h : j = v
      · subst h
        rw [if_pos rfl]
        by_cases hj : j < (wipeE ρ vs).length
        · rw [List.getElem?_set_self hj] at e
          cases e
          rfl
        · rw [List.getElem?_eq_none (by rw [List.length_set]; omega)] at e
          cases e
      · rw [List.getElem?_set_ne (Ne.symm h)] at e ⊢
        rw [if_neg h]
        exact fr'.sl j s e
    · intro j h
      have h : ((wipeE ρ vs).set v .no).length ≤ j := h
      rw [List.length_set] at h
      show (if j = v then none else os' j) = none
      split
      · rfl
      · exact fr'.hi j h
    · intro j k p e1 e2
      have f1 : (if j = v then none else os' j) = some p := e1
      have f2 : (if k = v then none else os' k) = some p := e2
      split at f1
      · cases f1
      · split at f2
        · cases f2
        · exact fr'.inj j k p f1 f2
    · intro i p e
      have f1 : (if i = v then none else os' i) = some p := e
      split at f1
      · cases f1
      · exact hs i p f1
/-- another world for a frame: data stay, owned things stay -/
theorem Frm.ext {g0 g g' : G} {ρ : Env} {os : Nat → Option Addr} {σ : L2.St} (fr : Frm L g0 g ρ os σ) (x : Ext g g') (h : ∀ i p, os i = some p → ¬ g.F p → p ∉ g.ι → (¬ g'.F p ∧ p ∉ g'.ι ∧ ∀ o, g.H p = some o → g'.H p = some o)) : Frm L g0 g' ρ os σ := by
  refine ⟨fr.ln, fun i s e => ?_, fr.hi, fr.inj⟩
  have q := fr.sl i s e
  cases s with
  | no => exact q
  | val d =>
    obtain ⟨e, v, ev, dv⟩ := q
    exact ⟨e, v, ev, Den.ext x _ _ dv⟩
  | own d =>
    obtain ⟨p, e, ev, f0, nf, ni, q⟩ := q
    obtain ⟨h1, h2, h3⟩ := h i p e nf ni
    exact ⟨p, e, ev, f0, h1, h2, q.ext x h3⟩
theorem Frm.there {g0 g : G} {ρ : Env} {os : Nat → Option Addr} {σ : L2.St} (fr : Frm L g0 g ρ os σ) {i : Nat} {p : Addr} (e : os i = some p) : ∃ o, g.H p = some o := by
  by_cases hi : i < ρ.length
  · have q := fr.sl i ρ[i] (List.getElem?_eq_getElem hi)
    cases h : ρ[i] with
    | no => rw [h] at q; have : os i = none := q; rw [this] at e; cases e
    | val d => rw [h] at q; obtain ⟨z, _⟩ := q; rw [z] at e; cases e
    | own d =>
      rw [h] at q
      obtain ⟨p', e', _, _, _, _, q⟩ := q
      rw [e] at e'
      cases e'
      exact q.there
  · rw [fr.hi i (by omega)] at e; cases e
theorem comp_rd {own : List (Str × Nat)} {mi : MA} {b : Bnd} {sl : List Nat} {tt : MT} {te : ME} (hsl : ∀ i ∈ sl, i ∈ own.map (·.2)) {σ : L2.St} {H : Hp} {Q : VK} (h : rdE L W (mComp (own.map (·.2)) mi b tt te) σ H Q) :
    tLc (rdI L W mi) (rdG L sl b) (rdT L (fun _ _ _ _ => False) tt) (rdE L (fun _ _ _ _ => False) te) (own.map (·.2)) σ H Q := by
  obtain ⟨g0, g, s, ρ, os, e, w, fr, po⟩ := h
  subst e
  refine ⟨g0, g, s, ρ, os, rfl, w, fr, po.bind.imp fun items s1 g1 gr w1 q J hJ => ?_⟩
  intro D hD
  have fr1 := fr.mono w.apart gr
  obtain ⟨os', frw, _⟩ := fr1.wipe (own.map (·.2))
  let T : Nat → Hp → Prop := fun i H => ∃ g2 s2 acc, g2.H = H ∧ Grow g1 g2 ∧ Wld L g2 s2 ∧ ¬ g2.F D ∧ D ∉ g2.ι ∧ OwnAt L g2 D (.lst acc) ∧ Frm L g0 g2 (wipeE ρ (own.map (·.2))) os' (L2.wipe σ (own.map (·.2))) ∧
    Post L W σ g1 (valK L Q) ((compL b (wipeE ρ (own.map (·.2))) tt te (items.drop i) acc >>= fun l => pure (.lst l)) s2)
  have stp : ∀ g2 : G, Ext g1 g2 → J.stop items.length g2.H ∧ ∀ i d, items[i]? = some d → J.go i g2.H ∧ ∀ x H', J.yld i g2.H x H' → ∃ g3, g3.H = H' ∧ Grow g2 g3 ∧ (∀ s, Wld L g2 s → Wld L g3 s) ∧ Den L g3 d x := hJ
  refine ⟨fun i m H => T i H ∧ i ≤ items.length ∧ m = items.length - i, ⟨_, ⟨g1.own D (.lst []), s1, [], rfl, own_grow1 hD, ?_, ?_, ?_, ?_, ?_, q⟩, Nat.zero_le _, rfl⟩, fun i m H ⟨⟨g2, s2, acc, e2, gr2, w2, nf, ni, oa, fr2, po2⟩, hi2, em⟩ => ?_⟩
  · exact own_wld w1 (fun f => by obtain ⟨o, e⟩ := w1.fd D f; rw [hD] at e; cases e) (fun f => by obtain ⟨o, e⟩ := w1.there f; rw [hD] at e; cases e)
  · exact fun f => by obtain ⟨o, e⟩ := w1.fd D f; rw [hD] at e; cases e
  · exact fun f => by obtain ⟨o, e⟩ := w1.there f; rw [hD] at e; cases e
  · exact ⟨[], upd_same, DenL.nilI⟩
  · exact frw.mono w1.apart (own_grow1 hD)
  · subst e2
    obtain ⟨s0, sg⟩ := stp g2 (gr2.ext w1.apart)
    by_cases hlt : i < items.length
    · right
      have ed : items[i]? = some items[i] := List.getElem?_eq_getElem hlt
      obtain ⟨go, yl⟩ := sg i _ ed
      have edr : items.drop i = items[i] :: items.drop (i + 1) := List.drop_eq_getElem_cons hlt
      rw [edr] at po2
      refine ⟨go, fun H => T (i + 1) H, fun H' h => ⟨items.length - (i + 1), by omega, h, by omega, rfl⟩, fun x H' hy => ?_⟩
      obtain ⟨g3, e3, gr3, w3, dx⟩ := yl x H' hy
      have w3 := w3 _ w2
      subst e3
      have fr3 := fr2.mono w2.apart gr3
      obtain ⟨nf3, ni3⟩ := own_free gr3 oa.there nf ni
      have oa3 := oa.mono w2.apart gr3 ni
      have po3 : Post L W σ g1 (valK L Q) (((match b items[i] (wipeE ρ (own.map (·.2))) with
        | none => stuck
        | some ρ' => do
          let c ← nr (tt ρ')
          if c then do
            let y ← nr (te ρ')
            if acc.length < sizeLine then compL b (wipeE ρ (own.map (·.2))) tt te (items.drop (i + 1)) (acc ++ [y]) else stuck
          else compL b (wipeE ρ (own.map (·.2))) tt te (items.drop (i + 1)) acc : M (List DL.D)) >>= fun l => pure (.lst l)) s2) := po2
      cases eb : b items[i] (wipeE ρ (own.map (·.2))) with
      | none => rw [eb] at po3; exact False.elim po3
      | some ρ' =>
        rw [eb] at po3
        refine ⟨g0, g3, _, os', items[i], ρ', rfl, fr3, dx, eb, fun σ2 os2 fr4 hw => ⟨(hw _ hsl).trans (wipe_idem _ _), ?_⟩⟩
        have gr13 := gr2.trans gr3
        -- the test
        have q1 := (Post.bind0 (m := nr (tt ρ')) (k := fun c => (if c then do
            let y ← nr (te ρ')
            if acc.length < sizeLine then compL b (wipeE ρ (own.map (·.2))) tt te (items.drop (i + 1)) (acc ++ [y]) else stuck
          else compL b (wipeE ρ (own.map (·.2))) tt te (items.drop (i + 1)) acc : M (List DL.D)) >>= fun l => pure (DL.D.lst l)) (s := s2) (by
            have : ∀ (m : M Bool) (k : Bool → M (List DL.D)) (f : List DL.D → M DL.D), ((m >>= k) >>= f) s2 = (m >>= fun c => k c >>= f) s2 := fun m k f => by
              show M.bind (M.bind m k) f s2 = M.bind m (fun c => M.bind (k c) f) s2
              unfold M.bind
              cases m s2 <;> rfl
            rw [← this]; exact po3))
        refine ⟨g0, g3, s2, ρ', os2, rfl, w3, fr4, ((q1.nr).weak gr13).imp fun c s4 g4 gr4 w4 q4 => ?_⟩
        have fr5 := fr4.mono w3.apart gr4
        obtain ⟨nf4, ni4⟩ := own_free gr4 oa3.there nf3 ni3
        have oa4 := oa3.mono w3.apart gr4 ni3
        have frw4 := fr3.mono w3.apart gr4
        have gr14 := gr13.trans gr4
        cases c with
        | false => exact ⟨g4, s4, acc, rfl, gr14, w4, nf4, ni4, oa4, frw4, q4⟩
        | true =>
          have q5 := (Post.bind0 (m := nr (te ρ')) (k := fun y => ((if acc.length < sizeLine then compL b (wipeE ρ (own.map (·.2))) tt te (items.drop (i + 1)) (acc ++ [y]) else stuck : M (List DL.D)) >>= fun l => pure (DL.D.lst l))) (s := s4) (by
            have : ∀ (m : M DL.D) (k : DL.D → M (List DL.D)) (f : List DL.D → M DL.D), ((m >>= k) >>= f) s4 = (m >>= fun c => k c >>= f) s4 := fun m k f => by
              show M.bind (M.bind m k) f s4 = M.bind m (fun c => M.bind (k c) f) s4
              unfold M.bind
              cases m s4 <;> rfl
            rw [← this]; exact q4))
          show rdE L _ te σ2 g4.H _
          refine ⟨g0, g4, s4, ρ', os2, rfl, w4, fr5, ((q5.nr).weak gr14).imp fun y s6 g6 gr6 w6 q6 v dv => ?_⟩
          obtain ⟨nf6, ni6⟩ := own_free gr6 oa4.there nf4 ni4
          obtain ⟨vs, hv, dvs⟩ := oa4.mono w4.apart gr6 ni4
          by_cases hl : acc.length < sizeLine
          · rw [if_pos hl] at q6
            refine ⟨vs, hv, by rw [dvs.len]; exact hl, g6.own D (.lst (vs ++ [v])), s6, acc ++ [y], rfl, own_grow (gr14.trans gr6) hD, own_wld w6 nf6 ni6, nf6, ni6, ⟨_, upd_same, ?_⟩, ?_, q6⟩
            · exact (DenL.ext (own_ext nf6) _ _ dvs).app (DenL.consI (Den.ext (own_ext nf6) _ _ dv) DenL.nilI)
            · refine (frw4.mono w4.apart gr6).ext (own_ext nf6) fun j p ej n1 n2 => ⟨n1, n2, fun o eo => (upd_ne ?_).trans eo⟩
              rintro rfl
              obtain ⟨o, eo⟩ := frw.there ej
              rw [hD] at eo; cases eo
          · rw [if_neg hl] at q6; exact False.elim q6
    · left
      have ei : i = items.length := by omega
      subst ei
      refine ⟨s0, ?_⟩
      rw [List.drop_length] at po2
      obtain ⟨vs, hv, dvs⟩ := oa
      have po2 : Post L W σ g1 (valK L Q) ((Pure.pure (DL.D.lst acc) : M DL.D) s2) := po2
      refine po2 (g2.frz D) (frz_grow gr2 hD) (frz_wld w2 ⟨_, hv⟩ ni) (.ref D) ?_
      exact lst_den (.inr rfl) hv (DenL.ext frz_ext _ _ dvs)
theorem de_comp {elt iter : Expr} {ifs : List Expr} {scope : Scope} {own : List (Str × Nat)} {mi : MA} {b : Bnd} {sl : List Nat} {tt : MT} {te : ME} (hc : X.calm = true) (hN : X.N.Nodup) (hi : DI X L W tg iter mi) (ok : BlkOk X.N X.env.scope scope own)
    (hsl : ∀ i ∈ sl, i ∈ own.map (·.2))
    (hg : ∀ (s : Shared) (H : Hp) (C : Addr) (cl : List (Str × Addr)) (fp : List Addr), DG (X.blk s H scope (compEnvC scope cl C X.env) fp) L tg sl b)
    (ht : ∀ (s : Shared) (H : Hp) (C : Addr) (cl : List (Str × Addr)) (fp : List Addr), PTs (X.blk s H scope (compEnvC scope cl C X.env) fp) ifs (rdT L (fun _ _ _ _ => False) tt))
    (he : ∀ (s : Shared) (H : Hp) (C : Addr) (cl : List (Str × Addr)) (fp : List Addr), DE (X.blk s H scope (compEnvC scope cl C X.env) fp) L (fun _ _ _ _ => False) elt te)
    (hs : ∀ x, foldedSetIterable iter X.env x = pure x := by intro _; rfl) : DE X L W (.ListComp elt [⟨tg, iter, ifs, 0⟩] scope pos) (mComp (own.map (·.2)) mi b tt te) := by
  exact pe_imp (pe_lc hc hN hi ok hg ht he hs) fun σ H Q h => comp_rd hsl h
end
end DL
end
section
set_option Elab.async false
set_option linter.all false
set_option maxRecDepth 100000
set_option maxHeartbeats 4000000
/-! DL7: statements; a def by its body. -/
namespace DL
open PySem PySem.Spec PyProof.Rows L2

inductive Fl where
  | nx (ρ : Env)
  | rt (d : D)
  | bk (ρ : Env)
  | ct (ρ : Env)
abbrev MS := Env → M Fl
section
variable {X : Cx} {L : Lk} {W : WX} {pos : Pos} {tg : Expr}

def PostS {α : Type} (L : Lk) (W : WX) (g0 g : G) (K : α → Sto → G → Prop) : Res α → Prop
  | .ok a s' => ∀ g', Grow g0 g' → Ext g g' → Wld L g' s' → K a s' g'
  | .raise x s' => ∀ g' c dx σ', Grow g0 g' → Wld L g' s' → XD L g' c dx x → W c dx σ' g'.H
  | .stuck => False
def flK (L : Lk) (g0 : G) (D : Ends) : Fl → Sto → G → Prop
  | .nx ρ', _, g' => ∀ os' σ', Frm L g0 g' ρ' os' σ' → D.nx σ' g'.H
  | .bk ρ', _, g' => ∀ os' σ', Frm L g0 g' ρ' os' σ' → D.bk σ' g'.H
  | .ct ρ', _, g' => ∀ os' σ', Frm L g0 g' ρ' os' σ' → D.ct σ' g'.H
  | .rt d, _, g' => ∀ v, Den L g' d v → D.rt v g'.H
def rdS (L : Lk) (W : WX) (m : MS) : TS := fun D σ H => ∃ g0 g s ρ os, g.H = H ∧ Grow g0 g ∧ Wld L g s ∧ Frm L g0 g ρ os σ ∧ PostS L W g0 g (flK L g0 D) (m ρ s)
abbrev DS (X : Cx) (L : Lk) (W : WX) (e : Stmt) (m : MS) : Prop := PS X e (rdS L W m)
abbrev DSs (X : Cx) (L : Lk) (W : WX) (e : List Stmt) (m : MS) : Prop := PSs X e (rdS L W m)
theorem PostS.imp {α : Type} {g0 g : G} {K K' : α → Sto → G → Prop} {r : Res α} (h : PostS L W g0 g K r) (k : ∀ a s' g', Grow g0 g' → Ext g g' → Wld L g' s' → K a s' g' → K' a s' g') : PostS L W g0 g K' r := by
  cases r with
  | ok a s => exact fun g' q x w => k a s g' q x w (h g' q x w)
  | raise x s => exact h
  | stuck => exact h
theorem PostS.weak {α : Type} {g0 g g1 : G} {K : α → Sto → G → Prop} {r : Res α} (x : Ext g g1) (h : PostS L W g0 g K r) : PostS L W g0 g1 K r := by
  cases r with
  | ok a s => exact fun g' q y w => h g' q (x.trans y) w
  | raise x s => exact h
  | stuck => exact h
/-- a statement's outcome, then more -/
theorem PostS.bind {α β : Type} {g0 g : G} {K : β → Sto → G → Prop} {m : M α} {k : α → M β} {s : Sto} (h : PostS L W g0 g K ((m >>= k) s)) : PostS L W g0 g (fun a s1 g1 => PostS L W g0 g1 K (k a s1)) (m s) := by
  have e : (m >>= k) s = M.bind m k s := rfl
  rw [e] at h
  unfold M.bind at h
  cases q : m s with
  | ok a s1 => rw [q] at h; exact fun _ _ x _ => h.weak x
  | raise x s1 => rw [q] at h; exact h
  | stuck => rw [q] at h; exact h
/-- an expression's outcome, then a statement's -/
theorem PostS.bindE {α β : Type} {g0 g : G} {K : β → Sto → G → Prop} {m : M α} {k : α → M β} {s : Sto} {σ : L2.St} (w0 : Apart g) (gr0 : Grow g0 g) (h : PostS L W g0 g K ((m >>= k) s)) :
    Post L W σ g (fun a s1 g1 => Grow g0 g1 ∧ PostS L W g0 g1 K (k a s1)) (m s) := by
  have e : (m >>= k) s = M.bind m k s := rfl
  rw [e] at h
  unfold M.bind at h
  cases q : m s with
  | ok a s1 => rw [q] at h; exact fun g' gr w => ⟨gr0.trans gr, h.weak (gr.ext w0)⟩
  | raise x s1 => rw [q] at h; exact fun g' c dx gr w xd => h g' c dx σ (gr0.trans gr) w xd
  | stuck => rw [q] at h; exact h

/-! ### blocks -/
def mNop : MS := fun ρ => pure (.nx ρ)
def mSeq (a b : MS) : MS := fun ρ => do
  let f ← a ρ
  match f with
  | .nx ρ' => b ρ'
  | f => pure f
theorem PostS.val {α : Type} {g0 g : G} {K : α → Sto → G → Prop} {a : α} {s : Sto} (h : PostS L W g0 g K ((Pure.pure a : M α) s)) (gr : Grow g0 g) (w : Wld L g s) : K a s g := h g gr (Ext.refl g) w
theorem dss_nil : DSs X L W [] mNop := by
  refine pss_imp pss_nil fun D σ H ⟨g0, g, s, ρ, os, e, gr, w, fr, po⟩ => ?_
  subst e
  exact PostS.val (a := Fl.nx ρ) po gr w os σ fr
theorem dss_cons {st : Stmt} {rest : List Stmt} {a b : MS} (h1 : DS X L W st a) (h2 : DSs X L W rest b) : DSs X L W (st :: rest) (mSeq a b) := by
  refine pss_imp (pss_cons h1 h2) fun D σ H ⟨g0, g, s, ρ, os, e, gr, w, fr, po⟩ => ?_
  subst e
  refine ⟨g0, g, s, ρ, os, rfl, gr, w, fr, po.bind.imp fun f s1 g1 gr1 x1 w1 q => ?_⟩
  cases f with
  | nx ρ' => exact fun os' σ' fr' => ⟨g0, g1, s1, ρ', os', rfl, gr1, w1, fr', q⟩
  | rt d =>
    have q : PostS L W g0 g1 (flK L g0 D) ((pure (Fl.rt d) : M Fl) s1) := q
    exact q g1 gr1 (Ext.refl g1) w1
  | bk ρ' =>
    have q : PostS L W g0 g1 (flK L g0 D) ((pure (Fl.bk ρ') : M Fl) s1) := q
    exact q g1 gr1 (Ext.refl g1) w1
  | ct ρ' =>
    have q : PostS L W g0 g1 (flK L g0 D) ((pure (Fl.ct ρ') : M Fl) s1) := q
    exact q g1 gr1 (Ext.refl g1) w1
theorem dss_one {st : Stmt} {a : MS} (h1 : DS X L W st a) : DSs X L W [st] a := by
  refine pss_imp (pss_one h1) fun D σ H h => h
def mIf (c : MT) (a b : MS) : MS := fun ρ => do
  let k ← c ρ
  if k then a ρ else b ρ
theorem ds_if {c : Expr} {p q : List Stmt} {mc : MT} {a b : MS} (hc : DT X L W c mc) (ha : DSs X L W p a) (hb : DSs X L W q b) : DS X L W (.If c p q pos) (mIf mc a b) := by
  refine ps_imp (ps_if hc ha hb) fun D σ H ⟨g0, g, s, ρ, os, e, gr, w, fr, po⟩ => ?_
  subst e
  refine ⟨g0, g, s, ρ, os, rfl, w, fr, (po.bindE w.apart gr).imp fun k s1 g1 gr1 w1 ⟨gr01, q⟩ => ?_⟩
  cases k with
  | true => exact ⟨g0, g1, s1, ρ, os, rfl, gr01, w1, fr.mono w.apart gr1, q⟩
  | false => exact ⟨g0, g1, s1, ρ, os, rfl, gr01, w1, fr.mono w.apart gr1, q⟩
def mRet (m : ME) : MS := fun ρ => do
  let d ← m ρ
  pure (.rt d)
theorem ds_ret {e : Expr} {m : ME} (h : DE X L W e m) : DS X L W (.Return (some e) pos) (mRet m) := by
  refine ps_imp (ps_ret h) fun D σ H ⟨g0, g, s, ρ, os, e, gr, w, fr, po⟩ => ?_
  subst e
  exact ⟨g0, g, s, ρ, os, rfl, w, fr, (po.bindE w.apart gr).imp fun d s1 g1 gr1 w1 ⟨gr01, q⟩ v dv => PostS.val (a := Fl.rt d) q gr01 w1 v dv⟩
def mRetN : MS := fun _ => pure (.rt .non)
theorem ds_retN : DS X L W (.Return none pos) mRetN := by
  refine ps_imp ps_retN fun D σ H ⟨g0, g, s, ρ, os, e, gr, w, fr, po⟩ => ?_
  subst e
  exact PostS.val (a := Fl.rt .non) po gr w .non non_den
theorem ds_pass : DS X L W (.Pass pos) mNop := by
  refine ps_imp ps_pass fun D σ H ⟨g0, g, s, ρ, os, e, gr, w, fr, po⟩ => ?_
  subst e
  exact PostS.val (a := Fl.nx ρ) po gr w os σ fr
theorem ds_doc {x j pos'} : DS X L W (.Expr (.Constant (.str x) j pos') pos) mNop := by
  refine ps_imp ps_doc fun D σ H ⟨g0, g, s, ρ, os, e, gr, w, fr, po⟩ => ?_
  subst e
  exact PostS.val (a := Fl.nx ρ) po gr w os σ fr
def mDrop (m : ME) : MS := fun ρ => do
  let _ ← m ρ
  pure (.nx ρ)
theorem ds_expr {e : Expr} {m : ME} (h : DE X L W e m) (hs : swapsWith e none pos.line X.env = pure false := by rfl) : DS X L W (.Expr e pos) (mDrop m) := by
  refine ps_imp (ps_expr h hs) fun D σ H ⟨g0, g, s, ρ, os, e, gr, w, fr, po⟩ => ?_
  subst e
  exact ⟨g0, g, s, ρ, os, rfl, w, fr, (po.bindE w.apart gr).imp fun d s1 g1 gr1 w1 ⟨gr01, q⟩ v dv => PostS.val (a := Fl.nx ρ) q gr01 w1 os σ (fr.mono w.apart gr1)⟩

/-! ### stores to names -/
def mSet (i : Nat) (m : ME) : MS := fun ρ => do
  let d ← m ρ
  gd (i < ρ.length) (.nx (ρ.set i (.val d)))
theorem rd_set {i : Nat} {m : ME} {D : Ends} {σ : L2.St} {H : Hp} (h : rdS L W (mSet i m) D σ H) : rdE L W m σ H fun x H1 => D.nx (σ.set i (some x)) H1 := by
  obtain ⟨g0, g, s, ρ, os, e, gr, w, fr, po⟩ := h
  subst e
  refine ⟨g0, g, s, ρ, os, rfl, w, fr, (po.bindE w.apart gr).imp fun d s1 g1 gr1 w1 ⟨gr01, q⟩ v dv => ?_⟩
  by_cases hi : i < ρ.length
  · have q : PostS L W g0 g1 (flK L g0 D) ((if i < ρ.length then pure (Fl.nx (ρ.set i (.val d))) else stuck : M Fl) s1) := q
    rw [if_pos hi] at q
    exact PostS.val (a := Fl.nx (ρ.set i (.val d))) q gr01 w1 _ _ ((fr.mono w.apart gr1).set hi dv)
  · have q : PostS L W g0 g1 (flK L g0 D) ((if i < ρ.length then pure (Fl.nx (ρ.set i (.val d))) else stuck : M Fl) s1) := q
    rw [if_neg hi] at q; exact False.elim q
theorem ds_set {i : Nat} {x : Str} {e : Expr} {m : ME} {pos' : Pos} (hN : X.N.Nodup) (hi : X.N[i]? = some x) (hx : Loc X.env.scope x) (he : DE X L W e m) (hs : swapsWith e (some (.Name x pos')) pos.line X.env = pure false := by rfl) (hf : X.fn x = true ∨ X.env.scope.names.lookup x = some .local := by first | exact .inl rfl | exact .inr rfl | assumption) :
    DS X L W (.Assign [.Name x pos'] e pos) (mSet i m) := by
  refine ps_imp (ps_set hN hi hx he hs hf) fun D σ H h => rd_set h
/-- name = [..], on one line -/
theorem ds_setLc {i : Nat} {y : Str} {py : Pos} {elt iter : Expr} {ifs : List Expr} {scope : Scope} {own : List (Str × Nat)} {lpos spos : Pos} {mi : MA} {b : Bnd} {sl : List Nat} {tt : MT} {te : ME} (hc : X.calm = true) (hN : X.N.Nodup) (hy : X.N[i]? = some y) (hyl : X.env.scope.names.lookup y = some .local)
    (hsw : swapsWith (.ListComp elt [⟨tg, iter, ifs, 0⟩] scope lpos) (some (.Name y py)) spos.line X.env = pure true) (hi : DI X L W tg iter mi) (ok : BlkOk X.N X.env.scope scope own) (hsl : ∀ i ∈ sl, i ∈ own.map (·.2))
    (hg : ∀ (s : Shared) (H : Hp) (C : Addr) (cl : List (Str × Addr)) (fp : List Addr), DG (X.blk s H scope (compEnvC scope cl C X.env) fp) L tg sl b)
    (ht : ∀ (s : Shared) (H : Hp) (C : Addr) (cl : List (Str × Addr)) (fp : List Addr), PTs (X.blk s H scope (compEnvC scope cl C X.env) fp) ifs (rdT L (fun _ _ _ _ => False) tt))
    (he : ∀ (s : Shared) (H : Hp) (C : Addr) (cl : List (Str × Addr)) (fp : List Addr), DE (X.blk s H scope (compEnvC scope cl C X.env) fp) L (fun _ _ _ _ => False) elt te)
    (hs : ∀ x, foldedSetIterable iter X.env x = pure x := by intro _; rfl) : DS X L W (.Assign [.Name y py] (.ListComp elt [⟨tg, iter, ifs, 0⟩] scope lpos) spos) (mSet i (mComp (own.map (·.2)) mi b tt te)) := by
  refine ps_imp (ps_setLc hc hN hy hyl hsw hi ok hg ht he hs) fun D σ H h => comp_rd hsl (rd_set h)
/-- target = e -/
def mAsg (b : Bnd) (m : ME) : MS := fun ρ => do
  let d ← m ρ
  match b d ρ with
  | some ρ' => pure (.nx ρ')
  | none => stuck
theorem ds_asg {e : Expr} {m : ME} {b : Bnd} {sl : List Nat} (he : DE X L W e m) (hg : DG X L tg sl b) (hs : swapsWithSole [tg] e pos.line X.env = pure false := by rfl) (hw : swappedStores [tg] e X.env = pure none := by rfl)
    (h1 : (assignEach [tg] X.env).map (·.2) = [assign tg X.env] := by rfl) : DS X L W (.Assign [tg] e pos) (mAsg b m) := by
  refine ps_imp (ps_asg he hg hs hw h1) fun D σ H ⟨g0, g, s, ρ, os, e, gr, w, fr, po⟩ => ?_
  subst e
  refine ⟨g0, g, s, ρ, os, rfl, w, fr, (po.bindE w.apart gr).imp fun d s1 g1 gr1 w1 ⟨gr01, q⟩ v dv => ?_⟩
  cases eb : b d ρ with
  | none =>
    have q : PostS L W g0 g1 (flK L g0 D) ((match b d ρ with | some ρ' => pure (Fl.nx ρ') | none => stuck : M Fl) s1) := q
    rw [eb] at q; exact False.elim q
  | some ρ' =>
    have q : PostS L W g0 g1 (flK L g0 D) ((match b d ρ with | some ρ' => pure (Fl.nx ρ') | none => stuck : M Fl) s1) := q
    rw [eb] at q
    exact ⟨g0, g1, ρ, os, d, ρ', rfl, fr.mono w.apart gr1, dv, eb, fun σ' os' fr' _ => PostS.val (a := Fl.nx ρ') q gr01 w1 os' σ' fr'⟩
/-- name op= e, of ints -/
def mAug (i : Nat) (f : D → D → M D) (m : ME) : MS := fun ρ => match ρ[i]? with
  | some (.val a) => do
    let d ← m ρ
    let z ← f a d
    gd (i < ρ.length) (.nx (ρ.set i (.val z)))
  | _ => stuck

/-! ### owned lists and dicts -/
/-- an expression whose value is a new list or dict -/
def frK (L : Lk) (Q : VK) : D → Sto → G → Prop := fun d _ g => ∀ p o, g.H p = none → OwnAt L (g.own p o) p d → Q (.ref p) (upd g.H p o)
def rdF (L : Lk) (W : WX) (m : ME) : TE := fun σ H Q => ∃ g0 g s ρ os, g.H = H ∧ Wld L g s ∧ Frm L g0 g ρ os σ ∧ Post L W σ g (frK L Q) (m ρ s)
abbrev DF (X : Cx) (L : Lk) (W : WX) (e : Expr) (m : ME) : Prop := PE X e (rdF L W m)
theorem df_lst {es : List Expr} {ma : MA} (h : DA X L W es ma) : DF X L W (.List es pos) (mLst ma) := by
  refine pe_imp (pe_lst h) fun σ H Q ⟨g0, g, s, ρ, os, e, w, fr, po⟩ => ?_
  subst e
  refine ⟨g0, g, s, ρ, os, rfl, w, fr, po.bind.imp fun a s1 g1 gr w1 q vs dv => ?_⟩
  obtain ⟨hl, q⟩ := Post.gd q
  refine ⟨by rw [dv.len]; exact hl, fun p hp => q g1 (Grow.refl _) w1 p _ hp ⟨vs, upd_same, DenL.ext (own_ext fun f => ?_) _ _ dv⟩⟩
  obtain ⟨o, e⟩ := w1.fd p f
  rw [hp] at e; cases e
theorem Frm.setOwn {g0 g : G} {ρ : Env} {os : Nat → Option Addr} {σ : L2.St} {i : Nat} {d : D} {p : Addr} (fr : Frm L g0 g ρ os σ) (hi : i < ρ.length) (hp : ∀ j, os j = some p → j = i) (h0 : g0.H p = none) (nf : ¬ g.F p) (ni : p ∉ g.ι) (o : OwnAt L g p d) :
    Frm L g0 g (ρ.set i (.own d)) (fun j => if j = i then some p else os j) (σ.set i (some (.ref p))) where
  ln := by rw [List.length_set, List.length_set]; exact fr.ln
  sl := fun j s e => by
    by_cases h : j = i
    · subst h
      rw [List.getElem?_set_self hi] at e
      cases e
      rw [List.getElem?_set_self (by rw [fr.ln]; exact hi)]
      exact ⟨p, if_pos rfl, rfl, h0, nf, ni, o⟩
    · rw [List.getElem?_set_ne (Ne.symm h)] at e ⊢
      show SlOk L g0 g (if j = i then some p else os j) _ s
      rw [if_neg h]
      exact fr.sl j s e
  hi := fun j h => by
    rw [List.length_set] at h
    show (if j = i then some p else os j) = none
    rw [if_neg (by omega)]
    exact fr.hi j h
  inj := fun j k q e1 e2 => by
    have f1 : (if j = i then some p else os j) = some q := e1
    have f2 : (if k = i then some p else os k) = some q := e2
    by_cases hj : j = i
    · rw [if_pos hj] at f1
      cases f1
      by_cases hk : k = i
      · exact hj.trans hk.symm
      · rw [if_neg hk] at f2
        exact hj.trans (hp k f2).symm
    · rw [if_neg hj] at f1
      by_cases hk : k = i
      · rw [if_pos hk] at f2
        cases f2
        exact (hp j f1).trans hk.symm
      · rw [if_neg hk] at f2
        exact fr.inj j k q f1 f2
def mSetOwn (i : Nat) (m : ME) : MS := fun ρ => do
  let d ← m ρ
  gd (i < ρ.length) (.nx (ρ.set i (.own d)))
theorem rd_setOwn {i : Nat} {m : ME} {D : Ends} {σ : L2.St} {H : Hp} (h : rdS L W (mSetOwn i m) D σ H) : rdF L W m σ H fun x H1 => D.nx (σ.set i (some x)) H1 := by
  obtain ⟨g0, g, s, ρ, os, e, gr, w, fr, po⟩ := h
  subst e
  refine ⟨g0, g, s, ρ, os, rfl, w, fr, (po.bindE w.apart gr).imp fun d s1 g1 gr1 w1 ⟨gr01, q⟩ p o hp ho => ?_⟩
  have q : PostS L W g0 g1 (flK L g0 D) ((if i < ρ.length then pure (Fl.nx (ρ.set i (.own d))) else stuck : M Fl) s1) := q
  by_cases hi : i < ρ.length
  · rw [if_pos hi] at q
    have fr1 := fr.mono w.apart gr1
    have nf : ¬ g1.F p := fun f => by obtain ⟨o, e⟩ := w1.fd p f; rw [hp] at e; cases e
    have ni : p ∉ g1.ι := fun f => by obtain ⟨o, e⟩ := w1.there f; rw [hp] at e; cases e
    have h0 : g0.H p = none := by
      cases e : g0.H p with
      | none => rfl
      | some u => obtain ⟨u', e'⟩ := gr01.dm p u e; rw [hp] at e'; cases e'
    have no : ∀ j, os j = some p → j = i := fun j ej => by
      obtain ⟨u, e⟩ := fr1.there ej
      rw [hp] at e; cases e
    have fr2 : Frm L g0 (g1.own p o) ρ os σ := fr1.ext (own_ext nf) fun j q ej n1 n2 => ⟨n1, n2, fun u eu => (upd_ne fun z => by
      obtain ⟨u, e⟩ := fr1.there ej
      rw [z, hp] at e; cases e).trans eu⟩
    exact q _ (own_grow gr01 h0) (own_ext nf) (own_wld w1 nf ni) _ _ (fr2.setOwn hi no h0 nf ni ho)
  · rw [if_neg hi] at q; exact False.elim q
theorem ds_setOwn {i : Nat} {x : Str} {e : Expr} {m : ME} {pos' : Pos} (hN : X.N.Nodup) (hi : X.N[i]? = some x) (hx : Loc X.env.scope x) (he : DF X L W e m) (hs : swapsWith e (some (.Name x pos')) pos.line X.env = pure false := by rfl) (hf : X.fn x = true ∨ X.env.scope.names.lookup x = some .local := by first | exact .inl rfl | exact .inr rfl | assumption) :
    DS X L W (.Assign [.Name x pos'] e pos) (mSetOwn i m) := by
  refine ps_imp (ps_set hN hi hx he hs hf) fun D σ H h => rd_setOwn h
/-- name.append(e) of an owned list -/
def mApp (i : Nat) (m : ME) : MS := fun ρ => match ρ[i]? with
  | some (.own (.lst l)) => do
    let d ← m ρ
    gd (l.length < sizeLine) (.nx (ρ.set i (.own (.lst (l ++ [d])))))
  | _ => stuck
theorem PostS.gd {α : Type} {g0 g : G} {K : α → Sto → G → Prop} {c : Prop} [Decidable c] {d : α} {s : Sto} (po : PostS L W g0 g K (DL.gd c d s)) : c ∧ PostS L W g0 g K ((Pure.pure d : M α) s) := by
  unfold DL.gd at po
  by_cases h : c
  · rw [if_pos h] at po; exact ⟨h, po⟩
  · rw [if_neg h] at po; exact False.elim po
/-- an owned list is written anew -/
theorem Frm.write {g0 g : G} {ρ : Env} {os : Nat → Option Addr} {σ : L2.St} {i : Nat} {p : Addr} {o : HO} {d : D} (fr : Frm L g0 g ρ os σ) (hi : i < ρ.length) (ep : os i = some p) (e0 : σ[i]? = some (some (.ref p))) (h0 : g0.H p = none) (nf : ¬ g.F p) (ni : p ∉ g.ι)
    (o' : OwnAt L (g.own p o) p d) : Frm L g0 (g.own p o) (ρ.set i (.own d)) os σ := by
  refine ⟨by rw [List.length_set]; exact fr.ln, fun j s e => ?_, fun j h => fr.hi j (by rw [List.length_set] at h; exact h), fr.inj⟩
  by_cases h : j = i
  · subst h
    rw [List.getElem?_set_self hi] at e
    cases e
    exact ⟨p, ep, e0, h0, nf, ni, o'⟩
  · rw [List.getElem?_set_ne (Ne.symm h)] at e
    have q := fr.sl j s e
    cases s with
    | no => exact q
    | val d =>
      obtain ⟨e1, v, ev, dv⟩ := q
      exact ⟨e1, v, ev, Den.ext (own_ext nf) _ _ dv⟩
    | own d =>
      obtain ⟨p', e1, e2, f0, n1, n2, q⟩ := q
      exact ⟨p', e1, e2, f0, n1, n2, q.ext (own_ext nf) fun u eu => (upd_ne fun z => h (fr.inj j i p' e1 (by rw [z]; exact ep))).trans eu⟩
theorem ds_app {i : Nat} {x : Str} {e : Expr} {m : ME} {xp apos cpos : Pos} (hx : PE X (.Name x xp) (tVar i)) (he : DE X L W e m)
    (hbase : attributeBase (.Name x xp) "append" X.env (eval (.Name x xp) X.env) = eval (.Name x xp) X.env := by rfl)
    (hfew : ((backTo cpos (starEach [e] X.env)).all (fun x => !x.1) && (backToKw cpos (keywordEach [] X.env)).all (fun x => x.1.isSome)
      && decide ([e].length + ([] : List Keyword).length + (if ([] : List Keyword).isEmpty then 0 else 1) < 30)) = true := by rfl)
    (hline : (apos.endLine == cpos.line) = true := by rfl) (hs1 : starEach [e] X.env = (false, eval e X.env) :: starEach [] X.env := by rfl) (hplain : (backTo cpos (starEach [] X.env)).any (·.1) = false := by rfl)
    (hs : swapsWith (.Call (.Attribute (.Name x xp) "append" apos) [e] [] cpos) none pos.line X.env = pure false := by rfl) : DS X L W (.Expr (.Call (.Attribute (.Name x xp) "append" apos) [e] [] cpos) pos) (mApp i m) := by
  refine ps_imp (ps_expr (pe_bm PySem.F.plainAttrs_list PySem.F.slot_list_append PySem.F.type_list_append mt_append hx (pa_cons he pa_nil hs1) hbase hfew hline hs1 hplain) hs) fun D σ H ⟨g0, g, s, ρ, os, e, gr, w, fr, po⟩ => ?_
  subst e
  have pos1 : ∃ l, ρ[i]? = some (.own (.lst l)) ∧ PostS L W g0 g (flK L g0 D) (((m ρ) >>= fun d => gd (l.length < sizeLine) (Fl.nx (ρ.set i (.own (.lst (l ++ [d]))))) : M Fl) s) := by
    unfold mApp at po
    cases q : ρ[i]? with
    | none => rw [q] at po; exact False.elim po
    | some sl =>
      rw [q] at po
      cases sl with
      | no => exact False.elim po
      | val d => exact False.elim po
      | own d' =>
        cases d' <;> try exact False.elim po
        exact ⟨_, rfl, po⟩
  obtain ⟨l, el, po⟩ := pos1
  obtain ⟨p, ep, e0, h0, nf, ni, vs, hv, dvs⟩ := fr.sl i _ el
  refine ⟨.ref p, e0, .inl ⟨rfl, vs, SqL.of hv⟩, ?_⟩
  refine ⟨g0, g, s, ρ, os, rfl, w, fr, (po.bindE w.apart gr).imp fun d s1 g1 gr1 w1 ⟨gr01, q⟩ v dv => ?_⟩
  obtain ⟨hl, q⟩ := PostS.gd q
  have hv1 := gr1.kp p _ hv ni
  obtain ⟨nf1, ni1⟩ := own_free gr1 ⟨_, hv⟩ nf ni
  have dvs1 := DenL.mono w.apart gr1 _ _ dvs
  refine ⟨p, vs, v, rfl, rfl, hv1, by rw [dvs.len]; exact hl, ?_⟩
  have hi : i < ρ.length := (List.getElem?_eq_some_iff.mp el).1
  refine q _ (own_grow gr01 h0) (own_ext nf1) (own_wld w1 nf1 ni1) os σ ((fr.mono w.apart gr1).write hi ep e0 h0 nf1 ni1 ⟨vs ++ [v], upd_same, ?_⟩)
  exact (DenL.ext (own_ext nf1) _ _ dvs1).app (DenL.consI (Den.ext (own_ext nf1) _ _ dv) DenL.nilI)
/-- an owned thing is frozen: nothing is done -/
def mFrz (i : Nat) (m : MS) : MS := fun ρ => match ρ[i]? with
  | some (.own d) => m (ρ.set i (.val d))
  | _ => m ρ
theorem OwnAt.den {g : G} {p : Addr} {d : D} (h : OwnAt L g p d) (nf : ¬ g.F p) : Den L (g.frz p) d (.ref p) := by
  cases d <;> simp only [OwnAt] at h
  · obtain ⟨vs, e, q⟩ := h
    exact lst_den (.inr rfl) e (DenL.ext frz_ext _ _ q)
  · obtain ⟨vs, e, q⟩ := h
    simp only [Den]
    exact ⟨p, vs, rfl, .inr rfl, e, DenK.ext frz_ext _ _ q⟩
theorem rd_frz {i : Nat} {m : MS} {D : Ends} {σ : L2.St} {H : Hp} (h : rdS L W (mFrz i m) D σ H) : rdS L W m D σ H := by
  obtain ⟨g0, g, s, ρ, os, e, gr, w, fr, po⟩ := h
  subst e
  unfold mFrz at po
  cases q : ρ[i]? with
  | none => rw [q] at po; exact ⟨g0, g, s, ρ, os, rfl, gr, w, fr, po⟩
  | some sl =>
    rw [q] at po
    cases sl with
    | no => exact ⟨g0, g, s, ρ, os, rfl, gr, w, fr, po⟩
    | val d => exact ⟨g0, g, s, ρ, os, rfl, gr, w, fr, po⟩
    | own d =>
      obtain ⟨p, ep, e0, h0, nf, ni, o⟩ := fr.sl i _ q
      have hi : i < ρ.length := (List.getElem?_eq_some_iff.mp q).1
      have dn := o.den nf
      refine ⟨g0, g.frz p, s, ρ.set i (.val d), fun j => if j = i then none else os j, rfl, frz_grow gr h0, frz_wld w o.there ni, ?_, po.weak frz_ext⟩
      have fr2 : Frm L g0 (g.frz p) (ρ.set i .no) (fun j => if j = i then none else os j) σ := by
        refine ⟨by rw [List.length_set]; exact fr.ln, fun j t e => ?_, fun j h => ?_, fun j k z e1 e2 => ?_⟩
        · show SlOk L g0 (g.frz p) (if j = i then none else os j) _ t
          by_cases h : j = i
          · subst h
            rw [List.getElem?_set_self hi] at e
            cases e
            exact if_pos rfl
          · rw [List.getElem?_set_ne (Ne.symm h)] at e
            rw [if_neg h]
            have z := fr.sl j t e
            cases t with
            | no => exact z
            | val d =>
              obtain ⟨e1, v, ev, dv⟩ := z
              exact ⟨e1, v, ev, Den.ext frz_ext _ _ dv⟩
            | own d =>
              obtain ⟨p', e1, e2, f0, n1, n2, z⟩ := z
              refine ⟨p', e1, e2, f0, fun f => ?_, n2, z.ext frz_ext fun _ e => e⟩
              rcases f with f | f
              · exact n1 f
              · exact h (fr.inj j i p' e1 (f ▸ ep))
        · rw [List.length_set] at h
          show (if j = i then none else os j) = none
          split
          · rfl
          · exact fr.hi j h
        · have f1 : (if j = i then none else os j) = some z := e1
          have f2 : (if k = i then none else os k) = some z := e2
          split at f1
          · cases f1
          · split at f2
            · cases f2
            · exact fr.inj j k z f1 f2
      have fr3 := fr2.set (i := i) (by rw [List.length_set]; exact hi) dn
      have e1 : (ρ.set i Sl.no).set i (.val d) = ρ.set i (.val d) := List.set_set ..
      have e2 : σ.set i (some (.ref p)) = σ := by
        apply List.ext_getElem?
        intro j
        by_cases h : j = i
        · subst h
          rw [List.getElem?_set_self (by rw [fr.ln]; exact hi), e0]
        · rw [List.getElem?_set_ne (Ne.symm h)]
      have e3 : (fun j => if j = i then none else if j = i then none else os j) = fun j => if j = i then none else os j := by
        funext j; split <;> rfl
      rw [e1, e2] at fr3
      exact e3 ▸ fr3
theorem dss_frz {st : List Stmt} {m : MS} (i : Nat) (h : DSs X L W st m) : DSs X L W st (mFrz i m) := pss_imp h fun D σ H q => rd_frz q
theorem ds_frz {st : Stmt} {m : MS} (i : Nat) (h : DS X L W st m) : DS X L W st (mFrz i m) := ps_imp h fun D σ H q => rd_frz q

/-! ### raise -/
/-- a class of exceptions without own __init__ -/
structure XCls (X : Cx) (L : Lk) (x : Str) (c : Nat) : Prop where
  gC : X.mg x = some (.ref (L.cl c))
  q : PySem.W.excIn X.K (L.cl c) [.type "ValueError", .type "Exception", .type "BaseException", .type "object"] "ValueError.__new__" = true
  kC : PySem.W.keepIn X.K (.ref (L.cl c)) = true
  r : Raises X (.ref (L.cl c))
def mRaise (c : Nat) : MS := fun _ s => .raise ⟨c, none⟩ s
theorem ds_raise {x m : Str} {c : Nat} {j : Nat} {p p2 cp : Pos} (T : XCls X L x c) (hc : X.calm = true) (tk : Takes X W) (hg : Gl X x := by rfl) (hdb : (x == ("__debug__" : Str)) = false := by decide) :
    DS X L W (.Raise (some (.Call (.Name x p) [.Constant (.str m) j p2] [] cp)) none pos) (mRaise c) := by
  refine ps_imp (ps_raise hc tk (pmk_own PySem.F.excBase_ValueError T.q T.gC T.kC T.r hg hdb)) fun D σ H ⟨g0, g, s, ρ, os, e, gr, w, fr, po⟩ => ?_
  subst e
  exact po g _ none σ gr w ⟨rfl, rfl⟩

/-! ### loops -/
def forL (b : Bnd) (m : MS) : List D → Env → M Fl
  | [], ρ => pure (.nx ρ)
  | d :: ds, ρ => match b d ρ with
    | none => stuck
    | some ρ' => do
      let f ← m ρ'
      match f with
      | .nx ρ'' => forL b m ds ρ''
      | .ct ρ'' => forL b m ds ρ''
      | .bk ρ'' => pure (.nx ρ'')
      | .rt d => pure (.rt d)
def mFor (mi : MA) (b : Bnd) (m : MS) : MS := fun ρ => do
  let items ← mi ρ
  forL b m items ρ
theorem ds_for {iter : Expr} {body : List Stmt} {mi : MA} {b : Bnd} {sl : List Nat} {m : MS} (hp : PassesOwn (model X.prog X.w) X.A X.env X.xe) (hc : X.calm = true) (hi : DI X L W tg iter mi) (hg : DG X L tg sl b) (hb : DSs X L W body m)
    (hs : ∀ x, foldedSetIterable iter X.env x = pure x := by intro _; rfl) : DS X L W (.For tg iter body [] pos) (mFor mi b m) := by
  refine ps_imp (ps_for hp hc hi hg hb hs) fun D σ H ⟨g0, g, s, ρ, os, e, gr, w, fr, po⟩ => ?_
  subst e
  refine ⟨g0, g, s, ρ, os, rfl, w, fr, (po.bindE w.apart gr).imp fun items s1 g1 gr1 w1 ⟨gr01, q⟩ J hJ => ?_⟩
  have fr1 := fr.mono w.apart gr1
  let T : Nat → L2.St → Hp → Prop := fun i σ H => ∃ g2 s2 ρ2 os2, g2.H = H ∧ Grow g0 g2 ∧ Ext g1 g2 ∧ Wld L g2 s2 ∧ Frm L g0 g2 ρ2 os2 σ ∧ PostS L W g0 g2 (flK L g0 D) (forL b m (items.drop i) ρ2 s2)
  refine ⟨fun i n σ H => T i σ H ∧ i ≤ items.length ∧ n = items.length - i, ⟨_, ⟨g1, s1, ρ, os, rfl, gr01, Ext.refl _, w1, fr1, q⟩, Nat.zero_le _, rfl⟩, fun i n σ H ⟨⟨g2, s2, ρ2, os2, e2, gr2, x2, w2, fr2, po2⟩, hi2, en⟩ => ?_⟩
  subst e2
  obtain ⟨s0, sg⟩ := hJ g2 x2
  by_cases hlt : i < items.length
  · right
    have ed : items[i]? = some items[i] := List.getElem?_eq_getElem hlt
    obtain ⟨go, yl⟩ := sg i _ ed
    have edr : items.drop i = items[i] :: items.drop (i + 1) := List.drop_eq_getElem_cons hlt
    rw [edr] at po2
    refine ⟨go, fun σ H => T (i + 1) σ H, fun σ' H' h => ⟨items.length - (i + 1), by omega, h, by omega, rfl⟩, fun x H' hy => ?_⟩
    obtain ⟨g3, e3, gr3, w3, dx⟩ := yl x H' hy
    have w3 := w3 _ w2
    subst e3
    have fr3 := fr2.mono w2.apart gr3
    have po3 : PostS L W g0 g2 (flK L g0 D) ((match b items[i] ρ2 with
      | none => stuck
      | some ρ' => do
        let f ← m ρ'
        match f with
        | .nx ρ'' => forL b m (items.drop (i + 1)) ρ''
        | .ct ρ'' => forL b m (items.drop (i + 1)) ρ''
        | .bk ρ'' => pure (.nx ρ'')
        | .rt d => pure (.rt d) : M Fl) s2) := po2
    cases eb : b items[i] ρ2 with
    | none => rw [eb] at po3; exact False.elim po3
    | some ρ' =>
      rw [eb] at po3
      have x23 := gr3.ext w2.apart
      have gr03 := gr2.trans gr3
      refine ⟨g0, g3, ρ2, os2, items[i], ρ', rfl, fr3, dx, eb, fun σ2 os3 fr4 _ => ?_⟩
      refine ⟨g0, g3, s2, ρ', os3, rfl, gr03, w3, fr4, (PostS.bind (po3.weak x23)).imp fun f s4 g4 gr4 x4 w4 q4 => ?_⟩
      have x14 := (x2.trans x23).trans x4
      cases f with
      | nx ρ'' => exact fun os5 σ5 fr5 => ⟨g4, s4, ρ'', os5, rfl, gr4, x14, w4, fr5, q4⟩
      | ct ρ'' => exact fun os5 σ5 fr5 => ⟨g4, s4, ρ'', os5, rfl, gr4, x14, w4, fr5, q4⟩
      | bk ρ'' =>
        have q4 : PostS L W g0 g4 (flK L g0 D) ((pure (Fl.nx ρ'') : M Fl) s4) := q4
        exact q4 g4 gr4 (Ext.refl _) w4
      | rt d =>
        have q4 : PostS L W g0 g4 (flK L g0 D) ((pure (Fl.rt d) : M Fl) s4) := q4
        exact q4 g4 gr4 (Ext.refl _) w4
  · left
    have ei : i = items.length := by omega
    subst ei
    refine ⟨s0, ?_⟩
    rw [List.drop_length] at po2
    have po2 : PostS L W g0 g2 (flK L g0 D) ((pure (Fl.nx ρ2) : M Fl) s2) := po2
    exact po2 g2 gr2 (Ext.refl _) w2 os2 σ fr2
/-- while: at most so many turns -/
def whileL (c : MT) (m : MS) : Nat → Env → M Fl
  | 0, _ => stuck
  | n + 1, ρ => do
    let k ← c ρ
    if k then do
      let f ← m ρ
      match f with
      | .nx ρ'' => whileL c m n ρ''
      | .ct ρ'' => whileL c m n ρ''
      | .bk ρ'' => pure (.nx ρ'')
      | .rt d => pure (.rt d)
    else pure (.nx ρ)
def mWhile (n : Nat) (c : MT) (m : MS) : MS := whileL c m n
theorem ds_while {c : Expr} {body : List Stmt} {mc : MT} {m : MS} (n : Nat) (hp : PassesOwn (model X.prog X.w) X.A X.env X.xe) (hc : DT X L W c mc) (hb : DSs X L W body m) : DS X L W (.While c body [] pos) (mWhile n mc m) := by
  refine ps_imp (ps_while hp hc hb) fun D σ H ⟨g0, g, s, ρ, os, e, gr, w, fr, po⟩ => ?_
  subst e
  let T : Nat → L2.St → Hp → Prop := fun n σ H => ∃ g2 s2 ρ2 os2, g2.H = H ∧ Grow g0 g2 ∧ Wld L g2 s2 ∧ Frm L g0 g2 ρ2 os2 σ ∧ PostS L W g0 g2 (flK L g0 D) (whileL mc m n ρ2 s2)
  refine ⟨T, ⟨n, g, s, ρ, os, rfl, gr, w, fr, po⟩, fun n σ H ⟨g2, s2, ρ2, os2, e2, gr2, w2, fr2, po2⟩ => ?_⟩
  subst e2
  cases n with
  | zero => exact False.elim po2
  | succ n =>
    refine ⟨g0, g2, s2, ρ2, os2, rfl, w2, fr2, (PostS.bindE (W := W) w2.apart gr2 po2).imp fun k s3 g3 gr3 w3 ⟨gr03, q⟩ => ?_⟩
    have fr3 := fr2.mono w2.apart gr3
    cases k with
    | false =>
      have q : PostS L W g0 g3 (flK L g0 D) ((pure (Fl.nx ρ2) : M Fl) s3) := q
      exact q g3 gr03 (Ext.refl _) w3 os2 σ fr3
    | true =>
      show ∃ N : L2.St → Hp → Prop, _ ∧ _
      refine ⟨fun σ H => T n σ H, fun σ' H' h => ⟨n, Nat.lt_succ_self n, h⟩, ?_⟩
      refine ⟨g0, g3, s3, ρ2, os2, rfl, gr03, w3, fr3, (PostS.bind (k := fun f => (match f with
        | .nx ρ'' => whileL mc m n ρ''
        | .ct ρ'' => whileL mc m n ρ''
        | .bk ρ'' => pure (.nx ρ'')
        | .rt d => pure (.rt d) : M Fl)) q).imp fun f s4 g4 gr4 x4 w4 q4 => ?_⟩
      cases f with
      | nx ρ'' => exact fun os5 σ5 fr5 => ⟨g4, s4, ρ'', os5, rfl, gr4, w4, fr5, q4⟩
      | ct ρ'' => exact fun os5 σ5 fr5 => ⟨g4, s4, ρ'', os5, rfl, gr4, w4, fr5, q4⟩
      | bk ρ'' =>
        have q4 : PostS L W g0 g4 (flK L g0 D) ((pure (Fl.nx ρ'') : M Fl) s4) := q4
        exact q4 g4 gr4 (Ext.refl _) w4
      | rt d =>
        have q4 : PostS L W g0 g4 (flK L g0 D) ((pure (Fl.rt d) : M Fl) s4) := q4
        exact q4 g4 gr4 (Ext.refl _) w4

/-! ### a def by its body -/
def env0 (N : List Str) (ds : List D) : Env := ds.map .val ++ List.replicate (N.length - ds.length) .no
/-- a body run on arguments -/
def runF (N : List Str) (m : MS) (ds : List D) : M D := do
  let f ← m (env0 N ds)
  match f with
  | .nx _ => pure .non
  | .rt d => pure d
  | _ => stuck
theorem frm0 {g : G} {N : List Str} {ds : List D} {vs : List V} (h : DenL L g ds vs) : Frm L g g (env0 N ds) (fun _ => none) (L2.start N vs) where
  ln := by simp [env0, L2.start, h.len]
  sl := fun i s e => by
    unfold env0 at e
    by_cases hi : i < ds.length
    · rw [List.getElem?_append_left (by simpa using hi), List.getElem?_map, List.getElem?_eq_getElem hi] at e
      cases e
      obtain ⟨v, ev, dv⟩ := h.get (List.getElem?_eq_getElem hi)
      refine ⟨rfl, v, ?_, dv⟩
      unfold L2.start
      rw [List.getElem?_append_left (by rw [List.length_map, h.len]; exact hi), List.getElem?_map, ev]
      rfl
    · rw [List.getElem?_append_right (by simpa using Nat.le_of_not_lt hi)] at e
      rw [List.getElem?_replicate] at e
      split at e
      · cases e; rfl
      · cases e
  hi := fun _ _ => rfl
  inj := fun _ _ _ e => nomatch e
theorem fn_rd {N : List Str} {np : Nat} {m : MS} {vs : List V} {H : Hp} {Q : VK} {E : XK} (h : spD L np (runF N m) vs H Q E) : rdS L (fun c d _ H => E c d H) m { nx := fun _ H' => Q .non H', rt := Q } (L2.start N vs) H := by
  obtain ⟨g, s, ds, e, w, dv, _, po⟩ := h
  refine ⟨g, g, s, env0 N ds, _, e, Grow.refl _, w, frm0 dv, ?_⟩
  have po : Post L (fun c d _ H => E c d H) [] g (valK L Q) (M.bind (m (env0 N ds)) (fun f => (match f with
    | .nx _ => pure .non
    | .rt d => pure d
    | _ => stuck : M D)) s) := po
  unfold M.bind at po
  cases q : m (env0 N ds) s with
  | ok f s1 =>
    rw [q] at po
    intro g' gr x w'
    cases f with
    | nx ρ => exact fun _ _ _ => po g' gr w' .non non_den
    | rt d => exact fun v dv => po g' gr w' v dv
    | bk ρ => exact False.elim po
    | ct ρ => exact False.elim po
  | raise x s1 => rw [q] at po; exact fun g' c dx _ gr w' xd => po g' c dx gr w' xd
  | stuck => rw [q] at po; exact po
section
variable {P : Program} {w : World} {K : PySem.W.Frag} {mg : Str → Option Value} {base : Heap} {x qual : Str} {params : Arguments} {body : List Stmt} {scope : Scope} {dvs : List V} {kws : List (Str × V)} {f : Addr} {fd : FuncData}
theorem fn_ok {N ps : List Str} {k : Nat} {m : MS} (F : FunD K x qual params body scope dvs kws f fd) (S : FnScope N ps scope)
    (hb : ∀ (cdv : Value) (A : Around) (outer : List PySem.Env) (s : Shared) (H : Hp) (E : XK), Room k (A.deeper (envOfC qual scope s.heap.objs.size f cdv)) →
      DSs (cxOf (L2.CX P w) P w K mg base N qual scope f cdv A outer s H E) L (fun c d _ H => E c d H) body m) : FnOk P w K mg base (L2.CX P w) (k + 1) f fd ps (spD L ps.length (runF N m)) :=
  F.ok S (fun vs H Q E h => spD_len h) fun cdv A outer s H vs Q E hr h => ⟨_, hb cdv A outer s H E hr, fn_rd h⟩
end
end
end DL
end
section
set_option Elab.async false
set_option linter.all false
set_option maxRecDepth 100000
set_option maxHeartbeats 4000000
/-! DL7T: at the entry of a def whose first parameter is a plain local a token is out. -/
namespace DL
open PySem PySem.Spec PyProof.Rows L2
section
variable {M : Model} {A : Around} {E : Value → Shared → Prop} {s₀ s : Shared} {m cm : Str → Option Value} {env : PySem.Env}
theorem stl_tok {n : Str} {v : Value} {Q : Unit → Shared → Prop} (x : InCallC s₀ env.locals m env.cells cm s) (hk : env.scope.kind = .function) (hl : env.kindOf n = some .local)
    (h : ∀ t, InCallC s₀ env.locals (fun y => if y = n then some v else m y) env.cells cm t → 1 ≤ t.toks → Q () t) : wpAny M A (storeName env n v) Q E s := by
  have hb := x.toInCall
  refine wpAny_storeName_local hl hb.ns (fun g hn hs => ?_) (by rw [hk]; rfl)
  have far : ∀ b o, s₀.heap.get? b = some o → b ≠ env.locals := fun b o e =>
    Nat.ne_of_lt (Nat.lt_of_lt_of_le (Heap.lt_size e) hb.fresh)
  refine h _ ⟨⟨?_, hn, ?_, hb.fresh⟩, ?_, x.apart, x.above⟩ (Nat.le_add_left 1 _)
  · obtain ⟨g1, tk, e⟩ := hb.same
    exact ⟨g, s.toks + 1, by rw [e]⟩
  · intro b o e
    exact hs.extBut b o (far b o e) (hb.keep b o e)
  · intro k c hc
    have hlt := x.above k c (mem_of_lookup hc)
    exact Heap.IsCell.sameBut (x.cell k c hc) hs (Nat.ne_of_gt hlt)
theorem bind_tok {n : Str} {v : Value} {r : List (Str × Value)} (f : Str × Value → PUnit → Sem (ForInStep PUnit)) (hf : ∀ n v u, f (n, v) u = (do storeName env n v; pure (.yield ⟨⟩))) (hk : env.scope.kind = .function) (hl : env.kindOf n = some .local)
    {Q : PUnit → Shared → Prop} (x : InCallC s₀ env.locals m env.cells cm s) (hkind : ∀ x ∈ r, env.kindOf x.1 = some .local ∨ (env.kindOf x.1 = some .cell ∧ (env.cells.lookup x.1).isSome = true))
    (h : ∀ t, InCallC s₀ env.locals (bindL env.kindOf ((n, v) :: r) m) env.cells (bindC env.kindOf ((n, v) :: r) cm) t → 1 ≤ t.toks → Q ⟨⟩ t) : wpAny M A (forIn ((n, v) :: r) ⟨⟩ f) Q E s := by
  rw [List.forIn_cons, hf]
  refine wpAny_bind (wpAny_bind (stl_tok x hk hl fun t xt ht => wpAny_pure ?_))
  refine wpAny_with_toks ht ?_
  refine wpAny_mono (wpAny_bindParams (M := M) (A := A) (E := E) f hf hk r _ _ t (fun a t' => 1 ≤ t'.toks → Q a t') xt hkind fun t' xt' ht' => h t' ?_ ht') (fun _ _ z => z) fun e t' z _ => z
  unfold bindL bindC
  rw [if_pos hl, if_pos hl]
  exact xt'
theorem env_tok {scope : Scope} {globals : Addr} {n : Str} {v : Value} {r : List (Str × Value)} {qual : Str} {func : Option Addr} {code : Value} {builtins : Addr} {Q : PySem.Env → Shared → Prop}
    (hk : scope.kind = .function) (hl : scope.names.lookup n = some .local)
    (hkind : ∀ x ∈ r, scope.names.lookup x.1 = some .local ∨ (scope.names.lookup x.1 = some .cell ∧ ((cellsFrom (s.heap.objs.size + 1) scope.names []).lookup x.1).isSome = true))
    (hQ : ∀ ev, ev = newEnv scope s.heap.objs.size globals (cellsFrom (s.heap.objs.size + 1) scope.names []) qual func code none builtins →
      ∀ t, InCallC s ev.locals (bindL ev.kindOf ((n, v) :: r) fun _ => none) ev.cells (bindC ev.kindOf ((n, v) :: r) fun _ => none) t → 1 ≤ t.toks → Q ev t) :
    wpAny M A (newFunctionEnv scope globals [] ((n, v) :: r) qual func code none builtins) Q E s := by
  have size1 : (s.heap.push { cls := .type "frame", data := .dict #[] }).objs.size = s.heap.objs.size + 1 := Heap.size_push ..
  have laid := cellsFrom_ok scope.names (s.heap.push { cls := .type "frame", data := .dict #[] }) (s.heap.objs.size + 1) []
    ⟨fun _ _ hm => (nomatch hm), List.Pairwise.nil⟩ (Nat.le_of_eq size1.symm)
  simp only [newFunctionEnv, Option.isSome_none, Bool.false_eq_true, if_false]
  refine wpAny_bind (wpAny_alloc (wpAny_bind (wpAny_layCells _ (fun a kd cs => by
    cases hq : kd == NameKind.cell <;> simp [hq]) _ _ _ _ ?_)))
  rw [size1] at laid
  rw [show ({ s with heap := s.heap.push { cls := .type "frame", data := .dict #[] } } : Shared).heap.objs.size = s.heap.objs.size + 1 from size1]
  refine wpAny_bind (bind_tok (s₀ := s) (env := newEnv scope s.heap.objs.size globals (cellsFrom (s.heap.objs.size + 1) scope.names []) qual func code none builtins)
    (m := fun _ => none) (cm := fun _ => none) _ (fun _ _ _ => rfl) hk hl ?_ hkind fun t xt ht => wpAny_pure (hQ _ rfl t xt ht))
  refine ⟨⟨⟨_, _, rfl⟩, ?_, ?_, Nat.le_refl _⟩, ?_, laid.apart, ?_⟩
  · exact (Heap.Ns.new s.heap (.type "frame")).keeps (pushCells_keeps _ _)
  · exact fun b o e => pushCells_keeps _ _ b o (Heap.get?_push_of_some _ e)
  · exact fun a c hc => (laid.empty a c (mem_of_lookup hc)).1
  · exact fun a c hm => (laid.empty a c hm).2
end
section
variable {L : Lk} {P : Program} {w : World} {K : PySem.W.Frag} {mg : Str → Option Value} {base : Heap} {x qual : Str} {params : Arguments} {body : List Stmt} {scope : Scope} {dvs : List V} {kws : List (Str × V)} {f : Addr} {fd : FuncData}
theorem fn_okT {N ps : List Str} {k : Nat} {m : MS} {p1 : Str} {pr : List Str} (F : FunD K x qual params body scope dvs kws f fd) (S : FnScope N ps scope) (ep : ps = p1 :: pr) (hl1 : scope.names.lookup p1 = some .local)
    (hb : ∀ (cdv : Value) (A : Around) (outer : List PySem.Env) (s : Shared) (H : Hp) (E : XK), Room k (A.deeper (envOfC qual scope s.heap.objs.size f cdv)) →
      PSsT (cxOf (L2.CX P w) P w K mg base N qual scope f cdv A outer s H E) body (rdS L (fun c d _ H => E c d H) m)) : FnOk P w K mg base (L2.CX P w) (k + 1) f fd ps (spD L ps.length (runF N m)) := by
  obtain ⟨oc, od, dV, kV, doc, pm, an, cdv, ct, osl, rfl, lk, hcd, _, _⟩ := F.ex
  refine ⟨fun vs H Q E h => spD_len h, fun A outer s H args us vs Q E hr e0 hbd r hsp => ?_⟩
  have hlen := spD_len hsp
  have stays : ∀ b o, base.get? b = some o → s.heap.get? b = some o := fun b o e => (e0.bs b o e).1
  have KX := PySem.W.Frag.In.keeps e0.mod.kin stays
  have lim := Heap.NoLimit.keeps e0.mod.nolimit stays
  have kinds : ∀ y, y ∈ ps → scope.names.lookup y = some .local ∨ (scope.names.lookup y = some .cell ∧ ((cellsFrom (s.heap.objs.size + 1) scope.names []).lookup y).isSome = true) := fun y hy =>
    (S.par y hy).imp id fun q => ⟨q, PySem.W.cellsFrom_some _ _ _ (.inl q)⟩
  cases us with
  | nil =>
    rw [ep] at hlen
    rw [r.length] at hlen
    cases hlen
  | cons u us =>
    refine codeAny_call_function hr.depth (KX _ _ lk) rfl S.co S.gen rfl (PySem.W.codeRec_of KX hcd) (hbd _ _ _ _ ?_)
    have ez : ps.zip (u :: us) = (p1, u) :: pr.zip us := by rw [ep]; rfl
    have kz : ∀ y ∈ pr.zip us, scope.names.lookup y.1 = some .local ∨ (scope.names.lookup y.1 = some .cell ∧ ((cellsFrom (s.heap.objs.size + 1) scope.names []).lookup y.1).isSome = true) := fun y hy =>
      kinds y.1 (by rw [ep]; exact List.mem_cons_of_mem _ (List.of_mem_zip (a := y.1) (b := y.2) hy).1)
    rw [ez]
    refine env_tok S.kind hl1 kz fun ev he s1 xc ht => ?_
    subst he
    rw [← ez] at xc
    refine ⟨lim.keeps xc.toInCall.keep, codeAny_func ?_⟩
    have I : Inv (cxOf (L2.CX P w) P w K mg base N qual scope f cdv A outer s H E) [] (L2.start N vs) H s1 := inv_start S hr.hd e0 hlen r xc
    have run := hb cdv A outer s H E (hr.deeper _) [] s1 (L2.start N vs) H { nx := fun _ H' => Q .non H', rt := Q } ht I (fn_rd hsp)
    refine wpAny_mono run (fun fl s' hs => ?_) fun e s' hs => hs
    cases fl with
    | ret u' =>
      obtain ⟨v', σ', H', J, rv, q⟩ := hs
      exact ⟨v', H', J.os, J.bare, J.base, J.hok, rv, q⟩
    | next =>
      obtain ⟨σ', H', J, q⟩ := hs
      exact ⟨V.non, H', J.os, J.bare, J.base, J.hok, rfl, q⟩
    | brk => exact False.elim (hs.elim fun _ z => z.elim fun _ z => z.2)
    | cont => exact False.elim (hs.elim fun _ z => z.elim fun _ z => z.2)
end
end DL
end
section
set_option Elab.async false
set_option linter.all false
set_option maxRecDepth 100000
set_option maxHeartbeats 4000000
/-! DL8: replace; a module's constants; the link of a law's defs. -/
namespace DL
open PySem PySem.Spec PyProof.Rows L2
section
variable {X : Cx} {L : Lk} {W : WX} {pos : Pos}
/-! ### replace of written texts: a token must be out -/
abbrev DET (X : Cx) (L : Lk) (W : WX) (e : Expr) (m : ME) : Prop := PET X e (rdE L W m)
abbrev DST (X : Cx) (L : Lk) (W : WX) (e : Stmt) (m : MS) : Prop := PST X e (rdS L W m)
abbrev DSsT (X : Cx) (L : Lk) (W : WX) (e : List Stmt) (m : MS) : Prop := PSsT X e (rdS L W m)
theorem pet_imp {e : Expr} {t t' : TE} (h : PET X e t) (k : ∀ σ H Q, t' σ H Q → t σ H Q) : PET X e t' := fun pins s σ H Q h0 I q => h pins s σ H Q h0 I (k σ H Q q)
theorem pst_imp {e : Stmt} {t t' : TS} (h : PST X e t) (k : ∀ D σ H, t' D σ H → t D σ H) : PST X e t' := fun pins s σ H D h0 I q => h pins s σ H D h0 I (k D σ H q)
theorem psst_imp {e : List Stmt} {t t' : TS} (h : PSsT X e t) (k : ∀ D σ H, t' D σ H → t D σ H) : PSsT X e t' := fun pins s σ H D h0 I q => h pins s σ H D h0 I (k D σ H q)
def replT (y z : Tx) (x : Tx) : Tx := (Txt.replace (tS x) (tS y) (tS z)).cps.toList
def fRepl (y z : Tx) : D → M D
  | .str x => gd (x.length + (x.length + 1) * z.length ≤ 16777216) (.str (replT y z x))
  | _ => stuck
theorem det_of {e : Expr} {m : ME} (h : DE X L W e m) : DET X L W e m := CwR.PET.of h
theorem rep_rd {y z : Tx} {m : ME} {σ : L2.St} {H : Hp} {Q : VK} (h : rdE L W (mUn (fRepl y z) m) σ H Q) : CwR.tReplC (rdE L W m) (tS y) (tS z) σ H Q := by
  obtain ⟨g0, g, s, ρ, os, e, w, fr, po⟩ := h
  subst e
  refine ⟨g0, g, s, ρ, os, rfl, w, fr, po.bind.imp fun a s1 g1 gr w1 q v dv => ?_⟩
  cases a <;> try exact False.elim q
  obtain ⟨hl, q⟩ := Post.gd q
  refine ⟨_, den_str dv, by rw [tS_len, tS_len]; exact hl, ?_⟩
  have := Post.val q w1 (L := L) str_den
  rw [replT, tS_of] at this
  exact this
theorem det_repl {o : Expr} {ys zs : Str} {y z : Tx} {j k : Nat} {c0 c1 apos : Pos} {m : ME} (ho : DET X L W o m) (ey : ys = tS y) (ez : zs = tS z) (hyz : (ys == zs) = false := by decide)
    (hst : starEach [.Constant (.str ys) j c0, .Constant (.str zs) k c1] X.env = [(false, eval (.Constant (.str ys) j c0) X.env), (false, eval (.Constant (.str zs) k c1) X.env)] := by rfl)
    (hbase : attributeBase o "replace" X.env (eval o X.env) = eval o X.env := by rfl) (hline : (apos.endLine == pos.line) = true := by rfl) :
    DET X L W (.Call (.Attribute o "replace" apos) [.Constant (.str ys) j c0, .Constant (.str zs) k c1] [] pos) (mUn (fRepl y z) m) := by
  subst ey
  subst ez
  exact pet_imp (CwR.pet_replT ho hyz hst hbase hline) fun σ H Q h => rep_rd h
theorem det_op {op : Operator} {a b : Expr} {ma mb : ME} {f : D → D → M D} (ho : OpR X (binaryOp op) (rdO L W f)) (ha : DET X L W a ma) (hb : DET X L W b mb) : DET X L W (.BinOp a op b pos) (mBin f ma mb) :=
  pet_imp (CwR.pet_op ho ha hb) fun σ H Q h => rd2 h fun g s a b x y w dx dy po => ⟨g, s, σ, a, b, rfl, w, dx, dy, po⟩
theorem dst_ret {e : Expr} {m : ME} (h : DET X L W e m) : DST X L W (.Return (some e) pos) (mRet m) := by
  refine pst_imp (CwR.pst_ret h) fun D σ H ⟨g0, g, s, ρ, os, e, gr, w, fr, po⟩ => ?_
  subst e
  refine ⟨g0, g, s, ρ, os, rfl, w, fr, (po.bindE w.apart gr).imp fun d s1 g1 gr1 w1 ⟨gr01, q⟩ v dv => ?_⟩
  have q : PostS L W g0 g1 (flK L g0 D) ((pure (Fl.rt d) : M Fl) s1) := q
  exact q g1 gr01 (Ext.refl g1) w1 v dv
theorem dst_set {i : Nat} {x : Str} {e : Expr} {m : ME} {pos' : Pos} (hN : X.N.Nodup) (hi : X.N[i]? = some x) (hx : Loc X.env.scope x) (he : DET X L W e m) (hs : swapsWith e (some (.Name x pos')) pos.line X.env = pure false := by rfl) (hf : X.fn x = true ∨ X.env.scope.names.lookup x = some .local := by first | exact .inl rfl | exact .inr rfl | assumption) :
    DST X L W (.Assign [.Name x pos'] e pos) (mSet i m) := by
  refine pst_imp (t := tAsg (rdE L W m) (gName i)) (fun pins s σ H D h0 I h => ?_) fun D σ H h => rd_set h
  refine wpAny_Assign_Name (thn (he pins s σ H _ h0 I h) fun v s1 ⟨y, H1, I1, r1, q1⟩ => ?_) hs
  exact store_ok I1 hN hi hx r1 (fun s2 I2 => ⟨_, H1, I2, q1⟩) hf
theorem dsst_cons {st : Stmt} {rest : List Stmt} {a b : MS} (h1 : DST X L W st a) (h2 : DSsT X L W rest b) : DSsT X L W (st :: rest) (mSeq a b) := by
  refine psst_imp (psst_cons h1 h2) fun D σ H ⟨g0, g, s, ρ, os, e, gr, w, fr, po⟩ => ?_
  subst e
  refine ⟨g0, g, s, ρ, os, rfl, gr, w, fr, po.bind.imp fun f s1 g1 gr1 x1 w1 q => ?_⟩
  cases f with
  | nx ρ' => exact fun os' σ' fr' => ⟨g0, g1, s1, ρ', os', rfl, gr1, w1, fr', q⟩
  | rt d =>
    have q : PostS L W g0 g1 (flK L g0 D) ((pure (Fl.rt d) : M Fl) s1) := q
    exact q g1 gr1 (Ext.refl g1) w1
  | bk ρ' =>
    have q : PostS L W g0 g1 (flK L g0 D) ((pure (Fl.bk ρ') : M Fl) s1) := q
    exact q g1 gr1 (Ext.refl g1) w1
  | ct ρ' =>
    have q : PostS L W g0 g1 (flK L g0 D) ((pure (Fl.ct ρ') : M Fl) s1) := q
    exact q g1 gr1 (Ext.refl g1) w1
theorem dsst_one {st : Stmt} {a : MS} (h1 : DST X L W st a) : DSsT X L W [st] (mSeq a mNop) := dsst_cons h1 (PSsT.of dss_nil)
theorem dss_docT {x : Str} {j : Nat} {p p' : Pos} {rest : List Stmt} {b : MS} (h : DSsT X L W rest b) : DSs X L W (.Expr (.Constant (.str x) j p) p' :: rest) b := CwR.pss_docT h
/-! ### a module's constants -/
theorem de_gstr {x z : Str} {l : Tx} (h : ∃ t, X.mg x = some (.str z t)) (e : z = tS l) (hg : Gl X x := by rfl) (hd : (x == ("__debug__" : Str)) = false := by decide) : DE X L W (.Name x pos) (mC (.str l)) := by
  obtain ⟨t, h⟩ := h
  subst e
  exact de_const (pe_glob (v := .str (tS l)) hg h ⟨t, rfl⟩ hd) fun g => str_den
theorem de_gint {x : Str} {i : Int} (h : ∃ t, X.mg x = some (.int i t)) (hg : Gl X x := by rfl) (hd : (x == ("__debug__" : Str)) = false := by decide) : DE X L W (.Name x pos) (mC (.int i)) := by
  obtain ⟨t, h⟩ := h
  exact de_const (pe_glob (v := .int i) hg h ⟨t, rfl⟩ hd) fun g => int_den
theorem de_gtup {x : Str} {a : Addr} {vs : List V} {l : List D} (h : X.mg x = some (.ref a)) (hs : ∀ H, SqT L.K H a vs) (hl : ∀ g, DenL L g l vs) (hg : Gl X x := by rfl) (hd : (x == ("__debug__" : Str)) = false := by decide) : DE X L W (.Name x pos) (mC (.tup l)) := by
  refine de_const (pe_glob (v := .ref a) hg h rfl hd) fun g => ?_
  simp only [Den]
  refine ⟨a, vs, rfl, ?_, hl g⟩
  rcases hs (fun _ => none) with (h | ⟨o, h⟩) | h
  · cases h
  · cases h
  · exact .inr h
end
/-! ### the defs of a law -/
/-- where a def stands, its names (parameters first), its parameters -/
structure Inf where
  at_ : Str × Option Str
  ps : List Str
/-- each def keeps its mirror's promise, at level k -/
def EnvOk (P : Program) (w : World) (K : PySem.W.Frag) (mg : Str → Option Value) (base : Heap) (L : Lk) {F : Type} (inf : F → Inf) (k : Nat) (Φ : F → List D → M D) : Prop :=
  ∀ f : F, ∃ fd : FuncData, FnOk P w K mg base (L2.CX P w) k (He.fAd K (inf f).at_) fd (inf f).ps (spD L (inf f).ps.length (Φ f)) ∧ Binds K fd (inf f).ps [] ∧ PySem.W.keepIn K (.ref (He.fAd K (inf f).at_)) = true
theorem EnvOk.cal {F : Type} {inf : F → Inf} {k : Nat} {Φ : F → List D → M D} {X : Cx} {L : Lk} {x : Str} {np : Nat} (E : EnvOk X.prog X.w X.K X.mg X.base L inf k Φ) (hr : Room k X.A) (f : F) (hm : X.mg x = some (.ref (He.fAd X.K (inf f).at_))) (hn : (inf f).ps.length = np := by rfl) : Cal X L x np (Φ f) := by
  obtain ⟨fd, h1, h2, h3⟩ := E f
  subst hn
  exact ⟨k, _, fd, _, h1, hr, hm, h3, h2⟩
theorem EnvOk.meth {F : Type} {inf : F → Inf} {k : Nat} {Φ : F → List D → M D} {X : Cx} {L : Lk} {m : Str} {np c : Nat} {g : List D → M D} (E : EnvOk X.prog X.w X.K X.mg X.base L inf k Φ) (hr : Room k X.A) (f : F) (cl : Cls X.K (L.cl c)) (hm : Meth X.K (L.cl c) m (He.fAd X.K (inf f).at_)) (eg : g = Φ f) (hn : (inf f).ps.length = np := by rfl) :
    ∃ (k : Nat) (fa : Addr) (fd : FuncData) (ps : List Str), Cls X.K (L.cl c) ∧ Meth X.K (L.cl c) m fa ∧ FnOk X.prog X.w X.K X.mg X.base (L2.CX X.prog X.w) k fa fd ps (spD L np g) ∧ Room k X.A ∧ Binds X.K fd ps [] := by
  obtain ⟨fd, h1, h2, h3⟩ := E f
  subst hn
  subst eg
  exact ⟨k, _, fd, _, cl, hm, h1, hr, h2⟩
theorem EnvOk.zero {P : Program} {w : World} {K : PySem.W.Frag} {mg : Str → Option Value} {base : Heap} {L : Lk} {F : Type} {inf : F → Inf} (h : ∀ f : F, ∃ fd : FuncData, Binds K fd (inf f).ps [] ∧ PySem.W.keepIn K (.ref (He.fAd K (inf f).at_)) = true) :
    EnvOk P w K mg base L inf 0 (fun _ _ => stuck) := fun f => by
  obtain ⟨fd, h1, h2⟩ := h f
  refine ⟨fd, ⟨fun vs H Q E h => spD_len h, fun A outer s H args us vs Q E _ _ _ _ h => ?_⟩, h1, h2⟩
  obtain ⟨g, s, ds, _, _, _, _, po⟩ := h
  exact False.elim po
/-- the law's end: at the top's heap its mirror gives True -/
theorem law_sp {K : PySem.W.Frag} {L : Lk} (hK : L.K = K) {H : Hp} {a : Addr} {ns : List Int} {f : List D → M D} {s : Sto} (hS : SqL K H a (ns.map V.int)) (e : f [.scr ns] [] = .ok (.bl true) s) :
    spD L 1 f [.ref a] H (fun v _ => v = .bl true) fun _ _ _ => False := by
  refine ⟨⟨fun b => H b ≠ none, [], H⟩, [], [.scr ns], rfl, ⟨fun b h => ?_, List.nodup_nil, (fun _ h => nomatch h), rfl, fun n o e => nomatch e⟩, ?_, rfl, ?_⟩
  · cases q : H b with
    | none => exact (h q).elim
    | some o => exact ⟨o, q⟩
  · refine DenL.consI ?_ DenL.nilI
    simp only [Den]
    refine ⟨a, rfl, ?_⟩
    rcases hS with h | h
    · refine .inl ⟨?_, h⟩
      rcases h with h | ⟨o, h⟩
      · intro z; rw [z] at h; cases h
      · intro z; rw [z] at h; cases h
    · exact .inr (by rw [hK]; exact h)
  · rw [e]
    intro g' _ _ v dv
    exact den_bl dv
end DL
end
section
set_option Elab.async false
set_option linter.all false
set_option maxRecDepth 100000
/-! DL9: more builtins and methods. -/
namespace DL
open PySem L2
section
variable {X : Cx} {L : Lk} {W : WX}
/-- min of two numbers -/
def fMin : List D → M D
  | [.int i, .int j] => pure (.int (if j < i then j else i))
  | _ => stuck
theorem call_fMin (hc : X.calm = true) : CallR X (.builtin "min") (rdN L W fMin) := by
  refine callr_imp (call_min2 hc) fun vs H Q ⟨g, s, σ, ds, e, w, dv, po⟩ => ?_
  subst e
  rcases ds with _ | ⟨d, _ | ⟨d', _ | ⟨d'', r⟩⟩⟩ <;> try exact False.elim po
  · cases d <;> exact False.elim po
  · obtain ⟨v, u, rfl, h, h'⟩ := denL2 dv
    cases d <;> cases d' <;> try exact False.elim po
    rw [den_int h, den_int h']
    exact ⟨_, _, rfl, Post.val po w int_den⟩
  · cases d <;> cases d' <;> exact False.elim po
def fMax : List D → M D
  | [.int i, .int j] => pure (.int (if j > i then j else i))
  | _ => stuck
theorem call_fMax (hc : X.calm = true) : CallR X (.builtin "max") (rdN L W fMax) := by
  refine callr_imp (call_max2 hc) fun vs H Q ⟨g, s, σ, ds, e, w, dv, po⟩ => ?_
  subst e
  rcases ds with _ | ⟨d, _ | ⟨d', _ | ⟨d'', r⟩⟩⟩ <;> try exact False.elim po
  · cases d <;> exact False.elim po
  · obtain ⟨v, u, rfl, h, h'⟩ := denL2 dv
    cases d <;> cases d' <;> try exact False.elim po
    rw [den_int h, den_int h']
    exact ⟨_, _, rfl, Post.val po w int_den⟩
  · cases d <;> cases d' <;> exact False.elim po
/-- x.find(y, i) -/
def fFind3 : D → List D → M D
  | .str a, [.str b, .int i] => pure (.int (Txt.find3 (tS a) (tS b) i))
  | _, _ => stuck
theorem mt_fFind3 : MtR X "str.find" (rdM L W fFind3) := by
  refine mtr_imp mt_find3 fun x xs H Q ⟨g, s, σ, d, ds, e, w, dx, dv, po⟩ => ?_
  subst e
  cases d <;> try exact False.elim po
  rcases ds with _ | ⟨d, _ | ⟨d', _ | ⟨d'', r⟩⟩⟩ <;> try exact False.elim po
  · cases d <;> exact False.elim po
  · obtain ⟨v, u, rfl, h, h'⟩ := denL2 dv
    cases d <;> cases d' <;> try exact False.elim po
    rw [den_str dx, den_str h, den_int h']
    exact ⟨_, _, _, rfl, rfl, Post.val po w int_den⟩
  · cases d <;> cases d' <;> exact False.elim po
/-- x.index(y) -/
def fSIndex : D → List D → M D
  | .str a, [.str b] => match Builtin.Str.occurrences (tS a) (tS b) 0 (tS a).length 1 with
    | i :: _ => pure (.int (i : Nat))
    | [] => stuck
  | _, _ => stuck
theorem mt_fSIndex : MtR X "str.index" (rdM L W fSIndex) := by
  refine mtr_imp mt_sindex fun x xs H Q ⟨g, s, σ, d, ds, e, w, dx, dv, po⟩ => ?_
  subst e
  cases d <;> try exact False.elim po
  rename_i a
  rcases ds with _ | ⟨d, _ | ⟨d', r⟩⟩ <;> try exact False.elim po
  · obtain ⟨v, rfl, h⟩ := denL1 dv
    cases d <;> try exact False.elim po
    rename_i b
    have po : Post L W σ g (valK L Q) ((match Builtin.Str.occurrences (tS a) (tS b) 0 (tS a).length 1 with
      | i :: _ => pure (.int (i : Nat))
      | [] => stuck : M D) s) := po
    rw [den_str dx, den_str h]
    cases q : Builtin.Str.occurrences (tS a) (tS b) 0 (tS a).length 1 with
    | nil => rw [q] at po; exact False.elim po
    | cons i r => rw [q] at po; exact ⟨_, _, _, _, rfl, rfl, q, Post.val po w int_den⟩
  · cases d <;> exact False.elim po
end
end DL
end
section
set_option linter.all false
set_option maxRecDepth 100000
/-! DLM: reckoning with mirrors. -/
namespace DL
open PySem L2

theorem M.ext {α : Type} {a b : M α} (h : ∀ s, a s = b s) : a = b := funext h
instance : LawfulMonad M := LawfulMonad.mk'
  (id_map := fun x => by
    funext s
    show M.bind x (fun a => M.pure (id a)) s = x s
    unfold M.bind M.pure
    cases x s <;> rfl)
  (pure_bind := fun x f => rfl)
  (bind_assoc := fun x f g => by
    funext s
    show M.bind (M.bind x f) g s = M.bind x (fun a => M.bind (f a) g) s
    unfold M.bind
    cases x s <;> rfl)
theorem pure_run {α : Type} (a : α) (s : Sto) : (pure a : M α) s = .ok a s := rfl
theorem nr_pure {α : Type} (a : α) : nr (pure a : M α) = pure a := rfl
theorem gd_true {α : Type} {c : Prop} [Decidable c] {d : α} (h : c) : gd c d = pure d := by unfold gd; rw [if_pos h]
theorem lf_some {α : Type} (a : α) (k : α → D) : lf (some a) k = pure (k a) := rfl
/-- a comprehension whose test and element are plain -/
theorem compL_pure {b : Bnd} {ρ : Env} {tt : MT} {te : ME} {p : D → Bool} {f : D → D} {r : D → Env} : ∀ (l acc : List D), (∀ d ∈ l, b d ρ = some (r d)) → (∀ d ∈ l, tt (r d) = pure (p d)) → (∀ d ∈ l, p d = true → te (r d) = pure (f d)) → acc.length + l.length ≤ sizeLine →
    compL b ρ tt te l acc = pure (acc ++ (l.filter p).map f)
  | [], acc, _, _, _, _ => by simp [compL]
  | d :: l, acc, hb, ht, he, hz => by
    have e1 := hb d (by simp)
    have e2 := ht d (by simp)
    have hz' : acc.length + (l.length + 1) ≤ sizeLine := hz
    unfold compL
    rw [e1]
    simp only
    rw [e2, nr_pure, pure_bind]
    cases hp : p d with
    | false =>
      simp only [Bool.false_eq_true, if_false]
      rw [compL_pure l acc (fun x hx => hb x (by simp [hx])) (fun x hx => ht x (by simp [hx])) (fun x hx => he x (by simp [hx])) (by omega)]
      simp [List.filter_cons, hp]
    | true =>
      simp only [if_true]
      rw [he d (by simp) hp, nr_pure, pure_bind, if_pos (by omega)]
      rw [compL_pure l (acc ++ [f d]) (fun x hx => hb x (by simp [hx])) (fun x hx => ht x (by simp [hx])) (fun x hx => he x (by simp [hx])) (by simp; omega)]
      simp [List.filter_cons, hp]
theorem bools_map (l : List Bool) : bools (l.map D.bl) = some l := by
  induction l with
  | nil => rfl
  | cons a l ih => simp [bools, ih]
theorem txts_map (l : List Tx) : txts (l.map D.str) = some l := by
  induction l with
  | nil => rfl
  | cons a l ih => simp [txts, ih]
end DL
end
section
set_option linter.all false
set_option maxRecDepth 100000
/-! DLM2: the mirrors' equations, each with all its arguments, for simp. -/
namespace DL
open PySem L2
/-- a bind whose second part simp leaves alone till the first is done -/
inductive Tag {α : Type} (k : α) : Type where
  | mk
def bnd {α β : Type} (m : M α) (k : α → M β) (_t : Tag k := .mk) : M β := m >>= k
theorem bnd_pure {α β : Type} (a : α) (k : α → M β) (t : Tag k) : bnd (pure a) k t = k a := rfl
theorem bnd_eq {α β : Type} (m : M α) (k : α → M β) : (m >>= k) = bnd m k := rfl
theorem bnd_ite {α β : Type} (c : Prop) [Decidable c] (m m' : M α) (k : α → M β) (t : Tag k) : bnd (if c then m else m') k t = if c then bnd m k else bnd m' k := by split <;> rfl
theorem bnd_bnd {α β γ : Type} (m : M α) (k : α → M β) (k' : β → M γ) (t : Tag k) (t' : Tag k') : bnd (bnd m k t) k' t' = bnd m (fun a => bnd (k a) k') := by
  show (m >>= k) >>= k' = m >>= fun a => (k a >>= k')
  exact bind_assoc m k k'
def fin : Fl → M D
  | .nx _ => pure .non
  | .rt d => pure d
  | .bk _ => stuck
  | .ct _ => stuck
theorem fin_nx (ρ : Env) : fin (.nx ρ) = pure .non := rfl
theorem fin_rt (d : D) : fin (.rt d) = pure d := rfl
theorem q_runF (N : List Str) (m : MS) (ds : List D) : runF N m ds = bnd (m (env0 N ds)) fin := by
  unfold runF
  congr 1
  funext f
  cases f <;> rfl
section
variable {ρ : Env} {d : D}
theorem q_var0 : mVar 0 (.val d :: ρ) = pure d := rfl
theorem q_vars {i : Nat} {s : Sl} : mVar (i + 1) (s :: ρ) = mVar i ρ := rfl
theorem q_C : mC d ρ = pure d := rfl
theorem q_bin (f : D → D → M D) (ma mb : ME) : mBin f ma mb ρ = bnd (ma ρ) (fun a => bnd (mb ρ) (fun b => f a b)) := rfl
def chainK (f' : D → D → M D) (b : D) (mc : M D) : D → M D
  | .bl true => mc >>= fun c => f' b c
  | .bl false => pure (.bl false)
  | _ => stuck
theorem q_chain (f f' : D → D → M D) (ma mb mc : ME) : mChain f f' ma mb mc ρ = bnd (ma ρ) (fun a => bnd (mb ρ) (fun b => bnd (f a b) (chainK f' b (mc ρ)))) := by
  show M.bind (ma ρ) _ = M.bind (ma ρ) _
  refine congrArg (M.bind (ma ρ)) (funext fun a => ?_)
  show M.bind (mb ρ) _ = M.bind (mb ρ) _
  refine congrArg (M.bind (mb ρ)) (funext fun b => ?_)
  show M.bind (f a b) _ = M.bind (f a b) _
  refine congrArg (M.bind (f a b)) (funext fun r => ?_)
  unfold chainK
  split <;> simp_all <;> rfl
theorem chainK_bl (f' : D → D → M D) (b : D) (mc : M D) (k : Bool) : chainK f' b mc (.bl k) = if k then bnd mc (fun c => f' b c) else pure (.bl false) := by cases k <;> rfl
def truK (d : D) : M Bool := match d.truth with
  | some k => pure k
  | none => stuck
theorem q_tru (m : ME) : mTru m ρ = bnd (m ρ) truK := rfl
theorem truK_bl (k : Bool) : truK (.bl k) = pure k := rfl
theorem truK_int (i : Int) : truK (.int i) = pure (i != 0) := rfl
theorem truK_lst (l : List D) : truK (.lst l) = pure (!l.isEmpty) := rfl
theorem truK_tup (l : List D) : truK (.tup l) = pure (!l.isEmpty) := rfl
theorem truK_non : truK .non = pure false := rfl
theorem truK_str (l : Tx) (h : l.length ≤ sizeLine) : truK (.str l) = pure ((l.length : Int) != 0) := by
  unfold truK D.truth
  simp only [if_pos h]
def tstK : D → M Bool
  | .bl k => pure k
  | _ => stuck
theorem q_test (m : ME) : mTest m ρ = bnd (m ρ) tstK := by
  show M.bind (m ρ) _ = M.bind (m ρ) _
  refine congrArg (M.bind (m ρ)) (funext fun d => ?_)
  unfold tstK
  split <;> simp_all
theorem tstK_bl (k : Bool) : tstK (.bl k) = pure k := rfl
theorem q_and (ma mb : MT) : mAnd ma mb ρ = bnd (ma ρ) (fun a => if a then mb ρ else pure false) := rfl
theorem q_or (ma mb : MT) : mOr ma mb ρ = bnd (ma ρ) (fun a => if a then pure true else mb ρ) := rfl
theorem q_not (ma : MT) : mNot ma ρ = bnd (ma ρ) (fun a => pure !a) := rfl
theorem q_andV (ma mb : ME) : mAndV ma mb ρ = bnd (ma ρ) (fun a => bnd (truK a) (fun k => if k then mb ρ else pure a)) := by
  unfold mAndV
  congr 1
  funext a
  unfold truK
  cases a.truth with
  | none => rfl
  | some k => cases k <;> rfl
theorem q_orV (ma mb : ME) : mOrV ma mb ρ = bnd (ma ρ) (fun a => bnd (truK a) (fun k => if k then pure a else mb ρ)) := by
  unfold mOrV
  congr 1
  funext a
  unfold truK
  cases a.truth with
  | none => rfl
  | some k => cases k <;> rfl
theorem q_notV (ma : ME) : mNotV ma ρ = bnd (ma ρ) (fun a => bnd (truK a) (fun k => pure (.bl !k))) := by
  unfold mNotV
  congr 1
  funext a
  unfold truK
  cases a.truth with
  | none => rfl
  | some k => cases k <;> rfl
theorem q_ifE (mt : MT) (ma mb : ME) : mIfE mt ma mb ρ = bnd (mt ρ) (fun c => if c then ma ρ else mb ρ) := rfl
theorem q_un (f : D → M D) (ma : ME) : mUn f ma ρ = bnd (ma ρ) (fun a => f a) := rfl
theorem q_nil : mNil ρ = pure [] := rfl
theorem q_cons (me : ME) (ma : MA) : mCons me ma ρ = bnd (me ρ) (fun d => bnd (ma ρ) (fun ds => pure (d :: ds))) := rfl
theorem q_tup (ma : MA) : mTup ma ρ = bnd (ma ρ) (fun ds => gd (ds.length ≤ sizeLine) (.tup ds)) := rfl
theorem q_lst (ma : MA) : mLst ma ρ = bnd (ma ρ) (fun ds => gd (ds.length ≤ sizeLine) (.lst ds)) := rfl
theorem q_callF (f : List D → M D) (ma : MA) : mCallF f ma ρ = bnd (ma ρ) (fun ds => f ds) := rfl
theorem q_call (np : Nat) (f : List D → M D) (ma : MA) : mCall np f ma ρ = bnd (ma ρ) (fun ds => if ds.length = np then f ds else stuck) := rfl
def methO (np : Nat) (ma : M (List D)) (c : Nat) : Option (List D → M D) → M D
  | some f => bnd ma (fun ds => if (D.obj c :: ds).length = np then f (D.obj c :: ds) else stuck)
  | none => stuck
def methK (np : Nat) (tbl : Nat → Option (List D → M D)) (ma : M (List D)) : D → M D
  | .obj c => methO np ma c (tbl c)
  | _ => stuck
theorem q_meth (np : Nat) (tbl : Nat → Option (List D → M D)) (mo : ME) (ma : MA) : mMeth np tbl mo ma ρ = bnd (mo ρ) (methK np tbl (ma ρ)) := by
  show M.bind (mo ρ) _ = M.bind (mo ρ) _
  refine congrArg (M.bind (mo ρ)) (funext fun o => ?_)
  cases o <;> rfl
theorem methK_obj (np : Nat) (tbl : Nat → Option (List D → M D)) (ma : M (List D)) (c : Nat) : methK np tbl ma (.obj c) = methO np ma c (tbl c) := rfl
theorem methO_some (np : Nat) (ma : M (List D)) (c : Nat) (f : List D → M D) : methO np ma c (some f) = bnd ma (fun ds => if (D.obj c :: ds).length = np then f (D.obj c :: ds) else stuck) := rfl
theorem q_isB (T : String) (m : ME) : mIsB T m ρ = bnd (m ρ) (fun d => lf (isB T d) .bl) := rfl
def itemsK (d : D) : M (List D) := match d.items with
  | some l => pure l
  | none => stuck
theorem q_items (m : ME) : mItems m ρ = bnd (m ρ) itemsK := rfl
theorem itemsK_str (l : Tx) : itemsK (.str l) = pure (l.map fun c => .str [c]) := rfl
theorem itemsK_lst (l : List D) : itemsK (.lst l) = pure l := rfl
theorem itemsK_tup (l : List D) : itemsK (.tup l) = pure l := rfl
def rangeK : D → M (List D)
  | .int j => gd (-(2 ^ 62) ≤ j ∧ j < 2 ^ 62) (rangeL 0 j.toNat)
  | _ => stuck
theorem q_range1 (m : ME) : mRange1 m ρ = bnd (m ρ) rangeK := by
  show M.bind (m ρ) _ = M.bind (m ρ) _
  refine congrArg (M.bind (m ρ)) (funext fun d => ?_)
  cases d <;> rfl
theorem rangeK_int (j : Int) : rangeK (.int j) = gd (-(2 ^ 62) ≤ j ∧ j < 2 ^ 62) (rangeL 0 j.toNat) := rfl
theorem q_comp (sl : List Nat) (mi : MA) (b : Bnd) (tt : MT) (te : ME) : mComp sl mi b tt te ρ = bnd (mi ρ) (fun items => bnd (compL b (wipeE ρ sl) tt te items []) (fun l => pure (.lst l))) := rfl
theorem q_nop : mNop ρ = pure (.nx ρ) := rfl
def seqK (b : MS) : Fl → M Fl
  | .nx ρ' => b ρ'
  | f => pure f
theorem q_seq (a b : MS) : mSeq a b ρ = bnd (a ρ) (seqK b) := by
  show M.bind (a ρ) _ = M.bind (a ρ) _
  refine congrArg (M.bind (a ρ)) (funext fun f => ?_)
  cases f <;> rfl
theorem seqK_nx (b : MS) : seqK b (.nx ρ) = b ρ := rfl
theorem seqK_rt (b : MS) : seqK b (.rt d) = pure (.rt d) := rfl
theorem seqK_bk (b : MS) : seqK b (.bk ρ) = pure (.bk ρ) := rfl
theorem seqK_ct (b : MS) : seqK b (.ct ρ) = pure (.ct ρ) := rfl
theorem q_if (c : MT) (a b : MS) : mIf c a b ρ = bnd (c ρ) (fun k => if k then a ρ else b ρ) := rfl
theorem q_ret (m : ME) : mRet m ρ = bnd (m ρ) (fun d => pure (.rt d)) := rfl
theorem q_retN : mRetN ρ = pure (.rt .non) := rfl
theorem q_drop (m : ME) : mDrop m ρ = bnd (m ρ) (fun _ => pure (.nx ρ)) := rfl
theorem q_set (i : Nat) (m : ME) : mSet i m ρ = bnd (m ρ) (fun d => gd (i < ρ.length) (.nx (ρ.set i (.val d)))) := rfl
theorem q_setOwn (i : Nat) (m : ME) : mSetOwn i m ρ = bnd (m ρ) (fun d => gd (i < ρ.length) (.nx (ρ.set i (.own d)))) := rfl
theorem q_for (mi : MA) (b : Bnd) (m : MS) : mFor mi b m ρ = bnd (mi ρ) (fun items => forL b m items ρ) := rfl
theorem q_for_nil (b : Bnd) (m : MS) : forL b m [] ρ = pure (.nx ρ) := rfl
def forK (b : Bnd) (m : MS) (ds : List D) : Fl → M Fl
  | .nx ρ'' => forL b m ds ρ''
  | .ct ρ'' => forL b m ds ρ''
  | .bk ρ'' => pure (.nx ρ'')
  | .rt d => pure (.rt d)
theorem q_for_cons {b : Bnd} {m : MS} {ds : List D} {ρ' : Env} (h : b d ρ = some ρ') : forL b m (d :: ds) ρ = bnd (m ρ') (forK b m ds) := by
  have : forL b m (d :: ds) ρ = (match b d ρ with
    | none => stuck
    | some ρ' => m ρ' >>= forK b m ds) := by
    conv => lhs; unfold forL
    cases b d ρ with
    | none => rfl
    | some ρ1 =>
      show M.bind (m ρ1) _ = M.bind (m ρ1) _
      refine congrArg (M.bind (m ρ1)) (funext fun f => ?_)
      cases f <;> rfl
  rw [this, h]
  rfl
theorem forK_nx (b : Bnd) (m : MS) (ds : List D) : forK b m ds (.nx ρ) = forL b m ds ρ := rfl
theorem forK_ct (b : Bnd) (m : MS) (ds : List D) : forK b m ds (.ct ρ) = forL b m ds ρ := rfl
theorem forK_bk (b : Bnd) (m : MS) (ds : List D) : forK b m ds (.bk ρ) = pure (.nx ρ) := rfl
theorem forK_rt (b : Bnd) (m : MS) (ds : List D) : forK b m ds (.rt d) = pure (.rt d) := rfl
theorem q_name (i : Nat) (h : i < ρ.length) : bName i d ρ = some (ρ.set i (.val d)) := by
  unfold bName
  rw [if_pos h]
def appK (i : Nat) (ρ : Env) (v : M D) : Option Sl → M Fl
  | some (.own (.lst l)) => bnd v (fun d => gd (l.length < sizeLine) (.nx (ρ.set i (.own (.lst (l ++ [d]))))))
  | _ => stuck
theorem q_app (i : Nat) (m : ME) : mApp i m ρ = appK i ρ (m ρ) ρ[i]? := by
  unfold mApp appK
  cases ρ[i]? with
  | none => rfl
  | some s =>
    cases s with
    | no => rfl
    | val d => rfl
    | own d => cases d <;> rfl
theorem appK_own (i : Nat) (v : M D) (l : List D) : appK i ρ v (some (.own (.lst l))) = bnd v (fun d => gd (l.length < sizeLine) (.nx (ρ.set i (.own (.lst (l ++ [d])))))) := rfl
def frzK (i : Nat) (ρ : Env) (m : MS) : Option Sl → M Fl
  | some (.own d) => m (ρ.set i (.val d))
  | _ => m ρ
theorem q_frz (i : Nat) (m : MS) : mFrz i m ρ = frzK i ρ m ρ[i]? := by
  unfold mFrz frzK
  cases ρ[i]? with
  | none => rfl
  | some s => cases s <;> rfl
theorem frzK_own (i : Nat) (m : MS) (d : D) : frzK i ρ m (some (.own d)) = m (ρ.set i (.val d)) := rfl
theorem frzK_val (i : Nat) (m : MS) (d : D) : frzK i ρ m (some (.val d)) = m ρ := rfl
theorem frzK_no (i : Nat) (m : MS) : frzK i ρ m (some .no) = m ρ := rfl
def augK (i : Nat) (ρ : Env) (f : D → D → M D) (v : M D) : Option Sl → M Fl
  | some (.val a) => bnd v (fun d => bnd (f a d) (fun z => gd (i < ρ.length) (.nx (ρ.set i (.val z)))))
  | _ => stuck
theorem q_aug (i : Nat) (f : D → D → M D) (m : ME) : mAug i f m ρ = augK i ρ f (m ρ) ρ[i]? := by
  unfold mAug augK
  cases ρ[i]? with
  | none => rfl
  | some s => cases s <;> rfl
theorem augK_val (i : Nat) (f : D → D → M D) (v : M D) (a : D) : augK i ρ f v (some (.val a)) = bnd v (fun d => bnd (f a d) (fun z => gd (i < ρ.length) (.nx (ρ.set i (.val z))))) := rfl
end
section
variable {ρ : Env} {d : D}
theorem q_bm (T : String) (f : D → List D → M D) (mo : ME) (ma : MA) : mBM T f mo ma ρ = bnd (mo ρ) (fun o => if o.isTy T then bnd (ma ρ) (fun ds => f o ds) else stuck) := rfl
theorem isTy_str (l : Tx) : D.isTy "str" (.str l) = true := rfl
theorem isTy_lst (l : List D) : D.isTy "list" (.lst l) = true := rfl
theorem isTy_dic (l : List (DKey × D)) : D.isTy "dict" (.dic l) = true := rfl
def partK : D → M (Option Int)
  | .int i => pure (some i)
  | _ => stuck
theorem q_part (m : ME) : mPart m ρ = bnd (m ρ) partK := by
  show M.bind (m ρ) _ = M.bind (m ρ) _
  refine congrArg (M.bind (m ρ)) (funext fun d => ?_)
  cases d <;> rfl
theorem partK_int (i : Int) : partK (.int i) = pure (some i) := rfl
theorem q_noPart : mNoPart ρ = pure none := rfl
theorem q_cut (mo : ME) (ml mh : MO) : mCut mo ml mh ρ = bnd (mo ρ) (fun d => bnd (ml ρ) (fun lo => bnd (mh ρ) (fun hi => fCut d lo hi))) := rfl
def range2K (d e : D) : M (List D) := match d, e with
  | .int i, .int j => gd (-(2 ^ 62) ≤ i ∧ i < 2 ^ 62 ∧ -(2 ^ 62) ≤ j ∧ j < 2 ^ 62) (rangeL i (j - i).toNat)
  | _, _ => stuck
theorem q_range2 (m n : ME) : mRange2 m n ρ = bnd (m ρ) (fun d => bnd (n ρ) (fun e => range2K d e)) := rfl
theorem range2K_int (i j : Int) : range2K (.int i) (.int j) = gd (-(2 ^ 62) ≤ i ∧ i < 2 ^ 62 ∧ -(2 ^ 62) ≤ j ∧ j < 2 ^ 62) (rangeL i (j - i).toNat) := rfl
def get2K (k : M D) (x : M D) : D → M D
  | .dic l => bnd k (fun k => bnd x (fun x => lf k.key fun k => (valD l k).getD x))
  | _ => stuck
theorem q_get2 (mo mk mx : ME) : mGet2 mo mk mx ρ = bnd (mo ρ) (get2K (mk ρ) (mx ρ)) := by
  show M.bind (mo ρ) _ = M.bind (mo ρ) _
  refine congrArg (M.bind (mo ρ)) (funext fun d => ?_)
  cases d <;> rfl
theorem get2K_dic (k x : M D) (l : List (DKey × D)) : get2K k x (.dic l) = bnd k (fun k => bnd x (fun x => lf k.key fun k => (valD l k).getD x)) := rfl
theorem key_str (l : Tx) : D.key (.str l) = some (.inr l) := rfl
theorem key_int (i : Int) : D.key (.int i) = some (.inl i) := rfl
theorem q_dict (prs : List (ME × ME)) : mDict prs ρ = bnd (mPairs prs ρ) (fun ds => gd (ds.length ≤ 15) (.dic (mergeD [] ds))) := rfl
theorem q_pairs_nil : mPairs [] ρ = pure [] := rfl
def pairK (v : D) (r : M (List (DKey × D))) : Option DKey → M (List (DKey × D))
  | some k => bnd r (fun ds => pure ((k, v) :: ds))
  | none => stuck
theorem pairK_some (v : D) (r : M (List (DKey × D))) (k : DKey) : pairK v r (some k) = bnd r (fun ds => pure ((k, v) :: ds)) := rfl
theorem q_pairs_cons (mk mv : ME) (r : List (ME × ME)) : mPairs ((mk, mv) :: r) ρ = bnd (mk ρ) (fun k => bnd (mv ρ) (fun v => pairK v (mPairs r ρ) k.key)) := by
  show M.bind (mk ρ) _ = M.bind (mk ρ) _
  refine congrArg (M.bind (mk ρ)) (funext fun k => ?_)
  show M.bind (mv ρ) _ = M.bind (mv ρ) _
  refine congrArg (M.bind (mv ρ)) (funext fun v => ?_)
  show (match k.key with
    | some k => _
    | none => _) = pairK v (mPairs r ρ) k.key
  cases k.key <;> rfl
end
theorem q_sl : sizeLine = 16777216 := rfl
/-! operations -/
theorem f_add_int (i j : Int) : fAdd (.int i) (.int j) = pure (.int (i + j)) := rfl
theorem f_add_str (a b : Tx) (h : a.length + b.length ≤ sizeLine) : fAdd (.str a) (.str b) = pure (.str (a ++ b)) := gd_true h
theorem f_add_lst (a b : List D) (h : a.length + b.length ≤ sizeLine) : fAdd (.lst a) (.lst b) = pure (.lst (a ++ b)) := gd_true h
theorem f_add_tup (a b : List D) (h : a.length + b.length ≤ sizeLine) : fAdd (.tup a) (.tup b) = pure (.tup (a ++ b)) := gd_true h
theorem f_sub_int (i j : Int) : fSub (.int i) (.int j) = pure (.int (i - j)) := rfl
theorem f_mul_r (i j : Int) (h : -18446744073709551616 < j ∧ j < 18446744073709551616) : fMul (.int i) (.int j) = pure (.int (i * j)) := by
  have : mulOk i j = true := by
    unfold mulOk
    rw [decide_eq_true (show -(2 ^ 64) < j by omega), decide_eq_true (show j < 2 ^ 64 by omega)]
    simp
  exact gd_true this
theorem f_mul_l (i j : Int) (h : -18446744073709551616 < i ∧ i < 18446744073709551616) : fMul (.int i) (.int j) = pure (.int (i * j)) := by
  have : mulOk i j = true := by
    unfold mulOk
    rw [decide_eq_true (show -(2 ^ 64) < i by omega), decide_eq_true (show i < 2 ^ 64 by omega)]
    simp
  exact gd_true this
theorem f_mod (i j : Int) (h : 0 < j) : fMod (.int i) (.int j) = pure (.int (i % j)) := gd_true h
theorem f_div (i j : Int) (h : 0 < j ∧ j < 1073741824) : fDiv (.int i) (.int j) = pure (.int (i / j)) := gd_true h
theorem f_eq_str (a b : Tx) : fEq (.str a) (.str b) = pure (.bl (decide (a = b))) := rfl
theorem f_eq_int (a b : Int) : fEq (.int a) (.int b) = pure (.bl (decide (a = b))) := rfl
theorem f_eq_bl (a b : Bool) : fEq (.bl a) (.bl b) = pure (.bl (decide (a = b))) := rfl
theorem f_ne_str (a b : Tx) : fNe (.str a) (.str b) = pure (.bl !(decide (a = b))) := rfl
theorem f_ne_int (a b : Int) : fNe (.int a) (.int b) = pure (.bl !(decide (a = b))) := rfl
theorem f_ne_bl (a b : Bool) : fNe (.bl a) (.bl b) = pure (.bl !(decide (a = b))) := rfl
theorem f_lt (i j : Int) : fLt (.int i) (.int j) = pure (.bl (decide (i < j))) := rfl
theorem f_le (i j : Int) : fLe (.int i) (.int j) = pure (.bl (decide (i ≤ j))) := rfl
theorem f_gt (i j : Int) : fGt (.int i) (.int j) = pure (.bl (decide (j < i))) := rfl
theorem f_ge (i j : Int) : fGe (.int i) (.int j) = pure (.bl (decide (j ≤ i))) := rfl
theorem f_in_sign (c : Nat) (b : Tx) : fIn (.str [c]) (.str b) = pure (.bl (decide (c ∈ b))) := rfl
theorem f_notIn_sign (c : Nat) (b : Tx) : fNotIn (.str [c]) (.str b) = pure (.bl !(decide (c ∈ b))) := rfl
theorem f_is_bl (a b : Bool) : fIs (.bl a) (.bl b) = pure (.bl (decide (a = b))) := rfl
theorem f_len_str (l : Tx) (h : l.length ≤ sizeLine) : fLen [.str l] = pure (.int l.length) := by
  unfold fLen D.len
  simp only
  rw [if_pos h]
  rfl
theorem f_len_lst (l : List D) : fLen [.lst l] = pure (.int l.length) := rfl
theorem f_len_tup (l : List D) : fLen [.tup l] = pure (.int l.length) := rfl
theorem f_len_scr (l : List Int) : fLen [.scr l] = pure (.int l.length) := rfl
theorem f_len_dic (l : List (DKey × D)) : fLen [.dic l] = pure (.int l.length) := rfl
theorem f_neg_int (i : Int) : fNeg (.int i) = pure (.int (-i)) := rfl
theorem f_is_non (d : D) : fIs d .non = pure (.bl d.isNon) := by cases d <;> rfl
theorem f_isNot_non (d : D) : fIsNot d .non = pure (.bl !d.isNon) := by cases d <;> rfl
theorem isNon_non : D.isNon .non = true := rfl
theorem isNon_tup (l : List D) : D.isNon (.tup l) = false := rfl
theorem isNon_int (i : Int) : D.isNon (.int i) = false := rfl
theorem isNon_str (l : Tx) : D.isNon (.str l) = false := rfl
theorem isNon_lst (l : List D) : D.isNon (.lst l) = false := rfl
theorem isNon_dic (l : List (DKey × D)) : D.isNon (.dic l) = false := rfl
theorem isNon_bl (b : Bool) : D.isNon (.bl b) = false := rfl
theorem isNon_obj (c : Nat) : D.isNon (.obj c) = false := rfl
theorem f_int_bl (b : Bool) : fInt [.bl b] = pure (.int (if b then 1 else 0)) := rfl
theorem f_int_int (i : Int) : fInt [.int i] = pure (.int i) := rfl
end DL
end
section
set_option linter.all false
set_option maxRecDepth 100000
/-! DLM3: plain laws of the operations. -/
namespace DL
open PySem PySem.Builtin L2 PySem.StrLaws
/-! isinstance -/
theorem isB_str_str (l : Tx) : isB "str" (.str l) = some true := by show kitB "str" "str" = some true; decide
theorem isB_str_int (i : Int) : isB "str" (.int i) = some false := by show kitB "int" "str" = some false; decide
theorem isB_str_bl (b : Bool) : isB "str" (.bl b) = some false := by show kitB "bool" "str" = some false; decide
theorem isB_int_int (i : Int) : isB "int" (.int i) = some true := by show kitB "int" "int" = some true; decide
theorem isB_bool_int (i : Int) : isB "bool" (.int i) = some false := by show kitB "int" "bool" = some false; decide
theorem isB_bool_bl (b : Bool) : isB "bool" (.bl b) = some true := by show kitB "bool" "bool" = some true; decide
theorem isB_int_bl (b : Bool) : isB "int" (.bl b) = some true := by show kitB "bool" "int" = some true; decide
theorem isB_int_str (l : Tx) : isB "int" (.str l) = some false := by show kitB "str" "int" = some false; decide
theorem isB_bool_str (l : Tx) : isB "bool" (.str l) = some false := by show kitB "str" "bool" = some false; decide
theorem isB_tuple_tup (l : List D) : isB "tuple" (.tup l) = some true := by show kitB "tuple" "tuple" = some true; decide
theorem isB_list_lst (l : List D) : isB "list" (.lst l) = some true := by show kitB "list" "list" = some true; decide
theorem isB_str_tup (l : List D) : isB "str" (.tup l) = some false := by show kitB "tuple" "str" = some false; decide
theorem isB_str_lst (l : List D) : isB "str" (.lst l) = some false := by show kitB "list" "str" = some false; decide
theorem isB_str_non : isB "str" .non = some false := by show kitB "NoneType" "str" = some false; decide
theorem isB_tuple_non : isB "tuple" .non = some false := by show kitB "NoneType" "tuple" = some false; decide
/-! comprehensions -/
theorem compL_map_acc {α : Type} (g : α → D) {b : Bnd} {ρ : Env} {tt : MT} {te : ME} {p : α → Bool} {f : α → D} {r : α → Env} : ∀ (l : List α) (acc : List D), (∀ a ∈ l, b (g a) ρ = some (r a)) → (∀ a ∈ l, tt (r a) = pure (p a)) → (∀ a ∈ l, p a = true → te (r a) = pure (f a)) → acc.length + l.length ≤ sizeLine →
    compL b ρ tt te (l.map g) acc = pure (acc ++ (l.filter p).map f)
  | [], acc, _, _, _, _ => by simp [compL]
  | d :: l, acc, hb, ht, he, hz => by
    have e1 := hb d (by simp)
    have e2 := ht d (by simp)
    have hz' : acc.length + (l.length + 1) ≤ sizeLine := hz
    rw [List.map_cons]
    unfold compL
    rw [e1]
    simp only
    rw [e2, nr_pure, pure_bind]
    cases hp : p d with
    | false =>
      simp only [Bool.false_eq_true, if_false]
      rw [compL_map_acc g l acc (fun x hx => hb x (by simp [hx])) (fun x hx => ht x (by simp [hx])) (fun x hx => he x (by simp [hx])) (by omega)]
      simp [List.filter_cons, hp]
    | true =>
      simp only [if_true]
      rw [he d (by simp) hp, nr_pure, pure_bind, if_pos (by omega)]
      rw [compL_map_acc g l (acc ++ [f d]) (fun x hx => hb x (by simp [hx])) (fun x hx => ht x (by simp [hx])) (fun x hx => he x (by simp [hx])) (by simp; omega)]
      simp [List.filter_cons, hp]
theorem compL_map {α : Type} {g : α → D} {l : List α} {b : Bnd} {ρ : Env} {tt : MT} {te : ME} (p : α → Bool) (f : α → D) (r : α → Env) (hb : ∀ a ∈ l, b (g a) ρ = some (r a)) (ht : ∀ a ∈ l, tt (r a) = pure (p a)) (he : ∀ a ∈ l, p a = true → te (r a) = pure (f a)) (hz : l.length ≤ 16777216) :
    compL b ρ tt te (l.map g) [] = pure ((l.filter p).map f) := by
  rw [compL_map_acc (p := p) (f := f) (r := r) g l [] hb ht he (by rw [q_sl]; simpa using hz), List.nil_append]
theorem compL_all {α : Type} {g : α → D} {l : List α} {b : Bnd} {ρ : Env} {te : ME} (f : α → D) (r : α → Env) (hb : ∀ a ∈ l, b (g a) ρ = some (r a)) (he : ∀ a ∈ l, te (r a) = pure (f a)) (hz : l.length ≤ 16777216) :
    compL b ρ mYes te (l.map g) [] = pure (l.map f) := by
  rw [compL_map (fun _ => true) f r hb (fun _ _ => rfl) (fun a h _ => he a h) hz, List.filter_eq_self.mpr (fun _ _ => rfl)]
theorem rangeL_zero (n : Nat) : rangeL 0 n = (List.range n).map fun (i : Nat) => D.int (i : Int) := by
  unfold rangeL
  congr 1
  funext i
  rw [Int.zero_add]
theorem q_forN (i : Nat) (m : MS) (d : D) (ds : List D) (ρ : Env) (h : i < ρ.length) : forL (bName i) m (d :: ds) ρ = bnd (m (ρ.set i (.val d))) (forK (bName i) m ds) := q_for_cons (q_name i h)
/-! join -/
theorem joinL_nil_sign (l : Tx) : TL.joinL [] (l.map fun c => [c]) = l := by
  induction l with
  | nil => rfl
  | cons a l ih =>
    cases l with
    | nil => rfl
    | cons b r =>
      show [a] ++ ([] ++ TL.joinL [] ([b] :: r.map fun c => [c])) = _
      have ih : TL.joinL [] ([b] :: r.map fun c => [c]) = b :: r := ih
      rw [ih]; rfl
theorem joinL_nil (l : List Tx) : TL.joinL [] l = l.flatten := by
  induction l with
  | nil => rfl
  | cons a l ih =>
    cases l with
    | nil => simp [TL.joinL]
    | cons b r =>
      show a ++ ([] ++ TL.joinL [] (b :: r)) = _
      rw [ih]; rfl
theorem f_join_nil (l : List Tx) (h : (l.map (·.length)).sum ≤ 16777216) : fJoin (.str []) [.lst (l.map D.str)] = pure (.str l.flatten) := by
  unfold fJoin
  simp only [txts_map]
  rw [gd_true (by unfold joinOk; simpa using h), joinL_nil]
theorem sum_ones (l : Tx) : (l.map fun _ => 1).sum = l.length := by
  induction l with
  | nil => rfl
  | cons a l ih => rw [List.map_cons, List.sum_cons, ih, List.length_cons]; omega
theorem f_join_signs (l : Tx) (h : l.length ≤ 16777216) : fJoin (.str []) [.lst (l.map fun c => D.str [c])] = pure (.str l) := by
  have e : (l.map fun c => D.str [c]) = (l.map fun c => [c]).map D.str := by rw [List.map_map]; rfl
  rw [e, f_join_nil _ (by
    have : ((l.map fun c => [c]).map (fun x : Tx => x.length)) = l.map fun _ => 1 := by rw [List.map_map]; rfl
    rw [this, sum_ones]; exact h)]
  have := joinL_nil_sign l
  rw [joinL_nil] at this
  rw [this]
/-! all, any -/
theorem f_all_map {α : Type} (l : List α) (p : α → Bool) : fAll [.lst (l.map fun a => D.bl (p a))] = pure (.bl (l.all p)) := by
  have e : (l.map fun a => D.bl (p a)) = (l.map p).map D.bl := by rw [List.map_map]; rfl
  unfold fAll
  simp only [e, bools_map, lf_some]
  congr 2
  simp [List.all_map]
theorem f_any_map {α : Type} (l : List α) (p : α → Bool) : fAny [.lst (l.map fun a => D.bl (p a))] = pure (.bl (l.any p)) := by
  have e : (l.map fun a => D.bl (p a)) = (l.map p).map D.bl := by rw [List.map_map]; rfl
  unfold fAny
  simp only [e, bools_map, lf_some]
  congr 2
  simp [List.any_map]
/-! index -/
theorem atI_at {α : Type} {l : List α} {i : Int} (h : 0 ≤ i ∧ i < (l.length : Int)) (z : α) : L2.atI l i = some (l.getD i.toNat z) := by
  unfold L2.atI L2.ixN
  rw [if_pos h.1, if_pos h.2]
  have : i.toNat < l.length := by omega
  simp [List.getD, this]
theorem f_ix_lst (l : List D) (i : Int) (h : 0 ≤ i ∧ i < (l.length : Int)) : fIx (.lst l) (.int i) = pure (l.getD i.toNat .non) := by
  show lf (atI l i) id = _
  rw [atI_at h .non, lf_some]; rfl
theorem f_ix_tup (l : List D) (i : Int) (h : 0 ≤ i ∧ i < (l.length : Int)) : fIx (.tup l) (.int i) = pure (l.getD i.toNat .non) := by
  show lf (atI l i) id = _
  rw [atI_at h .non, lf_some]; rfl
theorem f_ix_scr (l : List Int) (i : Int) (h : 0 ≤ i ∧ i < (l.length : Int)) : fIx (.scr l) (.int i) = pure (.int (l.getD i.toNat 0)) := by
  show lf (atI l i) .int = _
  rw [atI_at h 0, lf_some]
theorem f_ix_str (l : Tx) (i : Int) (h : 0 ≤ i ∧ i < (l.length : Int)) (hl : l.length ≤ 16777216) : fIx (.str l) (.int i) = pure (.str [l.getD i.toNat 0]) := by
  unfold fIx
  simp only
  rw [if_pos (show l.length ≤ sizeLine from hl), atI_at h 0, lf_some]
theorem f_ix_ints (l : List Int) (i : Int) (h : 0 ≤ i ∧ i < (l.length : Int)) : ∃ x ∈ l, fIx (.lst (l.map .int)) (.int i) = pure (.int x) := by
  refine ⟨l.getD i.toNat 0, ?_, ?_⟩
  · have : i.toNat < l.length := by omega
    simp [List.getD, this]
  · rw [f_ix_lst _ i (by rw [List.length_map]; exact h)]
    have : i.toNat < l.length := by omega
    simp [List.getD, this]
/-- a number times a truth -/
theorem mul_truth (a : Int) (b : Bool) (n : Int) (h : 0 ≤ a ∧ a < n) : 0 ≤ a * (if b = true then 1 else 0) ∧ a * (if b = true then 1 else 0) < n := by
  cases b <;> simp <;> omega
theorem truth_small (b : Bool) : -18446744073709551616 < (if b = true then (1 : Int) else 0) ∧ (if b = true then (1 : Int) else 0) < 18446744073709551616 := by cases b <;> decide
theorem getD_mem {l : Tx} {i : Nat} (h : i < l.length) : l.getD i 0 ∈ l := by
  simp [List.getD, h]
theorem toNat_lit0 : (0 : Int).toNat = 0 := rfl
/-! numbers as texts -/
theorem strI_nat (n : Nat) : strI (n : Int) = TL.numL n := TL.tl_num n
theorem strI_neg (n : Nat) : strI (-((n + 1 : Nat) : Int)) = 45 :: TL.numL (n + 1) := by
  have e : toString (-((n + 1 : Nat) : Int)) = "-" ++ toString (((n + 1 : Nat)) : Int) := rfl
  rw [← strI_nat]
  unfold strI
  rw [e, Str.ofString_eq_toList, Str.ofString_eq_toList]
  simp [String.toList_append]
theorem strI_signs (i : Int) : (∃ d, strI i = d ∧ d ≠ [] ∧ ∀ c ∈ d, 48 ≤ c ∧ c ≤ 57) ∨ ∃ d, strI i = 45 :: d ∧ d ≠ [] ∧ ∀ c ∈ d, 48 ≤ c ∧ c ≤ 57 := by
  rcases i with n | n
  · exact .inl ⟨_, strI_nat n, TL.numL_ne n, TL.numL_digits n⟩
  · exact .inr ⟨_, strI_neg n, TL.numL_ne _, TL.numL_digits _⟩
theorem strI_len {n : Int} {k : Nat} (hk : 0 < k) (h : n.natAbs < 10 ^ k) : (strI n).length ≤ k + 1 := by
  rcases n with n | n
  · have e : strI (Int.ofNat n) = TL.numL n := strI_nat n
    rw [e]
    have := TL.numL_len hk (show n < 10 ^ k from h)
    omega
  · have e : strI (Int.negSucc n) = 45 :: TL.numL (n + 1) := strI_neg n
    rw [e, List.length_cons]
    have := TL.numL_len hk (show n + 1 < 10 ^ k from h)
    omega
/-! replace -/
theorem replT_eq {y z x : Tx} (hy : y ≠ []) : replT y z x = replL y z x := by
  unfold replT
  rw [replace_list (by rw [tS_len]; cases y with
    | nil => exact absurd rfl hy
    | cons => simp)]
  simp [tS]
theorem replL_sign (c : Nat) (z : Tx) : ∀ x : Tx, replL [c] z x = x.flatMap fun a => if a = c then z else [a]
  | [] => replL_nil
  | a :: x => by
    rw [List.flatMap_cons]
    by_cases h : a = c
    · subst h
      rw [replL_hit (by simp) (by simp)]
      simp [replL_sign a z x]
    · rw [replL_miss (by simpa using h), replL_sign c z x, if_neg h]
      rfl
theorem replT_sign (c : Nat) (z : Tx) (x : Tx) : replT [c] z x = x.flatMap fun a => if a = c then z else [a] := by
  rw [replT_eq (by simp), replL_sign]
theorem f_repl_sign (c : Nat) (z : Tx) (x : Tx) (h : x.length + (x.length + 1) * z.length ≤ 16777216) : fRepl [c] z (.str x) = pure (.str (x.flatMap fun a => if a = c then z else [a])) := by
  unfold fRepl
  simp only
  rw [gd_true h, replT_sign]
theorem flatMap_len {x : Tx} {f : Nat → Tx} {n : Nat} (h : ∀ a, (f a).length ≤ n) : (x.flatMap f).length ≤ n * x.length := by
  induction x with
  | nil => simp
  | cons a x ih =>
    rw [List.flatMap_cons, List.length_append, List.length_cons, Nat.mul_add]
    have := h a
    omega
/-! lstrip -/
theorem drop_tw (p : Nat → Bool) : ∀ l : Tx, l.drop (l.takeWhile p).length = l.dropWhile p
  | [] => rfl
  | a :: l => by
    by_cases h : p a = true
    · simp [List.takeWhile_cons, List.dropWhile_cons, h, drop_tw p l]
    · simp [List.takeWhile_cons, List.dropWhile_cons, h]
theorem lstrip_eq (x y : Tx) : (Txt.lstripChars (tS x) (tS y)).cps.toList = x.dropWhile fun c => decide (c ∈ y) := by
  unfold Txt.lstripChars
  rw [PyProof.Rows.stripBy_eq, StrLaws.strSub_toList]
  have e : stripLo (tS y).cps.contains true (tS x) = (x.takeWhile fun c => decide (c ∈ y)).length := by
    unfold stripLo
    rw [if_pos rfl]
    show ((x.takeWhile (tS y).cps.contains)).length = _
    congr 2
    funext c
    simp [tS]
  have e2 : stripHi (tS y).cps.contains false (tS x) (stripLo (tS y).cps.contains true (tS x)) = x.length := by
    unfold stripHi
    rw [if_neg (by simp)]
    exact tS_len x
  rw [e2, e]
  show (x.drop _).take _ = _
  rw [drop_tw, List.take_of_length_le]
  have := congrArg List.length (drop_tw (fun c => decide (c ∈ y)) x)
  rw [List.length_drop] at this
  omega
theorem f_lstrip (x y : Tx) (h : x.length ≤ 16777216) : fLstrip (.str x) [.str y] = pure (.str (x.dropWhile fun c => decide (c ∈ y))) := by
  rw [← lstrip_eq]
  exact gd_true (show x.length ≤ sizeLine from h)
end DL
end
section
set_option linter.all false
set_option maxRecDepth 100000
/-! DLS: plain laws of looking for a sign, of slices, of while loops. -/
namespace DL
open PySem PySem.Builtin PySem.Builtin.Str L2 PySem.StrLaws
theorem occ_full (s sub : Str) (hi : Nat) (a f : Nat) : ∀ l : List Nat, (forIn l ((#[a] : Array Nat), f) (occBody s sub hi 1)).run.fst = #[a]
  | [] => rfl
  | b :: l => by
    rw [List.forIn_cons]
    unfold occBody
    rw [if_neg (by simp)]
    exact occ_full s sub hi a f l
theorem occ_find (s sub : Str) (hi : Nat) : ∀ (l : List Nat) (free : Nat), (∀ i ∈ l, free ≤ i) →
    (forIn l ((#[] : Array Nat), free) (occBody s sub hi 1)).run.fst.toList = (l.find? fun i => decide (i + sub.length ≤ hi ∧ subAt s sub i = true)).toList
  | [], free, _ => rfl
  | a :: l, free, hf => by
    rw [List.forIn_cons]
    have ha : free ≤ a := hf a (List.mem_cons_self ..)
    by_cases hc : a + sub.length ≤ hi ∧ subAt s sub a = true
    · rw [List.find?_cons_of_pos (by simpa using hc)]
      unfold occBody
      rw [if_pos ⟨⟨⟨by simp, ha⟩, hc.1⟩, hc.2⟩]
      have := occ_full s sub hi a (a + sub.length) l
      show (forIn l ((#[] : Array Nat).push a, a + sub.length) (occBody s sub hi 1)).run.fst.toList = _
      rw [show (#[] : Array Nat).push a = #[a] from rfl, this]
      rfl
    · rw [List.find?_cons_of_neg (by simpa using hc)]
      unfold occBody
      rw [if_neg (fun h => hc ⟨h.1.2, h.2⟩)]
      exact occ_find s sub hi l free fun i hi' => hf i (List.mem_cons_of_mem _ hi')
theorem occ_first (s sub : Str) (lo hi : Nat) : occurrences s sub lo hi 1 = ((List.range' lo (hi + 1 - lo)).find? fun i => decide (i + sub.length ≤ hi ∧ subAt s sub i = true)).toList := by
  rw [occ_eq]
  exact occ_find s sub hi _ lo fun i hi' => by
    simp [List.mem_range'] at hi'
    omega
/-- the first place of a sign from lo on -/
theorem find_sign (t : Tx) (c : Nat) : ∀ (n lo : Nat), lo + n = t.length + 1 → (List.range' lo n).find? (fun i => decide (t[i]? = some c)) = if c ∈ t.drop lo then some (lo + ((t.drop lo).takeWhile fun x => !decide (x = c)).length) else none
  | 0, lo, h => by
    rw [List.drop_eq_nil_of_le (by omega)]
    rfl
  | n + 1, lo, h => by
    rw [List.range'_succ]
    by_cases hl : lo < t.length
    · have e : t.drop lo = t[lo] :: t.drop (lo + 1) := List.drop_eq_getElem_cons hl
      by_cases hc : t[lo] = c
      · rw [List.find?_cons_of_pos (by rw [List.getElem?_eq_getElem hl]; simpa using hc)]
        rw [e, if_pos (by rw [hc]; simp), List.takeWhile_cons_of_neg (by simpa using hc)]
        rfl
      · rw [List.find?_cons_of_neg (by rw [List.getElem?_eq_getElem hl]; simpa using hc), find_sign t c n (lo + 1) (by omega), e]
        rw [List.takeWhile_cons_of_pos (by simpa using hc)]
        have hc' : ¬ c = t[lo] := fun z => hc z.symm
        by_cases hm : c ∈ t.drop (lo + 1)
        · rw [if_pos hm, if_pos (List.mem_cons_of_mem _ hm), List.length_cons]
          congr 1
          omega
        · rw [if_neg hm, if_neg (by rw [List.mem_cons]; exact fun z => z.elim hc' hm)]
    · have hn : n = 0 := by omega
      subst hn
      rw [List.drop_eq_nil_of_le (by omega)]
      rw [List.find?_cons_of_neg (by rw [List.getElem?_eq_none (by omega)]; simp)]
      rfl
theorem occ_sign (t : Tx) (c lo : Nat) (h : lo ≤ t.length) : occurrences (tS t) (tS [c]) lo (tS t).length 1 = (if c ∈ t.drop lo then some (lo + ((t.drop lo).takeWhile fun x => !decide (x = c)).length) else none).toList := by
  rw [occ_first, tS_len, ← find_sign t c (t.length + 1 - lo) lo (by omega)]
  congr 2
  funext i
  have := subAt_one (tS t) c i
  rw [tS_len] at this
  have e : ((tS t).cps.toList)[i]? = t[i]? := rfl
  rw [e] at this
  exact decide_eq_decide.mpr this
theorem find3_sign (t : Tx) (c : Nat) (i : Nat) (h : i ≤ t.length) : Txt.find3 (tS t) (tS [c]) (i : Int) = if c ∈ t.drop i then ((i + ((t.drop i).takeWhile fun x => !decide (x = c)).length : Nat) : Int) else -1 := by
  have e : fromIndex (tS t).length (i : Int) = i := by
    show (max 0 (if (i : Int) < 0 then (i : Int) + ((tS t).length : Int) else (i : Int))).toNat = i
    rw [if_neg (by omega)]
    omega
  unfold Txt.find3
  rw [e, occ_sign t c i h]
  by_cases hc : c ∈ t.drop i
  · rw [if_pos hc, if_pos hc]
    rfl
  · rw [if_neg hc, if_neg hc]
    rfl
/-! slices -/
theorem sIx_some (n d : Nat) (i : Int) (h : 0 ≤ i) : HT.sIx n d (some i) = min i.toNat n := by
  have := HT.sIx_nat n d i.toNat
  rwa [Int.toNat_of_nonneg h] at this
theorem cut_from {α : Type} (l : List α) (i : Int) (h : 0 ≤ i) : cutL l (some i) none = l.drop i.toNat := by
  unfold cutL
  rw [sIx_some _ _ _ h, HT.sIx_none, List.take_of_length_le (by rw [List.length_drop]; omega)]
  by_cases h1 : i.toNat ≤ l.length
  · rw [Nat.min_eq_left h1]
  · rw [Nat.min_eq_right (by omega), List.drop_length, List.drop_eq_nil_of_le (by omega)]
theorem cut_to {α : Type} (l : List α) (j : Int) (h : 0 ≤ j) : cutL l none (some j) = l.take j.toNat := by
  unfold cutL
  rw [sIx_some _ _ _ h, HT.sIx_none, List.drop_zero, Nat.sub_zero]
  by_cases h1 : j.toNat ≤ l.length
  · rw [Nat.min_eq_left h1]
  · rw [Nat.min_eq_right (by omega), List.take_length, List.take_of_length_le (by omega)]
theorem cut_mid {α : Type} (l : List α) (i j : Int) (hi : 0 ≤ i) (hj : 0 ≤ j) : cutL l (some i) (some j) = (l.drop i.toNat).take (j.toNat - i.toNat) := by
  unfold cutL
  rw [sIx_some _ _ _ hi, sIx_some _ _ _ hj]
  by_cases h1 : i.toNat ≤ l.length
  · rw [Nat.min_eq_left h1]
    by_cases h2 : j.toNat ≤ l.length
    · rw [Nat.min_eq_left h2]
    · rw [Nat.min_eq_right (by omega), List.take_of_length_le (by rw [List.length_drop]; omega), List.take_of_length_le (by rw [List.length_drop]; omega)]
  · rw [Nat.min_eq_right (show l.length ≤ i.toNat by omega), List.drop_length, List.drop_eq_nil_of_le (show l.length ≤ i.toNat by omega)]
    simp
theorem cut_inner {α : Type} (l : List α) : cutL l (some 1) (some (-1)) = l.tail.dropLast := by
  unfold cutL
  rw [sIx_some l.length 0 1 (by decide)]
  have e : HT.sIx l.length l.length (some (-1)) = l.length - 1 := by
    unfold HT.sIx
    simp only [show (-1 : Int) < 0 by decide, if_true]
    omega
  rw [e]
  cases l with
  | nil => rfl
  | cons a r =>
    show ((a :: r).drop (min 1 (r.length + 1))).take (r.length + 1 - 1 - min 1 (r.length + 1)) = r.dropLast
    rw [Nat.min_eq_left (by omega), List.dropLast_eq_take]
    rfl
theorem f_cut_str (l : Tx) (lo hi : Option Int) (h : l.length ≤ 16777216) : fCut (.str l) lo hi = pure (.str (cutL l lo hi)) := gd_true (show l.length ≤ sizeLine from h)
theorem f_cut_lst (l : List D) (lo hi : Option Int) : fCut (.lst l) lo hi = pure (.lst (cutL l lo hi)) := rfl
theorem f_cut_tup (l : List D) (lo hi : Option Int) : fCut (.tup l) lo hi = pure (.tup (cutL l lo hi)) := rfl
/-! while -/
theorem q_while (n : Nat) (c : MT) (m : MS) (ρ : Env) : mWhile n c m ρ = whileL c m n ρ := rfl
def whK (c : MT) (m : MS) (n : Nat) : Fl → M Fl
  | .nx ρ'' => whileL c m n ρ''
  | .ct ρ'' => whileL c m n ρ''
  | .bk ρ'' => pure (.nx ρ'')
  | .rt d => pure (.rt d)
theorem whileL_succ (c : MT) (m : MS) (n : Nat) (ρ : Env) : whileL c m (n + 1) ρ = bnd (c ρ) (fun k => if k then bnd (m ρ) (whK c m n) else pure (.nx ρ)) := by
  show M.bind (c ρ) _ = M.bind (c ρ) _
  refine congrArg (M.bind (c ρ)) (funext fun k => ?_)
  cases k with
  | false => rfl
  | true =>
    show M.bind (m ρ) _ = M.bind (m ρ) _
    refine congrArg (M.bind (m ρ)) (funext fun f => ?_)
    cases f <;> rfl
theorem whK_nx (c : MT) (m : MS) (n : Nat) (ρ : Env) : whK c m n (.nx ρ) = whileL c m n ρ := rfl
theorem whK_rt (c : MT) (m : MS) (n : Nat) (d : D) : whK c m n (.rt d) = pure (.rt d) := rfl
theorem while_stop {c : MT} {m : MS} {n : Nat} {ρ : Env} (h : c ρ = pure false) (hn : 0 < n) : whileL c m n ρ = pure (.nx ρ) := by
  obtain ⟨n, rfl⟩ : ∃ k, n = k + 1 := ⟨n - 1, by omega⟩
  rw [whileL_succ, h, bnd_pure]
  rfl
theorem while_step {c : MT} {m : MS} {n : Nat} {ρ ρ' : Env} (h : c ρ = pure true) (hm : m ρ = pure (.nx ρ')) : whileL c m (n + 1) ρ = whileL c m n ρ' := by
  rw [whileL_succ, h, bnd_pure, if_pos rfl, hm, bnd_pure, whK_nx]
theorem while_ret {c : MT} {m : MS} {n : Nat} {ρ : Env} {d : D} (h : c ρ = pure true) (hm : m ρ = pure (.rt d)) : whileL c m (n + 1) ρ = pure (.rt d) := by
  rw [whileL_succ, h, bnd_pure, if_pos rfl, hm, bnd_pure, whK_rt]
/-- how far a text goes on with signs of a kind -/
def span (p : Nat → Bool) (t : Tx) (i : Nat) : Nat := ((t.drop i).takeWhile p).length
theorem span_stop {p : Nat → Bool} {t : Tx} {i : Nat} (h : ¬ (i < t.length ∧ p (t.getD i 0) = true)) : span p t i = 0 := by
  unfold span
  by_cases hl : i < t.length
  · have e : t.drop i = t[i] :: t.drop (i + 1) := List.drop_eq_getElem_cons hl
    have g : t.getD i 0 = t[i] := by simp [List.getD, hl]
    rw [e, List.takeWhile_cons_of_neg (fun z => h ⟨hl, by rw [g]; exact z⟩)]
    rfl
  · rw [List.drop_eq_nil_of_le (by omega)]
    rfl
theorem span_step {p : Nat → Bool} {t : Tx} {i : Nat} (hl : i < t.length) (h : p (t.getD i 0) = true) : span p t i = 1 + span p t (i + 1) := by
  unfold span
  have e : t.drop i = t[i] :: t.drop (i + 1) := List.drop_eq_getElem_cons hl
  have g : t.getD i 0 = t[i] := by simp [List.getD, hl]
  rw [g] at h
  rw [e, List.takeWhile_cons_of_pos h, List.length_cons]
  omega
/-- a loop that goes on over signs of a kind -/
theorem while_span {c : MT} {m : MS} (p : Nat → Bool) (t : Tx) (ρ : Nat → Env) (hc : ∀ i, i ≤ t.length → c (ρ i) = pure (decide (i < t.length) && p (t.getD i 0))) (hm : ∀ i, i < t.length → m (ρ i) = pure (.nx (ρ (i + 1)))) :
    ∀ (n i : Nat), i ≤ t.length → t.length - i < n → whileL c m n (ρ i) = pure (.nx (ρ (i + span p t i)))
  | 0, i, _, h => absurd h (Nat.not_lt_zero _)
  | n + 1, i, hi, hn => by
    by_cases hq : i < t.length ∧ p (t.getD i 0) = true
    · have h1 : c (ρ i) = pure true := by rw [hc i hi, hq.2]; simp [hq.1]
      rw [while_step h1 (hm i hq.1), while_span p t ρ hc hm n (i + 1) (by omega) (by omega), span_step hq.1 hq.2]
      congr 3
      omega
    · have h1 : c (ρ i) = pure false := by
        rw [hc i hi]
        congr 1
        rw [Bool.and_eq_false_iff]
        by_cases hl : i < t.length
        · exact .inr (Bool.eq_false_iff.mpr fun z => hq ⟨hl, z⟩)
        · exact .inl (by simpa using hl)
      rw [while_stop h1 (by omega), span_stop hq]
      rfl
end DL
end
section
set_option linter.all false
set_option maxRecDepth 100000
/-! DLC: signs coded by a mark; numbers as texts and back. -/
namespace DL
open PySem PySem.Builtin L2
/-! ### signs coded by a mark: pairs (sign, letter) -/
def encS (mk : Nat) (ps : List (Nat × Nat)) (c : Nat) : Tx := match ps.find? (fun q => decide (q.1 = c)) with
  | some q => [mk, q.2]
  | none => [c]
def decS (ps : List (Nat × Nat)) (d : Nat) : Option Nat := (ps.find? (fun q => decide (q.2 = d))).map (·.1)
/-- what is wanted of pairs -/
structure Cd (mk : Nat) (ps : List (Nat × Nat)) : Prop where
  m : ∃ d, encS mk ps mk = [mk, d]
  f : ∀ q ∈ ps, decS ps q.2 = some q.1
  g : ∀ q ∈ ps, encS mk ps q.1 = [mk, q.2]
section
variable {mk : Nat} {ps : List (Nat × Nat)}
theorem encS_cases (h : Cd mk ps) (c : Nat) : (∃ d, encS mk ps c = [mk, d] ∧ decS ps d = some c) ∨ (encS mk ps c = [c] ∧ c ≠ mk) := by
  by_cases e : encS mk ps c = [c]
  · by_cases hm : c = mk
    · obtain ⟨d, hd⟩ := h.m
      subst hm
      rw [e] at hd
      cases hd
    · exact .inr ⟨e, hm⟩
  · cases q : ps.find? (fun q => decide (q.1 = c)) with
    | none => unfold encS at e; rw [q] at e; exact absurd rfl e
    | some p =>
      have hp := List.mem_of_find?_eq_some q
      have hc := List.find?_some q
      have hc : p.1 = c := by simpa using hc
      refine .inl ⟨p.2, ?_, ?_⟩
      · unfold encS; rw [q]
      · rw [h.f p hp, hc]
theorem decS_enc (h : Cd mk ps) {d c : Nat} (e : decS ps d = some c) : encS mk ps c = [mk, d] := by
  unfold decS at e
  cases q : ps.find? (fun q => decide (q.2 = d)) with
  | none => rw [q] at e; cases e
  | some p =>
    rw [q] at e
    cases e
    have hp := List.mem_of_find?_eq_some q
    have hc := List.find?_some q
    have hc : p.2 = d := by simpa using hc
    rw [h.g p hp, hc]
def dec (mk : Nat) (ps : List (Nat × Nat)) : Tx → Option Tx
  | [] => some []
  | [c] => if c = mk then none else some [c]
  | c :: d :: r => if c = mk then (match decS ps d with
    | none => none
    | some x => (dec mk ps r).map (x :: ·)) else (dec mk ps (d :: r)).map (c :: ·)
/-- and a sign of the pairs that stands bare is refused -/
def ldec (mk : Nat) (ps : List (Nat × Nat)) : Tx → Option Tx
  | [] => some []
  | [c] => if c = mk ∨ encS mk ps c ≠ [c] then none else some [c]
  | c :: d :: r => if c = mk then (match decS ps d with
    | none => none
    | some x => (ldec mk ps r).map (x :: ·)) else if encS mk ps c ≠ [c] then none else (ldec mk ps (d :: r)).map (c :: ·)
theorem dec_cons {c : Nat} (h : c ≠ mk) : ∀ r : Tx, dec mk ps (c :: r) = (dec mk ps r).map (c :: ·)
  | [] => by unfold dec; rw [if_neg h]; rfl
  | d :: r => by
    conv => lhs; unfold dec
    rw [if_neg h]
theorem ldec_cons {c : Nat} (h : c ≠ mk) (h' : encS mk ps c = [c]) : ∀ r : Tx, ldec mk ps (c :: r) = (ldec mk ps r).map (c :: ·)
  | [] => by
    unfold ldec
    rw [if_neg (fun z => z.elim h fun z => z h')]
    rfl
  | d :: r => by
    conv => lhs; unfold ldec
    rw [if_neg h, if_neg (fun z => z h')]
theorem ldec_bare {c : Nat} (h : c ≠ mk) (h' : encS mk ps c ≠ [c]) : ∀ r : Tx, ldec mk ps (c :: r) = none
  | [] => by
    unfold ldec
    rw [if_pos (.inr h')]
  | d :: r => by
    conv => lhs; unfold ldec
    rw [if_neg h, if_pos h']
theorem dec_mark (d : Nat) (r : Tx) : dec mk ps (mk :: d :: r) = (match decS ps d with
    | none => none
    | some x => (dec mk ps r).map (x :: ·)) := by
  conv => lhs; unfold dec
  rw [if_pos rfl]
theorem ldec_mark (d : Nat) (r : Tx) : ldec mk ps (mk :: d :: r) = (match decS ps d with
    | none => none
    | some x => (ldec mk ps r).map (x :: ·)) := by
  conv => lhs; unfold ldec
  rw [if_pos rfl]
theorem dec_end : dec mk ps [mk] = none := by unfold dec; rw [if_pos rfl]
theorem ldec_end : ldec mk ps [mk] = none := by unfold ldec; rw [if_pos (.inl rfl)]
theorem dec_enc (h : Cd mk ps) : ∀ v : Tx, dec mk ps (v.flatMap (encS mk ps)) = some v
  | [] => rfl
  | c :: v => by
    rw [List.flatMap_cons]
    rcases encS_cases h c with ⟨d, e, e'⟩ | ⟨e, hm⟩
    · rw [e]
      show dec mk ps (mk :: d :: v.flatMap (encS mk ps)) = _
      rw [dec_mark, e', dec_enc h v]
      rfl
    · rw [e]
      show dec mk ps (c :: v.flatMap (encS mk ps)) = _
      rw [dec_cons hm, dec_enc h v]
      rfl
theorem ldec_iff (h : Cd mk ps) : ∀ (n : Nat) (x v : Tx), x.length ≤ n → (ldec mk ps x = some v ↔ dec mk ps x = some v ∧ v.flatMap (encS mk ps) = x)
  | _, [], v, _ => by
    constructor
    · intro e
      cases e
      exact ⟨rfl, rfl⟩
    · intro ⟨e, _⟩
      exact e
  | 0, _ :: _, _, hl => absurd hl (by simp)
  | n + 1, c :: r, v, hl => by
    rw [List.length_cons] at hl
    by_cases hc : c = mk
    · rw [hc]
      cases r with
      | nil => rw [ldec_end, dec_end]; simp
      | cons d r =>
        rw [List.length_cons] at hl
        rw [ldec_mark, dec_mark]
        cases q : decS ps d with
        | none => simp
        | some x =>
          have hx := decS_enc h q
          simp only [Option.map_eq_some_iff]
          constructor
          · rintro ⟨a, ha, rfl⟩
            have := (ldec_iff h n r a (by omega)).mp ha
            refine ⟨⟨a, this.1, rfl⟩, ?_⟩
            rw [List.flatMap_cons, hx, this.2]
            rfl
          · rintro ⟨⟨a, ha, rfl⟩, hv⟩
            rw [List.flatMap_cons, hx] at hv
            exact ⟨a, (ldec_iff h n r a (by omega)).mpr ⟨ha, by simpa using hv⟩, rfl⟩
    · by_cases hb : encS mk ps c = [c]
      · rw [ldec_cons hc hb, dec_cons hc]
        simp only [Option.map_eq_some_iff]
        constructor
        · rintro ⟨a, ha, rfl⟩
          have := (ldec_iff h n r a (by omega)).mp ha
          refine ⟨⟨a, this.1, rfl⟩, ?_⟩
          rw [List.flatMap_cons, hb, this.2]
          rfl
        · rintro ⟨⟨a, ha, rfl⟩, hv⟩
          rw [List.flatMap_cons, hb] at hv
          exact ⟨a, (ldec_iff h n r a (by omega)).mpr ⟨ha, by simpa using hv⟩, rfl⟩
      · rw [ldec_bare hc hb, dec_cons hc]
        constructor
        · intro z; cases z
        · rintro ⟨e, hv⟩
          obtain ⟨a, ha, rfl⟩ := Option.map_eq_some_iff.mp e
          rw [List.flatMap_cons] at hv
          rcases encS_cases h c with ⟨d, e1, _⟩ | ⟨e1, _⟩
          · rw [e1] at hv
            have : mk = c := by simpa using congrArg List.head? hv
            exact absurd this.symm hc
          · exact absurd e1 hb
theorem ldec_enc (h : Cd mk ps) (v : Tx) : ldec mk ps (v.flatMap (encS mk ps)) = some v := (ldec_iff h _ _ v (Nat.le_refl _)).mpr ⟨dec_enc h v, rfl⟩
theorem dec_mem (n : Nat) : ∀ (x v : Tx), x.length ≤ n → dec mk ps x = some v → ∀ c ∈ v, c ∈ x ∨ ∃ q ∈ ps, q.1 = c := by
  induction n with
  | zero =>
    intro x v hl e c hc
    cases x with
    | nil => cases e; cases hc
    | cons => simp at hl
  | succ n ih =>
    intro x v hl e c hc
    cases x with
    | nil => cases e; cases hc
    | cons a r =>
      rw [List.length_cons] at hl
      by_cases ha : a = mk
      · subst ha
        cases r with
        | nil => rw [dec_end] at e; cases e
        | cons d r =>
          rw [List.length_cons] at hl
          rw [dec_mark] at e
          cases q : decS ps d with
          | none => rw [q] at e; cases e
          | some y =>
            rw [q] at e
            obtain ⟨b, hb, rfl⟩ := Option.map_eq_some_iff.mp e
            rcases List.mem_cons.mp hc with rfl | hc
            · unfold decS at q
              cases z : ps.find? (fun q => decide (q.2 = d)) with
              | none => rw [z] at q; cases q
              | some p =>
                rw [z] at q
                exact .inr ⟨p, List.mem_of_find?_eq_some z, by simpa using q⟩
            · rcases ih r b (by omega) hb c hc with h | h
              · exact .inl (by simp [h])
              · exact .inr h
      · rw [dec_cons ha] at e
        obtain ⟨b, hb, rfl⟩ := Option.map_eq_some_iff.mp e
        rcases List.mem_cons.mp hc with rfl | hc
        · exact .inl (by simp)
        · rcases ih r b (by omega) hb c hc with h | h
          · exact .inl (by simp [h])
          · exact .inr h
theorem dec_len (n : Nat) : ∀ (x v : Tx), x.length ≤ n → dec mk ps x = some v → v.length ≤ x.length := by
  induction n with
  | zero =>
    intro x v hl e
    cases x with
    | nil => cases e; simp
    | cons => simp at hl
  | succ n ih =>
    intro x v hl e
    cases x with
    | nil => cases e; simp
    | cons a r =>
      rw [List.length_cons] at hl
      by_cases ha : a = mk
      · subst ha
        cases r with
        | nil => rw [dec_end] at e; cases e
        | cons d r =>
          rw [List.length_cons] at hl
          rw [dec_mark] at e
          cases q : decS ps d with
          | none => rw [q] at e; cases e
          | some y =>
            rw [q] at e
            obtain ⟨b, hb, rfl⟩ := Option.map_eq_some_iff.mp e
            have := ih r b (by omega) hb
            simp only [List.length_cons]
            omega
      · rw [dec_cons ha] at e
        obtain ⟨b, hb, rfl⟩ := Option.map_eq_some_iff.mp e
        have := ih r b (by omega) hb
        simp only [List.length_cons]
        omega
end
/-! ### numbers -/
open NumText
theorem foldl_dig_lt : ∀ (cs : List Nat) (a : Nat), AllDigits cs → cs.foldl (fun acc c => acc * 10 + (c - 48)) a < (a + 1) * 10 ^ cs.length
  | [], a, _ => by simp
  | c :: cs, a, h => by
    have hc := h.head
    have ih := foldl_dig_lt cs (a * 10 + (c - 48)) h.tail
    rw [List.foldl_cons, List.length_cons, Nat.pow_succ]
    refine Nat.lt_of_lt_of_le ih ?_
    have : a * 10 + (c - 48) + 1 ≤ (a + 1) * 10 := by omega
    calc (a * 10 + (c - 48) + 1) * 10 ^ cs.length ≤ ((a + 1) * 10) * 10 ^ cs.length := Nat.mul_le_mul_right _ this
      _ = (a + 1) * (10 ^ cs.length * 10) := by rw [Nat.mul_assoc, Nat.mul_comm 10]
theorem digitsVal_lt {cs : List Nat} (h : AllDigits cs) : digitsVal cs < 10 ^ cs.length := by
  have := foldl_dig_lt cs 0 h
  simpa [digitsVal] using this
/-- a number's text: a stroke or none, figures -/
def numV (st : Tx) : Int := match st with
  | 45 :: r => -((digitsVal r : Nat) : Int)
  | _ => ((digitsVal st : Nat) : Int)
theorem numV_pos {st : Tx} (h : AllDigits st) : numV st = ((digitsVal st : Nat) : Int) := by
  unfold numV
  split
  · have := h 45 (by simp)
    omega
  · rfl
theorem int_pos {st : Tx} (h : AllDigits st) (h1 : st ≠ []) (h2 : st.length ≤ 640) : fInt [.str st] = pure (.int (numV st)) := by
  unfold fInt
  simp only
  have e : PySem.intText? (tS st) = some ((digitsVal st : Nat) : Int) := by
    have := intText_digits (x := tS st) (by simpa [tS] using h) (by simpa [tS] using h1) (by rw [tS_len]; omega)
    simpa [tS] using this
  rw [if_pos h2, e, numV_pos h]
  rfl
theorem int_neg {r : Tx} (h : AllDigits r) (h1 : r ≠ []) (h2 : r.length ≤ 639) : fInt [.str (45 :: r)] = pure (.int (numV (45 :: r))) := by
  unfold fInt
  simp only
  have e : PySem.intText? (tS (45 :: r)) = some (-((digitsVal r : Nat) : Int)) := intText_neg (x := tS (45 :: r)) (by simp [tS]) h h1 (by rw [tS_len, List.length_cons]; omega)
  rw [if_pos (by rw [List.length_cons]; omega), e]
  rfl
theorem numL_val_iff {ds : Tx} (h : AllDigits ds) (h1 : ds ≠ []) : TL.numL (digitsVal ds) = ds ↔ ¬ (ds.getD 0 0 = 48 ∧ ds ≠ [48]) := by
  have key : TL.numL (digitsVal ds) = (match ds.dropWhile (· == 48) with
    | [] => [48]
    | c :: r => c :: r) := by
    have hd : TL.numL (digitsVal ds) = (Nat.toDigits 10 (digitsVal ds)).map Char.toNat := rfl
    rw [hd, toDigits_all ds h]
    have hs : ∀ c ∈ ds.dropWhile (· == 48), 48 ≤ c ∧ c ≤ 57 := fun c hc => h c ((List.dropWhile_sublist _).subset hc)
    cases q : ds.dropWhile (· == 48) with
    | nil => rfl
    | cons c r =>
      rw [q] at hs
      simp only [List.map_map]
      have : ∀ l : List Nat, (∀ c ∈ l, 48 ≤ c ∧ c ≤ 57) → l.map (Char.toNat ∘ Char.ofNat) = l := by
        intro l hl
        induction l with
        | nil => rfl
        | cons a l ih =>
          rw [List.map_cons, ih (fun c hc => hl c (by simp [hc]))]
          have ha := hl a (by simp)
          have : (Char.toNat ∘ Char.ofNat) a = a := by
            show (Char.ofNat a).toNat = a
            have hv : a.isValidChar := .inl (by omega)
            simp [Char.ofNat, hv, Char.toNat, Char.ofNatAux]
          rw [this]
      exact this _ hs
  rw [key]
  cases ds with
  | nil => exact absurd rfl h1
  | cons c r =>
    by_cases hc : c = 48
    · subst hc
      have e : (48 :: r).dropWhile (· == 48) = r.dropWhile (· == 48) := by rw [List.dropWhile_cons]; rfl
      rw [e]
      constructor
      · intro z ⟨_, hn⟩
        have hl := (List.dropWhile_sublist (l := r) (· == 48)).length_le
        cases q : r.dropWhile (· == 48) with
        | nil => rw [q] at z; exact hn z.symm
        | cons a b =>
          rw [q] at z hl
          have := congrArg List.length z
          simp only [List.length_cons] at this hl
          omega
      · intro z
        have z : 48 :: r = [48] := Classical.byContradiction fun w => z ⟨rfl, w⟩
        cases z
        rfl
    · have e : (c :: r).dropWhile (· == 48) = c :: r := by
        rw [List.dropWhile_cons, if_neg (by simpa using hc)]
      rw [e]
      constructor
      · intro _ ⟨z, _⟩
        exact hc z
      · intro _
        rfl
theorem canon_pos {ds : Tx} (h : AllDigits ds) (h1 : ds ≠ []) : strI (numV ds) = ds ↔ ¬ (ds.getD 0 0 = 48 ∧ ds ≠ [48]) := by
  rw [numV_pos h, strI_nat]
  exact numL_val_iff h h1
theorem canon_neg {r : Tx} (h : AllDigits r) (h1 : r ≠ []) : strI (numV (45 :: r)) = 45 :: r ↔ ¬ r.getD 0 0 = 48 := by
  have e : numV (45 :: r) = -((digitsVal r : Nat) : Int) := rfl
  rw [e]
  cases q : digitsVal r with
  | zero =>
    have h2 : r.getD 0 0 = 48 := by
      cases r with
      | nil => exact absurd rfl h1
      | cons c r =>
        have hc := h.head
        show c = 48
        by_cases hh : 49 ≤ c
        · have := digitsVal_pos (cs := r) hh
          omega
        · omega
    constructor
    · intro z
      have z : TL.numL 0 = 45 :: r := (strI_nat 0).symm.trans z
      have := congrArg List.head? z
      simp [TL.numL] at this
    · intro z
      exact absurd h2 z
  | succ m =>
    rw [strI_neg m, ← q]
    have hn : r ≠ [48] := by
      intro z
      rw [z] at q
      have : digitsVal [48] = 0 := rfl
      omega
    have := numL_val_iff h h1
    constructor
    · intro z z2
      exact (this.mp (List.cons.inj z).2) ⟨z2, hn⟩
    · intro z
      rw [this.mpr fun w => z w.1]
theorem numV_strI (n : Int) : numV (strI n) = n := by
  rcases n with n | n
  · have e : strI (Int.ofNat n) = TL.numL n := strI_nat n
    rw [e, numV_pos (TL.numL_digits n), TL.numL_val]
    rfl
  · have e : strI (Int.negSucc n) = 45 :: TL.numL (n + 1) := strI_neg n
    rw [e]
    show -((digitsVal (TL.numL (n + 1)) : Nat) : Int) = _
    rw [TL.numL_val]
    rfl
/-! replace after replace -/
theorem flatMap_pt {f g h : Nat → Tx} (e : ∀ c, (f c).flatMap g = h c) (x : Tx) : (x.flatMap f).flatMap g = x.flatMap h := by
  rw [List.flatMap_assoc]
  congr 1
  funext c
  exact e c
end DL
end
section
set_option linter.all false
set_option maxRecDepth 100000
/-! DLE: what == tells. -/
namespace DL
open PySem L2
theorem PyData.strOk_tS (s : Tx) : PyData.strOk (tS s) = s.all fun c => decide (c < 0x110000) := by
  unfold PyData.strOk tS
  simp [Array.all_eq]
theorem eqO_eqv {a b : D} (ha : SeqAt.shaped (toP a) = true) (hb : SeqAt.shaped (toP b) = true) : eqO a b = some (PyData.eqv (toP a) (toP b)) := by
  have hs : ∀ x y : Tx, (tS x == tS y) = decide (x = y) := by
    intro x y
    rw [Bool.eq_iff_iff, beq_iff_eq, decide_eq_true_eq]
    exact ⟨fun z => tS_inj z, fun z => by rw [z]⟩
  have hi : ∀ x y : Int, (x == y) = decide (x = y) := fun x y => rfl
  have hbb : ∀ x y : Bool, (x == y) = decide (x = y) := by decide
  cases a <;> cases b <;> (first | (unfold eqO; simp only [ha, hb, Bool.and_self, if_true]; done) | (unfold eqO; simp only [toP, PyData.eqv, hs, hi, hbb]; done))
theorem f_eq_of {a b : D} {r : Bool} (ha : SeqAt.shaped (toP a) = true) (hb : SeqAt.shaped (toP b) = true) (h : PyData.eqv (toP a) (toP b) = r) : fEq a b = pure (.bl r) := by
  unfold fEq
  rw [eqO_eqv ha hb, h]
theorem f_ne_of {a b : D} {r : Bool} (ha : SeqAt.shaped (toP a) = true) (hb : SeqAt.shaped (toP b) = true) (h : PyData.eqv (toP a) (toP b) = r) : fNe a b = pure (.bl !r) := by
  unfold fNe
  rw [eqO_eqv ha hb, h]
theorem f_eq_self {a : D} (ha : SeqAt.shaped (toP a) = true) : fEq a a = pure (.bl true) := f_eq_of ha ha (SeqAt.eqv_refl _ (SeqAt.canLay_of_shaped ha))
theorem f_ne_self {a : D} (ha : SeqAt.shaped (toP a) = true) : fNe a a = pure (.bl false) := f_ne_of ha ha (SeqAt.eqv_refl _ (SeqAt.canLay_of_shaped ha))
/-- data of signs, numbers, truths, None in lists and tuples, so deep at most -/
def D.fine : Nat → D → Bool
  | _, .non => true
  | _, .bl _ => true
  | _, .int _ => true
  | _, .str s => s.all fun c => decide (c < 0x110000)
  | k + 1, .lst l => l.all (D.fine k)
  | k + 1, .tup l => l.all (D.fine k)
  | _, _ => false
theorem fine_shaped : ∀ (k : Nat) (d : D), d.fine k = true → (toP d).canLay0 = true ∧ (toP d).depth ≤ k
  | k, .dic _, h => by cases k <;> cases h
  | k, .obj _, h => by cases k <;> cases h
  | k, .ref _, h => by cases k <;> cases h
  | k, .clo _ _, h => by cases k <;> cases h
  | k, .scr _, h => by cases k <;> cases h
  | k, .non, _ => ⟨rfl, Nat.zero_le _⟩
  | k, .bl _, _ => ⟨rfl, Nat.zero_le _⟩
  | k, .int _, _ => ⟨rfl, Nat.zero_le _⟩
  | k, .str s, h => by
    refine ⟨?_, Nat.zero_le _⟩
    show PyData.strOk (tS s) = true
    rw [PyData.strOk_tS]
    cases k <;> exact h
  | 0, .lst _, h => by cases h
  | 0, .tup _, h => by cases h
  | k + 1, .lst l, h => by
    have hl : ∀ d ∈ l, d.fine k = true := List.all_eq_true.mp h
    have : PyData.canLayAll0 (toPs l) = true ∧ PyData.depthAll (toPs l) ≤ k := by
      clear h
      induction l with
      | nil => exact ⟨rfl, Nat.zero_le _⟩
      | cons a l ih =>
        have h1 := fine_shaped k a (hl a (by simp))
        have h2 := ih fun d hd => hl d (by simp [hd])
        simp only [toPs, PyData.canLayAll0, PyData.depthAll, h1.1, h2.1, Bool.and_self, true_and]
        omega
    simp only [toP, PyData.canLay0, PyData.depth, this.1, true_and]
    omega
  | k + 1, .tup l, h => by
    have hl : ∀ d ∈ l, d.fine k = true := List.all_eq_true.mp h
    have : PyData.canLayAll0 (toPs l) = true ∧ PyData.depthAll (toPs l) ≤ k := by
      clear h
      induction l with
      | nil => exact ⟨rfl, Nat.zero_le _⟩
      | cons a l ih =>
        have h1 := fine_shaped k a (hl a (by simp))
        have h2 := ih fun d hd => hl d (by simp [hd])
        simp only [toPs, PyData.canLayAll0, PyData.depthAll, h1.1, h2.1, Bool.and_self, true_and]
        omega
    simp only [toP, PyData.canLay0, PyData.depth, this.1, true_and]
    omega
theorem fine_ok {k : Nat} {d : D} (h : d.fine k = true) (hk : k ≤ 64) : SeqAt.shaped (toP d) = true := by
  have := fine_shaped k d h
  unfold SeqAt.shaped
  rw [this.1, decide_eq_true (show (toP d).depth ≤ 64 by omega)]
  rfl
end DL
end
section
set_option Elab.async false
set_option linter.all false
set_option maxRecDepth 100000
/-! K02: the mirrors of the defs that law formsmith_k02_read_as_it_was_coded reaches. Printed by gen.py. -/
namespace K02
open PySem L2 DL
inductive Fid where
  | is_text
  | without
  | is_whole
  | is_number
  | unmarked
  | way_of
  | _law_cell_at
  | _law_signs
  | _law_mixed
  | _law_whole
  | _law_text_by
  | _law_word_by
  | _law_number_by
  | _law_value_by
  | _law_coded
  | _law_ends
  | _law_stretch
  | _law_meant
  | _law_due
  | _law_same
  | _law_bent
  | law
  | Way_fits
  | Way_marked
  | Way_behind
  | Way_meant
  | Way_read
  | Way_ends
  | Word_fits
  | Word_ends
  | Number_fits
  | Number_marked
  | Number_behind
  | Number_meant
  | Number_ends
  | Quoted_marked
  | Quoted_behind
  | Quoted_meant
  | Quoted_ends
  | Plain_marked
  | Plain_meant
  | Plain_ends
  | Line_marked
  | Line_meant
  | Line_ends
def c_FIGURES : Tx := [48, 49, 50, 51, 52, 53, 54, 55, 56, 57]
def c_GREAT : Tx := [65, 66, 67, 68, 69, 70, 71, 72, 73, 74, 75, 76, 77, 78, 79, 80, 81, 82, 83, 84, 85, 86, 87, 88, 89, 90]
def c_LETTERS : Tx := [97, 98, 99, 100, 101, 102, 103, 104, 105, 106, 107, 108, 109, 110, 111, 112, 113, 114, 115, 116, 117, 118, 119, 120, 121, 122]
def c_PLAIN_ENDS : Tx := [10, 38, 60, 62, 124]
def c_SIGNS : Tx := [10, 32, 33, 34, 35, 36, 38, 39, 40, 41, 42, 43, 44, 45, 46, 47, 48, 49, 50, 51, 52, 53, 54, 55, 56, 57, 58, 59, 60, 61, 62, 63, 64, 65, 66, 67, 68, 69, 70, 71, 72, 73, 74, 75, 76, 77, 78, 79, 80, 81, 82, 83, 84, 85, 86, 87, 88, 89, 90, 91, 92, 93, 94, 95, 96, 97, 98, 99, 100, 101, 102, 103, 104, 105, 106, 107, 108, 109, 110, 111, 112, 113, 114, 115, 116, 117, 118, 119, 120, 121, 122, 123, 124, 125, 126]
section
variable (Φ : Fid → List D → M D)
def tbl_behind : Nat → Option (List D → M D)
  | 4 => some (Φ .Way_behind)
  | 5 => some (Φ .Number_behind)
  | 6 => some (Φ .Quoted_behind)
  | 7 => some (Φ .Way_behind)
  | 8 => some (Φ .Way_behind)
  | _ => none
def tbl_ends : Nat → Option (List D → M D)
  | 4 => some (Φ .Word_ends)
  | 5 => some (Φ .Number_ends)
  | 6 => some (Φ .Quoted_ends)
  | 7 => some (Φ .Plain_ends)
  | 8 => some (Φ .Line_ends)
  | _ => none
def tbl_fits : Nat → Option (List D → M D)
  | 4 => some (Φ .Word_fits)
  | 5 => some (Φ .Number_fits)
  | 6 => some (Φ .Way_fits)
  | 7 => some (Φ .Way_fits)
  | 8 => some (Φ .Way_fits)
  | _ => none
def tbl_marked : Nat → Option (List D → M D)
  | 4 => some (Φ .Way_marked)
  | 5 => some (Φ .Number_marked)
  | 6 => some (Φ .Quoted_marked)
  | 7 => some (Φ .Plain_marked)
  | 8 => some (Φ .Line_marked)
  | _ => none
def tbl_meant : Nat → Option (List D → M D)
  | 4 => some (Φ .Way_meant)
  | 5 => some (Φ .Number_meant)
  | 6 => some (Φ .Quoted_meant)
  | 7 => some (Φ .Plain_meant)
  | 8 => some (Φ .Line_meant)
  | _ => none
def tbl_read : Nat → Option (List D → M D)
  | 4 => some (Φ .Way_read)
  | 5 => some (Φ .Way_read)
  | 6 => some (Φ .Way_read)
  | 7 => some (Φ .Way_read)
  | 8 => some (Φ .Way_read)
  | _ => none
/-- is_text(thing, most): 0 thing, 1 most, 2 sign -/
def N_is_text : List Str := ["thing", "most", "sign"]
def b_is_text : MS :=
  (mSeq (mIf (mOr (mNot (mTru (mIsB "str" (mVar 0)))) (mTest (mBin fGt (mCallF fLen (mCons (mVar 0) mNil)) (mVar 1))))
  (mSeq (mRet (mC (.bl false)))
  mNop)
  mNop)
  (mSeq (mRet (mCallF fAll (mCons (mComp [2] (mItems (mVar 0)) (bName 2) mYes (mBin fIn (mVar 2) (mC (.str c_SIGNS)))) mNil)))
  mNop))
/-- without(some): 0 some, 1 sign -/
def N_without : List Str := ["some", "sign"]
def b_without : MS :=
  (mSeq (mRet (mBM "str" fJoin (mC (.str [])) (mCons (mComp [1] (mItems (mC (.str c_SIGNS))) (bName 1) (mTest (mBin fNotIn (mVar 1) (mVar 0))) (mVar 1)) mNil)))
  mNop)
/-- is_whole(thing): 0 thing -/
def N_is_whole : List Str := ["thing"]
def b_is_whole : MS :=
  (mSeq (mRet (mAndV (mIsB "int" (mVar 0)) (mNotV (mIsB "bool" (mVar 0)))))
  mNop)
/-- is_number(thing): 0 thing -/
def N_is_number : List Str := ["thing"]
def b_is_number : MS :=
  (mSeq (mRet (mAndV (mCall 1 (Φ .is_whole) (mCons (mVar 0) mNil)) (mChain fLt fLt (mBin fSub (mC (.int 0)) (mBin fPow (mC (.int 10)) (mC (.int 30)))) (mVar 0) (mBin fPow (mC (.int 10)) (mC (.int 30))))))
  mNop)
/-- unmarked(text, mark, told): 0 text, 1 mark, 2 told, 3 found, 4 at, 5 sign -/
def N_unmarked : List Str := ["text", "mark", "told", "found", "at", "sign"]
def l_unmarked_0 : MS :=
  (mSeq (mIf (mTest (mBin fEq (mBin fIx (mVar 0) (mVar 4)) (mVar 1)))
  (mSeq (mSet 5 (mGet2 (mVar 2) (mCut (mVar 0) (mPart (mBin fAdd (mVar 4) (mC (.int 1)))) (mPart (mBin fAdd (mVar 4) (mC (.int 2))))) (mC (.str []))))
  (mSeq (mIf (mTest (mBin fEq (mVar 5) (mC (.str []))))
  (mSeq (mRet (mTup mNil))
  mNop)
  mNop)
  (mSeq (mSet 3 (mBin fAdd (mVar 3) (mVar 5)))
  (mSeq (mSet 4 (mBin fAdd (mVar 4) (mC (.int 2))))
  mNop))))
  (mSeq (mSet 3 (mBin fAdd (mVar 3) (mBin fIx (mVar 0) (mVar 4))))
  (mSeq (mSet 4 (mBin fAdd (mVar 4) (mC (.int 1))))
  mNop)))
  mNop)
def b_unmarked : MS :=
  (mSeq (mSet 3 (mC (.str [])))
  (mSeq (mSet 4 (mC (.int 0)))
  (mSeq (mWhile 1000000 (mTest (mBin fLt (mVar 4) (mCallF fLen (mCons (mVar 0) mNil))))
  l_unmarked_0)
  (mSeq (mRet (mTup (mCons (mVar 3) mNil)))
  mNop))))
/-- way_of(word): 0 word -/
def N_way_of : List Str := ["word"]
def b_way_of : MS :=
  (mSeq (mIf (mNot (mTru (mIsB "str" (mVar 0))))
  (mSeq (mRaise 1)
  mNop)
  mNop)
  (mSeq (mIf (mTest (mBin fEq (mVar 0) (mC (.str [119, 111, 114, 100]))))
  (mSeq (mRet (mC (.obj 4)))
  mNop)
  mNop)
  (mSeq (mIf (mTest (mBin fEq (mVar 0) (mC (.str [110, 117, 109, 98, 101, 114]))))
  (mSeq (mRet (mC (.obj 5)))
  mNop)
  mNop)
  (mSeq (mIf (mTest (mBin fEq (mVar 0) (mC (.str [113, 117, 111, 116, 101, 100]))))
  (mSeq (mRet (mC (.obj 6)))
  mNop)
  mNop)
  (mSeq (mIf (mTest (mBin fEq (mVar 0) (mC (.str [112, 108, 97, 105, 110]))))
  (mSeq (mRet (mC (.obj 7)))
  mNop)
  mNop)
  (mSeq (mIf (mTest (mBin fEq (mVar 0) (mC (.str [108, 105, 110, 101]))))
  (mSeq (mRet (mC (.obj 8)))
  mNop)
  mNop)
  (mSeq (mRaise 1)
  mNop)))))))
/-- _law_cell_at(_law_script, _law_k): 0 _law_script, 1 _law_k -/
def N__law_cell_at : List Str := ["_law_script", "_law_k"]
def b__law_cell_at : MS :=
  (mSeq (mIf (mTest (mBin fLt (mVar 1) (mCallF fLen (mCons (mVar 0) mNil))))
  (mSeq (mRet (mBin fIx (mVar 0) (mVar 1)))
  mNop)
  mNop)
  (mSeq (mRet (mC (.int 0)))
  mNop))
/-- _law_signs(): 0 _law_some -/
def N__law_signs : List Str := ["_law_some"]
def b__law_signs : MS :=
  (mSeq (mSet 0 (mC (.str [10, 32, 33, 34, 35, 36, 38, 39, 40, 41, 42, 43, 44, 45, 46, 47, 48, 49, 50, 51, 52, 53, 54, 55, 56, 57, 58, 59, 60, 61, 62, 63, 64, 65, 66, 67, 68, 69, 70, 71, 72, 73, 74, 75, 76, 77, 78, 79, 80, 81, 82, 83, 84, 85, 86, 87, 88, 89, 90, 91, 92, 93, 94, 95, 96])))
  (mSeq (mRet (mBin fAdd (mVar 0) (mC (.str [97, 98, 99, 100, 101, 102, 103, 104, 105, 106, 107, 108, 109, 110, 111, 112, 113, 114, 115, 116, 117, 118, 119, 120, 121, 122, 123, 124, 125, 126]))))
  mNop))
/-- _law_mixed(_law_cell, _law_k): 0 _law_cell, 1 _law_k -/
def N__law_mixed : List Str := ["_law_cell", "_law_k"]
def b__law_mixed : MS :=
  (mSeq (mRet (mBin fMod (mBin fMul (mBin fAdd (mBin fAdd (mVar 0) (mBin fMul (mBin fMul (mC (.int 31)) (mVar 1)) (mVar 1))) (mC (.int 7))) (mC (.int 48271))) (mC (.int 2147483647))))
  mNop)
/-- _law_whole(_law_found): 0 _law_found -/
def N__law_whole : List Str := ["_law_found"]
def b__law_whole : MS :=
  (mSeq (mRet (mAndV (mIsB "int" (mVar 0)) (mNotV (mIsB "bool" (mVar 0)))))
  mNop)
/-- _law_text_by(_law_cell, _law_most): 0 _law_cell, 1 _law_most, 2 _law_all_signs, 3 _law_size, 4 _law_found, 5 _law_k, 6 _law_n -/
def N__law_text_by : List Str := ["_law_cell", "_law_most", "_law_all_signs", "_law_size", "_law_found", "_law_k", "_law_n"]
def l__law_text_by_0 : MS :=
  (mSeq (mSet 6 (mCall 2 (Φ ._law_mixed) (mCons (mBin fDiv (mVar 0) (mC (.int 5))) (mCons (mVar 5) mNil))))
  (mSeq (mApp 4 (mBin fIx (mLst (mCons (mBin fIx (mVar 2) (mBin fMod (mBin fDiv (mVar 6) (mC (.int 3))) (mC (.int 95)))) (mCons (mBin fIx (mC (.str [126, 94, 34, 60, 62, 38, 124, 10, 123, 125, 45, 48, 97, 65, 57, 108, 103, 97, 98, 110, 113])) (mBin fMod (mBin fDiv (mVar 6) (mC (.int 3))) (mC (.int 21)))) mNil))) (mBin fMul (mBin fMod (mVar 6) (mC (.int 2))) (mBin fMod (mBin fDiv (mVar 0) (mC (.int 7))) (mC (.int 2))))))
  mNop))
def b__law_text_by : MS :=
  (mSeq (mSet 2 (mCall 0 (Φ ._law_signs) mNil))
  (mSeq (mSet 3 (mBin fIx (mLst (mCons (mBin fMod (mVar 0) (mC (.int 9))) (mCons (mBin fMod (mVar 0) (mC (.int 9))) (mCons (mBin fMod (mVar 0) (mBin fAdd (mVar 1) (mC (.int 1)))) (mCons (mBin fSub (mVar 1) (mBin fMod (mVar 0) (mC (.int 2)))) mNil))))) (mBin fMul (mBin fMod (mBin fDiv (mVar 0) (mC (.int 9))) (mC (.int 4))) (mCallF fInt (mCons (mBin fEq (mBin fMod (mBin fDiv (mVar 0) (mC (.int 36))) (mC (.int 3))) (mC (.int 1))) mNil)))))
  (mSeq (mSetOwn 4 (mLst mNil))
  (mSeq (mFor (mRange1 (mVar 3)) (bName 5)
  (l__law_text_by_0 Φ))
  (mFrz 4 (mSeq (mRet (mBM "str" fJoin (mC (.str [])) (mCons (mVar 4) mNil)))
  mNop))))))
/-- _law_word_by(_law_cell): 0 _law_cell, 1 _law_some, 2 _law_size, 3 _law_k -/
def N__law_word_by : List Str := ["_law_cell", "_law_some", "_law_size", "_law_k"]
def b__law_word_by : MS :=
  (mSeq (mSet 1 (mC (.str [97, 98, 99, 100, 101, 102, 103, 104, 105, 106, 107, 108, 109, 110, 111, 112, 113, 114, 115, 116, 117, 118, 119, 120, 121, 122, 65, 66, 67, 68, 69, 70, 71, 72, 73, 74, 75, 76, 77, 78, 79, 80, 81, 82, 83, 84, 85, 86, 87, 88, 89, 90, 48, 49, 50, 51, 52, 53, 54, 55, 56, 57])))
  (mSeq (mSet 2 (mBin fIx (mLst (mCons (mBin fAdd (mC (.int 1)) (mBin fMod (mVar 0) (mC (.int 7)))) (mCons (mBin fAdd (mC (.int 1)) (mBin fMod (mVar 0) (mC (.int 40)))) (mCons (mC (.int 40)) mNil)))) (mBin fMul (mBin fMod (mBin fDiv (mVar 0) (mC (.int 40))) (mC (.int 3))) (mCallF fInt (mCons (mBin fEq (mBin fMod (mBin fDiv (mVar 0) (mC (.int 120))) (mC (.int 3))) (mC (.int 1))) mNil)))))
  (mSeq (mRet (mBM "str" fJoin (mC (.str [])) (mCons (mComp [3] (mRange1 (mVar 2)) (bName 3) mYes (mBin fIx (mVar 1) (mBin fMod (mBin fDiv (mCall 2 (Φ ._law_mixed) (mCons (mBin fDiv (mVar 0) (mC (.int 7))) (mCons (mVar 3) mNil))) (mC (.int 3))) (mC (.int 62))))) mNil)))
  mNop)))
/-- _law_number_by(_law_cell): 0 _law_cell, 1 _law_small, 2 _law_great -/
def N__law_number_by : List Str := ["_law_cell", "_law_small", "_law_great"]
def b__law_number_by : MS :=
  (mSeq (mSet 1 (mLst (mCons (mBin fSub (mBin fMod (mVar 0) (mC (.int 201))) (mC (.int 100))) (mCons (mBin fMod (mVar 0) (mC (.int 100003))) (mCons (mC (.int 0)) (mCons (mBin fSub (mC (.int 0)) (mBin fMod (mVar 0) (mC (.int 1000000007)))) mNil))))))
  (mSeq (mSet 2 (mLst (mCons (mBin fSub (mBin fSub (mBin fPow (mC (.int 10)) (mC (.int 30))) (mC (.int 1))) (mBin fMod (mVar 0) (mC (.int 2)))) (mCons (mBin fMod (mBin fMul (mVar 0) (mBin fPow (mC (.int 48271)) (mC (.int 4)))) (mBin fPow (mC (.int 10)) (mC (.int 30)))) (mCons (mBin fSub (mC (.int 1)) (mBin fPow (mC (.int 10)) (mC (.int 30)))) mNil)))))
  (mSeq (mRet (mBin fIx (mBin fAdd (mVar 1) (mVar 2)) (mBin fMod (mBin fDiv (mVar 0) (mC (.int 5))) (mC (.int 7)))))
  mNop)))
/-- _law_value_by(_law_word, _law_cell): 0 _law_word, 1 _law_cell -/
def N__law_value_by : List Str := ["_law_word", "_law_cell"]
def b__law_value_by : MS :=
  (mSeq (mIf (mTest (mBin fEq (mVar 0) (mC (.str [119, 111, 114, 100]))))
  (mSeq (mRet (mCall 1 (Φ ._law_word_by) (mCons (mVar 1) mNil)))
  mNop)
  mNop)
  (mSeq (mIf (mTest (mBin fEq (mVar 0) (mC (.str [110, 117, 109, 98, 101, 114]))))
  (mSeq (mRet (mCall 1 (Φ ._law_number_by) (mCons (mVar 1) mNil)))
  mNop)
  mNop)
  (mSeq (mRet (mCall 2 (Φ ._law_text_by) (mCons (mVar 1) (mCons (mC (.int 400)) mNil))))
  mNop)))
/-- _law_coded(_law_word, _law_value): 0 _law_word, 1 _law_value, 2 _law_marks, 3 _law_found, 4 _law_sign -/
def N__law_coded : List Str := ["_law_word", "_law_value", "_law_marks", "_law_found", "_law_sign"]
def b__law_coded : MS :=
  (mSeq (mIf (mTest (mBin fEq (mVar 0) (mC (.str [119, 111, 114, 100]))))
  (mSeq (mRet (mVar 1))
  mNop)
  mNop)
  (mSeq (mIf (mTest (mBin fEq (mVar 0) (mC (.str [110, 117, 109, 98, 101, 114]))))
  (mSeq (mRet (mCallF fStr (mCons (mVar 1) mNil)))
  mNop)
  mNop)
  (mSeq (mSet 2 (mDict [((mC (.str [126])), (mC (.str [126, 126]))), ((mC (.str [10])), (mC (.str [126, 110])))]))
  (mSeq (mIf (mTest (mBin fEq (mVar 0) (mC (.str [112, 108, 97, 105, 110]))))
  (mSeq (mSet 2 (mDict [((mC (.str [126])), (mC (.str [126, 126]))), ((mC (.str [60])), (mC (.str [126, 108]))), ((mC (.str [62])), (mC (.str [126, 103]))), ((mC (.str [38])), (mC (.str [126, 97]))), ((mC (.str [124])), (mC (.str [126, 98]))), ((mC (.str [10])), (mC (.str [126, 110])))]))
  mNop)
  mNop)
  (mSeq (mIf (mTest (mBin fEq (mVar 0) (mC (.str [113, 117, 111, 116, 101, 100]))))
  (mSeq (mSet 2 (mDict [((mC (.str [94])), (mC (.str [94, 94]))), ((mC (.str [34])), (mC (.str [94, 113]))), ((mC (.str [10])), (mC (.str [94, 110])))]))
  mNop)
  mNop)
  (mSeq (mSet 3 (mBM "str" fJoin (mC (.str [])) (mCons (mComp [4] (mItems (mVar 1)) (bName 4) mYes (mGet2 (mVar 2) (mVar 4) (mVar 4))) mNil)))
  (mSeq (mIf (mTest (mBin fEq (mVar 0) (mC (.str [113, 117, 111, 116, 101, 100]))))
  (mSeq (mRet (mBin fAdd (mBin fAdd (mC (.str [34])) (mVar 3)) (mC (.str [34]))))
  mNop)
  mNop)
  (mSeq (mRet (mVar 3))
  mNop))))))))
/-- _law_ends(_law_word): 0 _law_word, 1 _law_some, 2 _law_sign -/
def N__law_ends : List Str := ["_law_word", "_law_some", "_law_sign"]
def b__law_ends : MS :=
  (mSeq (mIf (mTest (mBin fEq (mVar 0) (mC (.str [112, 108, 97, 105, 110]))))
  (mSeq (mRet (mC (.str [10, 38, 60, 62, 124])))
  mNop)
  mNop)
  (mSeq (mIf (mTest (mBin fEq (mVar 0) (mC (.str [108, 105, 110, 101]))))
  (mSeq (mRet (mC (.str [10])))
  mNop)
  mNop)
  (mSeq (mSet 1 (mDict [((mC (.str [119, 111, 114, 100])), (mC (.str [97, 98, 99, 100, 101, 102, 103, 104, 105, 106, 107, 108, 109, 110, 111, 112, 113, 114, 115, 116, 117, 118, 119, 120, 121, 122, 65, 66, 67, 68, 69, 70, 71, 72, 73, 74, 75, 76, 77, 78, 79, 80, 81, 82, 83, 84, 85, 86, 87, 88, 89, 90, 48, 49, 50, 51, 52, 53, 54, 55, 56, 57]))), ((mC (.str [110, 117, 109, 98, 101, 114])), (mC (.str [48, 49, 50, 51, 52, 53, 54, 55, 56, 57])))]))
  (mSeq (mRet (mBM "str" fJoin (mC (.str [])) (mCons (mComp [2] (mItems (mCall 0 (Φ ._law_signs) mNil)) (bName 2) (mTest (mBin fNotIn (mVar 2) (mGet2 (mVar 1) (mVar 0) (mC (.str []))))) (mVar 2)) mNil)))
  mNop))))
/-- _law_stretch(_law_word, _law_text, _law_at): 0 _law_word, 1 _law_text, 2 _law_at, 3 _law_behind -/
def N__law_stretch : List Str := ["_law_word", "_law_text", "_law_at", "_law_behind"]
def l__law_stretch_0 : MS :=
  (mSeq (mSet 3 (mBin fAdd (mVar 3) (mC (.int 1))))
  mNop)
def l__law_stretch_1 : MS :=
  (mSeq (mSet 3 (mBin fAdd (mVar 3) (mC (.int 1))))
  mNop)
def b__law_stretch : MS :=
  (mSeq (mSet 3 (mVar 2))
  (mSeq (mIf (mTest (mBin fEq (mVar 0) (mC (.str [113, 117, 111, 116, 101, 100]))))
  (mSeq (mSet 3 (mBin fAdd (mVar 2) (mC (.int 1))))
  (mSeq (mWhile 1000000 (mAnd (mTest (mBin fLt (mVar 3) (mCallF fLen (mCons (mVar 1) mNil)))) (mTest (mBin fNe (mBin fIx (mVar 1) (mVar 3)) (mC (.str [34])))))
  l__law_stretch_0)
  (mSeq (mIf (mOr (mTest (mBin fNe (mCut (mVar 1) (mPart (mVar 2)) (mPart (mBin fAdd (mVar 2) (mC (.int 1))))) (mC (.str [34])))) (mTest (mBin fGe (mVar 3) (mCallF fLen (mCons (mVar 1) mNil)))))
  (mSeq (mRet (mUn fNeg (mC (.int 1))))
  mNop)
  mNop)
  (mSeq (mRet (mBin fAdd (mVar 3) (mC (.int 1))))
  mNop))))
  mNop)
  (mSeq (mIf (mAnd (mTest (mBin fEq (mVar 0) (mC (.str [110, 117, 109, 98, 101, 114])))) (mTest (mBin fEq (mCut (mVar 1) (mPart (mVar 2)) (mPart (mBin fAdd (mVar 2) (mC (.int 1))))) (mC (.str [45])))))
  (mSeq (mSet 3 (mBin fAdd (mVar 2) (mC (.int 1))))
  mNop)
  mNop)
  (mSeq (mWhile 1000000 (mAnd (mTest (mBin fLt (mVar 3) (mCallF fLen (mCons (mVar 1) mNil)))) (mTest (mBin fNotIn (mBin fIx (mVar 1) (mVar 3)) (mCall 1 (Φ ._law_ends) (mCons (mVar 0) mNil)))))
  l__law_stretch_1)
  (mSeq (mRet (mVar 3))
  mNop)))))
/-- _law_meant(_law_word, _law_text): 0 _law_word, 1 _law_text, 2 _law_figures, 3 _law_mark, 4 _law_told, 5 _law_plain, 6 _law_found, 7 _law_at, 8 _law_sign -/
def N__law_meant : List Str := ["_law_word", "_law_text", "_law_figures", "_law_mark", "_law_told", "_law_plain", "_law_found", "_law_at", "_law_sign"]
def l__law_meant_0 : MS :=
  (mSeq (mSet 8 (mBin fIx (mVar 1) (mVar 7)))
  (mSeq (mIf (mTest (mBin fEq (mVar 8) (mVar 3)))
  (mSeq (mSet 7 (mBin fAdd (mVar 7) (mC (.int 1))))
  (mSeq (mIf (mOr (mTest (mBin fEq (mCut (mVar 1) (mPart (mVar 7)) (mPart (mBin fAdd (mVar 7) (mC (.int 1))))) (mC (.str [])))) (mTest (mBin fNotIn (mBin fIx (mVar 1) (mVar 7)) (mVar 4))))
  (mSeq (mRet (mLst mNil))
  mNop)
  mNop)
  (mSeq (mSet 8 (mBin fIx (mVar 5) (mBM "str" fSIndex (mVar 4) (mCons (mBin fIx (mVar 1) (mVar 7)) mNil))))
  mNop)))
  (mSeq (mIf (mTest (mBin fEq (mVar 8) (mC (.str [10]))))
  (mSeq (mRet (mLst mNil))
  mNop)
  mNop)
  mNop))
  (mSeq (mSet 6 (mBin fAdd (mVar 6) (mVar 8)))
  (mSeq (mSet 7 (mBin fAdd (mVar 7) (mC (.int 1))))
  mNop))))
def b__law_meant : MS :=
  (mSeq (mIf (mTest (mBin fEq (mVar 0) (mC (.str [119, 111, 114, 100]))))
  (mSeq (mRet (mCut (mLst (mCons (mVar 1) mNil)) mNoPart (mPart (mCallF fInt (mCons (mChain fLe fLe (mC (.int 1)) (mCallF fLen (mCons (mVar 1) mNil)) (mC (.int 40))) mNil)))))
  mNop)
  mNop)
  (mSeq (mIf (mTest (mBin fEq (mVar 0) (mC (.str [110, 117, 109, 98, 101, 114]))))
  (mSeq (mSet 2 (mCut (mVar 1) (mPart (mCallF fInt (mCons (mBin fEq (mCut (mVar 1) mNoPart (mPart (mC (.int 1)))) (mC (.str [45]))) mNil))) mNoPart))
  (mSeq (mIf (mOr (mNot (mTest (mChain fLe fLe (mC (.int 1)) (mCallF fLen (mCons (mVar 2) mNil)) (mC (.int 30))))) (mAnd (mTest (mBin fEq (mBin fIx (mVar 2) (mC (.int 0))) (mC (.str [48])))) (mTest (mBin fNe (mVar 1) (mC (.str [48]))))))
  (mSeq (mRet (mLst mNil))
  mNop)
  mNop)
  (mSeq (mRet (mLst (mCons (mCallF fInt (mCons (mVar 1) mNil)) mNil)))
  mNop)))
  mNop)
  (mSeq (mSet 3 (mIfE (mTest (mBin fEq (mVar 0) (mC (.str [113, 117, 111, 116, 101, 100])))) (mC (.str [94])) (mC (.str [126]))))
  (mSeq (mSet 4 (mBin fIx (mDict [((mC (.str [108, 105, 110, 101])), (mC (.str [126, 110]))), ((mC (.str [112, 108, 97, 105, 110])), (mC (.str [126, 108, 103, 97, 98, 110]))), ((mC (.str [113, 117, 111, 116, 101, 100])), (mC (.str [94, 113, 110])))]) (mVar 0)))
  (mSeq (mSet 5 (mBin fIx (mDict [((mC (.str [108, 105, 110, 101])), (mC (.str [126, 10]))), ((mC (.str [112, 108, 97, 105, 110])), (mC (.str [126, 60, 62, 38, 124, 10]))), ((mC (.str [113, 117, 111, 116, 101, 100])), (mC (.str [94, 34, 10])))]) (mVar 0)))
  (mSeq (mIf (mTest (mBin fEq (mVar 0) (mC (.str [113, 117, 111, 116, 101, 100]))))
  (mSeq (mSet 1 (mCut (mVar 1) (mPart (mC (.int 1))) (mPart (mUn fNeg (mC (.int 1))))))
  mNop)
  mNop)
  (mSeq (mSet 6 (mC (.str [])))
  (mSeq (mSet 7 (mC (.int 0)))
  (mSeq (mWhile 1000000 (mTest (mBin fLt (mVar 7) (mCallF fLen (mCons (mVar 1) mNil))))
  l__law_meant_0)
  (mSeq (mRet (mCut (mLst (mCons (mVar 6) mNil)) mNoPart (mPart (mCallF fInt (mCons (mBin fLe (mCallF fLen (mCons (mVar 6) mNil)) (mC (.int 400))) mNil)))))
  mNop))))))))))
/-- _law_due(_law_word, _law_text, _law_at): 0 _law_word, 1 _law_text, 2 _law_at, 3 _law_behind, 4 _law_some -/
def N__law_due : List Str := ["_law_word", "_law_text", "_law_at", "_law_behind", "_law_some"]
def b__law_due : MS :=
  (mSeq (mSet 3 (mCall 3 (Φ ._law_stretch) (mCons (mVar 0) (mCons (mVar 1) (mCons (mVar 2) mNil)))))
  (mSeq (mIf (mTest (mBin fLt (mVar 3) (mC (.int 0))))
  (mSeq (mRet (mC .non))
  mNop)
  mNop)
  (mSeq (mSet 4 (mCall 2 (Φ ._law_meant) (mCons (mVar 0) (mCons (mCut (mVar 1) (mPart (mVar 2)) (mPart (mVar 3))) mNil))))
  (mSeq (mIf (mTest (mBin fEq (mVar 4) (mLst mNil)))
  (mSeq (mRet (mC .non))
  mNop)
  mNop)
  (mSeq (mRet (mTup (mCons (mBin fIx (mVar 4) (mC (.int 0))) (mCons (mVar 3) mNil))))
  mNop)))))
/-- _law_same(_law_found, _law_due_here): 0 _law_found, 1 _law_due_here -/
def N__law_same : List Str := ["_law_found", "_law_due_here"]
def b__law_same : MS :=
  (mSeq (mIf (mOr (mTest (mBin fIs (mVar 1) (mC .non))) (mTest (mBin fIs (mVar 0) (mC .non))))
  (mSeq (mRet (mAndV (mBin fIs (mVar 0) (mC .non)) (mBin fIs (mVar 1) (mC .non))))
  mNop)
  mNop)
  (mSeq (mIf (mOr (mNot (mTru (mIsB "tuple" (mVar 0)))) (mOr (mTest (mBin fNe (mCallF fLen (mCons (mVar 0) mNil)) (mC (.int 2)))) (mNot (mTru (mCall 1 (Φ ._law_whole) (mCons (mBin fIx (mVar 0) (mC (.int 1))) mNil))))))
  (mSeq (mRet (mC (.bl false)))
  mNop)
  mNop)
  (mSeq (mIf (mOr (mTest (mBin fNe (mIsB "str" (mBin fIx (mVar 0) (mC (.int 0)))) (mIsB "str" (mBin fIx (mVar 1) (mC (.int 0)))))) (mTru (mIsB "bool" (mBin fIx (mVar 0) (mC (.int 0))))))
  (mSeq (mRet (mC (.bl false)))
  mNop)
  mNop)
  (mSeq (mRet (mBin fEq (mVar 0) (mVar 1)))
  mNop))))
/-- _law_bent(_law_text, _law_cell): 0 _law_text, 1 _law_cell, 2 _law_all_signs, 3 _law_sign, 4 _law_at -/
def N__law_bent : List Str := ["_law_text", "_law_cell", "_law_all_signs", "_law_sign", "_law_at"]
def b__law_bent : MS :=
  (mSeq (mSet 2 (mBin fAdd (mCall 0 (Φ ._law_signs) mNil) (mC (.str [126, 126, 94, 94, 34, 45, 45, 48, 48]))))
  (mSeq (mSet 3 (mBin fIx (mVar 2) (mBin fMod (mBin fDiv (mVar 1) (mC (.int 64))) (mCallF fLen (mCons (mVar 2) mNil)))))
  (mSeq (mSet 4 (mBin fMod (mBin fDiv (mVar 1) (mC (.int 8192))) (mBin fAdd (mCallF fLen (mCons (mVar 0) mNil)) (mC (.int 1)))))
  (mSeq (mRet (mBin fIx (mLst (mCons (mBin fAdd (mBin fAdd (mCut (mVar 0) mNoPart (mPart (mVar 4))) (mVar 3)) (mCut (mVar 0) (mPart (mVar 4)) mNoPart)) (mCons (mBin fAdd (mCut (mVar 0) mNoPart (mPart (mVar 4))) (mCut (mVar 0) (mPart (mBin fAdd (mVar 4) (mC (.int 1)))) mNoPart)) (mCons (mBin fAdd (mBin fAdd (mCut (mVar 0) mNoPart (mPart (mVar 4))) (mVar 3)) (mCut (mVar 0) (mPart (mBin fAdd (mVar 4) (mC (.int 1)))) mNoPart)) (mCons (mVar 0) mNil))))) (mBin fMod (mVar 1) (mC (.int 4)))))
  mNop))))
/-- law(_law_script): 0 _law_script, 1 _law_words, 2 _law_k, 3 _law_way, 4 _law_cell, 5 _law_value, 6 _law_ahead, 7 _law_ends_here, 8 _law_behind, 9 _law_coded_here, 10 _law_turn, 11 _law_found, 12 _law_text, 13 _law_at -/
def N_law : List Str := ["_law_script", "_law_words", "_law_k", "_law_way", "_law_cell", "_law_value", "_law_ahead", "_law_ends_here", "_law_behind", "_law_coded_here", "_law_turn", "_law_found", "_law_text", "_law_at"]
def l_law_0 : MS :=
  (mSeq (mSet 11 (mMeth 3 (tbl_read Φ) (mVar 3) (mCons (mBin fAdd (mBin fAdd (mVar 6) (mVar 9)) (mVar 8)) (mCons (mCallF fLen (mCons (mVar 6) mNil)) mNil))))
  (mSeq (mIf (mNot (mTru (mCall 2 (Φ ._law_same) (mCons (mVar 11) (mCons (mTup (mCons (mVar 5) (mCons (mBin fAdd (mCallF fLen (mCons (mVar 6) mNil)) (mCallF fLen (mCons (mVar 9) mNil))) mNil))) mNil)))))
  (mSeq (mRet (mC (.bl false)))
  mNop)
  mNop)
  mNop))
def l_law_1 : MS :=
  (mSeq (mSet 3 (mCall 1 (Φ .way_of) (mCons (mBin fIx (mVar 1) (mVar 2)) mNil)))
  (mSeq (mSet 4 (mCall 2 (Φ ._law_mixed) (mCons (mCall 2 (Φ ._law_cell_at) (mCons (mVar 0) (mCons (mBin fMul (mC (.int 4)) (mVar 2)) mNil))) (mCons (mVar 2) mNil))))
  (mSeq (mSet 5 (mCall 2 (Φ ._law_value_by) (mCons (mBin fIx (mVar 1) (mVar 2)) (mCons (mCall 2 (Φ ._law_mixed) (mCons (mCall 2 (Φ ._law_cell_at) (mCons (mVar 0) (mCons (mBin fAdd (mBin fMul (mC (.int 4)) (mVar 2)) (mC (.int 1))) mNil))) (mCons (mC (.int 5)) mNil))) mNil))))
  (mSeq (mSet 6 (mCall 2 (Φ ._law_text_by) (mCons (mVar 4) (mCons (mC (.int 20)) mNil))))
  (mSeq (mSet 7 (mCall 1 (Φ ._law_ends) (mCons (mBin fIx (mVar 1) (mVar 2)) mNil)))
  (mSeq (mSet 8 (mBin fIx (mLst (mCons (mC (.str [])) (mCons (mBin fAdd (mBin fIx (mVar 7) (mBin fMod (mBin fDiv (mVar 4) (mC (.int 3))) (mCallF fLen (mCons (mVar 7) mNil)))) (mCall 2 (Φ ._law_text_by) (mCons (mBin fDiv (mVar 4) (mC (.int 7))) (mCons (mC (.int 20)) mNil)))) mNil))) (mBin fMod (mVar 4) (mC (.int 2)))))
  (mSeq (mSet 9 (mCall 2 (Φ ._law_coded) (mCons (mBin fIx (mVar 1) (mVar 2)) (mCons (mVar 5) mNil))))
  (mSeq (mFor (mRange1 (mC (.int 2))) (bName 10)
  (l_law_0 Φ))
  (mSeq (mSet 12 (mCall 2 (Φ ._law_bent) (mCons (mBin fAdd (mBin fAdd (mVar 6) (mVar 9)) (mVar 8)) (mCons (mCall 2 (Φ ._law_mixed) (mCons (mCall 2 (Φ ._law_cell_at) (mCons (mVar 0) (mCons (mBin fAdd (mBin fMul (mC (.int 4)) (mVar 2)) (mC (.int 2))) mNil))) (mCons (mC (.int 9)) mNil))) mNil))))
  (mSeq (mSet 13 (mBin fIx (mLst (mCons (mCallF fLen (mCons (mVar 6) mNil)) (mCons (mBin fMod (mCall 2 (Φ ._law_cell_at) (mCons (mVar 0) (mCons (mBin fAdd (mBin fMul (mC (.int 4)) (mVar 2)) (mC (.int 3))) mNil))) (mBin fAdd (mCallF fLen (mCons (mVar 12) mNil)) (mC (.int 1)))) mNil))) (mBin fMod (mBin fDiv (mVar 4) (mC (.int 2))) (mC (.int 2)))))
  (mSeq (mSet 13 (mCallF fMin (mCons (mVar 13) (mCons (mCallF fLen (mCons (mVar 12) mNil)) mNil))))
  (mSeq (mIf (mNot (mTru (mCall 2 (Φ ._law_same) (mCons (mMeth 3 (tbl_read Φ) (mVar 3) (mCons (mVar 12) (mCons (mVar 13) mNil))) (mCons (mCall 3 (Φ ._law_due) (mCons (mBin fIx (mVar 1) (mVar 2)) (mCons (mVar 12) (mCons (mVar 13) mNil)))) mNil)))))
  (mSeq (mRet (mC (.bl false)))
  mNop)
  mNop)
  mNop))))))))))))
def b_law : MS :=
  (mSeq (mSet 1 (mLst (mCons (mC (.str [119, 111, 114, 100])) (mCons (mC (.str [110, 117, 109, 98, 101, 114])) (mCons (mC (.str [113, 117, 111, 116, 101, 100])) (mCons (mC (.str [112, 108, 97, 105, 110])) (mCons (mC (.str [108, 105, 110, 101])) mNil)))))))
  (mSeq (mFor (mRange1 (mC (.int 5))) (bName 2)
  (l_law_1 Φ))
  (mSeq (mRet (mC (.bl true)))
  mNop)))
/-- Way.fits(self, value): 0 self, 1 value -/
def N_Way_fits : List Str := ["self", "value"]
def b_Way_fits : MS :=
  (mSeq (mRet (mCall 2 (Φ .is_text) (mCons (mVar 1) (mCons (mC (.int 400)) mNil))))
  mNop)
/-- Way.marked(self, value): 0 self, 1 value -/
def N_Way_marked : List Str := ["self", "value"]
def b_Way_marked : MS :=
  (mSeq (mRet (mVar 1))
  mNop)
/-- Way.behind(self, text, at): 0 self, 1 text, 2 at, 3 ends -/
def N_Way_behind : List Str := ["self", "text", "at", "ends"]
def l_Way_behind_0 : MS :=
  (mSeq (mSet 2 (mBin fAdd (mVar 2) (mC (.int 1))))
  mNop)
def b_Way_behind : MS :=
  (mSeq (mSet 3 (mMeth 1 (tbl_ends Φ) (mVar 0) mNil))
  (mSeq (mWhile 1000000 (mAnd (mTest (mBin fLt (mVar 2) (mCallF fLen (mCons (mVar 1) mNil)))) (mTest (mBin fNotIn (mBin fIx (mVar 1) (mVar 2)) (mVar 3))))
  l_Way_behind_0)
  (mSeq (mRet (mVar 2))
  mNop)))
/-- Way.meant(self, stretch): 0 self, 1 stretch -/
def N_Way_meant : List Str := ["self", "stretch"]
def b_Way_meant : MS :=
  (mSeq (mRet (mTup (mCons (mVar 1) mNil)))
  mNop)
/-- Way.read(self, text, at): 0 self, 1 text, 2 at, 3 behind, 4 value -/
def N_Way_read : List Str := ["self", "text", "at", "behind", "value"]
def l_Way_read_0 : MS :=
  (mSeq (mIf (mAnd (mTru (mMeth 2 (tbl_fits Φ) (mVar 0) (mCons (mVar 4) mNil))) (mTest (mBin fEq (mMeth 2 (tbl_marked Φ) (mVar 0) (mCons (mVar 4) mNil)) (mCut (mVar 1) (mPart (mVar 2)) (mPart (mVar 3))))))
  (mSeq (mRet (mTup (mCons (mVar 4) (mCons (mVar 3) mNil))))
  mNop)
  mNop)
  mNop)
def b_Way_read : MS :=
  (mSeq (mSet 3 (mMeth 3 (tbl_behind Φ) (mVar 0) (mCons (mVar 1) (mCons (mVar 2) mNil))))
  (mSeq (mIf (mTest (mBin fIs (mVar 3) (mC .non)))
  (mSeq (mRet (mC .non))
  mNop)
  mNop)
  (mSeq (mFor (mItems (mMeth 2 (tbl_meant Φ) (mVar 0) (mCons (mCut (mVar 1) (mPart (mVar 2)) (mPart (mVar 3))) mNil))) (bName 4)
  (l_Way_read_0 Φ))
  (mSeq (mRet (mC .non))
  mNop))))
/-- Way.ends(self): 0 self -/
def N_Way_ends : List Str := ["self"]
def b_Way_ends : MS :=
  (mSeq (mRet (mC (.str [])))
  mNop)
/-- Word.fits(self, value): 0 self, 1 value, 2 sign -/
def N_Word_fits : List Str := ["self", "value", "sign"]
def b_Word_fits : MS :=
  (mSeq (mIf (mOr (mNot (mTru (mIsB "str" (mVar 1)))) (mNot (mTest (mChain fLe fLe (mC (.int 1)) (mCallF fLen (mCons (mVar 1) mNil)) (mC (.int 40))))))
  (mSeq (mRet (mC (.bl false)))
  mNop)
  mNop)
  (mSeq (mRet (mCallF fAll (mCons (mComp [2] (mItems (mVar 1)) (bName 2) mYes (mBin fIn (mVar 2) (mBin fAdd (mBin fAdd (mC (.str c_LETTERS)) (mC (.str c_GREAT))) (mC (.str c_FIGURES))))) mNil)))
  mNop))
/-- Word.ends(self): 0 self -/
def N_Word_ends : List Str := ["self"]
def b_Word_ends : MS :=
  (mSeq (mRet (mCall 1 (Φ .without) (mCons (mBin fAdd (mBin fAdd (mC (.str c_LETTERS)) (mC (.str c_GREAT))) (mC (.str c_FIGURES))) mNil)))
  mNop)
/-- Number.fits(self, value): 0 self, 1 value -/
def N_Number_fits : List Str := ["self", "value"]
def b_Number_fits : MS :=
  (mSeq (mRet (mCall 1 (Φ .is_number) (mCons (mVar 1) mNil)))
  mNop)
/-- Number.marked(self, value): 0 self, 1 value -/
def N_Number_marked : List Str := ["self", "value"]
def b_Number_marked : MS :=
  (mSeq (mRet (mCallF fStr (mCons (mVar 1) mNil)))
  mNop)
/-- Number.behind(self, text, at): 0 self, 1 text, 2 at -/
def N_Number_behind : List Str := ["self", "text", "at"]
def l_Number_behind_0 : MS :=
  (mSeq (mSet 2 (mBin fAdd (mVar 2) (mC (.int 1))))
  mNop)
def b_Number_behind : MS :=
  (mSeq (mIf (mTest (mBin fEq (mCut (mVar 1) (mPart (mVar 2)) (mPart (mBin fAdd (mVar 2) (mC (.int 1))))) (mC (.str [45]))))
  (mSeq (mSet 2 (mBin fAdd (mVar 2) (mC (.int 1))))
  mNop)
  mNop)
  (mSeq (mWhile 1000000 (mAnd (mTest (mBin fLt (mVar 2) (mCallF fLen (mCons (mVar 1) mNil)))) (mTest (mBin fIn (mBin fIx (mVar 1) (mVar 2)) (mC (.str c_FIGURES)))))
  l_Number_behind_0)
  (mSeq (mRet (mVar 2))
  mNop)))
/-- Number.meant(self, stretch): 0 self, 1 stretch, 2 figures -/
def N_Number_meant : List Str := ["self", "stretch", "figures"]
def b_Number_meant : MS :=
  (mSeq (mSet 2 (mBM "str" fLstrip (mVar 1) (mCons (mC (.str [45])) mNil)))
  (mSeq (mIf (mOr (mTest (mBin fEq (mVar 2) (mC (.str [])))) (mTest (mBin fGt (mCallF fLen (mCons (mVar 2) mNil)) (mC (.int 30)))))
  (mSeq (mRet (mTup mNil))
  mNop)
  mNop)
  (mSeq (mRet (mTup (mCons (mCallF fInt (mCons (mVar 1) mNil)) mNil)))
  mNop)))
/-- Number.ends(self): 0 self -/
def N_Number_ends : List Str := ["self"]
def b_Number_ends : MS :=
  (mSeq (mRet (mCall 1 (Φ .without) (mCons (mC (.str c_FIGURES)) mNil)))
  mNop)
/-- Quoted.marked(self, value): 0 self, 1 value, 2 within -/
def N_Quoted_marked : List Str := ["self", "value", "within"]
def b_Quoted_marked : MS :=
  (mSeq (mSet 2 (mUn (fRepl [10] [94, 110]) (mUn (fRepl [34] [94, 113]) (mUn (fRepl [94] [94, 94]) (mVar 1)))))
  (mSeq (mRet (mBin fAdd (mBin fAdd (mC (.str [34])) (mVar 2)) (mC (.str [34]))))
  mNop))
/-- Quoted.behind(self, text, at): 0 self, 1 text, 2 at, 3 behind -/
def N_Quoted_behind : List Str := ["self", "text", "at", "behind"]
def b_Quoted_behind : MS :=
  (mSeq (mIf (mTest (mBin fNe (mCut (mVar 1) (mPart (mVar 2)) (mPart (mBin fAdd (mVar 2) (mC (.int 1))))) (mC (.str [34]))))
  (mSeq (mRet (mC .non))
  mNop)
  mNop)
  (mSeq (mSet 3 (mBM "str" fFind3 (mVar 1) (mCons (mC (.str [34])) (mCons (mBin fAdd (mVar 2) (mC (.int 1))) mNil))))
  (mSeq (mIf (mTest (mBin fLt (mVar 3) (mC (.int 0))))
  (mSeq (mRet (mC .non))
  mNop)
  mNop)
  (mSeq (mRet (mBin fAdd (mVar 3) (mC (.int 1))))
  mNop))))
/-- Quoted.meant(self, stretch): 0 self, 1 stretch -/
def N_Quoted_meant : List Str := ["self", "stretch"]
def b_Quoted_meant : MS :=
  (mSeq (mRet (mCall 3 (Φ .unmarked) (mCons (mCut (mVar 1) (mPart (mC (.int 1))) (mPart (mUn fNeg (mC (.int 1))))) (mCons (mC (.str [94])) (mCons (mDict [((mC (.str [94])), (mC (.str [94]))), ((mC (.str [113])), (mC (.str [34]))), ((mC (.str [110])), (mC (.str [10])))]) mNil)))))
  mNop)
/-- Quoted.ends(self): 0 self -/
def N_Quoted_ends : List Str := ["self"]
def b_Quoted_ends : MS :=
  (mSeq (mRet (mCall 1 (Φ .without) (mCons (mC (.str [])) mNil)))
  mNop)
/-- Plain.marked(self, value): 0 self, 1 value, 2 some -/
def N_Plain_marked : List Str := ["self", "value", "some"]
def b_Plain_marked : MS :=
  (mSeq (mSet 2 (mUn (fRepl [38] [126, 97]) (mUn (fRepl [62] [126, 103]) (mUn (fRepl [60] [126, 108]) (mUn (fRepl [126] [126, 126]) (mVar 1))))))
  (mSeq (mRet (mUn (fRepl [10] [126, 110]) (mUn (fRepl [124] [126, 98]) (mVar 2))))
  mNop))
/-- Plain.meant(self, stretch): 0 self, 1 stretch -/
def N_Plain_meant : List Str := ["self", "stretch"]
def b_Plain_meant : MS :=
  (mSeq (mRet (mCall 3 (Φ .unmarked) (mCons (mVar 1) (mCons (mC (.str [126])) (mCons (mDict [((mC (.str [126])), (mC (.str [126]))), ((mC (.str [108])), (mC (.str [60]))), ((mC (.str [103])), (mC (.str [62]))), ((mC (.str [97])), (mC (.str [38]))), ((mC (.str [98])), (mC (.str [124]))), ((mC (.str [110])), (mC (.str [10])))]) mNil)))))
  mNop)
/-- Plain.ends(self): 0 self -/
def N_Plain_ends : List Str := ["self"]
def b_Plain_ends : MS :=
  (mSeq (mRet (mC (.str c_PLAIN_ENDS)))
  mNop)
/-- Line.marked(self, value): 0 self, 1 value -/
def N_Line_marked : List Str := ["self", "value"]
def b_Line_marked : MS :=
  (mSeq (mRet (mUn (fRepl [10] [126, 110]) (mUn (fRepl [126] [126, 126]) (mVar 1))))
  mNop)
/-- Line.meant(self, stretch): 0 self, 1 stretch -/
def N_Line_meant : List Str := ["self", "stretch"]
def b_Line_meant : MS :=
  (mSeq (mRet (mCall 3 (Φ .unmarked) (mCons (mVar 1) (mCons (mC (.str [126])) (mCons (mDict [((mC (.str [126])), (mC (.str [126]))), ((mC (.str [110])), (mC (.str [10])))]) mNil)))))
  mNop)
/-- Line.ends(self): 0 self -/
def N_Line_ends : List Str := ["self"]
def b_Line_ends : MS :=
  (mSeq (mRet (mC (.str [10])))
  mNop)
def body : Fid → List D → M D
  | .is_text => runF N_is_text (b_is_text)
  | .without => runF N_without (b_without)
  | .is_whole => runF N_is_whole (b_is_whole)
  | .is_number => runF N_is_number (b_is_number Φ)
  | .unmarked => runF N_unmarked (b_unmarked)
  | .way_of => runF N_way_of (b_way_of)
  | ._law_cell_at => runF N__law_cell_at (b__law_cell_at)
  | ._law_signs => runF N__law_signs (b__law_signs)
  | ._law_mixed => runF N__law_mixed (b__law_mixed)
  | ._law_whole => runF N__law_whole (b__law_whole)
  | ._law_text_by => runF N__law_text_by (b__law_text_by Φ)
  | ._law_word_by => runF N__law_word_by (b__law_word_by Φ)
  | ._law_number_by => runF N__law_number_by (b__law_number_by)
  | ._law_value_by => runF N__law_value_by (b__law_value_by Φ)
  | ._law_coded => runF N__law_coded (b__law_coded)
  | ._law_ends => runF N__law_ends (b__law_ends Φ)
  | ._law_stretch => runF N__law_stretch (b__law_stretch Φ)
  | ._law_meant => runF N__law_meant (b__law_meant)
  | ._law_due => runF N__law_due (b__law_due Φ)
  | ._law_same => runF N__law_same (b__law_same Φ)
  | ._law_bent => runF N__law_bent (b__law_bent Φ)
  | .law => runF N_law (b_law Φ)
  | .Way_fits => runF N_Way_fits (b_Way_fits Φ)
  | .Way_marked => runF N_Way_marked (b_Way_marked)
  | .Way_behind => runF N_Way_behind (b_Way_behind Φ)
  | .Way_meant => runF N_Way_meant (b_Way_meant)
  | .Way_read => runF N_Way_read (b_Way_read Φ)
  | .Way_ends => runF N_Way_ends (b_Way_ends)
  | .Word_fits => runF N_Word_fits (b_Word_fits)
  | .Word_ends => runF N_Word_ends (b_Word_ends Φ)
  | .Number_fits => runF N_Number_fits (b_Number_fits Φ)
  | .Number_marked => runF N_Number_marked (b_Number_marked)
  | .Number_behind => runF N_Number_behind (b_Number_behind)
  | .Number_meant => runF N_Number_meant (b_Number_meant)
  | .Number_ends => runF N_Number_ends (b_Number_ends Φ)
  | .Quoted_marked => runF N_Quoted_marked (b_Quoted_marked)
  | .Quoted_behind => runF N_Quoted_behind (b_Quoted_behind)
  | .Quoted_meant => runF N_Quoted_meant (b_Quoted_meant Φ)
  | .Quoted_ends => runF N_Quoted_ends (b_Quoted_ends Φ)
  | .Plain_marked => runF N_Plain_marked (b_Plain_marked)
  | .Plain_meant => runF N_Plain_meant (b_Plain_meant Φ)
  | .Plain_ends => runF N_Plain_ends (b_Plain_ends)
  | .Line_marked => runF N_Line_marked (b_Line_marked)
  | .Line_meant => runF N_Line_meant (b_Line_meant Φ)
  | .Line_ends => runF N_Line_ends (b_Line_ends)
end
def Φ : Nat → Fid → List D → M D
  | 0 => fun _ _ => stuck
  | k + 1 => body (Φ k)
end K02
end
section
set_option linter.all false
set_option maxRecDepth 100000
/-! K02: a def, one level down. Printed by gen.py. -/
namespace K02
open PySem L2 DL
/-- the mirrors, so that nothing looks into them but by one step -/
class IsΦ (Ψ : Nat → Fid → List D → M D) : Prop where
  eq : ∀ k, Ψ (k + 1) = body (Ψ k)
instance : IsΦ Φ := ⟨fun _ => rfl⟩
section
variable {Ψ : Nat → Fid → List D → M D} [IsΦ Ψ]
theorem u_is_text (k : Nat) (a0 a1 : D) : Ψ (k + 1) .is_text [a0, a1] = bnd (b_is_text [.val a0, .val a1, .no]) fin := by rw [IsΦ.eq (Ψ := Ψ)]; exact q_runF N_is_text _ _
theorem u_without (k : Nat) (a0 : D) : Ψ (k + 1) .without [a0] = bnd (b_without [.val a0, .no]) fin := by rw [IsΦ.eq (Ψ := Ψ)]; exact q_runF N_without _ _
theorem u_is_whole (k : Nat) (a0 : D) : Ψ (k + 1) .is_whole [a0] = bnd (b_is_whole [.val a0]) fin := by rw [IsΦ.eq (Ψ := Ψ)]; exact q_runF N_is_whole _ _
theorem u_is_number (k : Nat) (a0 : D) : Ψ (k + 1) .is_number [a0] = bnd (b_is_number (Ψ k) [.val a0]) fin := by rw [IsΦ.eq (Ψ := Ψ)]; exact q_runF N_is_number _ _
theorem u_unmarked (k : Nat) (a0 a1 a2 : D) : Ψ (k + 1) .unmarked [a0, a1, a2] = bnd (b_unmarked [.val a0, .val a1, .val a2, .no, .no, .no]) fin := by rw [IsΦ.eq (Ψ := Ψ)]; exact q_runF N_unmarked _ _
theorem u_way_of (k : Nat) (a0 : D) : Ψ (k + 1) .way_of [a0] = bnd (b_way_of [.val a0]) fin := by rw [IsΦ.eq (Ψ := Ψ)]; exact q_runF N_way_of _ _
theorem u__law_cell_at (k : Nat) (a0 a1 : D) : Ψ (k + 1) ._law_cell_at [a0, a1] = bnd (b__law_cell_at [.val a0, .val a1]) fin := by rw [IsΦ.eq (Ψ := Ψ)]; exact q_runF N__law_cell_at _ _
theorem u__law_signs (k : Nat) : Ψ (k + 1) ._law_signs [] = bnd (b__law_signs [.no]) fin := by rw [IsΦ.eq (Ψ := Ψ)]; exact q_runF N__law_signs _ _
theorem u__law_mixed (k : Nat) (a0 a1 : D) : Ψ (k + 1) ._law_mixed [a0, a1] = bnd (b__law_mixed [.val a0, .val a1]) fin := by rw [IsΦ.eq (Ψ := Ψ)]; exact q_runF N__law_mixed _ _
theorem u__law_whole (k : Nat) (a0 : D) : Ψ (k + 1) ._law_whole [a0] = bnd (b__law_whole [.val a0]) fin := by rw [IsΦ.eq (Ψ := Ψ)]; exact q_runF N__law_whole _ _
theorem u__law_text_by (k : Nat) (a0 a1 : D) : Ψ (k + 1) ._law_text_by [a0, a1] = bnd (b__law_text_by (Ψ k) [.val a0, .val a1, .no, .no, .no, .no, .no]) fin := by rw [IsΦ.eq (Ψ := Ψ)]; exact q_runF N__law_text_by _ _
theorem u__law_word_by (k : Nat) (a0 : D) : Ψ (k + 1) ._law_word_by [a0] = bnd (b__law_word_by (Ψ k) [.val a0, .no, .no, .no]) fin := by rw [IsΦ.eq (Ψ := Ψ)]; exact q_runF N__law_word_by _ _
theorem u__law_number_by (k : Nat) (a0 : D) : Ψ (k + 1) ._law_number_by [a0] = bnd (b__law_number_by [.val a0, .no, .no]) fin := by rw [IsΦ.eq (Ψ := Ψ)]; exact q_runF N__law_number_by _ _
theorem u__law_value_by (k : Nat) (a0 a1 : D) : Ψ (k + 1) ._law_value_by [a0, a1] = bnd (b__law_value_by (Ψ k) [.val a0, .val a1]) fin := by rw [IsΦ.eq (Ψ := Ψ)]; exact q_runF N__law_value_by _ _
theorem u__law_coded (k : Nat) (a0 a1 : D) : Ψ (k + 1) ._law_coded [a0, a1] = bnd (b__law_coded [.val a0, .val a1, .no, .no, .no]) fin := by rw [IsΦ.eq (Ψ := Ψ)]; exact q_runF N__law_coded _ _
theorem u__law_ends (k : Nat) (a0 : D) : Ψ (k + 1) ._law_ends [a0] = bnd (b__law_ends (Ψ k) [.val a0, .no, .no]) fin := by rw [IsΦ.eq (Ψ := Ψ)]; exact q_runF N__law_ends _ _
theorem u__law_stretch (k : Nat) (a0 a1 a2 : D) : Ψ (k + 1) ._law_stretch [a0, a1, a2] = bnd (b__law_stretch (Ψ k) [.val a0, .val a1, .val a2, .no]) fin := by rw [IsΦ.eq (Ψ := Ψ)]; exact q_runF N__law_stretch _ _
theorem u__law_meant (k : Nat) (a0 a1 : D) : Ψ (k + 1) ._law_meant [a0, a1] = bnd (b__law_meant [.val a0, .val a1, .no, .no, .no, .no, .no, .no, .no]) fin := by rw [IsΦ.eq (Ψ := Ψ)]; exact q_runF N__law_meant _ _
theorem u__law_due (k : Nat) (a0 a1 a2 : D) : Ψ (k + 1) ._law_due [a0, a1, a2] = bnd (b__law_due (Ψ k) [.val a0, .val a1, .val a2, .no, .no]) fin := by rw [IsΦ.eq (Ψ := Ψ)]; exact q_runF N__law_due _ _
theorem u__law_same (k : Nat) (a0 a1 : D) : Ψ (k + 1) ._law_same [a0, a1] = bnd (b__law_same (Ψ k) [.val a0, .val a1]) fin := by rw [IsΦ.eq (Ψ := Ψ)]; exact q_runF N__law_same _ _
theorem u__law_bent (k : Nat) (a0 a1 : D) : Ψ (k + 1) ._law_bent [a0, a1] = bnd (b__law_bent (Ψ k) [.val a0, .val a1, .no, .no, .no]) fin := by rw [IsΦ.eq (Ψ := Ψ)]; exact q_runF N__law_bent _ _
theorem u_law (k : Nat) (a0 : D) : Ψ (k + 1) .law [a0] = bnd (b_law (Ψ k) [.val a0, .no, .no, .no, .no, .no, .no, .no, .no, .no, .no, .no, .no, .no]) fin := by rw [IsΦ.eq (Ψ := Ψ)]; exact q_runF N_law _ _
theorem u_Way_fits (k : Nat) (a0 a1 : D) : Ψ (k + 1) .Way_fits [a0, a1] = bnd (b_Way_fits (Ψ k) [.val a0, .val a1]) fin := by rw [IsΦ.eq (Ψ := Ψ)]; exact q_runF N_Way_fits _ _
theorem u_Way_marked (k : Nat) (a0 a1 : D) : Ψ (k + 1) .Way_marked [a0, a1] = bnd (b_Way_marked [.val a0, .val a1]) fin := by rw [IsΦ.eq (Ψ := Ψ)]; exact q_runF N_Way_marked _ _
theorem u_Way_behind (k : Nat) (a0 a1 a2 : D) : Ψ (k + 1) .Way_behind [a0, a1, a2] = bnd (b_Way_behind (Ψ k) [.val a0, .val a1, .val a2, .no]) fin := by rw [IsΦ.eq (Ψ := Ψ)]; exact q_runF N_Way_behind _ _
theorem u_Way_meant (k : Nat) (a0 a1 : D) : Ψ (k + 1) .Way_meant [a0, a1] = bnd (b_Way_meant [.val a0, .val a1]) fin := by rw [IsΦ.eq (Ψ := Ψ)]; exact q_runF N_Way_meant _ _
theorem u_Way_read (k : Nat) (a0 a1 a2 : D) : Ψ (k + 1) .Way_read [a0, a1, a2] = bnd (b_Way_read (Ψ k) [.val a0, .val a1, .val a2, .no, .no]) fin := by rw [IsΦ.eq (Ψ := Ψ)]; exact q_runF N_Way_read _ _
theorem u_Way_ends (k : Nat) (a0 : D) : Ψ (k + 1) .Way_ends [a0] = bnd (b_Way_ends [.val a0]) fin := by rw [IsΦ.eq (Ψ := Ψ)]; exact q_runF N_Way_ends _ _
theorem u_Word_fits (k : Nat) (a0 a1 : D) : Ψ (k + 1) .Word_fits [a0, a1] = bnd (b_Word_fits [.val a0, .val a1, .no]) fin := by rw [IsΦ.eq (Ψ := Ψ)]; exact q_runF N_Word_fits _ _
theorem u_Word_ends (k : Nat) (a0 : D) : Ψ (k + 1) .Word_ends [a0] = bnd (b_Word_ends (Ψ k) [.val a0]) fin := by rw [IsΦ.eq (Ψ := Ψ)]; exact q_runF N_Word_ends _ _
theorem u_Number_fits (k : Nat) (a0 a1 : D) : Ψ (k + 1) .Number_fits [a0, a1] = bnd (b_Number_fits (Ψ k) [.val a0, .val a1]) fin := by rw [IsΦ.eq (Ψ := Ψ)]; exact q_runF N_Number_fits _ _
theorem u_Number_marked (k : Nat) (a0 a1 : D) : Ψ (k + 1) .Number_marked [a0, a1] = bnd (b_Number_marked [.val a0, .val a1]) fin := by rw [IsΦ.eq (Ψ := Ψ)]; exact q_runF N_Number_marked _ _
theorem u_Number_behind (k : Nat) (a0 a1 a2 : D) : Ψ (k + 1) .Number_behind [a0, a1, a2] = bnd (b_Number_behind [.val a0, .val a1, .val a2]) fin := by rw [IsΦ.eq (Ψ := Ψ)]; exact q_runF N_Number_behind _ _
theorem u_Number_meant (k : Nat) (a0 a1 : D) : Ψ (k + 1) .Number_meant [a0, a1] = bnd (b_Number_meant [.val a0, .val a1, .no]) fin := by rw [IsΦ.eq (Ψ := Ψ)]; exact q_runF N_Number_meant _ _
theorem u_Number_ends (k : Nat) (a0 : D) : Ψ (k + 1) .Number_ends [a0] = bnd (b_Number_ends (Ψ k) [.val a0]) fin := by rw [IsΦ.eq (Ψ := Ψ)]; exact q_runF N_Number_ends _ _
theorem u_Quoted_marked (k : Nat) (a0 a1 : D) : Ψ (k + 1) .Quoted_marked [a0, a1] = bnd (b_Quoted_marked [.val a0, .val a1, .no]) fin := by rw [IsΦ.eq (Ψ := Ψ)]; exact q_runF N_Quoted_marked _ _
theorem u_Quoted_behind (k : Nat) (a0 a1 a2 : D) : Ψ (k + 1) .Quoted_behind [a0, a1, a2] = bnd (b_Quoted_behind [.val a0, .val a1, .val a2, .no]) fin := by rw [IsΦ.eq (Ψ := Ψ)]; exact q_runF N_Quoted_behind _ _
theorem u_Quoted_meant (k : Nat) (a0 a1 : D) : Ψ (k + 1) .Quoted_meant [a0, a1] = bnd (b_Quoted_meant (Ψ k) [.val a0, .val a1]) fin := by rw [IsΦ.eq (Ψ := Ψ)]; exact q_runF N_Quoted_meant _ _
theorem u_Quoted_ends (k : Nat) (a0 : D) : Ψ (k + 1) .Quoted_ends [a0] = bnd (b_Quoted_ends (Ψ k) [.val a0]) fin := by rw [IsΦ.eq (Ψ := Ψ)]; exact q_runF N_Quoted_ends _ _
theorem u_Plain_marked (k : Nat) (a0 a1 : D) : Ψ (k + 1) .Plain_marked [a0, a1] = bnd (b_Plain_marked [.val a0, .val a1, .no]) fin := by rw [IsΦ.eq (Ψ := Ψ)]; exact q_runF N_Plain_marked _ _
theorem u_Plain_meant (k : Nat) (a0 a1 : D) : Ψ (k + 1) .Plain_meant [a0, a1] = bnd (b_Plain_meant (Ψ k) [.val a0, .val a1]) fin := by rw [IsΦ.eq (Ψ := Ψ)]; exact q_runF N_Plain_meant _ _
theorem u_Plain_ends (k : Nat) (a0 : D) : Ψ (k + 1) .Plain_ends [a0] = bnd (b_Plain_ends [.val a0]) fin := by rw [IsΦ.eq (Ψ := Ψ)]; exact q_runF N_Plain_ends _ _
theorem u_Line_marked (k : Nat) (a0 a1 : D) : Ψ (k + 1) .Line_marked [a0, a1] = bnd (b_Line_marked [.val a0, .val a1]) fin := by rw [IsΦ.eq (Ψ := Ψ)]; exact q_runF N_Line_marked _ _
theorem u_Line_meant (k : Nat) (a0 a1 : D) : Ψ (k + 1) .Line_meant [a0, a1] = bnd (b_Line_meant (Ψ k) [.val a0, .val a1]) fin := by rw [IsΦ.eq (Ψ := Ψ)]; exact q_runF N_Line_meant _ _
theorem u_Line_ends (k : Nat) (a0 : D) : Ψ (k + 1) .Line_ends [a0] = bnd (b_Line_ends [.val a0]) fin := by rw [IsΦ.eq (Ψ := Ψ)]; exact q_runF N_Line_ends _ _
end
end K02
end
section
set_option Elab.async false
set_option linter.all false
set_option maxRecDepth 100000
set_option maxHeartbeats 4000000
/-! K02: the walk: each def does what its mirror does. Printed by gen.py. -/
namespace K02
open PySem PySem.Spec PyProof.Rows L2 DL
def top (i : Nat) : Stmt := PySem.Challenge.pw_formsmith_k02_read_as_it_was_coded.main.body.getD i (.Pass ⟨0, 0, 0, 0⟩)
abbrev s_is_text : Stmt := top 10
abbrev s_without : Stmt := top 11
abbrev s_is_whole : Stmt := top 12
abbrev s_is_number : Stmt := top 15
abbrev s_unmarked : Stmt := top 25
abbrev s_way_of : Stmt := top 26
abbrev s__law_cell_at : Stmt := top 28
abbrev s__law_signs : Stmt := top 29
abbrev s__law_mixed : Stmt := top 30
abbrev s__law_whole : Stmt := top 31
abbrev s__law_text_by : Stmt := top 32
abbrev s__law_word_by : Stmt := top 33
abbrev s__law_number_by : Stmt := top 34
abbrev s__law_value_by : Stmt := top 35
abbrev s__law_coded : Stmt := top 36
abbrev s__law_ends : Stmt := top 37
abbrev s__law_stretch : Stmt := top 38
abbrev s__law_meant : Stmt := top 39
abbrev s__law_due : Stmt := top 40
abbrev s__law_same : Stmt := top 41
abbrev s__law_bent : Stmt := top 42
abbrev s_law : Stmt := top 43
abbrev s_Way_fits : Stmt := inClass (top 19) 0
abbrev s_Way_marked : Stmt := inClass (top 19) 1
abbrev s_Way_behind : Stmt := inClass (top 19) 3
abbrev s_Way_meant : Stmt := inClass (top 19) 4
abbrev s_Way_read : Stmt := inClass (top 19) 5
abbrev s_Way_ends : Stmt := inClass (top 19) 7
abbrev s_Word_fits : Stmt := inClass (top 20) 0
abbrev s_Word_ends : Stmt := inClass (top 20) 1
abbrev s_Number_fits : Stmt := inClass (top 21) 0
abbrev s_Number_marked : Stmt := inClass (top 21) 1
abbrev s_Number_behind : Stmt := inClass (top 21) 2
abbrev s_Number_meant : Stmt := inClass (top 21) 3
abbrev s_Number_ends : Stmt := inClass (top 21) 5
abbrev s_Quoted_marked : Stmt := inClass (top 22) 0
abbrev s_Quoted_behind : Stmt := inClass (top 22) 1
abbrev s_Quoted_meant : Stmt := inClass (top 22) 2
abbrev s_Quoted_ends : Stmt := inClass (top 22) 4
abbrev s_Plain_marked : Stmt := inClass (top 23) 0
abbrev s_Plain_meant : Stmt := inClass (top 23) 1
abbrev s_Plain_ends : Stmt := inClass (top 23) 2
abbrev s_Line_marked : Stmt := inClass (top 24) 0
abbrev s_Line_meant : Stmt := inClass (top 24) 1
abbrev s_Line_ends : Stmt := inClass (top 24) 2
def inf : Fid → Inf
  | .is_text => ⟨("is_text", none), ["thing", "most"]⟩
  | .without => ⟨("without", none), ["some"]⟩
  | .is_whole => ⟨("is_whole", none), ["thing"]⟩
  | .is_number => ⟨("is_number", none), ["thing"]⟩
  | .unmarked => ⟨("unmarked", none), ["text", "mark", "told"]⟩
  | .way_of => ⟨("way_of", none), ["word"]⟩
  | ._law_cell_at => ⟨("_law_cell_at", none), ["_law_script", "_law_k"]⟩
  | ._law_signs => ⟨("_law_signs", none), []⟩
  | ._law_mixed => ⟨("_law_mixed", none), ["_law_cell", "_law_k"]⟩
  | ._law_whole => ⟨("_law_whole", none), ["_law_found"]⟩
  | ._law_text_by => ⟨("_law_text_by", none), ["_law_cell", "_law_most"]⟩
  | ._law_word_by => ⟨("_law_word_by", none), ["_law_cell"]⟩
  | ._law_number_by => ⟨("_law_number_by", none), ["_law_cell"]⟩
  | ._law_value_by => ⟨("_law_value_by", none), ["_law_word", "_law_cell"]⟩
  | ._law_coded => ⟨("_law_coded", none), ["_law_word", "_law_value"]⟩
  | ._law_ends => ⟨("_law_ends", none), ["_law_word"]⟩
  | ._law_stretch => ⟨("_law_stretch", none), ["_law_word", "_law_text", "_law_at"]⟩
  | ._law_meant => ⟨("_law_meant", none), ["_law_word", "_law_text"]⟩
  | ._law_due => ⟨("_law_due", none), ["_law_word", "_law_text", "_law_at"]⟩
  | ._law_same => ⟨("_law_same", none), ["_law_found", "_law_due_here"]⟩
  | ._law_bent => ⟨("_law_bent", none), ["_law_text", "_law_cell"]⟩
  | .law => ⟨("law", none), ["_law_script"]⟩
  | .Way_fits => ⟨("Way", some "fits"), ["self", "value"]⟩
  | .Way_marked => ⟨("Way", some "marked"), ["self", "value"]⟩
  | .Way_behind => ⟨("Way", some "behind"), ["self", "text", "at"]⟩
  | .Way_meant => ⟨("Way", some "meant"), ["self", "stretch"]⟩
  | .Way_read => ⟨("Way", some "read"), ["self", "text", "at"]⟩
  | .Way_ends => ⟨("Way", some "ends"), ["self"]⟩
  | .Word_fits => ⟨("Word", some "fits"), ["self", "value"]⟩
  | .Word_ends => ⟨("Word", some "ends"), ["self"]⟩
  | .Number_fits => ⟨("Number", some "fits"), ["self", "value"]⟩
  | .Number_marked => ⟨("Number", some "marked"), ["self", "value"]⟩
  | .Number_behind => ⟨("Number", some "behind"), ["self", "text", "at"]⟩
  | .Number_meant => ⟨("Number", some "meant"), ["self", "stretch"]⟩
  | .Number_ends => ⟨("Number", some "ends"), ["self"]⟩
  | .Quoted_marked => ⟨("Quoted", some "marked"), ["self", "value"]⟩
  | .Quoted_behind => ⟨("Quoted", some "behind"), ["self", "text", "at"]⟩
  | .Quoted_meant => ⟨("Quoted", some "meant"), ["self", "stretch"]⟩
  | .Quoted_ends => ⟨("Quoted", some "ends"), ["self"]⟩
  | .Plain_marked => ⟨("Plain", some "marked"), ["self", "value"]⟩
  | .Plain_meant => ⟨("Plain", some "meant"), ["self", "stretch"]⟩
  | .Plain_ends => ⟨("Plain", some "ends"), ["self"]⟩
  | .Line_marked => ⟨("Line", some "marked"), ["self", "value"]⟩
  | .Line_meant => ⟨("Line", some "meant"), ["self", "stretch"]⟩
  | .Line_ends => ⟨("Line", some "ends"), ["self"]⟩
def dd : Fid → He.DefD
  | .is_text => ⟨("is_text", none), "is_text", "is_text", defArgs s_is_text, defBody s_is_text, defScope s_is_text, [], []⟩
  | .without => ⟨("without", none), "without", "without", defArgs s_without, defBody s_without, defScope s_without, [], []⟩
  | .is_whole => ⟨("is_whole", none), "is_whole", "is_whole", defArgs s_is_whole, defBody s_is_whole, defScope s_is_whole, [], []⟩
  | .is_number => ⟨("is_number", none), "is_number", "is_number", defArgs s_is_number, defBody s_is_number, defScope s_is_number, [], []⟩
  | .unmarked => ⟨("unmarked", none), "unmarked", "unmarked", defArgs s_unmarked, defBody s_unmarked, defScope s_unmarked, [], []⟩
  | .way_of => ⟨("way_of", none), "way_of", "way_of", defArgs s_way_of, defBody s_way_of, defScope s_way_of, [], []⟩
  | ._law_cell_at => ⟨("_law_cell_at", none), "_law_cell_at", "_law_cell_at", defArgs s__law_cell_at, defBody s__law_cell_at, defScope s__law_cell_at, [], []⟩
  | ._law_signs => ⟨("_law_signs", none), "_law_signs", "_law_signs", defArgs s__law_signs, defBody s__law_signs, defScope s__law_signs, [], []⟩
  | ._law_mixed => ⟨("_law_mixed", none), "_law_mixed", "_law_mixed", defArgs s__law_mixed, defBody s__law_mixed, defScope s__law_mixed, [], []⟩
  | ._law_whole => ⟨("_law_whole", none), "_law_whole", "_law_whole", defArgs s__law_whole, defBody s__law_whole, defScope s__law_whole, [], []⟩
  | ._law_text_by => ⟨("_law_text_by", none), "_law_text_by", "_law_text_by", defArgs s__law_text_by, defBody s__law_text_by, defScope s__law_text_by, [], []⟩
  | ._law_word_by => ⟨("_law_word_by", none), "_law_word_by", "_law_word_by", defArgs s__law_word_by, defBody s__law_word_by, defScope s__law_word_by, [], []⟩
  | ._law_number_by => ⟨("_law_number_by", none), "_law_number_by", "_law_number_by", defArgs s__law_number_by, defBody s__law_number_by, defScope s__law_number_by, [], []⟩
  | ._law_value_by => ⟨("_law_value_by", none), "_law_value_by", "_law_value_by", defArgs s__law_value_by, defBody s__law_value_by, defScope s__law_value_by, [], []⟩
  | ._law_coded => ⟨("_law_coded", none), "_law_coded", "_law_coded", defArgs s__law_coded, defBody s__law_coded, defScope s__law_coded, [], []⟩
  | ._law_ends => ⟨("_law_ends", none), "_law_ends", "_law_ends", defArgs s__law_ends, defBody s__law_ends, defScope s__law_ends, [], []⟩
  | ._law_stretch => ⟨("_law_stretch", none), "_law_stretch", "_law_stretch", defArgs s__law_stretch, defBody s__law_stretch, defScope s__law_stretch, [], []⟩
  | ._law_meant => ⟨("_law_meant", none), "_law_meant", "_law_meant", defArgs s__law_meant, defBody s__law_meant, defScope s__law_meant, [], []⟩
  | ._law_due => ⟨("_law_due", none), "_law_due", "_law_due", defArgs s__law_due, defBody s__law_due, defScope s__law_due, [], []⟩
  | ._law_same => ⟨("_law_same", none), "_law_same", "_law_same", defArgs s__law_same, defBody s__law_same, defScope s__law_same, [], []⟩
  | ._law_bent => ⟨("_law_bent", none), "_law_bent", "_law_bent", defArgs s__law_bent, defBody s__law_bent, defScope s__law_bent, [], []⟩
  | .law => ⟨("law", none), "law", "law", defArgs s_law, defBody s_law, defScope s_law, [], []⟩
  | .Way_fits => ⟨("Way", some "fits"), "fits", "Way.fits", defArgs s_Way_fits, defBody s_Way_fits, defScope s_Way_fits, [], []⟩
  | .Way_marked => ⟨("Way", some "marked"), "marked", "Way.marked", defArgs s_Way_marked, defBody s_Way_marked, defScope s_Way_marked, [], []⟩
  | .Way_behind => ⟨("Way", some "behind"), "behind", "Way.behind", defArgs s_Way_behind, defBody s_Way_behind, defScope s_Way_behind, [], []⟩
  | .Way_meant => ⟨("Way", some "meant"), "meant", "Way.meant", defArgs s_Way_meant, defBody s_Way_meant, defScope s_Way_meant, [], []⟩
  | .Way_read => ⟨("Way", some "read"), "read", "Way.read", defArgs s_Way_read, defBody s_Way_read, defScope s_Way_read, [], []⟩
  | .Way_ends => ⟨("Way", some "ends"), "ends", "Way.ends", defArgs s_Way_ends, defBody s_Way_ends, defScope s_Way_ends, [], []⟩
  | .Word_fits => ⟨("Word", some "fits"), "fits", "Word.fits", defArgs s_Word_fits, defBody s_Word_fits, defScope s_Word_fits, [], []⟩
  | .Word_ends => ⟨("Word", some "ends"), "ends", "Word.ends", defArgs s_Word_ends, defBody s_Word_ends, defScope s_Word_ends, [], []⟩
  | .Number_fits => ⟨("Number", some "fits"), "fits", "Number.fits", defArgs s_Number_fits, defBody s_Number_fits, defScope s_Number_fits, [], []⟩
  | .Number_marked => ⟨("Number", some "marked"), "marked", "Number.marked", defArgs s_Number_marked, defBody s_Number_marked, defScope s_Number_marked, [], []⟩
  | .Number_behind => ⟨("Number", some "behind"), "behind", "Number.behind", defArgs s_Number_behind, defBody s_Number_behind, defScope s_Number_behind, [], []⟩
  | .Number_meant => ⟨("Number", some "meant"), "meant", "Number.meant", defArgs s_Number_meant, defBody s_Number_meant, defScope s_Number_meant, [], []⟩
  | .Number_ends => ⟨("Number", some "ends"), "ends", "Number.ends", defArgs s_Number_ends, defBody s_Number_ends, defScope s_Number_ends, [], []⟩
  | .Quoted_marked => ⟨("Quoted", some "marked"), "marked", "Quoted.marked", defArgs s_Quoted_marked, defBody s_Quoted_marked, defScope s_Quoted_marked, [], []⟩
  | .Quoted_behind => ⟨("Quoted", some "behind"), "behind", "Quoted.behind", defArgs s_Quoted_behind, defBody s_Quoted_behind, defScope s_Quoted_behind, [], []⟩
  | .Quoted_meant => ⟨("Quoted", some "meant"), "meant", "Quoted.meant", defArgs s_Quoted_meant, defBody s_Quoted_meant, defScope s_Quoted_meant, [], []⟩
  | .Quoted_ends => ⟨("Quoted", some "ends"), "ends", "Quoted.ends", defArgs s_Quoted_ends, defBody s_Quoted_ends, defScope s_Quoted_ends, [], []⟩
  | .Plain_marked => ⟨("Plain", some "marked"), "marked", "Plain.marked", defArgs s_Plain_marked, defBody s_Plain_marked, defScope s_Plain_marked, [], []⟩
  | .Plain_meant => ⟨("Plain", some "meant"), "meant", "Plain.meant", defArgs s_Plain_meant, defBody s_Plain_meant, defScope s_Plain_meant, [], []⟩
  | .Plain_ends => ⟨("Plain", some "ends"), "ends", "Plain.ends", defArgs s_Plain_ends, defBody s_Plain_ends, defScope s_Plain_ends, [], []⟩
  | .Line_marked => ⟨("Line", some "marked"), "marked", "Line.marked", defArgs s_Line_marked, defBody s_Line_marked, defScope s_Line_marked, [], []⟩
  | .Line_meant => ⟨("Line", some "meant"), "meant", "Line.meant", defArgs s_Line_meant, defBody s_Line_meant, defScope s_Line_meant, [], []⟩
  | .Line_ends => ⟨("Line", some "ends"), "ends", "Line.ends", defArgs s_Line_ends, defBody s_Line_ends, defScope s_Line_ends, [], []⟩
def clN : Nat → Str
  | 0 => "FormError"
  | 1 => "BadWay"
  | 2 => "BadValue"
  | 3 => "Way"
  | 4 => "Word"
  | 5 => "Number"
  | 6 => "Quoted"
  | 7 => "Plain"
  | 8 => "Line"
  | _ => ""
abbrev LK (K : PySem.W.Frag) : Lk := ⟨K, fun c => He.ga K (clN c)⟩
/-- what the top has left -/
structure Fx (K : PySem.W.Frag) (mg : Str → Option Value) : Prop where
  d : ∀ f : Fid, ∃ fd, FunD K (dd f).name (dd f).qual (dd f).params (dd f).body (dd f).scope [] [] (He.fAd K (inf f).at_) fd
  g_BadWay : mg "BadWay" = some (.ref (He.ga K "BadWay"))
  g_Line : mg "Line" = some (.ref (He.ga K "Line"))
  g_Number : mg "Number" = some (.ref (He.ga K "Number"))
  g_Plain : mg "Plain" = some (.ref (He.ga K "Plain"))
  g_Quoted : mg "Quoted" = some (.ref (He.ga K "Quoted"))
  g_Word : mg "Word" = some (.ref (He.ga K "Word"))
  g__law_bent : mg "_law_bent" = some (.ref (He.ga K "_law_bent"))
  g__law_cell_at : mg "_law_cell_at" = some (.ref (He.ga K "_law_cell_at"))
  g__law_coded : mg "_law_coded" = some (.ref (He.ga K "_law_coded"))
  g__law_due : mg "_law_due" = some (.ref (He.ga K "_law_due"))
  g__law_ends : mg "_law_ends" = some (.ref (He.ga K "_law_ends"))
  g__law_meant : mg "_law_meant" = some (.ref (He.ga K "_law_meant"))
  g__law_mixed : mg "_law_mixed" = some (.ref (He.ga K "_law_mixed"))
  g__law_number_by : mg "_law_number_by" = some (.ref (He.ga K "_law_number_by"))
  g__law_same : mg "_law_same" = some (.ref (He.ga K "_law_same"))
  g__law_signs : mg "_law_signs" = some (.ref (He.ga K "_law_signs"))
  g__law_stretch : mg "_law_stretch" = some (.ref (He.ga K "_law_stretch"))
  g__law_text_by : mg "_law_text_by" = some (.ref (He.ga K "_law_text_by"))
  g__law_value_by : mg "_law_value_by" = some (.ref (He.ga K "_law_value_by"))
  g__law_whole : mg "_law_whole" = some (.ref (He.ga K "_law_whole"))
  g__law_word_by : mg "_law_word_by" = some (.ref (He.ga K "_law_word_by"))
  g_is_number : mg "is_number" = some (.ref (He.ga K "is_number"))
  g_is_text : mg "is_text" = some (.ref (He.ga K "is_text"))
  g_is_whole : mg "is_whole" = some (.ref (He.ga K "is_whole"))
  g_law : mg "law" = some (.ref (He.ga K "law"))
  g_unmarked : mg "unmarked" = some (.ref (He.ga K "unmarked"))
  g_way_of : mg "way_of" = some (.ref (He.ga K "way_of"))
  g_without : mg "without" = some (.ref (He.ga K "without"))
  n_all : mg "all" = none
  n_bool : mg "bool" = none
  n_int : mg "int" = none
  n_isinstance : mg "isinstance" = none
  n_len : mg "len" = none
  n_min : mg "min" = none
  n_range : mg "range" = none
  n_str : mg "str" = none
  n_tuple : mg "tuple" = none
  ks_FIGURES : ∃ t, mg "FIGURES" = some (.str (tS c_FIGURES) t)
  ks_GREAT : ∃ t, mg "GREAT" = some (.str (tS c_GREAT) t)
  ks_LETTERS : ∃ t, mg "LETTERS" = some (.str (tS c_LETTERS) t)
  ki_MOST_LETTERS : ∃ t, mg "MOST_LETTERS" = some (.int 40 t)
  ki_MOST_SIGNS : ∃ t, mg "MOST_SIGNS" = some (.int 400 t)
  ks_PLAIN_ENDS : ∃ t, mg "PLAIN_ENDS" = some (.str (tS c_PLAIN_ENDS) t)
  ks_SIGNS : ∃ t, mg "SIGNS" = some (.str (tS c_SIGNS) t)
  k_Word : Mk0 K (He.ga K "Word")
  cl_Word : Cls K (He.ga K "Word")
  m_Word_behind : Meth K (He.ga K "Word") "behind" (He.fAd K (inf .Way_behind).at_)
  m_Word_ends : Meth K (He.ga K "Word") "ends" (He.fAd K (inf .Word_ends).at_)
  m_Word_fits : Meth K (He.ga K "Word") "fits" (He.fAd K (inf .Word_fits).at_)
  m_Word_marked : Meth K (He.ga K "Word") "marked" (He.fAd K (inf .Way_marked).at_)
  m_Word_meant : Meth K (He.ga K "Word") "meant" (He.fAd K (inf .Way_meant).at_)
  m_Word_read : Meth K (He.ga K "Word") "read" (He.fAd K (inf .Way_read).at_)
  k_Number : Mk0 K (He.ga K "Number")
  cl_Number : Cls K (He.ga K "Number")
  m_Number_behind : Meth K (He.ga K "Number") "behind" (He.fAd K (inf .Number_behind).at_)
  m_Number_ends : Meth K (He.ga K "Number") "ends" (He.fAd K (inf .Number_ends).at_)
  m_Number_fits : Meth K (He.ga K "Number") "fits" (He.fAd K (inf .Number_fits).at_)
  m_Number_marked : Meth K (He.ga K "Number") "marked" (He.fAd K (inf .Number_marked).at_)
  m_Number_meant : Meth K (He.ga K "Number") "meant" (He.fAd K (inf .Number_meant).at_)
  m_Number_read : Meth K (He.ga K "Number") "read" (He.fAd K (inf .Way_read).at_)
  k_Quoted : Mk0 K (He.ga K "Quoted")
  cl_Quoted : Cls K (He.ga K "Quoted")
  m_Quoted_behind : Meth K (He.ga K "Quoted") "behind" (He.fAd K (inf .Quoted_behind).at_)
  m_Quoted_ends : Meth K (He.ga K "Quoted") "ends" (He.fAd K (inf .Quoted_ends).at_)
  m_Quoted_fits : Meth K (He.ga K "Quoted") "fits" (He.fAd K (inf .Way_fits).at_)
  m_Quoted_marked : Meth K (He.ga K "Quoted") "marked" (He.fAd K (inf .Quoted_marked).at_)
  m_Quoted_meant : Meth K (He.ga K "Quoted") "meant" (He.fAd K (inf .Quoted_meant).at_)
  m_Quoted_read : Meth K (He.ga K "Quoted") "read" (He.fAd K (inf .Way_read).at_)
  k_Plain : Mk0 K (He.ga K "Plain")
  cl_Plain : Cls K (He.ga K "Plain")
  m_Plain_behind : Meth K (He.ga K "Plain") "behind" (He.fAd K (inf .Way_behind).at_)
  m_Plain_ends : Meth K (He.ga K "Plain") "ends" (He.fAd K (inf .Plain_ends).at_)
  m_Plain_fits : Meth K (He.ga K "Plain") "fits" (He.fAd K (inf .Way_fits).at_)
  m_Plain_marked : Meth K (He.ga K "Plain") "marked" (He.fAd K (inf .Plain_marked).at_)
  m_Plain_meant : Meth K (He.ga K "Plain") "meant" (He.fAd K (inf .Plain_meant).at_)
  m_Plain_read : Meth K (He.ga K "Plain") "read" (He.fAd K (inf .Way_read).at_)
  k_Line : Mk0 K (He.ga K "Line")
  cl_Line : Cls K (He.ga K "Line")
  m_Line_behind : Meth K (He.ga K "Line") "behind" (He.fAd K (inf .Way_behind).at_)
  m_Line_ends : Meth K (He.ga K "Line") "ends" (He.fAd K (inf .Line_ends).at_)
  m_Line_fits : Meth K (He.ga K "Line") "fits" (He.fAd K (inf .Way_fits).at_)
  m_Line_marked : Meth K (He.ga K "Line") "marked" (He.fAd K (inf .Line_marked).at_)
  m_Line_meant : Meth K (He.ga K "Line") "meant" (He.fAd K (inf .Line_meant).at_)
  m_Line_read : Meth K (He.ga K "Line") "read" (He.fAd K (inf .Way_read).at_)
  e_BadWay : PySem.W.excIn K (He.ga K "BadWay") He.veBase "ValueError.__new__" = true ∧ PySem.W.keepIn K (.ref (He.ga K "BadWay")) = true ∧ PySem.W.subIn K (.ref (He.ga K "BadWay")) (.type "BaseException") = some true ∧ PySem.W.typeIn K (.ref (He.ga K "BadWay")) = some (.type "type")
section
variable {X : Cx} {k : Nat} {Φ : Fid → List D → M D}
theorem Fx.s_FIGURES (C : Fx X.K X.mg) (_ : True = True) : ∃ t, X.mg "FIGURES" = some (.str (tS c_FIGURES) t) := C.ks_FIGURES
theorem Fx.s_GREAT (C : Fx X.K X.mg) (_ : True = True) : ∃ t, X.mg "GREAT" = some (.str (tS c_GREAT) t) := C.ks_GREAT
theorem Fx.s_LETTERS (C : Fx X.K X.mg) (_ : True = True) : ∃ t, X.mg "LETTERS" = some (.str (tS c_LETTERS) t) := C.ks_LETTERS
theorem Fx.i_MOST_LETTERS (C : Fx X.K X.mg) (_ : True = True) : ∃ t, X.mg "MOST_LETTERS" = some (.int 40 t) := C.ki_MOST_LETTERS
theorem Fx.i_MOST_SIGNS (C : Fx X.K X.mg) (_ : True = True) : ∃ t, X.mg "MOST_SIGNS" = some (.int 400 t) := C.ki_MOST_SIGNS
theorem Fx.s_PLAIN_ENDS (C : Fx X.K X.mg) (_ : True = True) : ∃ t, X.mg "PLAIN_ENDS" = some (.str (tS c_PLAIN_ENDS) t) := C.ks_PLAIN_ENDS
theorem Fx.s_SIGNS (C : Fx X.K X.mg) (_ : True = True) : ∃ t, X.mg "SIGNS" = some (.str (tS c_SIGNS) t) := C.ks_SIGNS
theorem Fx.x_BadWay (C : Fx X.K X.mg) (_ : True = True) : XCls X (LK X.K) "BadWay" 1 := ⟨C.g_BadWay, C.e_BadWay.1, C.e_BadWay.2.1, raises_own C.e_BadWay.2.2.1 C.e_BadWay.2.2.2⟩
theorem calE {x : Str} {np : Nat} (E : EnvOk X.prog X.w X.K X.mg X.base (LK X.K) inf k Φ) (hr : Room k X.A) (f : Fid) (hm : X.mg x = some (.ref (He.fAd X.K (inf f).at_))) (hn : (inf f).ps.length = np := by rfl) : Cal X (LK X.K) x np (Φ f) := EnvOk.cal E hr f hm hn
theorem calm_behind (E : EnvOk X.prog X.w X.K X.mg X.base (LK X.K) inf k Φ) (C : Fx X.K X.mg) (hr : Room k X.A) : CalM X (LK X.K) "behind" 3 (tbl_behind Φ) := by
  intro c f h
  unfold tbl_behind at h
  split at h
  · exact E.meth (c := 4) hr Fid.Way_behind C.cl_Word C.m_Word_behind (Option.some.inj h).symm
  · exact E.meth (c := 5) hr Fid.Number_behind C.cl_Number C.m_Number_behind (Option.some.inj h).symm
  · exact E.meth (c := 6) hr Fid.Quoted_behind C.cl_Quoted C.m_Quoted_behind (Option.some.inj h).symm
  · exact E.meth (c := 7) hr Fid.Way_behind C.cl_Plain C.m_Plain_behind (Option.some.inj h).symm
  · exact E.meth (c := 8) hr Fid.Way_behind C.cl_Line C.m_Line_behind (Option.some.inj h).symm
  · cases h
theorem calm_ends (E : EnvOk X.prog X.w X.K X.mg X.base (LK X.K) inf k Φ) (C : Fx X.K X.mg) (hr : Room k X.A) : CalM X (LK X.K) "ends" 1 (tbl_ends Φ) := by
  intro c f h
  unfold tbl_ends at h
  split at h
  · exact E.meth (c := 4) hr Fid.Word_ends C.cl_Word C.m_Word_ends (Option.some.inj h).symm
  · exact E.meth (c := 5) hr Fid.Number_ends C.cl_Number C.m_Number_ends (Option.some.inj h).symm
  · exact E.meth (c := 6) hr Fid.Quoted_ends C.cl_Quoted C.m_Quoted_ends (Option.some.inj h).symm
  · exact E.meth (c := 7) hr Fid.Plain_ends C.cl_Plain C.m_Plain_ends (Option.some.inj h).symm
  · exact E.meth (c := 8) hr Fid.Line_ends C.cl_Line C.m_Line_ends (Option.some.inj h).symm
  · cases h
theorem calm_fits (E : EnvOk X.prog X.w X.K X.mg X.base (LK X.K) inf k Φ) (C : Fx X.K X.mg) (hr : Room k X.A) : CalM X (LK X.K) "fits" 2 (tbl_fits Φ) := by
  intro c f h
  unfold tbl_fits at h
  split at h
  · exact E.meth (c := 4) hr Fid.Word_fits C.cl_Word C.m_Word_fits (Option.some.inj h).symm
  · exact E.meth (c := 5) hr Fid.Number_fits C.cl_Number C.m_Number_fits (Option.some.inj h).symm
  · exact E.meth (c := 6) hr Fid.Way_fits C.cl_Quoted C.m_Quoted_fits (Option.some.inj h).symm
  · exact E.meth (c := 7) hr Fid.Way_fits C.cl_Plain C.m_Plain_fits (Option.some.inj h).symm
  · exact E.meth (c := 8) hr Fid.Way_fits C.cl_Line C.m_Line_fits (Option.some.inj h).symm
  · cases h
theorem calm_marked (E : EnvOk X.prog X.w X.K X.mg X.base (LK X.K) inf k Φ) (C : Fx X.K X.mg) (hr : Room k X.A) : CalM X (LK X.K) "marked" 2 (tbl_marked Φ) := by
  intro c f h
  unfold tbl_marked at h
  split at h
  · exact E.meth (c := 4) hr Fid.Way_marked C.cl_Word C.m_Word_marked (Option.some.inj h).symm
  · exact E.meth (c := 5) hr Fid.Number_marked C.cl_Number C.m_Number_marked (Option.some.inj h).symm
  · exact E.meth (c := 6) hr Fid.Quoted_marked C.cl_Quoted C.m_Quoted_marked (Option.some.inj h).symm
  · exact E.meth (c := 7) hr Fid.Plain_marked C.cl_Plain C.m_Plain_marked (Option.some.inj h).symm
  · exact E.meth (c := 8) hr Fid.Line_marked C.cl_Line C.m_Line_marked (Option.some.inj h).symm
  · cases h
theorem calm_meant (E : EnvOk X.prog X.w X.K X.mg X.base (LK X.K) inf k Φ) (C : Fx X.K X.mg) (hr : Room k X.A) : CalM X (LK X.K) "meant" 2 (tbl_meant Φ) := by
  intro c f h
  unfold tbl_meant at h
  split at h
  · exact E.meth (c := 4) hr Fid.Way_meant C.cl_Word C.m_Word_meant (Option.some.inj h).symm
  · exact E.meth (c := 5) hr Fid.Number_meant C.cl_Number C.m_Number_meant (Option.some.inj h).symm
  · exact E.meth (c := 6) hr Fid.Quoted_meant C.cl_Quoted C.m_Quoted_meant (Option.some.inj h).symm
  · exact E.meth (c := 7) hr Fid.Plain_meant C.cl_Plain C.m_Plain_meant (Option.some.inj h).symm
  · exact E.meth (c := 8) hr Fid.Line_meant C.cl_Line C.m_Line_meant (Option.some.inj h).symm
  · cases h
theorem calm_read (E : EnvOk X.prog X.w X.K X.mg X.base (LK X.K) inf k Φ) (C : Fx X.K X.mg) (hr : Room k X.A) : CalM X (LK X.K) "read" 3 (tbl_read Φ) := by
  intro c f h
  unfold tbl_read at h
  split at h
  · exact E.meth (c := 4) hr Fid.Way_read C.cl_Word C.m_Word_read (Option.some.inj h).symm
  · exact E.meth (c := 5) hr Fid.Way_read C.cl_Number C.m_Number_read (Option.some.inj h).symm
  · exact E.meth (c := 6) hr Fid.Way_read C.cl_Quoted C.m_Quoted_read (Option.some.inj h).symm
  · exact E.meth (c := 7) hr Fid.Way_read C.cl_Plain C.m_Plain_read (Option.some.inj h).symm
  · exact E.meth (c := 8) hr Fid.Way_read C.cl_Line C.m_Line_read (Option.some.inj h).symm
  · cases h
end
section
variable {P : Program} {w : World} {K : PySem.W.Frag} {mg : Str → Option Value} {base : Heap} {k : Nat} {Φ : Fid → List D → M D}
theorem sc_is_text : FnScope N_is_text (inf .is_text).ps (defScope s_is_text) := ⟨rfl, rfl, rfl, by decide +kernel, rfl, by decide +kernel, by decide +kernel⟩
theorem ok_is_text (C : Fx K mg) (E : EnvOk P w K mg base (LK K) inf k Φ) {f : Addr} {fd : FuncData} (F : FunD K (dd .is_text).name (dd .is_text).qual (dd .is_text).params (dd .is_text).body (dd .is_text).scope [] [] f fd) :
    FnOk P w K mg base (L2.CX P w) (k + 1) f fd (inf .is_text).ps (spD (LK K) (inf .is_text).ps.length (runF N_is_text (b_is_text))) := by
  refine DL.fn_ok F sc_is_text fun cdv A outer s H Ex hr => ?_
  have hu := hr.units
  exact (dss_cons (ds_if (dt_w (dw_or (dt_not (dt_tru rfl (de_isB rfl rfl C.n_isinstance (de_var (pv 0)) (pe_bltn rfl C.n_str (by decide +kernel) rfl)))) (dw_or1 (dt_cp (op_fGt) (nomark _) (de_callB (call_fLen rfl) rfl C.n_len (by decide +kernel) (da_cons (de_var (pv 0)) da_nil)) (de_var (pv 1))))))
  (dss_cons (ds_ret de_bl)
  dss_nil)
  dss_nil)
  (dss_cons (ds_ret (de_callB (call_fAll rfl) rfl C.n_all (by decide +kernel) (da_cons (de_comp (own := [("sign", 2)]) (sl := [2]) rfl sc_is_text.nd (di_seq rfl (de_var (pv 0))) (blkOk_by (own := [("sign", 2)]) (N := N_is_text) (sc := defScope s_is_text) (by decide +kernel)) (by decide) (fun _ _ _ _ _ => (dg_name (pg_name (i := 2) sc_is_text.nd rfl (by first | exact .inl rfl | exact .inr rfl)))) (fun _ _ _ _ _ => dt_yes) (fun _ _ _ _ _ => (de_cp (op_fIn rfl) (by with_unfolding_all rfl) (de_var (pv 2)) (de_gstr (l := c_SIGNS) (C.s_SIGNS rfl) rfl)))) da_nil)))
  dss_nil))
theorem sc_without : FnScope N_without (inf .without).ps (defScope s_without) := ⟨rfl, rfl, rfl, by decide +kernel, rfl, by decide +kernel, by decide +kernel⟩
theorem ok_without (C : Fx K mg) (E : EnvOk P w K mg base (LK K) inf k Φ) {f : Addr} {fd : FuncData} (F : FunD K (dd .without).name (dd .without).qual (dd .without).params (dd .without).body (dd .without).scope [] [] f fd) :
    FnOk P w K mg base (L2.CX P w) (k + 1) f fd (inf .without).ps (spD (LK K) (inf .without).ps.length (runF N_without (b_without))) := by
  refine DL.fn_ok F sc_without fun cdv A outer s H Ex hr => ?_
  have hu := hr.units
  exact (dss_cons (ds_ret (de_bm rfl PySem.F.plainAttrs_str PySem.F.slot_str_join PySem.F.type_str_join (mt_fJoin rfl) (de_str (l := []) (by decide +kernel)) (da_cons (de_comp (own := [("sign", 1)]) (sl := [1]) rfl sc_without.nd (di_seq rfl (de_gstr (l := c_SIGNS) (C.s_SIGNS rfl) rfl)) (blkOk_by (own := [("sign", 1)]) (N := N_without) (sc := defScope s_without) (by decide +kernel)) (by decide) (fun _ _ _ _ _ => (dg_name (pg_name (i := 1) sc_without.nd rfl (by first | exact .inl rfl | exact .inr rfl)))) (fun _ _ _ _ _ => (pts_one (dt_cp (op_fNotIn rfl) (by with_unfolding_all rfl) (de_var (pv 1)) (de_var (pv 0))))) (fun _ _ _ _ _ => (de_var (pv 1)))) da_nil)))
  dss_nil)
theorem sc_is_whole : FnScope N_is_whole (inf .is_whole).ps (defScope s_is_whole) := ⟨rfl, rfl, rfl, by decide +kernel, rfl, by decide +kernel, by decide +kernel⟩
theorem ok_is_whole (C : Fx K mg) (E : EnvOk P w K mg base (LK K) inf k Φ) {f : Addr} {fd : FuncData} (F : FunD K (dd .is_whole).name (dd .is_whole).qual (dd .is_whole).params (dd .is_whole).body (dd .is_whole).scope [] [] f fd) :
    FnOk P w K mg base (L2.CX P w) (k + 1) f fd (inf .is_whole).ps (spD (LK K) (inf .is_whole).ps.length (runF N_is_whole (b_is_whole))) := by
  refine DL.fn_ok F sc_is_whole fun cdv A outer s H Ex hr => ?_
  have hu := hr.units
  exact (dss_cons (ds_ret (de_and rfl (de_isB rfl rfl C.n_isinstance (de_var (pv 0)) (pe_bltn rfl C.n_int (by decide +kernel) rfl)) (de_one (de_not rfl (de_isB rfl rfl C.n_isinstance (de_var (pv 0)) (pe_bltn rfl C.n_bool (by decide +kernel) rfl))))))
  dss_nil)
theorem sc_is_number : FnScope N_is_number (inf .is_number).ps (defScope s_is_number) := ⟨rfl, rfl, rfl, by decide +kernel, rfl, by decide +kernel, by decide +kernel⟩
theorem ok_is_number (C : Fx K mg) (E : EnvOk P w K mg base (LK K) inf k Φ) {f : Addr} {fd : FuncData} (F : FunD K (dd .is_number).name (dd .is_number).qual (dd .is_number).params (dd .is_number).body (dd .is_number).scope [] [] f fd) :
    FnOk P w K mg base (L2.CX P w) (k + 1) f fd (inf .is_number).ps (spD (LK K) (inf .is_number).ps.length (runF N_is_number (b_is_number Φ))) := by
  refine DL.fn_ok F sc_is_number fun cdv A outer s H Ex hr => ?_
  have hu := hr.units
  exact (dss_cons (ds_ret (de_and rfl (de_call (calE E hr Fid.is_whole C.g_is_whole) (takes_of rfl rfl rfl rfl) (da_cons (de_var (pv 0)) da_nil)) (de_one (de_chain (op_fLt) (op_fLt) (de_op (op_fSub) de_int (de_op (op_fPow) de_int de_int)) (de_var (pv 0)) (de_op (op_fPow) de_int de_int)))))
  dss_nil)
theorem sc_unmarked : FnScope N_unmarked (inf .unmarked).ps (defScope s_unmarked) := ⟨rfl, rfl, rfl, by decide +kernel, rfl, by decide +kernel, by decide +kernel⟩
theorem ok_unmarked (C : Fx K mg) (E : EnvOk P w K mg base (LK K) inf k Φ) {f : Addr} {fd : FuncData} (F : FunD K (dd .unmarked).name (dd .unmarked).qual (dd .unmarked).params (dd .unmarked).body (dd .unmarked).scope [] [] f fd) :
    FnOk P w K mg base (L2.CX P w) (k + 1) f fd (inf .unmarked).ps (spD (LK K) (inf .unmarked).ps.length (runF N_unmarked (b_unmarked))) := by
  refine DL.fn_ok F sc_unmarked fun cdv A outer s H Ex hr => ?_
  have hu := hr.units
  exact (dss_cons (ds_set (i := 3) sc_unmarked.nd rfl (by first | exact .inl rfl | exact .inr rfl) (de_str (l := []) (by decide +kernel)))
  (dss_cons (ds_set (i := 4) sc_unmarked.nd rfl (by first | exact .inl rfl | exact .inr rfl) de_int)
  (dss_cons (ds_while 1000000 (passes_of rfl) (dt_cp (op_fLt) (nomark _) (de_var (pv 4)) (de_callB (call_fLen rfl) rfl C.n_len (by decide +kernel) (da_cons (de_var (pv 0)) da_nil)))
  (dss_cons (ds_if (dt_cp (op_fEq rfl hu) (nomark _) (de_ix (hu_of hr) rfl (de_var (pv 0)) (de_var (pv 4))) (de_var (pv 1)))
  (dss_cons (ds_set (i := 5) sc_unmarked.nd rfl (by first | exact .inl rfl | exact .inr rfl) (de_get2 (hu_of hr) (de_var (pv 2)) (de_cut rfl (de_var (pv 0)) (dp_some (de_op (op_fAdd rfl) (de_var (pv 4)) de_int)) (dp_some (de_op (op_fAdd rfl) (de_var (pv 4)) de_int))) (de_str (l := []) (by decide +kernel)) ⟨rfl, rfl, rfl, rfl⟩))
  (dss_cons (ds_if (dt_cp (op_fEq rfl hu) (nomark _) (de_var (pv 5)) (de_str (l := []) (by decide +kernel)))
  (dss_cons (ds_ret (de_tup da_nil))
  dss_nil)
  dss_nil)
  (dss_cons (ds_set (i := 3) sc_unmarked.nd rfl (by first | exact .inl rfl | exact .inr rfl) (de_op (op_fAdd rfl) (de_var (pv 3)) (de_var (pv 5))))
  (dss_cons (ds_set (i := 4) sc_unmarked.nd rfl (by first | exact .inl rfl | exact .inr rfl) (de_op (op_fAdd rfl) (de_var (pv 4)) de_int))
  dss_nil))))
  (dss_cons (ds_set (i := 3) sc_unmarked.nd rfl (by first | exact .inl rfl | exact .inr rfl) (de_op (op_fAdd rfl) (de_var (pv 3)) (de_ix (hu_of hr) rfl (de_var (pv 0)) (de_var (pv 4)))))
  (dss_cons (ds_set (i := 4) sc_unmarked.nd rfl (by first | exact .inl rfl | exact .inr rfl) (de_op (op_fAdd rfl) (de_var (pv 4)) de_int))
  dss_nil)))
  dss_nil))
  (dss_cons (ds_ret (de_tup (da_cons (de_var (pv 3)) da_nil)))
  dss_nil))))
theorem sc_way_of : FnScope N_way_of (inf .way_of).ps (defScope s_way_of) := ⟨rfl, rfl, rfl, by decide +kernel, rfl, by decide +kernel, by decide +kernel⟩
theorem ok_way_of (C : Fx K mg) (E : EnvOk P w K mg base (LK K) inf k Φ) {f : Addr} {fd : FuncData} (F : FunD K (dd .way_of).name (dd .way_of).qual (dd .way_of).params (dd .way_of).body (dd .way_of).scope [] [] f fd) :
    FnOk P w K mg base (L2.CX P w) (k + 1) f fd (inf .way_of).ps (spD (LK K) (inf .way_of).ps.length (runF N_way_of (b_way_of))) := by
  refine DL.fn_ok F sc_way_of fun cdv A outer s H Ex hr => ?_
  have hu := hr.units
  exact (dss_cons (ds_if (dt_not (dt_tru rfl (de_isB rfl rfl C.n_isinstance (de_var (pv 0)) (pe_bltn rfl C.n_str (by decide +kernel) rfl))))
  (dss_cons (ds_raise (C.x_BadWay rfl) rfl (takes_of rfl rfl rfl rfl))
  dss_nil)
  dss_nil)
  (dss_cons (ds_if (dt_cp (op_fEq rfl hu) (nomark _) (de_var (pv 0)) (de_str (l := [119, 111, 114, 100]) (by decide +kernel)))
  (dss_cons (ds_ret (de_make0 (c := 4) C.k_Word C.g_Word))
  dss_nil)
  dss_nil)
  (dss_cons (ds_if (dt_cp (op_fEq rfl hu) (nomark _) (de_var (pv 0)) (de_str (l := [110, 117, 109, 98, 101, 114]) (by decide +kernel)))
  (dss_cons (ds_ret (de_make0 (c := 5) C.k_Number C.g_Number))
  dss_nil)
  dss_nil)
  (dss_cons (ds_if (dt_cp (op_fEq rfl hu) (nomark _) (de_var (pv 0)) (de_str (l := [113, 117, 111, 116, 101, 100]) (by decide +kernel)))
  (dss_cons (ds_ret (de_make0 (c := 6) C.k_Quoted C.g_Quoted))
  dss_nil)
  dss_nil)
  (dss_cons (ds_if (dt_cp (op_fEq rfl hu) (nomark _) (de_var (pv 0)) (de_str (l := [112, 108, 97, 105, 110]) (by decide +kernel)))
  (dss_cons (ds_ret (de_make0 (c := 7) C.k_Plain C.g_Plain))
  dss_nil)
  dss_nil)
  (dss_cons (ds_if (dt_cp (op_fEq rfl hu) (nomark _) (de_var (pv 0)) (de_str (l := [108, 105, 110, 101]) (by decide +kernel)))
  (dss_cons (ds_ret (de_make0 (c := 8) C.k_Line C.g_Line))
  dss_nil)
  dss_nil)
  (dss_cons (ds_raise (C.x_BadWay rfl) rfl (takes_of rfl rfl rfl rfl))
  dss_nil)))))))
theorem sc__law_cell_at : FnScope N__law_cell_at (inf ._law_cell_at).ps (defScope s__law_cell_at) := ⟨rfl, rfl, rfl, by decide +kernel, rfl, by decide +kernel, by decide +kernel⟩
theorem ok__law_cell_at (C : Fx K mg) (E : EnvOk P w K mg base (LK K) inf k Φ) {f : Addr} {fd : FuncData} (F : FunD K (dd ._law_cell_at).name (dd ._law_cell_at).qual (dd ._law_cell_at).params (dd ._law_cell_at).body (dd ._law_cell_at).scope [] [] f fd) :
    FnOk P w K mg base (L2.CX P w) (k + 1) f fd (inf ._law_cell_at).ps (spD (LK K) (inf ._law_cell_at).ps.length (runF N__law_cell_at (b__law_cell_at))) := by
  refine DL.fn_ok F sc__law_cell_at fun cdv A outer s H Ex hr => ?_
  have hu := hr.units
  exact (dss_cons (ds_if (dt_cp (op_fLt) (nomark _) (de_var (pv 1)) (de_callB (call_fLen rfl) rfl C.n_len (by decide +kernel) (da_cons (de_var (pv 0)) da_nil)))
  (dss_cons (ds_ret (de_ix (hu_of hr) rfl (de_var (pv 0)) (de_var (pv 1))))
  dss_nil)
  dss_nil)
  (dss_cons (ds_ret de_int)
  dss_nil))
theorem sc__law_signs : FnScope N__law_signs (inf ._law_signs).ps (defScope s__law_signs) := ⟨rfl, rfl, rfl, by decide +kernel, rfl, by decide +kernel, by decide +kernel⟩
theorem ok__law_signs (C : Fx K mg) (E : EnvOk P w K mg base (LK K) inf k Φ) {f : Addr} {fd : FuncData} (F : FunD K (dd ._law_signs).name (dd ._law_signs).qual (dd ._law_signs).params (dd ._law_signs).body (dd ._law_signs).scope [] [] f fd) :
    FnOk P w K mg base (L2.CX P w) (k + 1) f fd (inf ._law_signs).ps (spD (LK K) (inf ._law_signs).ps.length (runF N__law_signs (b__law_signs))) := by
  refine DL.fn_ok F sc__law_signs fun cdv A outer s H Ex hr => ?_
  have hu := hr.units
  exact (dss_cons (ds_set (i := 0) sc__law_signs.nd rfl (by first | exact .inl rfl | exact .inr rfl) (de_str (l := [10, 32, 33, 34, 35, 36, 38, 39, 40, 41, 42, 43, 44, 45, 46, 47, 48, 49, 50, 51, 52, 53, 54, 55, 56, 57, 58, 59, 60, 61, 62, 63, 64, 65, 66, 67, 68, 69, 70, 71, 72, 73, 74, 75, 76, 77, 78, 79, 80, 81, 82, 83, 84, 85, 86, 87, 88, 89, 90, 91, 92, 93, 94, 95, 96]) (by decide +kernel)))
  (dss_cons (ds_ret (de_op (op_fAdd rfl) (de_var (pv 0)) (de_str (l := [97, 98, 99, 100, 101, 102, 103, 104, 105, 106, 107, 108, 109, 110, 111, 112, 113, 114, 115, 116, 117, 118, 119, 120, 121, 122, 123, 124, 125, 126]) (by decide +kernel))))
  dss_nil))
theorem sc__law_mixed : FnScope N__law_mixed (inf ._law_mixed).ps (defScope s__law_mixed) := ⟨rfl, rfl, rfl, by decide +kernel, rfl, by decide +kernel, by decide +kernel⟩
theorem ok__law_mixed (C : Fx K mg) (E : EnvOk P w K mg base (LK K) inf k Φ) {f : Addr} {fd : FuncData} (F : FunD K (dd ._law_mixed).name (dd ._law_mixed).qual (dd ._law_mixed).params (dd ._law_mixed).body (dd ._law_mixed).scope [] [] f fd) :
    FnOk P w K mg base (L2.CX P w) (k + 1) f fd (inf ._law_mixed).ps (spD (LK K) (inf ._law_mixed).ps.length (runF N__law_mixed (b__law_mixed))) := by
  refine DL.fn_ok F sc__law_mixed fun cdv A outer s H Ex hr => ?_
  have hu := hr.units
  exact (dss_cons (ds_ret (de_op (op_fMod) (de_op (op_fMul) (de_op (op_fAdd rfl) (de_op (op_fAdd rfl) (de_var (pv 0)) (de_op (op_fMul) (de_op (op_fMul) de_int (de_var (pv 1))) (de_var (pv 1)))) de_int) de_int) de_int))
  dss_nil)
theorem sc__law_whole : FnScope N__law_whole (inf ._law_whole).ps (defScope s__law_whole) := ⟨rfl, rfl, rfl, by decide +kernel, rfl, by decide +kernel, by decide +kernel⟩
theorem ok__law_whole (C : Fx K mg) (E : EnvOk P w K mg base (LK K) inf k Φ) {f : Addr} {fd : FuncData} (F : FunD K (dd ._law_whole).name (dd ._law_whole).qual (dd ._law_whole).params (dd ._law_whole).body (dd ._law_whole).scope [] [] f fd) :
    FnOk P w K mg base (L2.CX P w) (k + 1) f fd (inf ._law_whole).ps (spD (LK K) (inf ._law_whole).ps.length (runF N__law_whole (b__law_whole))) := by
  refine DL.fn_ok F sc__law_whole fun cdv A outer s H Ex hr => ?_
  have hu := hr.units
  exact (dss_cons (ds_ret (de_and rfl (de_isB rfl rfl C.n_isinstance (de_var (pv 0)) (pe_bltn rfl C.n_int (by decide +kernel) rfl)) (de_one (de_not rfl (de_isB rfl rfl C.n_isinstance (de_var (pv 0)) (pe_bltn rfl C.n_bool (by decide +kernel) rfl))))))
  dss_nil)
theorem sc__law_text_by : FnScope N__law_text_by (inf ._law_text_by).ps (defScope s__law_text_by) := ⟨rfl, rfl, rfl, by decide +kernel, rfl, by decide +kernel, by decide +kernel⟩
theorem ok__law_text_by (C : Fx K mg) (E : EnvOk P w K mg base (LK K) inf k Φ) {f : Addr} {fd : FuncData} (F : FunD K (dd ._law_text_by).name (dd ._law_text_by).qual (dd ._law_text_by).params (dd ._law_text_by).body (dd ._law_text_by).scope [] [] f fd) :
    FnOk P w K mg base (L2.CX P w) (k + 1) f fd (inf ._law_text_by).ps (spD (LK K) (inf ._law_text_by).ps.length (runF N__law_text_by (b__law_text_by Φ))) := by
  refine DL.fn_ok F sc__law_text_by fun cdv A outer s H Ex hr => ?_
  have hu := hr.units
  exact (dss_cons (ds_set (i := 2) sc__law_text_by.nd rfl (by first | exact .inl rfl | exact .inr rfl) (de_call0 (calE E hr Fid._law_signs C.g__law_signs) (takes_of rfl rfl rfl rfl)))
  (dss_cons (ds_set (i := 3) sc__law_text_by.nd rfl (by first | exact .inl rfl | exact .inr rfl) (de_ix (hu_of hr) rfl (de_lst (da_cons (de_op (op_fMod) (de_var (pv 0)) de_int) (da_cons (de_op (op_fMod) (de_var (pv 0)) de_int) (da_cons (de_op (op_fMod) (de_var (pv 0)) (de_op (op_fAdd rfl) (de_var (pv 1)) de_int)) (da_cons (de_op (op_fSub) (de_var (pv 1)) (de_op (op_fMod) (de_var (pv 0)) de_int)) da_nil))))) (de_op (op_fMul) (de_op (op_fMod) (de_op (op_fDiv) (de_var (pv 0)) de_int) de_int) (de_callTy (call_fInt) rfl C.n_int (by decide +kernel) (da_cons (de_cp (op_fEq rfl hu) (nomark _) (de_op (op_fMod) (de_op (op_fDiv) (de_var (pv 0)) de_int) de_int) de_int) da_nil)))))
  (dss_cons (ds_setOwn (i := 4) sc__law_text_by.nd rfl (by first | exact .inl rfl | exact .inr rfl) (df_lst da_nil))
  (dss_cons (ds_for (passes_of rfl) rfl (di_range1 C.n_range (de_var (pv 3))) (dg_name (pg_name (i := 5) sc__law_text_by.nd rfl (by first | exact .inl rfl | exact .inr rfl)))
  (dss_cons (ds_set (i := 6) sc__law_text_by.nd rfl (by first | exact .inl rfl | exact .inr rfl) (de_call (calE E hr Fid._law_mixed C.g__law_mixed) (takes_of rfl rfl rfl rfl) (da_cons (de_op (op_fDiv) (de_var (pv 0)) de_int) (da_cons (de_var (pv 5)) da_nil))))
  (dss_cons (ds_app (i := 4) (pv 4) (de_ix (hu_of hr) rfl (de_lst (da_cons (de_ix (hu_of hr) rfl (de_var (pv 2)) (de_op (op_fMod) (de_op (op_fDiv) (de_var (pv 6)) de_int) de_int)) (da_cons (de_ix (hu_of hr) rfl (de_str (l := [126, 94, 34, 60, 62, 38, 124, 10, 123, 125, 45, 48, 97, 65, 57, 108, 103, 97, 98, 110, 113]) (by decide +kernel)) (de_op (op_fMod) (de_op (op_fDiv) (de_var (pv 6)) de_int) de_int)) da_nil))) (de_op (op_fMul) (de_op (op_fMod) (de_var (pv 6)) de_int) (de_op (op_fMod) (de_op (op_fDiv) (de_var (pv 0)) de_int) de_int))))
  dss_nil)))
  (dss_frz 4 (dss_cons (ds_ret (de_bm rfl PySem.F.plainAttrs_str PySem.F.slot_str_join PySem.F.type_str_join (mt_fJoin rfl) (de_str (l := []) (by decide +kernel)) (da_cons (de_var (pv 4)) da_nil)))
  dss_nil))))))
theorem sc__law_word_by : FnScope N__law_word_by (inf ._law_word_by).ps (defScope s__law_word_by) := ⟨rfl, rfl, rfl, by decide +kernel, rfl, by decide +kernel, by decide +kernel⟩
theorem ok__law_word_by (C : Fx K mg) (E : EnvOk P w K mg base (LK K) inf k Φ) {f : Addr} {fd : FuncData} (F : FunD K (dd ._law_word_by).name (dd ._law_word_by).qual (dd ._law_word_by).params (dd ._law_word_by).body (dd ._law_word_by).scope [] [] f fd) :
    FnOk P w K mg base (L2.CX P w) (k + 1) f fd (inf ._law_word_by).ps (spD (LK K) (inf ._law_word_by).ps.length (runF N__law_word_by (b__law_word_by Φ))) := by
  refine DL.fn_ok F sc__law_word_by fun cdv A outer s H Ex hr => ?_
  have hu := hr.units
  exact (dss_cons (ds_set (i := 1) sc__law_word_by.nd rfl (by first | exact .inl rfl | exact .inr rfl) (de_str (l := [97, 98, 99, 100, 101, 102, 103, 104, 105, 106, 107, 108, 109, 110, 111, 112, 113, 114, 115, 116, 117, 118, 119, 120, 121, 122, 65, 66, 67, 68, 69, 70, 71, 72, 73, 74, 75, 76, 77, 78, 79, 80, 81, 82, 83, 84, 85, 86, 87, 88, 89, 90, 48, 49, 50, 51, 52, 53, 54, 55, 56, 57]) (by decide +kernel)))
  (dss_cons (ds_set (i := 2) sc__law_word_by.nd rfl (by first | exact .inl rfl | exact .inr rfl) (de_ix (hu_of hr) rfl (de_lst (da_cons (de_op (op_fAdd rfl) de_int (de_op (op_fMod) (de_var (pv 0)) de_int)) (da_cons (de_op (op_fAdd rfl) de_int (de_op (op_fMod) (de_var (pv 0)) de_int)) (da_cons de_int da_nil)))) (de_op (op_fMul) (de_op (op_fMod) (de_op (op_fDiv) (de_var (pv 0)) de_int) de_int) (de_callTy (call_fInt) rfl C.n_int (by decide +kernel) (da_cons (de_cp (op_fEq rfl hu) (nomark _) (de_op (op_fMod) (de_op (op_fDiv) (de_var (pv 0)) de_int) de_int) de_int) da_nil)))))
  (dss_cons (ds_ret (de_bm rfl PySem.F.plainAttrs_str PySem.F.slot_str_join PySem.F.type_str_join (mt_fJoin rfl) (de_str (l := []) (by decide +kernel)) (da_cons (de_comp (own := [("_law_k", 3)]) (sl := [3]) rfl sc__law_word_by.nd (di_range1 C.n_range (de_var (pv 2))) (blkOk_by (own := [("_law_k", 3)]) (N := N__law_word_by) (sc := defScope s__law_word_by) (by decide +kernel)) (by decide) (fun _ _ _ _ _ => (dg_name (pg_name (i := 3) sc__law_word_by.nd rfl (by first | exact .inl rfl | exact .inr rfl)))) (fun _ _ _ _ _ => dt_yes) (fun _ _ _ _ _ => (de_ix (hu_of hr) rfl (de_var (pv 1)) (de_op (op_fMod) (de_op (op_fDiv) (de_call (calE E hr Fid._law_mixed C.g__law_mixed) takes0 (da_cons (de_op (op_fDiv) (de_var (pv 0)) de_int) (da_cons (de_var (pv 3)) da_nil))) de_int) de_int)))) da_nil)))
  dss_nil)))
theorem sc__law_number_by : FnScope N__law_number_by (inf ._law_number_by).ps (defScope s__law_number_by) := ⟨rfl, rfl, rfl, by decide +kernel, rfl, by decide +kernel, by decide +kernel⟩
theorem ok__law_number_by (C : Fx K mg) (E : EnvOk P w K mg base (LK K) inf k Φ) {f : Addr} {fd : FuncData} (F : FunD K (dd ._law_number_by).name (dd ._law_number_by).qual (dd ._law_number_by).params (dd ._law_number_by).body (dd ._law_number_by).scope [] [] f fd) :
    FnOk P w K mg base (L2.CX P w) (k + 1) f fd (inf ._law_number_by).ps (spD (LK K) (inf ._law_number_by).ps.length (runF N__law_number_by (b__law_number_by))) := by
  refine DL.fn_ok F sc__law_number_by fun cdv A outer s H Ex hr => ?_
  have hu := hr.units
  exact (dss_cons (ds_set (i := 1) sc__law_number_by.nd rfl (by first | exact .inl rfl | exact .inr rfl) (de_lst (da_cons (de_op (op_fSub) (de_op (op_fMod) (de_var (pv 0)) de_int) de_int) (da_cons (de_op (op_fMod) (de_var (pv 0)) de_int) (da_cons de_int (da_cons (de_op (op_fSub) de_int (de_op (op_fMod) (de_var (pv 0)) de_int)) da_nil))))))
  (dss_cons (ds_set (i := 2) sc__law_number_by.nd rfl (by first | exact .inl rfl | exact .inr rfl) (de_lst (da_cons (de_op (op_fSub) (de_op (op_fSub) (de_op (op_fPow) de_int de_int) de_int) (de_op (op_fMod) (de_var (pv 0)) de_int)) (da_cons (de_op (op_fMod) (de_op (op_fMul) (de_var (pv 0)) (de_op (op_fPow) de_int de_int)) (de_op (op_fPow) de_int de_int)) (da_cons (de_op (op_fSub) de_int (de_op (op_fPow) de_int de_int)) da_nil)))))
  (dss_cons (ds_ret (de_ix (hu_of hr) rfl (de_op (op_fAdd rfl) (de_var (pv 1)) (de_var (pv 2))) (de_op (op_fMod) (de_op (op_fDiv) (de_var (pv 0)) de_int) de_int)))
  dss_nil)))
theorem sc__law_value_by : FnScope N__law_value_by (inf ._law_value_by).ps (defScope s__law_value_by) := ⟨rfl, rfl, rfl, by decide +kernel, rfl, by decide +kernel, by decide +kernel⟩
theorem ok__law_value_by (C : Fx K mg) (E : EnvOk P w K mg base (LK K) inf k Φ) {f : Addr} {fd : FuncData} (F : FunD K (dd ._law_value_by).name (dd ._law_value_by).qual (dd ._law_value_by).params (dd ._law_value_by).body (dd ._law_value_by).scope [] [] f fd) :
    FnOk P w K mg base (L2.CX P w) (k + 1) f fd (inf ._law_value_by).ps (spD (LK K) (inf ._law_value_by).ps.length (runF N__law_value_by (b__law_value_by Φ))) := by
  refine DL.fn_ok F sc__law_value_by fun cdv A outer s H Ex hr => ?_
  have hu := hr.units
  exact (dss_cons (ds_if (dt_cp (op_fEq rfl hu) (nomark _) (de_var (pv 0)) (de_str (l := [119, 111, 114, 100]) (by decide +kernel)))
  (dss_cons (ds_ret (de_call (calE E hr Fid._law_word_by C.g__law_word_by) (takes_of rfl rfl rfl rfl) (da_cons (de_var (pv 1)) da_nil)))
  dss_nil)
  dss_nil)
  (dss_cons (ds_if (dt_cp (op_fEq rfl hu) (nomark _) (de_var (pv 0)) (de_str (l := [110, 117, 109, 98, 101, 114]) (by decide +kernel)))
  (dss_cons (ds_ret (de_call (calE E hr Fid._law_number_by C.g__law_number_by) (takes_of rfl rfl rfl rfl) (da_cons (de_var (pv 1)) da_nil)))
  dss_nil)
  dss_nil)
  (dss_cons (ds_ret (de_call (calE E hr Fid._law_text_by C.g__law_text_by) (takes_of rfl rfl rfl rfl) (da_cons (de_var (pv 1)) (da_cons de_int da_nil))))
  dss_nil)))
theorem sc__law_coded : FnScope N__law_coded (inf ._law_coded).ps (defScope s__law_coded) := ⟨rfl, rfl, rfl, by decide +kernel, rfl, by decide +kernel, by decide +kernel⟩
theorem ok__law_coded (C : Fx K mg) (E : EnvOk P w K mg base (LK K) inf k Φ) {f : Addr} {fd : FuncData} (F : FunD K (dd ._law_coded).name (dd ._law_coded).qual (dd ._law_coded).params (dd ._law_coded).body (dd ._law_coded).scope [] [] f fd) :
    FnOk P w K mg base (L2.CX P w) (k + 1) f fd (inf ._law_coded).ps (spD (LK K) (inf ._law_coded).ps.length (runF N__law_coded (b__law_coded))) := by
  refine DL.fn_ok F sc__law_coded fun cdv A outer s H Ex hr => ?_
  have hu := hr.units
  exact (dss_cons (ds_if (dt_cp (op_fEq rfl hu) (nomark _) (de_var (pv 0)) (de_str (l := [119, 111, 114, 100]) (by decide +kernel)))
  (dss_cons (ds_ret (de_var (pv 1)))
  dss_nil)
  dss_nil)
  (dss_cons (ds_if (dt_cp (op_fEq rfl hu) (nomark _) (de_var (pv 0)) (de_str (l := [110, 117, 109, 98, 101, 114]) (by decide +kernel)))
  (dss_cons (ds_ret (de_callTy (call_fStr) rfl C.n_str (by decide +kernel) (da_cons (de_var (pv 1)) da_nil)))
  dss_nil)
  dss_nil)
  (dss_cons (ds_set (i := 2) sc__law_coded.nd rfl (by first | exact .inl rfl | exact .inr rfl) (de_dict (DPs.cons (de_str (l := [126]) (by decide +kernel)) (de_str (l := [126, 126]) (by decide +kernel)) (DPs.cons (de_str (l := [10]) (by decide +kernel)) (de_str (l := [126, 110]) (by decide +kernel)) DPs.nil))))
  (dss_cons (ds_if (dt_cp (op_fEq rfl hu) (nomark _) (de_var (pv 0)) (de_str (l := [112, 108, 97, 105, 110]) (by decide +kernel)))
  (dss_cons (ds_set (i := 2) sc__law_coded.nd rfl (by first | exact .inl rfl | exact .inr rfl) (de_dict (DPs.cons (de_str (l := [126]) (by decide +kernel)) (de_str (l := [126, 126]) (by decide +kernel)) (DPs.cons (de_str (l := [60]) (by decide +kernel)) (de_str (l := [126, 108]) (by decide +kernel)) (DPs.cons (de_str (l := [62]) (by decide +kernel)) (de_str (l := [126, 103]) (by decide +kernel)) (DPs.cons (de_str (l := [38]) (by decide +kernel)) (de_str (l := [126, 97]) (by decide +kernel)) (DPs.cons (de_str (l := [124]) (by decide +kernel)) (de_str (l := [126, 98]) (by decide +kernel)) (DPs.cons (de_str (l := [10]) (by decide +kernel)) (de_str (l := [126, 110]) (by decide +kernel)) DPs.nil))))))))
  dss_nil)
  dss_nil)
  (dss_cons (ds_if (dt_cp (op_fEq rfl hu) (nomark _) (de_var (pv 0)) (de_str (l := [113, 117, 111, 116, 101, 100]) (by decide +kernel)))
  (dss_cons (ds_set (i := 2) sc__law_coded.nd rfl (by first | exact .inl rfl | exact .inr rfl) (de_dict (DPs.cons (de_str (l := [94]) (by decide +kernel)) (de_str (l := [94, 94]) (by decide +kernel)) (DPs.cons (de_str (l := [34]) (by decide +kernel)) (de_str (l := [94, 113]) (by decide +kernel)) (DPs.cons (de_str (l := [10]) (by decide +kernel)) (de_str (l := [94, 110]) (by decide +kernel)) DPs.nil)))))
  dss_nil)
  dss_nil)
  (dss_cons (ds_set (i := 3) sc__law_coded.nd rfl (by first | exact .inl rfl | exact .inr rfl) (de_bm rfl PySem.F.plainAttrs_str PySem.F.slot_str_join PySem.F.type_str_join (mt_fJoin rfl) (de_str (l := []) (by decide +kernel)) (da_cons (de_comp (own := [("_law_sign", 4)]) (sl := [4]) rfl sc__law_coded.nd (di_seq rfl (de_var (pv 1))) (blkOk_by (own := [("_law_sign", 4)]) (N := N__law_coded) (sc := defScope s__law_coded) (by decide +kernel)) (by decide) (fun _ _ _ _ _ => (dg_name (pg_name (i := 4) sc__law_coded.nd rfl (by first | exact .inl rfl | exact .inr rfl)))) (fun _ _ _ _ _ => dt_yes) (fun _ _ _ _ _ => (de_get2 (hu_of hr) (de_var (pv 2)) (de_var (pv 4)) (de_var (pv 4)) ⟨rfl, rfl, rfl, rfl⟩))) da_nil)))
  (dss_cons (ds_if (dt_cp (op_fEq rfl hu) (nomark _) (de_var (pv 0)) (de_str (l := [113, 117, 111, 116, 101, 100]) (by decide +kernel)))
  (dss_cons (ds_ret (de_op (op_fAdd rfl) (de_op (op_fAdd rfl) (de_str (l := [34]) (by decide +kernel)) (de_var (pv 3))) (de_str (l := [34]) (by decide +kernel))))
  dss_nil)
  dss_nil)
  (dss_cons (ds_ret (de_var (pv 3)))
  dss_nil))))))))
theorem sc__law_ends : FnScope N__law_ends (inf ._law_ends).ps (defScope s__law_ends) := ⟨rfl, rfl, rfl, by decide +kernel, rfl, by decide +kernel, by decide +kernel⟩
theorem ok__law_ends (C : Fx K mg) (E : EnvOk P w K mg base (LK K) inf k Φ) {f : Addr} {fd : FuncData} (F : FunD K (dd ._law_ends).name (dd ._law_ends).qual (dd ._law_ends).params (dd ._law_ends).body (dd ._law_ends).scope [] [] f fd) :
    FnOk P w K mg base (L2.CX P w) (k + 1) f fd (inf ._law_ends).ps (spD (LK K) (inf ._law_ends).ps.length (runF N__law_ends (b__law_ends Φ))) := by
  refine DL.fn_ok F sc__law_ends fun cdv A outer s H Ex hr => ?_
  have hu := hr.units
  exact (dss_cons (ds_if (dt_cp (op_fEq rfl hu) (nomark _) (de_var (pv 0)) (de_str (l := [112, 108, 97, 105, 110]) (by decide +kernel)))
  (dss_cons (ds_ret (de_str (l := [10, 38, 60, 62, 124]) (by decide +kernel)))
  dss_nil)
  dss_nil)
  (dss_cons (ds_if (dt_cp (op_fEq rfl hu) (nomark _) (de_var (pv 0)) (de_str (l := [108, 105, 110, 101]) (by decide +kernel)))
  (dss_cons (ds_ret (de_str (l := [10]) (by decide +kernel)))
  dss_nil)
  dss_nil)
  (dss_cons (ds_set (i := 1) sc__law_ends.nd rfl (by first | exact .inl rfl | exact .inr rfl) (de_dict (DPs.cons (de_str (l := [119, 111, 114, 100]) (by decide +kernel)) (de_str (l := [97, 98, 99, 100, 101, 102, 103, 104, 105, 106, 107, 108, 109, 110, 111, 112, 113, 114, 115, 116, 117, 118, 119, 120, 121, 122, 65, 66, 67, 68, 69, 70, 71, 72, 73, 74, 75, 76, 77, 78, 79, 80, 81, 82, 83, 84, 85, 86, 87, 88, 89, 90, 48, 49, 50, 51, 52, 53, 54, 55, 56, 57]) (by decide +kernel)) (DPs.cons (de_str (l := [110, 117, 109, 98, 101, 114]) (by decide +kernel)) (de_str (l := [48, 49, 50, 51, 52, 53, 54, 55, 56, 57]) (by decide +kernel)) DPs.nil))))
  (dss_cons (ds_ret (de_bm rfl PySem.F.plainAttrs_str PySem.F.slot_str_join PySem.F.type_str_join (mt_fJoin rfl) (de_str (l := []) (by decide +kernel)) (da_cons (de_comp (own := [("_law_sign", 2)]) (sl := [2]) rfl sc__law_ends.nd (di_seq rfl (de_call0 (calE E hr Fid._law_signs C.g__law_signs) (takes_of rfl rfl rfl rfl))) (blkOk_by (own := [("_law_sign", 2)]) (N := N__law_ends) (sc := defScope s__law_ends) (by decide +kernel)) (by decide) (fun _ _ _ _ _ => (dg_name (pg_name (i := 2) sc__law_ends.nd rfl (by first | exact .inl rfl | exact .inr rfl)))) (fun _ _ _ _ _ => (pts_one (dt_cp (op_fNotIn rfl) (by with_unfolding_all rfl) (de_var (pv 2)) (de_get2 (hu_of hr) (de_var (pv 1)) (de_var (pv 0)) (de_str (l := []) (by decide +kernel)) ⟨rfl, rfl, rfl, rfl⟩)))) (fun _ _ _ _ _ => (de_var (pv 2)))) da_nil)))
  dss_nil))))
theorem sc__law_stretch : FnScope N__law_stretch (inf ._law_stretch).ps (defScope s__law_stretch) := ⟨rfl, rfl, rfl, by decide +kernel, rfl, by decide +kernel, by decide +kernel⟩
theorem ok__law_stretch (C : Fx K mg) (E : EnvOk P w K mg base (LK K) inf k Φ) {f : Addr} {fd : FuncData} (F : FunD K (dd ._law_stretch).name (dd ._law_stretch).qual (dd ._law_stretch).params (dd ._law_stretch).body (dd ._law_stretch).scope [] [] f fd) :
    FnOk P w K mg base (L2.CX P w) (k + 1) f fd (inf ._law_stretch).ps (spD (LK K) (inf ._law_stretch).ps.length (runF N__law_stretch (b__law_stretch Φ))) := by
  refine DL.fn_ok F sc__law_stretch fun cdv A outer s H Ex hr => ?_
  have hu := hr.units
  exact (dss_cons (ds_set (i := 3) sc__law_stretch.nd rfl (by first | exact .inl rfl | exact .inr rfl) (de_var (pv 2)))
  (dss_cons (ds_if (dt_cp (op_fEq rfl hu) (nomark _) (de_var (pv 0)) (de_str (l := [113, 117, 111, 116, 101, 100]) (by decide +kernel)))
  (dss_cons (ds_set (i := 3) sc__law_stretch.nd rfl (by first | exact .inl rfl | exact .inr rfl) (de_op (op_fAdd rfl) (de_var (pv 2)) de_int))
  (dss_cons (ds_while 1000000 (passes_of rfl) (dt_w (dw_and (dt_cp (op_fLt) (nomark _) (de_var (pv 3)) (de_callB (call_fLen rfl) rfl C.n_len (by decide +kernel) (da_cons (de_var (pv 1)) da_nil))) (dw_and1 (dt_cp (op_fNe rfl hu) (nomark _) (de_ix (hu_of hr) rfl (de_var (pv 1)) (de_var (pv 3))) (de_str (l := [34]) (by decide +kernel))))))
  (dss_cons (ds_set (i := 3) sc__law_stretch.nd rfl (by first | exact .inl rfl | exact .inr rfl) (de_op (op_fAdd rfl) (de_var (pv 3)) de_int))
  dss_nil))
  (dss_cons (ds_if (dt_w (dw_or (dt_cp (op_fNe rfl hu) (nomark _) (de_cut rfl (de_var (pv 1)) (dp_some (de_var (pv 2))) (dp_some (de_op (op_fAdd rfl) (de_var (pv 2)) de_int))) (de_str (l := [34]) (by decide +kernel))) (dw_or1 (dt_cp (op_fGe) (nomark _) (de_var (pv 3)) (de_callB (call_fLen rfl) rfl C.n_len (by decide +kernel) (da_cons (de_var (pv 1)) da_nil))))))
  (dss_cons (ds_ret (de_neg de_int))
  dss_nil)
  dss_nil)
  (dss_cons (ds_ret (de_op (op_fAdd rfl) (de_var (pv 3)) de_int))
  dss_nil))))
  dss_nil)
  (dss_cons (ds_if (dt_w (dw_and (dt_cp (op_fEq rfl hu) (nomark _) (de_var (pv 0)) (de_str (l := [110, 117, 109, 98, 101, 114]) (by decide +kernel))) (dw_and1 (dt_cp (op_fEq rfl hu) (nomark _) (de_cut rfl (de_var (pv 1)) (dp_some (de_var (pv 2))) (dp_some (de_op (op_fAdd rfl) (de_var (pv 2)) de_int))) (de_str (l := [45]) (by decide +kernel))))))
  (dss_cons (ds_set (i := 3) sc__law_stretch.nd rfl (by first | exact .inl rfl | exact .inr rfl) (de_op (op_fAdd rfl) (de_var (pv 2)) de_int))
  dss_nil)
  dss_nil)
  (dss_cons (ds_while 1000000 (passes_of rfl) (dt_w (dw_and (dt_cp (op_fLt) (nomark _) (de_var (pv 3)) (de_callB (call_fLen rfl) rfl C.n_len (by decide +kernel) (da_cons (de_var (pv 1)) da_nil))) (dw_and1 (dt_cp (op_fNotIn rfl) (by with_unfolding_all rfl) (de_ix (hu_of hr) rfl (de_var (pv 1)) (de_var (pv 3))) (de_call (calE E hr Fid._law_ends C.g__law_ends) (takes_of rfl rfl rfl rfl) (da_cons (de_var (pv 0)) da_nil))))))
  (dss_cons (ds_set (i := 3) sc__law_stretch.nd rfl (by first | exact .inl rfl | exact .inr rfl) (de_op (op_fAdd rfl) (de_var (pv 3)) de_int))
  dss_nil))
  (dss_cons (ds_ret (de_var (pv 3)))
  dss_nil)))))
theorem sc__law_meant : FnScope N__law_meant (inf ._law_meant).ps (defScope s__law_meant) := ⟨rfl, rfl, rfl, by decide +kernel, rfl, by decide +kernel, by decide +kernel⟩
theorem ok__law_meant (C : Fx K mg) (E : EnvOk P w K mg base (LK K) inf k Φ) {f : Addr} {fd : FuncData} (F : FunD K (dd ._law_meant).name (dd ._law_meant).qual (dd ._law_meant).params (dd ._law_meant).body (dd ._law_meant).scope [] [] f fd) :
    FnOk P w K mg base (L2.CX P w) (k + 1) f fd (inf ._law_meant).ps (spD (LK K) (inf ._law_meant).ps.length (runF N__law_meant (b__law_meant))) := by
  refine DL.fn_ok F sc__law_meant fun cdv A outer s H Ex hr => ?_
  have hu := hr.units
  exact (dss_cons (ds_if (dt_cp (op_fEq rfl hu) (nomark _) (de_var (pv 0)) (de_str (l := [119, 111, 114, 100]) (by decide +kernel)))
  (dss_cons (ds_ret (de_cut rfl (de_lst (da_cons (de_var (pv 1)) da_nil)) dp_none (dp_some (de_callTy (call_fInt) rfl C.n_int (by decide +kernel) (da_cons (de_chain (op_fLe) (op_fLe) de_int (de_callB (call_fLen rfl) rfl C.n_len (by decide +kernel) (da_cons (de_var (pv 1)) da_nil)) de_int) da_nil)))))
  dss_nil)
  dss_nil)
  (dss_cons (ds_if (dt_cp (op_fEq rfl hu) (nomark _) (de_var (pv 0)) (de_str (l := [110, 117, 109, 98, 101, 114]) (by decide +kernel)))
  (dss_cons (ds_set (i := 2) sc__law_meant.nd rfl (by first | exact .inl rfl | exact .inr rfl) (de_cut rfl (de_var (pv 1)) (dp_some (de_callTy (call_fInt) rfl C.n_int (by decide +kernel) (da_cons (de_cp (op_fEq rfl hu) (nomark _) (de_cut rfl (de_var (pv 1)) dp_none (dp_some de_int)) (de_str (l := [45]) (by decide +kernel))) da_nil))) dp_none))
  (dss_cons (ds_if (dt_w (dw_or (dt_not (dt_chain (op_fLe) (op_fLe) de_int (de_callB (call_fLen rfl) rfl C.n_len (by decide +kernel) (da_cons (de_var (pv 2)) da_nil)) de_int)) (dw_or1 (dt_w (dw_and (dt_cp (op_fEq rfl hu) (nomark _) (de_ix (hu_of hr) rfl (de_var (pv 2)) de_int) (de_str (l := [48]) (by decide +kernel))) (dw_and1 (dt_cp (op_fNe rfl hu) (nomark _) (de_var (pv 1)) (de_str (l := [48]) (by decide +kernel)))))))))
  (dss_cons (ds_ret (de_lst da_nil))
  dss_nil)
  dss_nil)
  (dss_cons (ds_ret (de_lst (da_cons (de_callTy (call_fInt) rfl C.n_int (by decide +kernel) (da_cons (de_var (pv 1)) da_nil)) da_nil)))
  dss_nil)))
  dss_nil)
  (dss_cons (ds_set (i := 3) sc__law_meant.nd rfl (by first | exact .inl rfl | exact .inr rfl) (de_if (dt_cp (op_fEq rfl hu) (nomark _) (de_var (pv 0)) (de_str (l := [113, 117, 111, 116, 101, 100]) (by decide +kernel))) (de_str (l := [94]) (by decide +kernel)) (de_str (l := [126]) (by decide +kernel))))
  (dss_cons (ds_set (i := 4) sc__law_meant.nd rfl (by first | exact .inl rfl | exact .inr rfl) (de_ix (hu_of hr) rfl (de_dict (DPs.cons (de_str (l := [108, 105, 110, 101]) (by decide +kernel)) (de_str (l := [126, 110]) (by decide +kernel)) (DPs.cons (de_str (l := [112, 108, 97, 105, 110]) (by decide +kernel)) (de_str (l := [126, 108, 103, 97, 98, 110]) (by decide +kernel)) (DPs.cons (de_str (l := [113, 117, 111, 116, 101, 100]) (by decide +kernel)) (de_str (l := [94, 113, 110]) (by decide +kernel)) DPs.nil)))) (de_var (pv 0))))
  (dss_cons (ds_set (i := 5) sc__law_meant.nd rfl (by first | exact .inl rfl | exact .inr rfl) (de_ix (hu_of hr) rfl (de_dict (DPs.cons (de_str (l := [108, 105, 110, 101]) (by decide +kernel)) (de_str (l := [126, 10]) (by decide +kernel)) (DPs.cons (de_str (l := [112, 108, 97, 105, 110]) (by decide +kernel)) (de_str (l := [126, 60, 62, 38, 124, 10]) (by decide +kernel)) (DPs.cons (de_str (l := [113, 117, 111, 116, 101, 100]) (by decide +kernel)) (de_str (l := [94, 34, 10]) (by decide +kernel)) DPs.nil)))) (de_var (pv 0))))
  (dss_cons (ds_if (dt_cp (op_fEq rfl hu) (nomark _) (de_var (pv 0)) (de_str (l := [113, 117, 111, 116, 101, 100]) (by decide +kernel)))
  (dss_cons (ds_set (i := 1) sc__law_meant.nd rfl (by first | exact .inl rfl | exact .inr rfl) (de_cut rfl (de_var (pv 1)) (dp_some de_int) (dp_some (de_neg de_int))))
  dss_nil)
  dss_nil)
  (dss_cons (ds_set (i := 6) sc__law_meant.nd rfl (by first | exact .inl rfl | exact .inr rfl) (de_str (l := []) (by decide +kernel)))
  (dss_cons (ds_set (i := 7) sc__law_meant.nd rfl (by first | exact .inl rfl | exact .inr rfl) de_int)
  (dss_cons (ds_while 1000000 (passes_of rfl) (dt_cp (op_fLt) (nomark _) (de_var (pv 7)) (de_callB (call_fLen rfl) rfl C.n_len (by decide +kernel) (da_cons (de_var (pv 1)) da_nil)))
  (dss_cons (ds_set (i := 8) sc__law_meant.nd rfl (by first | exact .inl rfl | exact .inr rfl) (de_ix (hu_of hr) rfl (de_var (pv 1)) (de_var (pv 7))))
  (dss_cons (ds_if (dt_cp (op_fEq rfl hu) (nomark _) (de_var (pv 8)) (de_var (pv 3)))
  (dss_cons (ds_set (i := 7) sc__law_meant.nd rfl (by first | exact .inl rfl | exact .inr rfl) (de_op (op_fAdd rfl) (de_var (pv 7)) de_int))
  (dss_cons (ds_if (dt_w (dw_or (dt_cp (op_fEq rfl hu) (nomark _) (de_cut rfl (de_var (pv 1)) (dp_some (de_var (pv 7))) (dp_some (de_op (op_fAdd rfl) (de_var (pv 7)) de_int))) (de_str (l := []) (by decide +kernel))) (dw_or1 (dt_cp (op_fNotIn rfl) (by with_unfolding_all rfl) (de_ix (hu_of hr) rfl (de_var (pv 1)) (de_var (pv 7))) (de_var (pv 4))))))
  (dss_cons (ds_ret (de_lst da_nil))
  dss_nil)
  dss_nil)
  (dss_cons (ds_set (i := 8) sc__law_meant.nd rfl (by first | exact .inl rfl | exact .inr rfl) (de_ix (hu_of hr) rfl (de_var (pv 5)) (de_bm rfl PySem.F.plainAttrs_str PySem.F.slot_str_index PySem.F.type_str_index (mt_fSIndex) (de_var (pv 4)) (da_cons (de_ix (hu_of hr) rfl (de_var (pv 1)) (de_var (pv 7))) da_nil))))
  dss_nil)))
  (dss_cons (ds_if (dt_cp (op_fEq rfl hu) (nomark _) (de_var (pv 8)) (de_str (l := [10]) (by decide +kernel)))
  (dss_cons (ds_ret (de_lst da_nil))
  dss_nil)
  dss_nil)
  dss_nil))
  (dss_cons (ds_set (i := 6) sc__law_meant.nd rfl (by first | exact .inl rfl | exact .inr rfl) (de_op (op_fAdd rfl) (de_var (pv 6)) (de_var (pv 8))))
  (dss_cons (ds_set (i := 7) sc__law_meant.nd rfl (by first | exact .inl rfl | exact .inr rfl) (de_op (op_fAdd rfl) (de_var (pv 7)) de_int))
  dss_nil)))))
  (dss_cons (ds_ret (de_cut rfl (de_lst (da_cons (de_var (pv 6)) da_nil)) dp_none (dp_some (de_callTy (call_fInt) rfl C.n_int (by decide +kernel) (da_cons (de_cp (op_fLe) (nomark _) (de_callB (call_fLen rfl) rfl C.n_len (by decide +kernel) (da_cons (de_var (pv 6)) da_nil)) de_int) da_nil)))))
  dss_nil))))))))))
theorem sc__law_due : FnScope N__law_due (inf ._law_due).ps (defScope s__law_due) := ⟨rfl, rfl, rfl, by decide +kernel, rfl, by decide +kernel, by decide +kernel⟩
theorem ok__law_due (C : Fx K mg) (E : EnvOk P w K mg base (LK K) inf k Φ) {f : Addr} {fd : FuncData} (F : FunD K (dd ._law_due).name (dd ._law_due).qual (dd ._law_due).params (dd ._law_due).body (dd ._law_due).scope [] [] f fd) :
    FnOk P w K mg base (L2.CX P w) (k + 1) f fd (inf ._law_due).ps (spD (LK K) (inf ._law_due).ps.length (runF N__law_due (b__law_due Φ))) := by
  refine DL.fn_ok F sc__law_due fun cdv A outer s H Ex hr => ?_
  have hu := hr.units
  exact (dss_cons (ds_set (i := 3) sc__law_due.nd rfl (by first | exact .inl rfl | exact .inr rfl) (de_call (calE E hr Fid._law_stretch C.g__law_stretch) (takes_of rfl rfl rfl rfl) (da_cons (de_var (pv 0)) (da_cons (de_var (pv 1)) (da_cons (de_var (pv 2)) da_nil)))))
  (dss_cons (ds_if (dt_cp (op_fLt) (nomark _) (de_var (pv 3)) de_int)
  (dss_cons (ds_ret de_non)
  dss_nil)
  dss_nil)
  (dss_cons (ds_set (i := 4) sc__law_due.nd rfl (by first | exact .inl rfl | exact .inr rfl) (de_call (calE E hr Fid._law_meant C.g__law_meant) (takes_of rfl rfl rfl rfl) (da_cons (de_var (pv 0)) (da_cons (de_cut rfl (de_var (pv 1)) (dp_some (de_var (pv 2))) (dp_some (de_var (pv 3)))) da_nil))))
  (dss_cons (ds_if (dt_cp (op_fEq rfl hu) (nomark _) (de_var (pv 4)) (de_lst da_nil))
  (dss_cons (ds_ret de_non)
  dss_nil)
  dss_nil)
  (dss_cons (ds_ret (de_tup (da_cons (de_ix (hu_of hr) rfl (de_var (pv 4)) de_int) (da_cons (de_var (pv 3)) da_nil))))
  dss_nil)))))
theorem sc__law_same : FnScope N__law_same (inf ._law_same).ps (defScope s__law_same) := ⟨rfl, rfl, rfl, by decide +kernel, rfl, by decide +kernel, by decide +kernel⟩
theorem ok__law_same (C : Fx K mg) (E : EnvOk P w K mg base (LK K) inf k Φ) {f : Addr} {fd : FuncData} (F : FunD K (dd ._law_same).name (dd ._law_same).qual (dd ._law_same).params (dd ._law_same).body (dd ._law_same).scope [] [] f fd) :
    FnOk P w K mg base (L2.CX P w) (k + 1) f fd (inf ._law_same).ps (spD (LK K) (inf ._law_same).ps.length (runF N__law_same (b__law_same Φ))) := by
  refine DL.fn_ok F sc__law_same fun cdv A outer s H Ex hr => ?_
  have hu := hr.units
  exact (dss_cons (ds_if (dt_w (dw_or (dt_cp (op_fIs) (nomark _) (de_var (pv 1)) de_non) (dw_or1 (dt_cp (op_fIs) (nomark _) (de_var (pv 0)) de_non))))
  (dss_cons (ds_ret (de_and rfl (de_cp (op_fIs) (nomark _) (de_var (pv 0)) de_non) (de_one (de_cp (op_fIs) (nomark _) (de_var (pv 1)) de_non))))
  dss_nil)
  dss_nil)
  (dss_cons (ds_if (dt_w (dw_or (dt_not (dt_tru rfl (de_isB rfl rfl C.n_isinstance (de_var (pv 0)) (pe_bltn rfl C.n_tuple (by decide +kernel) rfl)))) (dw_or (dt_cp (op_fNe rfl hu) (nomark _) (de_callB (call_fLen rfl) rfl C.n_len (by decide +kernel) (da_cons (de_var (pv 0)) da_nil)) de_int) (dw_or1 (dt_not (dt_tru rfl (de_call (calE E hr Fid._law_whole C.g__law_whole) (takes_of rfl rfl rfl rfl) (da_cons (de_ix (hu_of hr) rfl (de_var (pv 0)) de_int) da_nil))))))))
  (dss_cons (ds_ret de_bl)
  dss_nil)
  dss_nil)
  (dss_cons (ds_if (dt_w (dw_or (dt_cp (op_fNe rfl hu) (nomark _) (de_isB rfl rfl C.n_isinstance (de_ix (hu_of hr) rfl (de_var (pv 0)) de_int) (pe_bltn rfl C.n_str (by decide +kernel) rfl)) (de_isB rfl rfl C.n_isinstance (de_ix (hu_of hr) rfl (de_var (pv 1)) de_int) (pe_bltn rfl C.n_str (by decide +kernel) rfl))) (dw_or1 (dt_tru rfl (de_isB rfl rfl C.n_isinstance (de_ix (hu_of hr) rfl (de_var (pv 0)) de_int) (pe_bltn rfl C.n_bool (by decide +kernel) rfl))))))
  (dss_cons (ds_ret de_bl)
  dss_nil)
  dss_nil)
  (dss_cons (ds_ret (de_cp (op_fEq rfl hu) (nomark _) (de_var (pv 0)) (de_var (pv 1))))
  dss_nil))))
theorem sc__law_bent : FnScope N__law_bent (inf ._law_bent).ps (defScope s__law_bent) := ⟨rfl, rfl, rfl, by decide +kernel, rfl, by decide +kernel, by decide +kernel⟩
theorem ok__law_bent (C : Fx K mg) (E : EnvOk P w K mg base (LK K) inf k Φ) {f : Addr} {fd : FuncData} (F : FunD K (dd ._law_bent).name (dd ._law_bent).qual (dd ._law_bent).params (dd ._law_bent).body (dd ._law_bent).scope [] [] f fd) :
    FnOk P w K mg base (L2.CX P w) (k + 1) f fd (inf ._law_bent).ps (spD (LK K) (inf ._law_bent).ps.length (runF N__law_bent (b__law_bent Φ))) := by
  refine DL.fn_ok F sc__law_bent fun cdv A outer s H Ex hr => ?_
  have hu := hr.units
  exact (dss_cons (ds_set (i := 2) sc__law_bent.nd rfl (by first | exact .inl rfl | exact .inr rfl) (de_op (op_fAdd rfl) (de_call0 (calE E hr Fid._law_signs C.g__law_signs) (takes_of rfl rfl rfl rfl)) (de_str (l := [126, 126, 94, 94, 34, 45, 45, 48, 48]) (by decide +kernel))))
  (dss_cons (ds_set (i := 3) sc__law_bent.nd rfl (by first | exact .inl rfl | exact .inr rfl) (de_ix (hu_of hr) rfl (de_var (pv 2)) (de_op (op_fMod) (de_op (op_fDiv) (de_var (pv 1)) de_int) (de_callB (call_fLen rfl) rfl C.n_len (by decide +kernel) (da_cons (de_var (pv 2)) da_nil)))))
  (dss_cons (ds_set (i := 4) sc__law_bent.nd rfl (by first | exact .inl rfl | exact .inr rfl) (de_op (op_fMod) (de_op (op_fDiv) (de_var (pv 1)) de_int) (de_op (op_fAdd rfl) (de_callB (call_fLen rfl) rfl C.n_len (by decide +kernel) (da_cons (de_var (pv 0)) da_nil)) de_int)))
  (dss_cons (ds_ret (de_ix (hu_of hr) rfl (de_lst (da_cons (de_op (op_fAdd rfl) (de_op (op_fAdd rfl) (de_cut rfl (de_var (pv 0)) dp_none (dp_some (de_var (pv 4)))) (de_var (pv 3))) (de_cut rfl (de_var (pv 0)) (dp_some (de_var (pv 4))) dp_none)) (da_cons (de_op (op_fAdd rfl) (de_cut rfl (de_var (pv 0)) dp_none (dp_some (de_var (pv 4)))) (de_cut rfl (de_var (pv 0)) (dp_some (de_op (op_fAdd rfl) (de_var (pv 4)) de_int)) dp_none)) (da_cons (de_op (op_fAdd rfl) (de_op (op_fAdd rfl) (de_cut rfl (de_var (pv 0)) dp_none (dp_some (de_var (pv 4)))) (de_var (pv 3))) (de_cut rfl (de_var (pv 0)) (dp_some (de_op (op_fAdd rfl) (de_var (pv 4)) de_int)) dp_none)) (da_cons (de_var (pv 0)) da_nil))))) (de_op (op_fMod) (de_var (pv 1)) de_int)))
  dss_nil))))
theorem sc_law : FnScope N_law (inf .law).ps (defScope s_law) := ⟨rfl, rfl, rfl, by decide +kernel, rfl, by decide +kernel, by decide +kernel⟩
theorem ok_law (C : Fx K mg) (E : EnvOk P w K mg base (LK K) inf k Φ) {f : Addr} {fd : FuncData} (F : FunD K (dd .law).name (dd .law).qual (dd .law).params (dd .law).body (dd .law).scope [] [] f fd) :
    FnOk P w K mg base (L2.CX P w) (k + 1) f fd (inf .law).ps (spD (LK K) (inf .law).ps.length (runF N_law (b_law Φ))) := by
  refine DL.fn_ok F sc_law fun cdv A outer s H Ex hr => ?_
  have hu := hr.units
  exact (dss_cons (ds_set (i := 1) sc_law.nd rfl (by first | exact .inl rfl | exact .inr rfl) (de_lst (da_cons (de_str (l := [119, 111, 114, 100]) (by decide +kernel)) (da_cons (de_str (l := [110, 117, 109, 98, 101, 114]) (by decide +kernel)) (da_cons (de_str (l := [113, 117, 111, 116, 101, 100]) (by decide +kernel)) (da_cons (de_str (l := [112, 108, 97, 105, 110]) (by decide +kernel)) (da_cons (de_str (l := [108, 105, 110, 101]) (by decide +kernel)) da_nil)))))))
  (dss_cons (ds_for (passes_of rfl) rfl (di_range1 C.n_range de_int) (dg_name (pg_name (i := 2) sc_law.nd rfl (by first | exact .inl rfl | exact .inr rfl)))
  (dss_cons (ds_set (i := 3) sc_law.nd rfl (by first | exact .inl rfl | exact .inr rfl) (de_call (calE E hr Fid.way_of C.g_way_of) (takes_of rfl rfl rfl rfl) (da_cons (de_ix (hu_of hr) rfl (de_var (pv 1)) (de_var (pv 2))) da_nil)))
  (dss_cons (ds_set (i := 4) sc_law.nd rfl (by first | exact .inl rfl | exact .inr rfl) (de_call (calE E hr Fid._law_mixed C.g__law_mixed) (takes_of rfl rfl rfl rfl) (da_cons (de_call (calE E hr Fid._law_cell_at C.g__law_cell_at) (takes_of rfl rfl rfl rfl) (da_cons (de_var (pv 0)) (da_cons (de_op (op_fMul) de_int (de_var (pv 2))) da_nil))) (da_cons (de_var (pv 2)) da_nil))))
  (dss_cons (ds_set (i := 5) sc_law.nd rfl (by first | exact .inl rfl | exact .inr rfl) (de_call (calE E hr Fid._law_value_by C.g__law_value_by) (takes_of rfl rfl rfl rfl) (da_cons (de_ix (hu_of hr) rfl (de_var (pv 1)) (de_var (pv 2))) (da_cons (de_call (calE E hr Fid._law_mixed C.g__law_mixed) (takes_of rfl rfl rfl rfl) (da_cons (de_call (calE E hr Fid._law_cell_at C.g__law_cell_at) (takes_of rfl rfl rfl rfl) (da_cons (de_var (pv 0)) (da_cons (de_op (op_fAdd rfl) (de_op (op_fMul) de_int (de_var (pv 2))) de_int) da_nil))) (da_cons de_int da_nil))) da_nil))))
  (dss_cons (ds_set (i := 6) sc_law.nd rfl (by first | exact .inl rfl | exact .inr rfl) (de_call (calE E hr Fid._law_text_by C.g__law_text_by) (takes_of rfl rfl rfl rfl) (da_cons (de_var (pv 4)) (da_cons de_int da_nil))))
  (dss_cons (ds_set (i := 7) sc_law.nd rfl (by first | exact .inl rfl | exact .inr rfl) (de_call (calE E hr Fid._law_ends C.g__law_ends) (takes_of rfl rfl rfl rfl) (da_cons (de_ix (hu_of hr) rfl (de_var (pv 1)) (de_var (pv 2))) da_nil)))
  (dss_cons (ds_set (i := 8) sc_law.nd rfl (by first | exact .inl rfl | exact .inr rfl) (de_ix (hu_of hr) rfl (de_lst (da_cons (de_str (l := []) (by decide +kernel)) (da_cons (de_op (op_fAdd rfl) (de_ix (hu_of hr) rfl (de_var (pv 7)) (de_op (op_fMod) (de_op (op_fDiv) (de_var (pv 4)) de_int) (de_callB (call_fLen rfl) rfl C.n_len (by decide +kernel) (da_cons (de_var (pv 7)) da_nil)))) (de_call (calE E hr Fid._law_text_by C.g__law_text_by) (takes_of rfl rfl rfl rfl) (da_cons (de_op (op_fDiv) (de_var (pv 4)) de_int) (da_cons de_int da_nil)))) da_nil))) (de_op (op_fMod) (de_var (pv 4)) de_int)))
  (dss_cons (ds_set (i := 9) sc_law.nd rfl (by first | exact .inl rfl | exact .inr rfl) (de_call (calE E hr Fid._law_coded C.g__law_coded) (takes_of rfl rfl rfl rfl) (da_cons (de_ix (hu_of hr) rfl (de_var (pv 1)) (de_var (pv 2))) (da_cons (de_var (pv 5)) da_nil))))
  (dss_cons (ds_for (passes_of rfl) rfl (di_range1 C.n_range de_int) (dg_name (pg_name (i := 10) sc_law.nd rfl (by first | exact .inl rfl | exact .inr rfl)))
  (dss_cons (ds_set (i := 11) sc_law.nd rfl (by first | exact .inl rfl | exact .inr rfl) (de_meth (calm_read E C hr) (takes_of rfl rfl rfl rfl) (de_var (pv 3)) (da_cons (de_op (op_fAdd rfl) (de_op (op_fAdd rfl) (de_var (pv 6)) (de_var (pv 9))) (de_var (pv 8))) (da_cons (de_callB (call_fLen rfl) rfl C.n_len (by decide +kernel) (da_cons (de_var (pv 6)) da_nil)) da_nil))))
  (dss_cons (ds_if (dt_not (dt_tru rfl (de_call (calE E hr Fid._law_same C.g__law_same) (takes_of rfl rfl rfl rfl) (da_cons (de_var (pv 11)) (da_cons (de_tup (da_cons (de_var (pv 5)) (da_cons (de_op (op_fAdd rfl) (de_callB (call_fLen rfl) rfl C.n_len (by decide +kernel) (da_cons (de_var (pv 6)) da_nil)) (de_callB (call_fLen rfl) rfl C.n_len (by decide +kernel) (da_cons (de_var (pv 9)) da_nil))) da_nil))) da_nil)))))
  (dss_cons (ds_ret de_bl)
  dss_nil)
  dss_nil)
  dss_nil)))
  (dss_cons (ds_set (i := 12) sc_law.nd rfl (by first | exact .inl rfl | exact .inr rfl) (de_call (calE E hr Fid._law_bent C.g__law_bent) (takes_of rfl rfl rfl rfl) (da_cons (de_op (op_fAdd rfl) (de_op (op_fAdd rfl) (de_var (pv 6)) (de_var (pv 9))) (de_var (pv 8))) (da_cons (de_call (calE E hr Fid._law_mixed C.g__law_mixed) (takes_of rfl rfl rfl rfl) (da_cons (de_call (calE E hr Fid._law_cell_at C.g__law_cell_at) (takes_of rfl rfl rfl rfl) (da_cons (de_var (pv 0)) (da_cons (de_op (op_fAdd rfl) (de_op (op_fMul) de_int (de_var (pv 2))) de_int) da_nil))) (da_cons de_int da_nil))) da_nil))))
  (dss_cons (ds_set (i := 13) sc_law.nd rfl (by first | exact .inl rfl | exact .inr rfl) (de_ix (hu_of hr) rfl (de_lst (da_cons (de_callB (call_fLen rfl) rfl C.n_len (by decide +kernel) (da_cons (de_var (pv 6)) da_nil)) (da_cons (de_op (op_fMod) (de_call (calE E hr Fid._law_cell_at C.g__law_cell_at) (takes_of rfl rfl rfl rfl) (da_cons (de_var (pv 0)) (da_cons (de_op (op_fAdd rfl) (de_op (op_fMul) de_int (de_var (pv 2))) de_int) da_nil))) (de_op (op_fAdd rfl) (de_callB (call_fLen rfl) rfl C.n_len (by decide +kernel) (da_cons (de_var (pv 12)) da_nil)) de_int)) da_nil))) (de_op (op_fMod) (de_op (op_fDiv) (de_var (pv 4)) de_int) de_int)))
  (dss_cons (ds_set (i := 13) sc_law.nd rfl (by first | exact .inl rfl | exact .inr rfl) (de_callB (call_fMin rfl) rfl C.n_min (by decide +kernel) (da_cons (de_var (pv 13)) (da_cons (de_callB (call_fLen rfl) rfl C.n_len (by decide +kernel) (da_cons (de_var (pv 12)) da_nil)) da_nil))))
  (dss_cons (ds_if (dt_not (dt_tru rfl (de_call (calE E hr Fid._law_same C.g__law_same) (takes_of rfl rfl rfl rfl) (da_cons (de_meth (calm_read E C hr) (takes_of rfl rfl rfl rfl) (de_var (pv 3)) (da_cons (de_var (pv 12)) (da_cons (de_var (pv 13)) da_nil))) (da_cons (de_call (calE E hr Fid._law_due C.g__law_due) (takes_of rfl rfl rfl rfl) (da_cons (de_ix (hu_of hr) rfl (de_var (pv 1)) (de_var (pv 2))) (da_cons (de_var (pv 12)) (da_cons (de_var (pv 13)) da_nil)))) da_nil)))))
  (dss_cons (ds_ret de_bl)
  dss_nil)
  dss_nil)
  dss_nil)))))))))))))
  (dss_cons (ds_ret de_bl)
  dss_nil)))
theorem sc_Way_fits : FnScope N_Way_fits (inf .Way_fits).ps (defScope s_Way_fits) := ⟨rfl, rfl, rfl, by decide +kernel, rfl, by decide +kernel, by decide +kernel⟩
theorem ok_Way_fits (C : Fx K mg) (E : EnvOk P w K mg base (LK K) inf k Φ) {f : Addr} {fd : FuncData} (F : FunD K (dd .Way_fits).name (dd .Way_fits).qual (dd .Way_fits).params (dd .Way_fits).body (dd .Way_fits).scope [] [] f fd) :
    FnOk P w K mg base (L2.CX P w) (k + 1) f fd (inf .Way_fits).ps (spD (LK K) (inf .Way_fits).ps.length (runF N_Way_fits (b_Way_fits Φ))) := by
  refine DL.fn_ok F sc_Way_fits fun cdv A outer s H Ex hr => ?_
  have hu := hr.units
  exact (dss_cons (ds_ret (de_call (calE E hr Fid.is_text C.g_is_text) (takes_of rfl rfl rfl rfl) (da_cons (de_var (pv 1)) (da_cons (de_gint (C.i_MOST_SIGNS rfl)) da_nil))))
  dss_nil)
theorem sc_Way_marked : FnScope N_Way_marked (inf .Way_marked).ps (defScope s_Way_marked) := ⟨rfl, rfl, rfl, by decide +kernel, rfl, by decide +kernel, by decide +kernel⟩
theorem ok_Way_marked (C : Fx K mg) (E : EnvOk P w K mg base (LK K) inf k Φ) {f : Addr} {fd : FuncData} (F : FunD K (dd .Way_marked).name (dd .Way_marked).qual (dd .Way_marked).params (dd .Way_marked).body (dd .Way_marked).scope [] [] f fd) :
    FnOk P w K mg base (L2.CX P w) (k + 1) f fd (inf .Way_marked).ps (spD (LK K) (inf .Way_marked).ps.length (runF N_Way_marked (b_Way_marked))) := by
  refine DL.fn_ok F sc_Way_marked fun cdv A outer s H Ex hr => ?_
  have hu := hr.units
  exact (dss_cons (ds_ret (de_var (pv 1)))
  dss_nil)
theorem sc_Way_behind : FnScope N_Way_behind (inf .Way_behind).ps (defScope s_Way_behind) := ⟨rfl, rfl, rfl, by decide +kernel, rfl, by decide +kernel, by decide +kernel⟩
theorem ok_Way_behind (C : Fx K mg) (E : EnvOk P w K mg base (LK K) inf k Φ) {f : Addr} {fd : FuncData} (F : FunD K (dd .Way_behind).name (dd .Way_behind).qual (dd .Way_behind).params (dd .Way_behind).body (dd .Way_behind).scope [] [] f fd) :
    FnOk P w K mg base (L2.CX P w) (k + 1) f fd (inf .Way_behind).ps (spD (LK K) (inf .Way_behind).ps.length (runF N_Way_behind (b_Way_behind Φ))) := by
  refine DL.fn_ok F sc_Way_behind fun cdv A outer s H Ex hr => ?_
  have hu := hr.units
  exact (dss_cons (ds_set (i := 3) sc_Way_behind.nd rfl (by first | exact .inl rfl | exact .inr rfl) (de_meth0 (calm_ends E C hr) (takes_of rfl rfl rfl rfl) (de_var (pv 0))))
  (dss_cons (ds_while 1000000 (passes_of rfl) (dt_w (dw_and (dt_cp (op_fLt) (nomark _) (de_var (pv 2)) (de_callB (call_fLen rfl) rfl C.n_len (by decide +kernel) (da_cons (de_var (pv 1)) da_nil))) (dw_and1 (dt_cp (op_fNotIn rfl) (by with_unfolding_all rfl) (de_ix (hu_of hr) rfl (de_var (pv 1)) (de_var (pv 2))) (de_var (pv 3))))))
  (dss_cons (ds_set (i := 2) sc_Way_behind.nd rfl (by first | exact .inl rfl | exact .inr rfl) (de_op (op_fAdd rfl) (de_var (pv 2)) de_int))
  dss_nil))
  (dss_cons (ds_ret (de_var (pv 2)))
  dss_nil)))
theorem sc_Way_meant : FnScope N_Way_meant (inf .Way_meant).ps (defScope s_Way_meant) := ⟨rfl, rfl, rfl, by decide +kernel, rfl, by decide +kernel, by decide +kernel⟩
theorem ok_Way_meant (C : Fx K mg) (E : EnvOk P w K mg base (LK K) inf k Φ) {f : Addr} {fd : FuncData} (F : FunD K (dd .Way_meant).name (dd .Way_meant).qual (dd .Way_meant).params (dd .Way_meant).body (dd .Way_meant).scope [] [] f fd) :
    FnOk P w K mg base (L2.CX P w) (k + 1) f fd (inf .Way_meant).ps (spD (LK K) (inf .Way_meant).ps.length (runF N_Way_meant (b_Way_meant))) := by
  refine DL.fn_ok F sc_Way_meant fun cdv A outer s H Ex hr => ?_
  have hu := hr.units
  exact (dss_cons (ds_ret (de_tup (da_cons (de_var (pv 1)) da_nil)))
  dss_nil)
theorem sc_Way_read : FnScope N_Way_read (inf .Way_read).ps (defScope s_Way_read) := ⟨rfl, rfl, rfl, by decide +kernel, rfl, by decide +kernel, by decide +kernel⟩
theorem ok_Way_read (C : Fx K mg) (E : EnvOk P w K mg base (LK K) inf k Φ) {f : Addr} {fd : FuncData} (F : FunD K (dd .Way_read).name (dd .Way_read).qual (dd .Way_read).params (dd .Way_read).body (dd .Way_read).scope [] [] f fd) :
    FnOk P w K mg base (L2.CX P w) (k + 1) f fd (inf .Way_read).ps (spD (LK K) (inf .Way_read).ps.length (runF N_Way_read (b_Way_read Φ))) := by
  refine DL.fn_ok F sc_Way_read fun cdv A outer s H Ex hr => ?_
  have hu := hr.units
  exact (dss_cons (ds_set (i := 3) sc_Way_read.nd rfl (by first | exact .inl rfl | exact .inr rfl) (de_meth (calm_behind E C hr) (takes_of rfl rfl rfl rfl) (de_var (pv 0)) (da_cons (de_var (pv 1)) (da_cons (de_var (pv 2)) da_nil))))
  (dss_cons (ds_if (dt_cp (op_fIs) (nomark _) (de_var (pv 3)) de_non)
  (dss_cons (ds_ret de_non)
  dss_nil)
  dss_nil)
  (dss_cons (ds_for (passes_of rfl) rfl (di_seq rfl (de_meth (calm_meant E C hr) (takes_of rfl rfl rfl rfl) (de_var (pv 0)) (da_cons (de_cut rfl (de_var (pv 1)) (dp_some (de_var (pv 2))) (dp_some (de_var (pv 3)))) da_nil))) (dg_name (pg_name (i := 4) sc_Way_read.nd rfl (by first | exact .inl rfl | exact .inr rfl)))
  (dss_cons (ds_if (dt_w (dw_and (dt_tru rfl (de_meth (calm_fits E C hr) (takes_of rfl rfl rfl rfl) (de_var (pv 0)) (da_cons (de_var (pv 4)) da_nil))) (dw_and1 (dt_cp (op_fEq rfl hu) (nomark _) (de_meth (calm_marked E C hr) (takes_of rfl rfl rfl rfl) (de_var (pv 0)) (da_cons (de_var (pv 4)) da_nil)) (de_cut rfl (de_var (pv 1)) (dp_some (de_var (pv 2))) (dp_some (de_var (pv 3))))))))
  (dss_cons (ds_ret (de_tup (da_cons (de_var (pv 4)) (da_cons (de_var (pv 3)) da_nil))))
  dss_nil)
  dss_nil)
  dss_nil))
  (dss_cons (ds_ret de_non)
  dss_nil))))
theorem sc_Way_ends : FnScope N_Way_ends (inf .Way_ends).ps (defScope s_Way_ends) := ⟨rfl, rfl, rfl, by decide +kernel, rfl, by decide +kernel, by decide +kernel⟩
theorem ok_Way_ends (C : Fx K mg) (E : EnvOk P w K mg base (LK K) inf k Φ) {f : Addr} {fd : FuncData} (F : FunD K (dd .Way_ends).name (dd .Way_ends).qual (dd .Way_ends).params (dd .Way_ends).body (dd .Way_ends).scope [] [] f fd) :
    FnOk P w K mg base (L2.CX P w) (k + 1) f fd (inf .Way_ends).ps (spD (LK K) (inf .Way_ends).ps.length (runF N_Way_ends (b_Way_ends))) := by
  refine DL.fn_ok F sc_Way_ends fun cdv A outer s H Ex hr => ?_
  have hu := hr.units
  exact (dss_cons (ds_ret (de_str (l := []) (by decide +kernel)))
  dss_nil)
theorem sc_Word_fits : FnScope N_Word_fits (inf .Word_fits).ps (defScope s_Word_fits) := ⟨rfl, rfl, rfl, by decide +kernel, rfl, by decide +kernel, by decide +kernel⟩
theorem ok_Word_fits (C : Fx K mg) (E : EnvOk P w K mg base (LK K) inf k Φ) {f : Addr} {fd : FuncData} (F : FunD K (dd .Word_fits).name (dd .Word_fits).qual (dd .Word_fits).params (dd .Word_fits).body (dd .Word_fits).scope [] [] f fd) :
    FnOk P w K mg base (L2.CX P w) (k + 1) f fd (inf .Word_fits).ps (spD (LK K) (inf .Word_fits).ps.length (runF N_Word_fits (b_Word_fits))) := by
  refine DL.fn_ok F sc_Word_fits fun cdv A outer s H Ex hr => ?_
  have hu := hr.units
  exact (dss_cons (ds_if (dt_w (dw_or (dt_not (dt_tru rfl (de_isB rfl rfl C.n_isinstance (de_var (pv 1)) (pe_bltn rfl C.n_str (by decide +kernel) rfl)))) (dw_or1 (dt_not (dt_chain (op_fLe) (op_fLe) de_int (de_callB (call_fLen rfl) rfl C.n_len (by decide +kernel) (da_cons (de_var (pv 1)) da_nil)) (de_gint (C.i_MOST_LETTERS rfl)))))))
  (dss_cons (ds_ret de_bl)
  dss_nil)
  dss_nil)
  (dss_cons (ds_ret (de_callB (call_fAll rfl) rfl C.n_all (by decide +kernel) (da_cons (de_comp (own := [("sign", 2)]) (sl := [2]) rfl sc_Word_fits.nd (di_seq rfl (de_var (pv 1))) (blkOk_by (own := [("sign", 2)]) (N := N_Word_fits) (sc := defScope s_Word_fits) (by decide +kernel)) (by decide) (fun _ _ _ _ _ => (dg_name (pg_name (i := 2) sc_Word_fits.nd rfl (by first | exact .inl rfl | exact .inr rfl)))) (fun _ _ _ _ _ => dt_yes) (fun _ _ _ _ _ => (de_cp (op_fIn rfl) (by with_unfolding_all rfl) (de_var (pv 2)) (de_op (op_fAdd rfl) (de_op (op_fAdd rfl) (de_gstr (l := c_LETTERS) (C.s_LETTERS rfl) rfl) (de_gstr (l := c_GREAT) (C.s_GREAT rfl) rfl)) (de_gstr (l := c_FIGURES) (C.s_FIGURES rfl) rfl))))) da_nil)))
  dss_nil))
theorem sc_Word_ends : FnScope N_Word_ends (inf .Word_ends).ps (defScope s_Word_ends) := ⟨rfl, rfl, rfl, by decide +kernel, rfl, by decide +kernel, by decide +kernel⟩
theorem ok_Word_ends (C : Fx K mg) (E : EnvOk P w K mg base (LK K) inf k Φ) {f : Addr} {fd : FuncData} (F : FunD K (dd .Word_ends).name (dd .Word_ends).qual (dd .Word_ends).params (dd .Word_ends).body (dd .Word_ends).scope [] [] f fd) :
    FnOk P w K mg base (L2.CX P w) (k + 1) f fd (inf .Word_ends).ps (spD (LK K) (inf .Word_ends).ps.length (runF N_Word_ends (b_Word_ends Φ))) := by
  refine DL.fn_ok F sc_Word_ends fun cdv A outer s H Ex hr => ?_
  have hu := hr.units
  exact (dss_cons (ds_ret (de_call (calE E hr Fid.without C.g_without) (takes_of rfl rfl rfl rfl) (da_cons (de_op (op_fAdd rfl) (de_op (op_fAdd rfl) (de_gstr (l := c_LETTERS) (C.s_LETTERS rfl) rfl) (de_gstr (l := c_GREAT) (C.s_GREAT rfl) rfl)) (de_gstr (l := c_FIGURES) (C.s_FIGURES rfl) rfl)) da_nil)))
  dss_nil)
theorem sc_Number_fits : FnScope N_Number_fits (inf .Number_fits).ps (defScope s_Number_fits) := ⟨rfl, rfl, rfl, by decide +kernel, rfl, by decide +kernel, by decide +kernel⟩
theorem ok_Number_fits (C : Fx K mg) (E : EnvOk P w K mg base (LK K) inf k Φ) {f : Addr} {fd : FuncData} (F : FunD K (dd .Number_fits).name (dd .Number_fits).qual (dd .Number_fits).params (dd .Number_fits).body (dd .Number_fits).scope [] [] f fd) :
    FnOk P w K mg base (L2.CX P w) (k + 1) f fd (inf .Number_fits).ps (spD (LK K) (inf .Number_fits).ps.length (runF N_Number_fits (b_Number_fits Φ))) := by
  refine DL.fn_ok F sc_Number_fits fun cdv A outer s H Ex hr => ?_
  have hu := hr.units
  exact (dss_cons (ds_ret (de_call (calE E hr Fid.is_number C.g_is_number) (takes_of rfl rfl rfl rfl) (da_cons (de_var (pv 1)) da_nil)))
  dss_nil)
theorem sc_Number_marked : FnScope N_Number_marked (inf .Number_marked).ps (defScope s_Number_marked) := ⟨rfl, rfl, rfl, by decide +kernel, rfl, by decide +kernel, by decide +kernel⟩
theorem ok_Number_marked (C : Fx K mg) (E : EnvOk P w K mg base (LK K) inf k Φ) {f : Addr} {fd : FuncData} (F : FunD K (dd .Number_marked).name (dd .Number_marked).qual (dd .Number_marked).params (dd .Number_marked).body (dd .Number_marked).scope [] [] f fd) :
    FnOk P w K mg base (L2.CX P w) (k + 1) f fd (inf .Number_marked).ps (spD (LK K) (inf .Number_marked).ps.length (runF N_Number_marked (b_Number_marked))) := by
  refine DL.fn_ok F sc_Number_marked fun cdv A outer s H Ex hr => ?_
  have hu := hr.units
  exact (dss_cons (ds_ret (de_callTy (call_fStr) rfl C.n_str (by decide +kernel) (da_cons (de_var (pv 1)) da_nil)))
  dss_nil)
theorem sc_Number_behind : FnScope N_Number_behind (inf .Number_behind).ps (defScope s_Number_behind) := ⟨rfl, rfl, rfl, by decide +kernel, rfl, by decide +kernel, by decide +kernel⟩
theorem ok_Number_behind (C : Fx K mg) (E : EnvOk P w K mg base (LK K) inf k Φ) {f : Addr} {fd : FuncData} (F : FunD K (dd .Number_behind).name (dd .Number_behind).qual (dd .Number_behind).params (dd .Number_behind).body (dd .Number_behind).scope [] [] f fd) :
    FnOk P w K mg base (L2.CX P w) (k + 1) f fd (inf .Number_behind).ps (spD (LK K) (inf .Number_behind).ps.length (runF N_Number_behind (b_Number_behind))) := by
  refine DL.fn_ok F sc_Number_behind fun cdv A outer s H Ex hr => ?_
  have hu := hr.units
  exact (dss_cons (ds_if (dt_cp (op_fEq rfl hu) (nomark _) (de_cut rfl (de_var (pv 1)) (dp_some (de_var (pv 2))) (dp_some (de_op (op_fAdd rfl) (de_var (pv 2)) de_int))) (de_str (l := [45]) (by decide +kernel)))
  (dss_cons (ds_set (i := 2) sc_Number_behind.nd rfl (by first | exact .inl rfl | exact .inr rfl) (de_op (op_fAdd rfl) (de_var (pv 2)) de_int))
  dss_nil)
  dss_nil)
  (dss_cons (ds_while 1000000 (passes_of rfl) (dt_w (dw_and (dt_cp (op_fLt) (nomark _) (de_var (pv 2)) (de_callB (call_fLen rfl) rfl C.n_len (by decide +kernel) (da_cons (de_var (pv 1)) da_nil))) (dw_and1 (dt_cp (op_fIn rfl) (by with_unfolding_all rfl) (de_ix (hu_of hr) rfl (de_var (pv 1)) (de_var (pv 2))) (de_gstr (l := c_FIGURES) (C.s_FIGURES rfl) rfl)))))
  (dss_cons (ds_set (i := 2) sc_Number_behind.nd rfl (by first | exact .inl rfl | exact .inr rfl) (de_op (op_fAdd rfl) (de_var (pv 2)) de_int))
  dss_nil))
  (dss_cons (ds_ret (de_var (pv 2)))
  dss_nil)))
theorem sc_Number_meant : FnScope N_Number_meant (inf .Number_meant).ps (defScope s_Number_meant) := ⟨rfl, rfl, rfl, by decide +kernel, rfl, by decide +kernel, by decide +kernel⟩
theorem ok_Number_meant (C : Fx K mg) (E : EnvOk P w K mg base (LK K) inf k Φ) {f : Addr} {fd : FuncData} (F : FunD K (dd .Number_meant).name (dd .Number_meant).qual (dd .Number_meant).params (dd .Number_meant).body (dd .Number_meant).scope [] [] f fd) :
    FnOk P w K mg base (L2.CX P w) (k + 1) f fd (inf .Number_meant).ps (spD (LK K) (inf .Number_meant).ps.length (runF N_Number_meant (b_Number_meant))) := by
  refine DL.fn_ok F sc_Number_meant fun cdv A outer s H Ex hr => ?_
  have hu := hr.units
  exact (dss_cons (ds_set (i := 2) sc_Number_meant.nd rfl (by first | exact .inl rfl | exact .inr rfl) (de_bm rfl PySem.F.plainAttrs_str PySem.F.slot_str_lstrip PySem.F.type_str_lstrip (mt_fLstrip) (de_var (pv 1)) (da_cons (de_str (l := [45]) (by decide +kernel)) da_nil)))
  (dss_cons (ds_if (dt_w (dw_or (dt_cp (op_fEq rfl hu) (nomark _) (de_var (pv 2)) (de_str (l := []) (by decide +kernel))) (dw_or1 (dt_cp (op_fGt) (nomark _) (de_callB (call_fLen rfl) rfl C.n_len (by decide +kernel) (da_cons (de_var (pv 2)) da_nil)) de_int))))
  (dss_cons (ds_ret (de_tup da_nil))
  dss_nil)
  dss_nil)
  (dss_cons (ds_ret (de_tup (da_cons (de_callTy (call_fInt) rfl C.n_int (by decide +kernel) (da_cons (de_var (pv 1)) da_nil)) da_nil)))
  dss_nil)))
theorem sc_Number_ends : FnScope N_Number_ends (inf .Number_ends).ps (defScope s_Number_ends) := ⟨rfl, rfl, rfl, by decide +kernel, rfl, by decide +kernel, by decide +kernel⟩
theorem ok_Number_ends (C : Fx K mg) (E : EnvOk P w K mg base (LK K) inf k Φ) {f : Addr} {fd : FuncData} (F : FunD K (dd .Number_ends).name (dd .Number_ends).qual (dd .Number_ends).params (dd .Number_ends).body (dd .Number_ends).scope [] [] f fd) :
    FnOk P w K mg base (L2.CX P w) (k + 1) f fd (inf .Number_ends).ps (spD (LK K) (inf .Number_ends).ps.length (runF N_Number_ends (b_Number_ends Φ))) := by
  refine DL.fn_ok F sc_Number_ends fun cdv A outer s H Ex hr => ?_
  have hu := hr.units
  exact (dss_cons (ds_ret (de_call (calE E hr Fid.without C.g_without) (takes_of rfl rfl rfl rfl) (da_cons (de_gstr (l := c_FIGURES) (C.s_FIGURES rfl) rfl) da_nil)))
  dss_nil)
theorem sc_Quoted_marked : FnScope N_Quoted_marked (inf .Quoted_marked).ps (defScope s_Quoted_marked) := ⟨rfl, rfl, rfl, by decide +kernel, rfl, by decide +kernel, by decide +kernel⟩
theorem ok_Quoted_marked (C : Fx K mg) (E : EnvOk P w K mg base (LK K) inf k Φ) {f : Addr} {fd : FuncData} (F : FunD K (dd .Quoted_marked).name (dd .Quoted_marked).qual (dd .Quoted_marked).params (dd .Quoted_marked).body (dd .Quoted_marked).scope [] [] f fd) :
    FnOk P w K mg base (L2.CX P w) (k + 1) f fd (inf .Quoted_marked).ps (spD (LK K) (inf .Quoted_marked).ps.length (runF N_Quoted_marked (b_Quoted_marked))) := by
  refine DL.fn_okT F sc_Quoted_marked rfl rfl fun cdv A outer s H Ex hr => ?_
  have hu := hr.units
  exact (dsst_cons (dst_set (i := 2) sc_Quoted_marked.nd rfl (by first | exact .inl rfl | exact .inr rfl) (det_repl (y := [10]) (z := [94, 110]) (det_repl (y := [34]) (z := [94, 113]) (det_repl (y := [94]) (z := [94, 94]) (det_of (de_var (pv 1))) (by decide +kernel) (by decide +kernel) (by decide +kernel)) (by decide +kernel) (by decide +kernel) (by decide +kernel)) (by decide +kernel) (by decide +kernel) (by decide +kernel)))
  (dsst_cons (dst_ret (det_of (de_op (op_fAdd rfl) (de_op (op_fAdd rfl) (de_str (l := [34]) (by decide +kernel)) (de_var (pv 2))) (de_str (l := [34]) (by decide +kernel)))))
  (PSsT.of dss_nil)))
theorem sc_Quoted_behind : FnScope N_Quoted_behind (inf .Quoted_behind).ps (defScope s_Quoted_behind) := ⟨rfl, rfl, rfl, by decide +kernel, rfl, by decide +kernel, by decide +kernel⟩
theorem ok_Quoted_behind (C : Fx K mg) (E : EnvOk P w K mg base (LK K) inf k Φ) {f : Addr} {fd : FuncData} (F : FunD K (dd .Quoted_behind).name (dd .Quoted_behind).qual (dd .Quoted_behind).params (dd .Quoted_behind).body (dd .Quoted_behind).scope [] [] f fd) :
    FnOk P w K mg base (L2.CX P w) (k + 1) f fd (inf .Quoted_behind).ps (spD (LK K) (inf .Quoted_behind).ps.length (runF N_Quoted_behind (b_Quoted_behind))) := by
  refine DL.fn_ok F sc_Quoted_behind fun cdv A outer s H Ex hr => ?_
  have hu := hr.units
  exact (dss_cons (ds_if (dt_cp (op_fNe rfl hu) (nomark _) (de_cut rfl (de_var (pv 1)) (dp_some (de_var (pv 2))) (dp_some (de_op (op_fAdd rfl) (de_var (pv 2)) de_int))) (de_str (l := [34]) (by decide +kernel)))
  (dss_cons (ds_ret de_non)
  dss_nil)
  dss_nil)
  (dss_cons (ds_set (i := 3) sc_Quoted_behind.nd rfl (by first | exact .inl rfl | exact .inr rfl) (de_bm rfl PySem.F.plainAttrs_str PySem.F.slot_str_find PySem.F.type_str_find mt_fFind3 (de_var (pv 1)) (da_cons (de_str (l := [34]) (by decide +kernel)) (da_cons (de_op (op_fAdd rfl) (de_var (pv 2)) de_int) da_nil))))
  (dss_cons (ds_if (dt_cp (op_fLt) (nomark _) (de_var (pv 3)) de_int)
  (dss_cons (ds_ret de_non)
  dss_nil)
  dss_nil)
  (dss_cons (ds_ret (de_op (op_fAdd rfl) (de_var (pv 3)) de_int))
  dss_nil))))
theorem sc_Quoted_meant : FnScope N_Quoted_meant (inf .Quoted_meant).ps (defScope s_Quoted_meant) := ⟨rfl, rfl, rfl, by decide +kernel, rfl, by decide +kernel, by decide +kernel⟩
theorem ok_Quoted_meant (C : Fx K mg) (E : EnvOk P w K mg base (LK K) inf k Φ) {f : Addr} {fd : FuncData} (F : FunD K (dd .Quoted_meant).name (dd .Quoted_meant).qual (dd .Quoted_meant).params (dd .Quoted_meant).body (dd .Quoted_meant).scope [] [] f fd) :
    FnOk P w K mg base (L2.CX P w) (k + 1) f fd (inf .Quoted_meant).ps (spD (LK K) (inf .Quoted_meant).ps.length (runF N_Quoted_meant (b_Quoted_meant Φ))) := by
  refine DL.fn_ok F sc_Quoted_meant fun cdv A outer s H Ex hr => ?_
  have hu := hr.units
  exact (dss_cons (ds_ret (de_call (calE E hr Fid.unmarked C.g_unmarked) (takes_of rfl rfl rfl rfl) (da_cons (de_cut rfl (de_var (pv 1)) (dp_some de_int) (dp_some (de_neg de_int))) (da_cons (de_str (l := [94]) (by decide +kernel)) (da_cons (de_dict (DPs.cons (de_str (l := [94]) (by decide +kernel)) (de_str (l := [94]) (by decide +kernel)) (DPs.cons (de_str (l := [113]) (by decide +kernel)) (de_str (l := [34]) (by decide +kernel)) (DPs.cons (de_str (l := [110]) (by decide +kernel)) (de_str (l := [10]) (by decide +kernel)) DPs.nil)))) da_nil)))))
  dss_nil)
theorem sc_Quoted_ends : FnScope N_Quoted_ends (inf .Quoted_ends).ps (defScope s_Quoted_ends) := ⟨rfl, rfl, rfl, by decide +kernel, rfl, by decide +kernel, by decide +kernel⟩
theorem ok_Quoted_ends (C : Fx K mg) (E : EnvOk P w K mg base (LK K) inf k Φ) {f : Addr} {fd : FuncData} (F : FunD K (dd .Quoted_ends).name (dd .Quoted_ends).qual (dd .Quoted_ends).params (dd .Quoted_ends).body (dd .Quoted_ends).scope [] [] f fd) :
    FnOk P w K mg base (L2.CX P w) (k + 1) f fd (inf .Quoted_ends).ps (spD (LK K) (inf .Quoted_ends).ps.length (runF N_Quoted_ends (b_Quoted_ends Φ))) := by
  refine DL.fn_ok F sc_Quoted_ends fun cdv A outer s H Ex hr => ?_
  have hu := hr.units
  exact (dss_cons (ds_ret (de_call (calE E hr Fid.without C.g_without) (takes_of rfl rfl rfl rfl) (da_cons (de_str (l := []) (by decide +kernel)) da_nil)))
  dss_nil)
theorem sc_Plain_marked : FnScope N_Plain_marked (inf .Plain_marked).ps (defScope s_Plain_marked) := ⟨rfl, rfl, rfl, by decide +kernel, rfl, by decide +kernel, by decide +kernel⟩
theorem ok_Plain_marked (C : Fx K mg) (E : EnvOk P w K mg base (LK K) inf k Φ) {f : Addr} {fd : FuncData} (F : FunD K (dd .Plain_marked).name (dd .Plain_marked).qual (dd .Plain_marked).params (dd .Plain_marked).body (dd .Plain_marked).scope [] [] f fd) :
    FnOk P w K mg base (L2.CX P w) (k + 1) f fd (inf .Plain_marked).ps (spD (LK K) (inf .Plain_marked).ps.length (runF N_Plain_marked (b_Plain_marked))) := by
  refine DL.fn_okT F sc_Plain_marked rfl rfl fun cdv A outer s H Ex hr => ?_
  have hu := hr.units
  exact (dsst_cons (dst_set (i := 2) sc_Plain_marked.nd rfl (by first | exact .inl rfl | exact .inr rfl) (det_repl (y := [38]) (z := [126, 97]) (det_repl (y := [62]) (z := [126, 103]) (det_repl (y := [60]) (z := [126, 108]) (det_repl (y := [126]) (z := [126, 126]) (det_of (de_var (pv 1))) (by decide +kernel) (by decide +kernel) (by decide +kernel)) (by decide +kernel) (by decide +kernel) (by decide +kernel)) (by decide +kernel) (by decide +kernel) (by decide +kernel)) (by decide +kernel) (by decide +kernel) (by decide +kernel)))
  (dsst_cons (dst_ret (det_repl (y := [10]) (z := [126, 110]) (det_repl (y := [124]) (z := [126, 98]) (det_of (de_var (pv 2))) (by decide +kernel) (by decide +kernel) (by decide +kernel)) (by decide +kernel) (by decide +kernel) (by decide +kernel)))
  (PSsT.of dss_nil)))
theorem sc_Plain_meant : FnScope N_Plain_meant (inf .Plain_meant).ps (defScope s_Plain_meant) := ⟨rfl, rfl, rfl, by decide +kernel, rfl, by decide +kernel, by decide +kernel⟩
theorem ok_Plain_meant (C : Fx K mg) (E : EnvOk P w K mg base (LK K) inf k Φ) {f : Addr} {fd : FuncData} (F : FunD K (dd .Plain_meant).name (dd .Plain_meant).qual (dd .Plain_meant).params (dd .Plain_meant).body (dd .Plain_meant).scope [] [] f fd) :
    FnOk P w K mg base (L2.CX P w) (k + 1) f fd (inf .Plain_meant).ps (spD (LK K) (inf .Plain_meant).ps.length (runF N_Plain_meant (b_Plain_meant Φ))) := by
  refine DL.fn_ok F sc_Plain_meant fun cdv A outer s H Ex hr => ?_
  have hu := hr.units
  exact (dss_cons (ds_ret (de_call (calE E hr Fid.unmarked C.g_unmarked) (takes_of rfl rfl rfl rfl) (da_cons (de_var (pv 1)) (da_cons (de_str (l := [126]) (by decide +kernel)) (da_cons (de_dict (DPs.cons (de_str (l := [126]) (by decide +kernel)) (de_str (l := [126]) (by decide +kernel)) (DPs.cons (de_str (l := [108]) (by decide +kernel)) (de_str (l := [60]) (by decide +kernel)) (DPs.cons (de_str (l := [103]) (by decide +kernel)) (de_str (l := [62]) (by decide +kernel)) (DPs.cons (de_str (l := [97]) (by decide +kernel)) (de_str (l := [38]) (by decide +kernel)) (DPs.cons (de_str (l := [98]) (by decide +kernel)) (de_str (l := [124]) (by decide +kernel)) (DPs.cons (de_str (l := [110]) (by decide +kernel)) (de_str (l := [10]) (by decide +kernel)) DPs.nil))))))) da_nil)))))
  dss_nil)
theorem sc_Plain_ends : FnScope N_Plain_ends (inf .Plain_ends).ps (defScope s_Plain_ends) := ⟨rfl, rfl, rfl, by decide +kernel, rfl, by decide +kernel, by decide +kernel⟩
theorem ok_Plain_ends (C : Fx K mg) (E : EnvOk P w K mg base (LK K) inf k Φ) {f : Addr} {fd : FuncData} (F : FunD K (dd .Plain_ends).name (dd .Plain_ends).qual (dd .Plain_ends).params (dd .Plain_ends).body (dd .Plain_ends).scope [] [] f fd) :
    FnOk P w K mg base (L2.CX P w) (k + 1) f fd (inf .Plain_ends).ps (spD (LK K) (inf .Plain_ends).ps.length (runF N_Plain_ends (b_Plain_ends))) := by
  refine DL.fn_ok F sc_Plain_ends fun cdv A outer s H Ex hr => ?_
  have hu := hr.units
  exact (dss_cons (ds_ret (de_gstr (l := c_PLAIN_ENDS) (C.s_PLAIN_ENDS rfl) rfl))
  dss_nil)
theorem sc_Line_marked : FnScope N_Line_marked (inf .Line_marked).ps (defScope s_Line_marked) := ⟨rfl, rfl, rfl, by decide +kernel, rfl, by decide +kernel, by decide +kernel⟩
theorem ok_Line_marked (C : Fx K mg) (E : EnvOk P w K mg base (LK K) inf k Φ) {f : Addr} {fd : FuncData} (F : FunD K (dd .Line_marked).name (dd .Line_marked).qual (dd .Line_marked).params (dd .Line_marked).body (dd .Line_marked).scope [] [] f fd) :
    FnOk P w K mg base (L2.CX P w) (k + 1) f fd (inf .Line_marked).ps (spD (LK K) (inf .Line_marked).ps.length (runF N_Line_marked (b_Line_marked))) := by
  refine DL.fn_okT F sc_Line_marked rfl rfl fun cdv A outer s H Ex hr => ?_
  have hu := hr.units
  exact (dsst_cons (dst_ret (det_repl (y := [10]) (z := [126, 110]) (det_repl (y := [126]) (z := [126, 126]) (det_of (de_var (pv 1))) (by decide +kernel) (by decide +kernel) (by decide +kernel)) (by decide +kernel) (by decide +kernel) (by decide +kernel)))
  (PSsT.of dss_nil))
theorem sc_Line_meant : FnScope N_Line_meant (inf .Line_meant).ps (defScope s_Line_meant) := ⟨rfl, rfl, rfl, by decide +kernel, rfl, by decide +kernel, by decide +kernel⟩
theorem ok_Line_meant (C : Fx K mg) (E : EnvOk P w K mg base (LK K) inf k Φ) {f : Addr} {fd : FuncData} (F : FunD K (dd .Line_meant).name (dd .Line_meant).qual (dd .Line_meant).params (dd .Line_meant).body (dd .Line_meant).scope [] [] f fd) :
    FnOk P w K mg base (L2.CX P w) (k + 1) f fd (inf .Line_meant).ps (spD (LK K) (inf .Line_meant).ps.length (runF N_Line_meant (b_Line_meant Φ))) := by
  refine DL.fn_ok F sc_Line_meant fun cdv A outer s H Ex hr => ?_
  have hu := hr.units
  exact (dss_cons (ds_ret (de_call (calE E hr Fid.unmarked C.g_unmarked) (takes_of rfl rfl rfl rfl) (da_cons (de_var (pv 1)) (da_cons (de_str (l := [126]) (by decide +kernel)) (da_cons (de_dict (DPs.cons (de_str (l := [126]) (by decide +kernel)) (de_str (l := [126]) (by decide +kernel)) (DPs.cons (de_str (l := [110]) (by decide +kernel)) (de_str (l := [10]) (by decide +kernel)) DPs.nil))) da_nil)))))
  dss_nil)
theorem sc_Line_ends : FnScope N_Line_ends (inf .Line_ends).ps (defScope s_Line_ends) := ⟨rfl, rfl, rfl, by decide +kernel, rfl, by decide +kernel, by decide +kernel⟩
theorem ok_Line_ends (C : Fx K mg) (E : EnvOk P w K mg base (LK K) inf k Φ) {f : Addr} {fd : FuncData} (F : FunD K (dd .Line_ends).name (dd .Line_ends).qual (dd .Line_ends).params (dd .Line_ends).body (dd .Line_ends).scope [] [] f fd) :
    FnOk P w K mg base (L2.CX P w) (k + 1) f fd (inf .Line_ends).ps (spD (LK K) (inf .Line_ends).ps.length (runF N_Line_ends (b_Line_ends))) := by
  refine DL.fn_ok F sc_Line_ends fun cdv A outer s H Ex hr => ?_
  have hu := hr.units
  exact (dss_cons (ds_ret (de_str (l := [10]) (by decide +kernel)))
  dss_nil)
end
theorem env_ok {P : Program} {w : World} {K : PySem.W.Frag} {mg : Str → Option Value} {base : Heap} (C : Fx K mg) : ∀ k, EnvOk P w K mg base (LK K) inf k (Φ k)
  | 0 => EnvOk.zero fun f => by
      obtain ⟨fd, F⟩ := C.d f
      refine ⟨fd, ?_, F.kp⟩
      cases f
      · exact FunD.bindsN F fun _ _ _ _ _ _ us hl => match us, hl with | [_, _], _ => rfl
      · exact FunD.bindsN F fun _ _ _ _ _ _ us hl => match us, hl with | [_], _ => rfl
      · exact FunD.bindsN F fun _ _ _ _ _ _ us hl => match us, hl with | [_], _ => rfl
      · exact FunD.bindsN F fun _ _ _ _ _ _ us hl => match us, hl with | [_], _ => rfl
      · exact FunD.bindsN F fun _ _ _ _ _ _ us hl => match us, hl with | [_, _, _], _ => rfl
      · exact FunD.bindsN F fun _ _ _ _ _ _ us hl => match us, hl with | [_], _ => rfl
      · exact FunD.bindsN F fun _ _ _ _ _ _ us hl => match us, hl with | [_, _], _ => rfl
      · exact FunD.bindsN F fun _ _ _ _ _ _ us hl => match us, hl with | [], _ => rfl
      · exact FunD.bindsN F fun _ _ _ _ _ _ us hl => match us, hl with | [_, _], _ => rfl
      · exact FunD.bindsN F fun _ _ _ _ _ _ us hl => match us, hl with | [_], _ => rfl
      · exact FunD.bindsN F fun _ _ _ _ _ _ us hl => match us, hl with | [_, _], _ => rfl
      · exact FunD.bindsN F fun _ _ _ _ _ _ us hl => match us, hl with | [_], _ => rfl
      · exact FunD.bindsN F fun _ _ _ _ _ _ us hl => match us, hl with | [_], _ => rfl
      · exact FunD.bindsN F fun _ _ _ _ _ _ us hl => match us, hl with | [_, _], _ => rfl
      · exact FunD.bindsN F fun _ _ _ _ _ _ us hl => match us, hl with | [_, _], _ => rfl
      · exact FunD.bindsN F fun _ _ _ _ _ _ us hl => match us, hl with | [_], _ => rfl
      · exact FunD.bindsN F fun _ _ _ _ _ _ us hl => match us, hl with | [_, _, _], _ => rfl
      · exact FunD.bindsN F fun _ _ _ _ _ _ us hl => match us, hl with | [_, _], _ => rfl
      · exact FunD.bindsN F fun _ _ _ _ _ _ us hl => match us, hl with | [_, _, _], _ => rfl
      · exact FunD.bindsN F fun _ _ _ _ _ _ us hl => match us, hl with | [_, _], _ => rfl
      · exact FunD.bindsN F fun _ _ _ _ _ _ us hl => match us, hl with | [_, _], _ => rfl
      · exact FunD.bindsN F fun _ _ _ _ _ _ us hl => match us, hl with | [_], _ => rfl
      · exact FunD.bindsN F fun _ _ _ _ _ _ us hl => match us, hl with | [_, _], _ => rfl
      · exact FunD.bindsN F fun _ _ _ _ _ _ us hl => match us, hl with | [_, _], _ => rfl
      · exact FunD.bindsN F fun _ _ _ _ _ _ us hl => match us, hl with | [_, _, _], _ => rfl
      · exact FunD.bindsN F fun _ _ _ _ _ _ us hl => match us, hl with | [_, _], _ => rfl
      · exact FunD.bindsN F fun _ _ _ _ _ _ us hl => match us, hl with | [_, _, _], _ => rfl
      · exact FunD.bindsN F fun _ _ _ _ _ _ us hl => match us, hl with | [_], _ => rfl
      · exact FunD.bindsN F fun _ _ _ _ _ _ us hl => match us, hl with | [_, _], _ => rfl
      · exact FunD.bindsN F fun _ _ _ _ _ _ us hl => match us, hl with | [_], _ => rfl
      · exact FunD.bindsN F fun _ _ _ _ _ _ us hl => match us, hl with | [_, _], _ => rfl
      · exact FunD.bindsN F fun _ _ _ _ _ _ us hl => match us, hl with | [_, _], _ => rfl
      · exact FunD.bindsN F fun _ _ _ _ _ _ us hl => match us, hl with | [_, _, _], _ => rfl
      · exact FunD.bindsN F fun _ _ _ _ _ _ us hl => match us, hl with | [_, _], _ => rfl
      · exact FunD.bindsN F fun _ _ _ _ _ _ us hl => match us, hl with | [_], _ => rfl
      · exact FunD.bindsN F fun _ _ _ _ _ _ us hl => match us, hl with | [_, _], _ => rfl
      · exact FunD.bindsN F fun _ _ _ _ _ _ us hl => match us, hl with | [_, _, _], _ => rfl
      · exact FunD.bindsN F fun _ _ _ _ _ _ us hl => match us, hl with | [_, _], _ => rfl
      · exact FunD.bindsN F fun _ _ _ _ _ _ us hl => match us, hl with | [_], _ => rfl
      · exact FunD.bindsN F fun _ _ _ _ _ _ us hl => match us, hl with | [_, _], _ => rfl
      · exact FunD.bindsN F fun _ _ _ _ _ _ us hl => match us, hl with | [_, _], _ => rfl
      · exact FunD.bindsN F fun _ _ _ _ _ _ us hl => match us, hl with | [_], _ => rfl
      · exact FunD.bindsN F fun _ _ _ _ _ _ us hl => match us, hl with | [_, _], _ => rfl
      · exact FunD.bindsN F fun _ _ _ _ _ _ us hl => match us, hl with | [_, _], _ => rfl
      · exact FunD.bindsN F fun _ _ _ _ _ _ us hl => match us, hl with | [_], _ => rfl
  | k + 1 => fun f => by
      have E := env_ok (P := P) (w := w) (base := base) C k
      obtain ⟨fd, F⟩ := C.d f
      refine ⟨fd, ?_, ?_, F.kp⟩
      · cases f
        · exact ok_is_text C E F
        · exact ok_without C E F
        · exact ok_is_whole C E F
        · exact ok_is_number C E F
        · exact ok_unmarked C E F
        · exact ok_way_of C E F
        · exact ok__law_cell_at C E F
        · exact ok__law_signs C E F
        · exact ok__law_mixed C E F
        · exact ok__law_whole C E F
        · exact ok__law_text_by C E F
        · exact ok__law_word_by C E F
        · exact ok__law_number_by C E F
        · exact ok__law_value_by C E F
        · exact ok__law_coded C E F
        · exact ok__law_ends C E F
        · exact ok__law_stretch C E F
        · exact ok__law_meant C E F
        · exact ok__law_due C E F
        · exact ok__law_same C E F
        · exact ok__law_bent C E F
        · exact ok_law C E F
        · exact ok_Way_fits C E F
        · exact ok_Way_marked C E F
        · exact ok_Way_behind C E F
        · exact ok_Way_meant C E F
        · exact ok_Way_read C E F
        · exact ok_Way_ends C E F
        · exact ok_Word_fits C E F
        · exact ok_Word_ends C E F
        · exact ok_Number_fits C E F
        · exact ok_Number_marked C E F
        · exact ok_Number_behind C E F
        · exact ok_Number_meant C E F
        · exact ok_Number_ends C E F
        · exact ok_Quoted_marked C E F
        · exact ok_Quoted_behind C E F
        · exact ok_Quoted_meant C E F
        · exact ok_Quoted_ends C E F
        · exact ok_Plain_marked C E F
        · exact ok_Plain_meant C E F
        · exact ok_Plain_ends C E F
        · exact ok_Line_marked C E F
        · exact ok_Line_meant C E F
        · exact ok_Line_ends C E F
      · cases f
        · exact FunD.bindsN F fun _ _ _ _ _ _ us hl => match us, hl with | [_, _], _ => rfl
        · exact FunD.bindsN F fun _ _ _ _ _ _ us hl => match us, hl with | [_], _ => rfl
        · exact FunD.bindsN F fun _ _ _ _ _ _ us hl => match us, hl with | [_], _ => rfl
        · exact FunD.bindsN F fun _ _ _ _ _ _ us hl => match us, hl with | [_], _ => rfl
        · exact FunD.bindsN F fun _ _ _ _ _ _ us hl => match us, hl with | [_, _, _], _ => rfl
        · exact FunD.bindsN F fun _ _ _ _ _ _ us hl => match us, hl with | [_], _ => rfl
        · exact FunD.bindsN F fun _ _ _ _ _ _ us hl => match us, hl with | [_, _], _ => rfl
        · exact FunD.bindsN F fun _ _ _ _ _ _ us hl => match us, hl with | [], _ => rfl
        · exact FunD.bindsN F fun _ _ _ _ _ _ us hl => match us, hl with | [_, _], _ => rfl
        · exact FunD.bindsN F fun _ _ _ _ _ _ us hl => match us, hl with | [_], _ => rfl
        · exact FunD.bindsN F fun _ _ _ _ _ _ us hl => match us, hl with | [_, _], _ => rfl
        · exact FunD.bindsN F fun _ _ _ _ _ _ us hl => match us, hl with | [_], _ => rfl
        · exact FunD.bindsN F fun _ _ _ _ _ _ us hl => match us, hl with | [_], _ => rfl
        · exact FunD.bindsN F fun _ _ _ _ _ _ us hl => match us, hl with | [_, _], _ => rfl
        · exact FunD.bindsN F fun _ _ _ _ _ _ us hl => match us, hl with | [_, _], _ => rfl
        · exact FunD.bindsN F fun _ _ _ _ _ _ us hl => match us, hl with | [_], _ => rfl
        · exact FunD.bindsN F fun _ _ _ _ _ _ us hl => match us, hl with | [_, _, _], _ => rfl
        · exact FunD.bindsN F fun _ _ _ _ _ _ us hl => match us, hl with | [_, _], _ => rfl
        · exact FunD.bindsN F fun _ _ _ _ _ _ us hl => match us, hl with | [_, _, _], _ => rfl
        · exact FunD.bindsN F fun _ _ _ _ _ _ us hl => match us, hl with | [_, _], _ => rfl
        · exact FunD.bindsN F fun _ _ _ _ _ _ us hl => match us, hl with | [_, _], _ => rfl
        · exact FunD.bindsN F fun _ _ _ _ _ _ us hl => match us, hl with | [_], _ => rfl
        · exact FunD.bindsN F fun _ _ _ _ _ _ us hl => match us, hl with | [_, _], _ => rfl
        · exact FunD.bindsN F fun _ _ _ _ _ _ us hl => match us, hl with | [_, _], _ => rfl
        · exact FunD.bindsN F fun _ _ _ _ _ _ us hl => match us, hl with | [_, _, _], _ => rfl
        · exact FunD.bindsN F fun _ _ _ _ _ _ us hl => match us, hl with | [_, _], _ => rfl
        · exact FunD.bindsN F fun _ _ _ _ _ _ us hl => match us, hl with | [_, _, _], _ => rfl
        · exact FunD.bindsN F fun _ _ _ _ _ _ us hl => match us, hl with | [_], _ => rfl
        · exact FunD.bindsN F fun _ _ _ _ _ _ us hl => match us, hl with | [_, _], _ => rfl
        · exact FunD.bindsN F fun _ _ _ _ _ _ us hl => match us, hl with | [_], _ => rfl
        · exact FunD.bindsN F fun _ _ _ _ _ _ us hl => match us, hl with | [_, _], _ => rfl
        · exact FunD.bindsN F fun _ _ _ _ _ _ us hl => match us, hl with | [_, _], _ => rfl
        · exact FunD.bindsN F fun _ _ _ _ _ _ us hl => match us, hl with | [_, _, _], _ => rfl
        · exact FunD.bindsN F fun _ _ _ _ _ _ us hl => match us, hl with | [_, _], _ => rfl
        · exact FunD.bindsN F fun _ _ _ _ _ _ us hl => match us, hl with | [_], _ => rfl
        · exact FunD.bindsN F fun _ _ _ _ _ _ us hl => match us, hl with | [_, _], _ => rfl
        · exact FunD.bindsN F fun _ _ _ _ _ _ us hl => match us, hl with | [_, _, _], _ => rfl
        · exact FunD.bindsN F fun _ _ _ _ _ _ us hl => match us, hl with | [_, _], _ => rfl
        · exact FunD.bindsN F fun _ _ _ _ _ _ us hl => match us, hl with | [_], _ => rfl
        · exact FunD.bindsN F fun _ _ _ _ _ _ us hl => match us, hl with | [_, _], _ => rfl
        · exact FunD.bindsN F fun _ _ _ _ _ _ us hl => match us, hl with | [_, _], _ => rfl
        · exact FunD.bindsN F fun _ _ _ _ _ _ us hl => match us, hl with | [_], _ => rfl
        · exact FunD.bindsN F fun _ _ _ _ _ _ us hl => match us, hl with | [_, _], _ => rfl
        · exact FunD.bindsN F fun _ _ _ _ _ _ us hl => match us, hl with | [_, _], _ => rfl
        · exact FunD.bindsN F fun _ _ _ _ _ _ us hl => match us, hl with | [_], _ => rfl
end K02
end
section
set_option linter.all false
set_option maxRecDepth 100000
namespace K02.Ma
open PySem L2 DL
variable {Ψ : Nat → Fid → List D → M D} [IsΦ Ψ]
def mixF (c j : Int) : Int := (c + 31 * j * j + 7) * 48271 % 2147483647
theorem mixF_ok (c j : Int) : 0 ≤ mixF c j ∧ mixF c j < 2147483647 := by
  unfold mixF
  omega
theorem s_mixed (k : Nat) (c j : Int) (h : 0 ≤ j ∧ j < 1000000000) : Ψ (k + 1) ._law_mixed [.int c, .int j] = pure (.int (mixF c j)) := by
  unfold mixF
  simp (disch := (first | with_reducible assumption | omega | ((try simp only [q_sl, List.length_append, List.length_map, List.length_cons, List.length_nil, and_true, true_and]); first | omega | decide))) only [bnd_pure, q_runF, fin_nx, fin_rt, q_var0, q_vars, q_C, q_bin, q_chain, chainK_bl, q_tru, truK_bl, truK_int, truK_lst, truK_tup, truK_non, truK_str, q_test, tstK_bl, q_and, q_or, q_not, q_andV, q_orV, q_notV, q_ifE, q_un, q_nil, q_cons, q_tup, q_lst, q_callF, q_call, q_meth, methK_obj, methO_some, q_isB, q_items, itemsK_str, itemsK_lst, itemsK_tup, q_range1, rangeK_int, q_nop, q_seq, seqK_nx, seqK_rt, seqK_bk, seqK_ct, q_if, q_ret, q_retN, q_drop, q_set, q_setOwn, q_for, q_for_nil, forK_nx, forK_ct, forK_bk, forK_rt, gd_true, lf_some, f_add_int, f_add_str, f_add_lst, f_add_tup, f_sub_int, f_mul_r, f_mul_l, f_mod, f_div, f_eq_str, f_eq_int, f_eq_bl, f_ne_str, f_ne_int, f_ne_bl, f_lt, f_le, f_gt, f_ge, f_in_sign, f_notIn_sign, f_is_bl, f_len_str, f_len_lst, f_len_tup, f_len_scr, f_len_dic, f_int_bl, f_int_int, List.length_cons, List.length_nil, List.length_replicate, List.length_set, List.set_cons_zero, List.set_cons_succ, List.getElem?_cons_zero, List.getElem?_cons_succ, Nat.reduceAdd, Nat.reduceLT, Nat.zero_lt_succ, Nat.lt_add_one, if_true, if_false, Bool.not_true, Bool.not_false, Bool.false_eq_true, reduceIte, decide_true, decide_false, reduceCtorEq, List.cons.injEq, Nat.reduceEqDiff, and_true, true_and, and_false, false_and, isB_str_str, isB_str_int, isB_str_bl, isB_int_int, isB_bool_int, isB_bool_bl, isB_int_bl, isB_int_str, isB_bool_str, f_join_nil, f_join_signs, f_all_map, f_any_map, f_lstrip, f_cut_str, f_cut_lst, f_cut_tup, q_while, q_bm, isTy_str, isTy_lst, isTy_dic, q_part, partK_int, q_noPart, q_cut, q_range2, range2K_int, q_get2, get2K_dic, key_str, key_int, q_dict, q_pairs_nil, pairK_some, q_pairs_cons, q_app, appK_own, q_frz, frzK_own, frzK_val, frzK_no, q_aug, augK_val, f_ix_lst, f_ix_tup, f_ix_scr, f_ix_str, Int.reduceToNat, List.getD_cons_zero, List.getD_cons_succ, q_forN, Int.toNat_natCast, f_in_sign, f_neg_int, f_is_non, f_isNot_non, isNon_non, isNon_tup, isNon_int, isNon_str, isNon_lst, isNon_dic, isNon_bl, isNon_obj, isB_tuple_tup, isB_list_lst, isB_str_tup, isB_str_lst, isB_str_non, isB_tuple_non, u__law_mixed, b__law_mixed]
theorem s_law_signs (k : Nat) : Ψ (k + 1) ._law_signs [] = pure (.str c_SIGNS) := by
  simp (disch := (first | with_reducible assumption | omega | ((try simp only [q_sl, List.length_append, List.length_map, List.length_cons, List.length_nil, and_true, true_and]); first | omega | decide))) only [bnd_pure, q_runF, fin_nx, fin_rt, q_var0, q_vars, q_C, q_bin, q_chain, chainK_bl, q_tru, truK_bl, truK_int, truK_lst, truK_tup, truK_non, truK_str, q_test, tstK_bl, q_and, q_or, q_not, q_andV, q_orV, q_notV, q_ifE, q_un, q_nil, q_cons, q_tup, q_lst, q_callF, q_call, q_meth, methK_obj, methO_some, q_isB, q_items, itemsK_str, itemsK_lst, itemsK_tup, q_range1, rangeK_int, q_nop, q_seq, seqK_nx, seqK_rt, seqK_bk, seqK_ct, q_if, q_ret, q_retN, q_drop, q_set, q_setOwn, q_for, q_for_nil, forK_nx, forK_ct, forK_bk, forK_rt, gd_true, lf_some, f_add_int, f_add_str, f_add_lst, f_add_tup, f_sub_int, f_mul_r, f_mul_l, f_mod, f_div, f_eq_str, f_eq_int, f_eq_bl, f_ne_str, f_ne_int, f_ne_bl, f_lt, f_le, f_gt, f_ge, f_in_sign, f_notIn_sign, f_is_bl, f_len_str, f_len_lst, f_len_tup, f_len_scr, f_len_dic, f_int_bl, f_int_int, List.length_cons, List.length_nil, List.length_replicate, List.length_set, List.set_cons_zero, List.set_cons_succ, List.getElem?_cons_zero, List.getElem?_cons_succ, Nat.reduceAdd, Nat.reduceLT, Nat.zero_lt_succ, Nat.lt_add_one, if_true, if_false, Bool.not_true, Bool.not_false, Bool.false_eq_true, reduceIte, decide_true, decide_false, reduceCtorEq, List.cons.injEq, Nat.reduceEqDiff, and_true, true_and, and_false, false_and, isB_str_str, isB_str_int, isB_str_bl, isB_int_int, isB_bool_int, isB_bool_bl, isB_int_bl, isB_int_str, isB_bool_str, f_join_nil, f_join_signs, f_all_map, f_any_map, f_lstrip, f_cut_str, f_cut_lst, f_cut_tup, q_while, q_bm, isTy_str, isTy_lst, isTy_dic, q_part, partK_int, q_noPart, q_cut, q_range2, range2K_int, q_get2, get2K_dic, key_str, key_int, q_dict, q_pairs_nil, pairK_some, q_pairs_cons, q_app, appK_own, q_frz, frzK_own, frzK_val, frzK_no, q_aug, augK_val, f_ix_lst, f_ix_tup, f_ix_scr, f_ix_str, Int.reduceToNat, List.getD_cons_zero, List.getD_cons_succ, q_forN, Int.toNat_natCast, f_in_sign, f_neg_int, f_is_non, f_isNot_non, isNon_non, isNon_tup, isNon_int, isNon_str, isNon_lst, isNon_dic, isNon_bl, isNon_obj, isB_tuple_tup, isB_list_lst, isB_str_tup, isB_str_lst, isB_str_non, isB_tuple_non, u__law_signs, b__law_signs]
  rfl
theorem s_is_whole (k : Nat) (i : Int) : Ψ (k + 1) .is_whole [.int i] = pure (.bl true) := by
  simp (disch := (first | with_reducible assumption | omega | ((try simp only [q_sl, List.length_append, List.length_map, List.length_cons, List.length_nil, and_true, true_and]); first | omega | decide))) only [bnd_pure, q_runF, fin_nx, fin_rt, q_var0, q_vars, q_C, q_bin, q_chain, chainK_bl, q_tru, truK_bl, truK_int, truK_lst, truK_tup, truK_non, truK_str, q_test, tstK_bl, q_and, q_or, q_not, q_andV, q_orV, q_notV, q_ifE, q_un, q_nil, q_cons, q_tup, q_lst, q_callF, q_call, q_meth, methK_obj, methO_some, q_isB, q_items, itemsK_str, itemsK_lst, itemsK_tup, q_range1, rangeK_int, q_nop, q_seq, seqK_nx, seqK_rt, seqK_bk, seqK_ct, q_if, q_ret, q_retN, q_drop, q_set, q_setOwn, q_for, q_for_nil, forK_nx, forK_ct, forK_bk, forK_rt, gd_true, lf_some, f_add_int, f_add_str, f_add_lst, f_add_tup, f_sub_int, f_mul_r, f_mul_l, f_mod, f_div, f_eq_str, f_eq_int, f_eq_bl, f_ne_str, f_ne_int, f_ne_bl, f_lt, f_le, f_gt, f_ge, f_in_sign, f_notIn_sign, f_is_bl, f_len_str, f_len_lst, f_len_tup, f_len_scr, f_len_dic, f_int_bl, f_int_int, List.length_cons, List.length_nil, List.length_replicate, List.length_set, List.set_cons_zero, List.set_cons_succ, List.getElem?_cons_zero, List.getElem?_cons_succ, Nat.reduceAdd, Nat.reduceLT, Nat.zero_lt_succ, Nat.lt_add_one, if_true, if_false, Bool.not_true, Bool.not_false, Bool.false_eq_true, reduceIte, decide_true, decide_false, reduceCtorEq, List.cons.injEq, Nat.reduceEqDiff, and_true, true_and, and_false, false_and, isB_str_str, isB_str_int, isB_str_bl, isB_int_int, isB_bool_int, isB_bool_bl, isB_int_bl, isB_int_str, isB_bool_str, f_join_nil, f_join_signs, f_all_map, f_any_map, f_lstrip, f_cut_str, f_cut_lst, f_cut_tup, q_while, q_bm, isTy_str, isTy_lst, isTy_dic, q_part, partK_int, q_noPart, q_cut, q_range2, range2K_int, q_get2, get2K_dic, key_str, key_int, q_dict, q_pairs_nil, pairK_some, q_pairs_cons, q_app, appK_own, q_frz, frzK_own, frzK_val, frzK_no, q_aug, augK_val, f_ix_lst, f_ix_tup, f_ix_scr, f_ix_str, Int.reduceToNat, List.getD_cons_zero, List.getD_cons_succ, q_forN, Int.toNat_natCast, f_in_sign, f_neg_int, f_is_non, f_isNot_non, isNon_non, isNon_tup, isNon_int, isNon_str, isNon_lst, isNon_dic, isNon_bl, isNon_obj, isB_tuple_tup, isB_list_lst, isB_str_tup, isB_str_lst, isB_str_non, isB_tuple_non, u_is_whole, b_is_whole]
theorem s_without (k : Nat) (w : Tx) : Ψ (k + 1) .without [.str w] = pure (.str (c_SIGNS.filter fun c => !decide (c ∈ w))) := by
  simp (disch := (first | with_reducible assumption | omega | ((try simp only [q_sl, List.length_append, List.length_map, List.length_cons, List.length_nil, and_true, true_and]); first | omega | decide))) only [bnd_pure, q_runF, fin_nx, fin_rt, q_var0, q_vars, q_C, q_bin, q_chain, chainK_bl, q_tru, truK_bl, truK_int, truK_lst, truK_tup, truK_non, truK_str, q_test, tstK_bl, q_and, q_or, q_not, q_andV, q_orV, q_notV, q_ifE, q_un, q_nil, q_cons, q_tup, q_lst, q_callF, q_call, q_meth, methK_obj, methO_some, q_isB, q_items, itemsK_str, itemsK_lst, itemsK_tup, q_range1, rangeK_int, q_nop, q_seq, seqK_nx, seqK_rt, seqK_bk, seqK_ct, q_if, q_ret, q_retN, q_drop, q_set, q_setOwn, q_for, q_for_nil, forK_nx, forK_ct, forK_bk, forK_rt, gd_true, lf_some, f_add_int, f_add_str, f_add_lst, f_add_tup, f_sub_int, f_mul_r, f_mul_l, f_mod, f_div, f_eq_str, f_eq_int, f_eq_bl, f_ne_str, f_ne_int, f_ne_bl, f_lt, f_le, f_gt, f_ge, f_in_sign, f_notIn_sign, f_is_bl, f_len_str, f_len_lst, f_len_tup, f_len_scr, f_len_dic, f_int_bl, f_int_int, List.length_cons, List.length_nil, List.length_replicate, List.length_set, List.set_cons_zero, List.set_cons_succ, List.getElem?_cons_zero, List.getElem?_cons_succ, Nat.reduceAdd, Nat.reduceLT, Nat.zero_lt_succ, Nat.lt_add_one, if_true, if_false, Bool.not_true, Bool.not_false, Bool.false_eq_true, reduceIte, decide_true, decide_false, reduceCtorEq, List.cons.injEq, Nat.reduceEqDiff, and_true, true_and, and_false, false_and, isB_str_str, isB_str_int, isB_str_bl, isB_int_int, isB_bool_int, isB_bool_bl, isB_int_bl, isB_int_str, isB_bool_str, f_join_nil, f_join_signs, f_all_map, f_any_map, f_lstrip, f_cut_str, f_cut_lst, f_cut_tup, q_while, q_bm, isTy_str, isTy_lst, isTy_dic, q_part, partK_int, q_noPart, q_cut, q_range2, range2K_int, q_get2, get2K_dic, key_str, key_int, q_dict, q_pairs_nil, pairK_some, q_pairs_cons, q_app, appK_own, q_frz, frzK_own, frzK_val, frzK_no, q_aug, augK_val, f_ix_lst, f_ix_tup, f_ix_scr, f_ix_str, Int.reduceToNat, List.getD_cons_zero, List.getD_cons_succ, q_forN, Int.toNat_natCast, f_in_sign, f_neg_int, f_is_non, f_isNot_non, isNon_non, isNon_tup, isNon_int, isNon_str, isNon_lst, isNon_dic, isNon_bl, isNon_obj, isB_tuple_tup, isB_list_lst, isB_str_tup, isB_str_lst, isB_str_non, isB_tuple_non, u_without, b_without, q_comp, wipeE]
  rw [compL_map (fun c => !decide (c ∈ w)) (fun c => D.str [c]) (fun c => [.val (.str w), .val (.str [c])]) (fun _ _ => rfl) (fun c _ => by simp (disch := (first | with_reducible assumption | omega | ((try simp only [q_sl, List.length_append, List.length_map, List.length_cons, List.length_nil, and_true, true_and]); first | omega | decide))) only [bnd_pure, q_runF, fin_nx, fin_rt, q_var0, q_vars, q_C, q_bin, q_chain, chainK_bl, q_tru, truK_bl, truK_int, truK_lst, truK_tup, truK_non, truK_str, q_test, tstK_bl, q_and, q_or, q_not, q_andV, q_orV, q_notV, q_ifE, q_un, q_nil, q_cons, q_tup, q_lst, q_callF, q_call, q_meth, methK_obj, methO_some, q_isB, q_items, itemsK_str, itemsK_lst, itemsK_tup, q_range1, rangeK_int, q_nop, q_seq, seqK_nx, seqK_rt, seqK_bk, seqK_ct, q_if, q_ret, q_retN, q_drop, q_set, q_setOwn, q_for, q_for_nil, forK_nx, forK_ct, forK_bk, forK_rt, gd_true, lf_some, f_add_int, f_add_str, f_add_lst, f_add_tup, f_sub_int, f_mul_r, f_mul_l, f_mod, f_div, f_eq_str, f_eq_int, f_eq_bl, f_ne_str, f_ne_int, f_ne_bl, f_lt, f_le, f_gt, f_ge, f_in_sign, f_notIn_sign, f_is_bl, f_len_str, f_len_lst, f_len_tup, f_len_scr, f_len_dic, f_int_bl, f_int_int, List.length_cons, List.length_nil, List.length_replicate, List.length_set, List.set_cons_zero, List.set_cons_succ, List.getElem?_cons_zero, List.getElem?_cons_succ, Nat.reduceAdd, Nat.reduceLT, Nat.zero_lt_succ, Nat.lt_add_one, if_true, if_false, Bool.not_true, Bool.not_false, Bool.false_eq_true, reduceIte, decide_true, decide_false, reduceCtorEq, List.cons.injEq, Nat.reduceEqDiff, and_true, true_and, and_false, false_and, isB_str_str, isB_str_int, isB_str_bl, isB_int_int, isB_bool_int, isB_bool_bl, isB_int_bl, isB_int_str, isB_bool_str, f_join_nil, f_join_signs, f_all_map, f_any_map, f_lstrip, f_cut_str, f_cut_lst, f_cut_tup, q_while, q_bm, isTy_str, isTy_lst, isTy_dic, q_part, partK_int, q_noPart, q_cut, q_range2, range2K_int, q_get2, get2K_dic, key_str, key_int, q_dict, q_pairs_nil, pairK_some, q_pairs_cons, q_app, appK_own, q_frz, frzK_own, frzK_val, frzK_no, q_aug, augK_val, f_ix_lst, f_ix_tup, f_ix_scr, f_ix_str, Int.reduceToNat, List.getD_cons_zero, List.getD_cons_succ, q_forN, Int.toNat_natCast, f_in_sign, f_neg_int, f_is_non, f_isNot_non, isNon_non, isNon_tup, isNon_int, isNon_str, isNon_lst, isNon_dic, isNon_bl, isNon_obj, isB_tuple_tup, isB_list_lst, isB_str_tup, isB_str_lst, isB_str_non, isB_tuple_non]) (fun c _ _ => by simp (disch := (first | with_reducible assumption | omega | ((try simp only [q_sl, List.length_append, List.length_map, List.length_cons, List.length_nil, and_true, true_and]); first | omega | decide))) only [bnd_pure, q_runF, fin_nx, fin_rt, q_var0, q_vars, q_C, q_bin, q_chain, chainK_bl, q_tru, truK_bl, truK_int, truK_lst, truK_tup, truK_non, truK_str, q_test, tstK_bl, q_and, q_or, q_not, q_andV, q_orV, q_notV, q_ifE, q_un, q_nil, q_cons, q_tup, q_lst, q_callF, q_call, q_meth, methK_obj, methO_some, q_isB, q_items, itemsK_str, itemsK_lst, itemsK_tup, q_range1, rangeK_int, q_nop, q_seq, seqK_nx, seqK_rt, seqK_bk, seqK_ct, q_if, q_ret, q_retN, q_drop, q_set, q_setOwn, q_for, q_for_nil, forK_nx, forK_ct, forK_bk, forK_rt, gd_true, lf_some, f_add_int, f_add_str, f_add_lst, f_add_tup, f_sub_int, f_mul_r, f_mul_l, f_mod, f_div, f_eq_str, f_eq_int, f_eq_bl, f_ne_str, f_ne_int, f_ne_bl, f_lt, f_le, f_gt, f_ge, f_in_sign, f_notIn_sign, f_is_bl, f_len_str, f_len_lst, f_len_tup, f_len_scr, f_len_dic, f_int_bl, f_int_int, List.length_cons, List.length_nil, List.length_replicate, List.length_set, List.set_cons_zero, List.set_cons_succ, List.getElem?_cons_zero, List.getElem?_cons_succ, Nat.reduceAdd, Nat.reduceLT, Nat.zero_lt_succ, Nat.lt_add_one, if_true, if_false, Bool.not_true, Bool.not_false, Bool.false_eq_true, reduceIte, decide_true, decide_false, reduceCtorEq, List.cons.injEq, Nat.reduceEqDiff, and_true, true_and, and_false, false_and, isB_str_str, isB_str_int, isB_str_bl, isB_int_int, isB_bool_int, isB_bool_bl, isB_int_bl, isB_int_str, isB_bool_str, f_join_nil, f_join_signs, f_all_map, f_any_map, f_lstrip, f_cut_str, f_cut_lst, f_cut_tup, q_while, q_bm, isTy_str, isTy_lst, isTy_dic, q_part, partK_int, q_noPart, q_cut, q_range2, range2K_int, q_get2, get2K_dic, key_str, key_int, q_dict, q_pairs_nil, pairK_some, q_pairs_cons, q_app, appK_own, q_frz, frzK_own, frzK_val, frzK_no, q_aug, augK_val, f_ix_lst, f_ix_tup, f_ix_scr, f_ix_str, Int.reduceToNat, List.getD_cons_zero, List.getD_cons_succ, q_forN, Int.toNat_natCast, f_in_sign, f_neg_int, f_is_non, f_isNot_non, isNon_non, isNon_tup, isNon_int, isNon_str, isNon_lst, isNon_dic, isNon_bl, isNon_obj, isB_tuple_tup, isB_list_lst, isB_str_tup, isB_str_lst, isB_str_non, isB_tuple_non]) (by decide)]
  have hz : (c_SIGNS.filter fun c => !decide (c ∈ w)).length ≤ 16777216 := Nat.le_trans (List.length_filter_le _ _) (by decide)
  simp (disch := (first | with_reducible assumption | omega | ((try simp only [q_sl, List.length_append, List.length_map, List.length_cons, List.length_nil, and_true, true_and]); first | omega | decide))) only [bnd_pure, q_runF, fin_nx, fin_rt, q_var0, q_vars, q_C, q_bin, q_chain, chainK_bl, q_tru, truK_bl, truK_int, truK_lst, truK_tup, truK_non, truK_str, q_test, tstK_bl, q_and, q_or, q_not, q_andV, q_orV, q_notV, q_ifE, q_un, q_nil, q_cons, q_tup, q_lst, q_callF, q_call, q_meth, methK_obj, methO_some, q_isB, q_items, itemsK_str, itemsK_lst, itemsK_tup, q_range1, rangeK_int, q_nop, q_seq, seqK_nx, seqK_rt, seqK_bk, seqK_ct, q_if, q_ret, q_retN, q_drop, q_set, q_setOwn, q_for, q_for_nil, forK_nx, forK_ct, forK_bk, forK_rt, gd_true, lf_some, f_add_int, f_add_str, f_add_lst, f_add_tup, f_sub_int, f_mul_r, f_mul_l, f_mod, f_div, f_eq_str, f_eq_int, f_eq_bl, f_ne_str, f_ne_int, f_ne_bl, f_lt, f_le, f_gt, f_ge, f_in_sign, f_notIn_sign, f_is_bl, f_len_str, f_len_lst, f_len_tup, f_len_scr, f_len_dic, f_int_bl, f_int_int, List.length_cons, List.length_nil, List.length_replicate, List.length_set, List.set_cons_zero, List.set_cons_succ, List.getElem?_cons_zero, List.getElem?_cons_succ, Nat.reduceAdd, Nat.reduceLT, Nat.zero_lt_succ, Nat.lt_add_one, if_true, if_false, Bool.not_true, Bool.not_false, Bool.false_eq_true, reduceIte, decide_true, decide_false, reduceCtorEq, List.cons.injEq, Nat.reduceEqDiff, and_true, true_and, and_false, false_and, isB_str_str, isB_str_int, isB_str_bl, isB_int_int, isB_bool_int, isB_bool_bl, isB_int_bl, isB_int_str, isB_bool_str, f_join_nil, f_join_signs, f_all_map, f_any_map, f_lstrip, f_cut_str, f_cut_lst, f_cut_tup, q_while, q_bm, isTy_str, isTy_lst, isTy_dic, q_part, partK_int, q_noPart, q_cut, q_range2, range2K_int, q_get2, get2K_dic, key_str, key_int, q_dict, q_pairs_nil, pairK_some, q_pairs_cons, q_app, appK_own, q_frz, frzK_own, frzK_val, frzK_no, q_aug, augK_val, f_ix_lst, f_ix_tup, f_ix_scr, f_ix_str, Int.reduceToNat, List.getD_cons_zero, List.getD_cons_succ, q_forN, Int.toNat_natCast, f_in_sign, f_neg_int, f_is_non, f_isNot_non, isNon_non, isNon_tup, isNon_int, isNon_str, isNon_lst, isNon_dic, isNon_bl, isNon_obj, isB_tuple_tup, isB_list_lst, isB_str_tup, isB_str_lst, isB_str_non, isB_tuple_non]
def c_AL : Tx := c_LETTERS ++ c_GREAT ++ c_FIGURES
theorem s_Word_ends (k : Nat) : Ψ (k + 2) .Word_ends [.obj 4] = pure (.str (c_SIGNS.filter fun c => !decide (c ∈ c_AL))) := by
  have e : c_LETTERS ++ c_GREAT ++ c_FIGURES = c_AL := rfl
  simp (disch := (first | with_reducible assumption | omega | ((try simp only [q_sl, List.length_append, List.length_map, List.length_cons, List.length_nil, and_true, true_and]); first | omega | decide))) only [bnd_pure, q_runF, fin_nx, fin_rt, q_var0, q_vars, q_C, q_bin, q_chain, chainK_bl, q_tru, truK_bl, truK_int, truK_lst, truK_tup, truK_non, truK_str, q_test, tstK_bl, q_and, q_or, q_not, q_andV, q_orV, q_notV, q_ifE, q_un, q_nil, q_cons, q_tup, q_lst, q_callF, q_call, q_meth, methK_obj, methO_some, q_isB, q_items, itemsK_str, itemsK_lst, itemsK_tup, q_range1, rangeK_int, q_nop, q_seq, seqK_nx, seqK_rt, seqK_bk, seqK_ct, q_if, q_ret, q_retN, q_drop, q_set, q_setOwn, q_for, q_for_nil, forK_nx, forK_ct, forK_bk, forK_rt, gd_true, lf_some, f_add_int, f_add_str, f_add_lst, f_add_tup, f_sub_int, f_mul_r, f_mul_l, f_mod, f_div, f_eq_str, f_eq_int, f_eq_bl, f_ne_str, f_ne_int, f_ne_bl, f_lt, f_le, f_gt, f_ge, f_in_sign, f_notIn_sign, f_is_bl, f_len_str, f_len_lst, f_len_tup, f_len_scr, f_len_dic, f_int_bl, f_int_int, List.length_cons, List.length_nil, List.length_replicate, List.length_set, List.set_cons_zero, List.set_cons_succ, List.getElem?_cons_zero, List.getElem?_cons_succ, Nat.reduceAdd, Nat.reduceLT, Nat.zero_lt_succ, Nat.lt_add_one, if_true, if_false, Bool.not_true, Bool.not_false, Bool.false_eq_true, reduceIte, decide_true, decide_false, reduceCtorEq, List.cons.injEq, Nat.reduceEqDiff, and_true, true_and, and_false, false_and, isB_str_str, isB_str_int, isB_str_bl, isB_int_int, isB_bool_int, isB_bool_bl, isB_int_bl, isB_int_str, isB_bool_str, f_join_nil, f_join_signs, f_all_map, f_any_map, f_lstrip, f_cut_str, f_cut_lst, f_cut_tup, q_while, q_bm, isTy_str, isTy_lst, isTy_dic, q_part, partK_int, q_noPart, q_cut, q_range2, range2K_int, q_get2, get2K_dic, key_str, key_int, q_dict, q_pairs_nil, pairK_some, q_pairs_cons, q_app, appK_own, q_frz, frzK_own, frzK_val, frzK_no, q_aug, augK_val, f_ix_lst, f_ix_tup, f_ix_scr, f_ix_str, Int.reduceToNat, List.getD_cons_zero, List.getD_cons_succ, q_forN, Int.toNat_natCast, f_in_sign, f_neg_int, f_is_non, f_isNot_non, isNon_non, isNon_tup, isNon_int, isNon_str, isNon_lst, isNon_dic, isNon_bl, isNon_obj, isB_tuple_tup, isB_list_lst, isB_str_tup, isB_str_lst, isB_str_non, isB_tuple_non, u_Word_ends, b_Word_ends, e, s_without]
theorem s_Number_ends (k : Nat) : Ψ (k + 2) .Number_ends [.obj 5] = pure (.str (c_SIGNS.filter fun c => !decide (c ∈ c_FIGURES))) := by
  simp (disch := (first | with_reducible assumption | omega | ((try simp only [q_sl, List.length_append, List.length_map, List.length_cons, List.length_nil, and_true, true_and]); first | omega | decide))) only [bnd_pure, q_runF, fin_nx, fin_rt, q_var0, q_vars, q_C, q_bin, q_chain, chainK_bl, q_tru, truK_bl, truK_int, truK_lst, truK_tup, truK_non, truK_str, q_test, tstK_bl, q_and, q_or, q_not, q_andV, q_orV, q_notV, q_ifE, q_un, q_nil, q_cons, q_tup, q_lst, q_callF, q_call, q_meth, methK_obj, methO_some, q_isB, q_items, itemsK_str, itemsK_lst, itemsK_tup, q_range1, rangeK_int, q_nop, q_seq, seqK_nx, seqK_rt, seqK_bk, seqK_ct, q_if, q_ret, q_retN, q_drop, q_set, q_setOwn, q_for, q_for_nil, forK_nx, forK_ct, forK_bk, forK_rt, gd_true, lf_some, f_add_int, f_add_str, f_add_lst, f_add_tup, f_sub_int, f_mul_r, f_mul_l, f_mod, f_div, f_eq_str, f_eq_int, f_eq_bl, f_ne_str, f_ne_int, f_ne_bl, f_lt, f_le, f_gt, f_ge, f_in_sign, f_notIn_sign, f_is_bl, f_len_str, f_len_lst, f_len_tup, f_len_scr, f_len_dic, f_int_bl, f_int_int, List.length_cons, List.length_nil, List.length_replicate, List.length_set, List.set_cons_zero, List.set_cons_succ, List.getElem?_cons_zero, List.getElem?_cons_succ, Nat.reduceAdd, Nat.reduceLT, Nat.zero_lt_succ, Nat.lt_add_one, if_true, if_false, Bool.not_true, Bool.not_false, Bool.false_eq_true, reduceIte, decide_true, decide_false, reduceCtorEq, List.cons.injEq, Nat.reduceEqDiff, and_true, true_and, and_false, false_and, isB_str_str, isB_str_int, isB_str_bl, isB_int_int, isB_bool_int, isB_bool_bl, isB_int_bl, isB_int_str, isB_bool_str, f_join_nil, f_join_signs, f_all_map, f_any_map, f_lstrip, f_cut_str, f_cut_lst, f_cut_tup, q_while, q_bm, isTy_str, isTy_lst, isTy_dic, q_part, partK_int, q_noPart, q_cut, q_range2, range2K_int, q_get2, get2K_dic, key_str, key_int, q_dict, q_pairs_nil, pairK_some, q_pairs_cons, q_app, appK_own, q_frz, frzK_own, frzK_val, frzK_no, q_aug, augK_val, f_ix_lst, f_ix_tup, f_ix_scr, f_ix_str, Int.reduceToNat, List.getD_cons_zero, List.getD_cons_succ, q_forN, Int.toNat_natCast, f_in_sign, f_neg_int, f_is_non, f_isNot_non, isNon_non, isNon_tup, isNon_int, isNon_str, isNon_lst, isNon_dic, isNon_bl, isNon_obj, isB_tuple_tup, isB_list_lst, isB_str_tup, isB_str_lst, isB_str_non, isB_tuple_non, u_Number_ends, b_Number_ends, s_without]
theorem s_Plain_ends (k : Nat) : Ψ (k + 1) .Plain_ends [.obj 7] = pure (.str c_PLAIN_ENDS) := by
  simp (disch := (first | with_reducible assumption | omega | ((try simp only [q_sl, List.length_append, List.length_map, List.length_cons, List.length_nil, and_true, true_and]); first | omega | decide))) only [bnd_pure, q_runF, fin_nx, fin_rt, q_var0, q_vars, q_C, q_bin, q_chain, chainK_bl, q_tru, truK_bl, truK_int, truK_lst, truK_tup, truK_non, truK_str, q_test, tstK_bl, q_and, q_or, q_not, q_andV, q_orV, q_notV, q_ifE, q_un, q_nil, q_cons, q_tup, q_lst, q_callF, q_call, q_meth, methK_obj, methO_some, q_isB, q_items, itemsK_str, itemsK_lst, itemsK_tup, q_range1, rangeK_int, q_nop, q_seq, seqK_nx, seqK_rt, seqK_bk, seqK_ct, q_if, q_ret, q_retN, q_drop, q_set, q_setOwn, q_for, q_for_nil, forK_nx, forK_ct, forK_bk, forK_rt, gd_true, lf_some, f_add_int, f_add_str, f_add_lst, f_add_tup, f_sub_int, f_mul_r, f_mul_l, f_mod, f_div, f_eq_str, f_eq_int, f_eq_bl, f_ne_str, f_ne_int, f_ne_bl, f_lt, f_le, f_gt, f_ge, f_in_sign, f_notIn_sign, f_is_bl, f_len_str, f_len_lst, f_len_tup, f_len_scr, f_len_dic, f_int_bl, f_int_int, List.length_cons, List.length_nil, List.length_replicate, List.length_set, List.set_cons_zero, List.set_cons_succ, List.getElem?_cons_zero, List.getElem?_cons_succ, Nat.reduceAdd, Nat.reduceLT, Nat.zero_lt_succ, Nat.lt_add_one, if_true, if_false, Bool.not_true, Bool.not_false, Bool.false_eq_true, reduceIte, decide_true, decide_false, reduceCtorEq, List.cons.injEq, Nat.reduceEqDiff, and_true, true_and, and_false, false_and, isB_str_str, isB_str_int, isB_str_bl, isB_int_int, isB_bool_int, isB_bool_bl, isB_int_bl, isB_int_str, isB_bool_str, f_join_nil, f_join_signs, f_all_map, f_any_map, f_lstrip, f_cut_str, f_cut_lst, f_cut_tup, q_while, q_bm, isTy_str, isTy_lst, isTy_dic, q_part, partK_int, q_noPart, q_cut, q_range2, range2K_int, q_get2, get2K_dic, key_str, key_int, q_dict, q_pairs_nil, pairK_some, q_pairs_cons, q_app, appK_own, q_frz, frzK_own, frzK_val, frzK_no, q_aug, augK_val, f_ix_lst, f_ix_tup, f_ix_scr, f_ix_str, Int.reduceToNat, List.getD_cons_zero, List.getD_cons_succ, q_forN, Int.toNat_natCast, f_in_sign, f_neg_int, f_is_non, f_isNot_non, isNon_non, isNon_tup, isNon_int, isNon_str, isNon_lst, isNon_dic, isNon_bl, isNon_obj, isB_tuple_tup, isB_list_lst, isB_str_tup, isB_str_lst, isB_str_non, isB_tuple_non, u_Plain_ends, b_Plain_ends]
theorem s_Line_ends (k : Nat) : Ψ (k + 1) .Line_ends [.obj 8] = pure (.str [10]) := by
  simp (disch := (first | with_reducible assumption | omega | ((try simp only [q_sl, List.length_append, List.length_map, List.length_cons, List.length_nil, and_true, true_and]); first | omega | decide))) only [bnd_pure, q_runF, fin_nx, fin_rt, q_var0, q_vars, q_C, q_bin, q_chain, chainK_bl, q_tru, truK_bl, truK_int, truK_lst, truK_tup, truK_non, truK_str, q_test, tstK_bl, q_and, q_or, q_not, q_andV, q_orV, q_notV, q_ifE, q_un, q_nil, q_cons, q_tup, q_lst, q_callF, q_call, q_meth, methK_obj, methO_some, q_isB, q_items, itemsK_str, itemsK_lst, itemsK_tup, q_range1, rangeK_int, q_nop, q_seq, seqK_nx, seqK_rt, seqK_bk, seqK_ct, q_if, q_ret, q_retN, q_drop, q_set, q_setOwn, q_for, q_for_nil, forK_nx, forK_ct, forK_bk, forK_rt, gd_true, lf_some, f_add_int, f_add_str, f_add_lst, f_add_tup, f_sub_int, f_mul_r, f_mul_l, f_mod, f_div, f_eq_str, f_eq_int, f_eq_bl, f_ne_str, f_ne_int, f_ne_bl, f_lt, f_le, f_gt, f_ge, f_in_sign, f_notIn_sign, f_is_bl, f_len_str, f_len_lst, f_len_tup, f_len_scr, f_len_dic, f_int_bl, f_int_int, List.length_cons, List.length_nil, List.length_replicate, List.length_set, List.set_cons_zero, List.set_cons_succ, List.getElem?_cons_zero, List.getElem?_cons_succ, Nat.reduceAdd, Nat.reduceLT, Nat.zero_lt_succ, Nat.lt_add_one, if_true, if_false, Bool.not_true, Bool.not_false, Bool.false_eq_true, reduceIte, decide_true, decide_false, reduceCtorEq, List.cons.injEq, Nat.reduceEqDiff, and_true, true_and, and_false, false_and, isB_str_str, isB_str_int, isB_str_bl, isB_int_int, isB_bool_int, isB_bool_bl, isB_int_bl, isB_int_str, isB_bool_str, f_join_nil, f_join_signs, f_all_map, f_any_map, f_lstrip, f_cut_str, f_cut_lst, f_cut_tup, q_while, q_bm, isTy_str, isTy_lst, isTy_dic, q_part, partK_int, q_noPart, q_cut, q_range2, range2K_int, q_get2, get2K_dic, key_str, key_int, q_dict, q_pairs_nil, pairK_some, q_pairs_cons, q_app, appK_own, q_frz, frzK_own, frzK_val, frzK_no, q_aug, augK_val, f_ix_lst, f_ix_tup, f_ix_scr, f_ix_str, Int.reduceToNat, List.getD_cons_zero, List.getD_cons_succ, q_forN, Int.toNat_natCast, f_in_sign, f_neg_int, f_is_non, f_isNot_non, isNon_non, isNon_tup, isNon_int, isNon_str, isNon_lst, isNon_dic, isNon_bl, isNon_obj, isB_tuple_tup, isB_list_lst, isB_str_tup, isB_str_lst, isB_str_non, isB_tuple_non, u_Line_ends, b_Line_ends]
def IsTxt (t : Tx) : Prop := t.length ≤ 400 ∧ ∀ c ∈ t, c ∈ c_SIGNS
theorem log_ok (n : Int) (h : -(10 ^ 30) < n ∧ n < 10 ^ 30) : n.natAbs.log2 < 1920 := by
  have : n.natAbs < 2 ^ 1920 := Nat.lt_trans (show n.natAbs < 10 ^ 30 by omega) (by decide)
  by_cases e : n.natAbs = 0
  · rw [e]; decide
  · exact (Nat.log2_lt e).mpr this
def rp (c : Nat) (z : Tx) (x : Tx) : Tx := x.flatMap fun a => if a = c then z else [a]
theorem rp_len {c : Nat} {z x : Tx} {n : Nat} (hz : z.length = 2) (h : x.length ≤ n) : (rp c z x).length ≤ 2 * n := by
  have := flatMap_len (x := x) (f := fun a => if a = c then z else [a]) (n := 2) (fun a => by split <;> simp [hz])
  unfold rp
  omega
theorem f_rp (c : Nat) (z : Tx) (x : Tx) (h : x.length ≤ 1000000 ∧ z.length = 2) : fRepl [c] z (.str x) = pure (.str (rp c z x)) := f_repl_sign c z x (by rw [h.2]; omega)
def qd (t : Tx) : Tx := 34 :: (rp 10 [94, 110] (rp 34 [94, 113] (rp 94 [94, 94] t)) ++ [34])
def pl (t : Tx) : Tx := rp 10 [126, 110] (rp 124 [126, 98] (rp 38 [126, 97] (rp 62 [126, 103] (rp 60 [126, 108] (rp 126 [126, 126] t)))))
def li (t : Tx) : Tx := rp 10 [126, 110] (rp 126 [126, 126] t)
theorem qd_len (t : Tx) (h : IsTxt t) : (qd t).length ≤ 100000 := by
  have l0 := h.1
  have l1 := rp_len (c := 94) (z := [94, 94]) (x := t) rfl l0
  have l2 := rp_len (c := 34) (z := [94, 113]) rfl l1
  have l3 := rp_len (c := 10) (z := [94, 110]) rfl l2
  unfold qd
  rw [List.length_cons, List.length_append, List.length_cons, List.length_nil]
  omega
theorem pl_len (t : Tx) (h : IsTxt t) : (pl t).length ≤ 100000 := by
  have l0 := h.1
  have l1 := rp_len (c := 126) (z := [126, 126]) (x := t) rfl l0
  have l2 := rp_len (c := 60) (z := [126, 108]) rfl l1
  have l3 := rp_len (c := 62) (z := [126, 103]) rfl l2
  have l4 := rp_len (c := 38) (z := [126, 97]) rfl l3
  have l5 := rp_len (c := 124) (z := [126, 98]) rfl l4
  have l6 := rp_len (c := 10) (z := [126, 110]) rfl l5
  unfold pl
  omega
theorem li_len (t : Tx) (h : IsTxt t) : (li t).length ≤ 100000 := by
  have l0 := h.1
  have l1 := rp_len (c := 126) (z := [126, 126]) (x := t) rfl l0
  have l2 := rp_len (c := 10) (z := [126, 110]) rfl l1
  unfold li
  omega
theorem s_mixed' (k : Nat) (c j : Int) (h : 0 ≤ j ∧ j < 1000000000) : ∃ N : Int, (0 ≤ N ∧ N < 2147483647) ∧ Ψ (k + 1) ._law_mixed [.int c, .int j] = pure (.int N) :=
  ⟨_, mixF_ok c j, s_mixed k c j h⟩
theorem bit_mul (a b : Int) : a % 2 * (b % 2) = 0 ∨ a % 2 * (b % 2) = 1 := by
  rcases (show a % 2 = 0 ∨ a % 2 = 1 by omega) with h | h <;> rcases (show b % 2 = 0 ∨ b % 2 = 1 by omega) with h' | h' <;> rw [h, h'] <;> simp
def c_MIX : Tx := [126, 94, 34, 60, 62, 38, 124, 10, 123, 125, 45, 48, 97, 65, 57, 108, 103, 97, 98, 110, 113]
theorem mem_at {l : Tx} {i : Int} (h : 0 ≤ i ∧ i < (l.length : Int)) : l.getD i.toNat 0 ∈ l := getD_mem (by omega)
theorem text_step (k : Nat) (c m j : Int) (sz s6 : Sl) (found : List D) (h : 0 ≤ j ∧ j < 1000000000) (hf : found.length ≤ 1000) :
    ∃ x ∈ c_SIGNS, ∃ s6', l__law_text_by_0 (Ψ (k + 1)) [.val (.int c), .val (.int m), .val (.str c_SIGNS), sz, .own (.lst found), .val (.int j), s6] = pure (.nx [.val (.int c), .val (.int m), .val (.str c_SIGNS), sz, .own (.lst (found ++ [.str [x]])), .val (.int j), s6']) := by
  obtain ⟨N, hN, eN⟩ := s_mixed' (Ψ := Ψ) k (c / 5) j h
  have e1 : ((c_SIGNS.length : Nat) : Int) = 95 := by decide
  have e2 : ((c_MIX.length : Nat) : Int) = 21 := by decide
  have hs : c_SIGNS.length ≤ 16777216 := by decide
  have hm : c_MIX.length ≤ 16777216 := by decide
  have em : [126, 94, 34, 60, 62, 38, 124, 10, 123, 125, 45, 48, 97, 65, 57, 108, 103, 97, 98, 110, 113] = c_MIX := rfl
  rcases bit_mul N (c / 7) with hp | hp
  · refine ⟨c_SIGNS.getD (N / 3 % 95).toNat 0, mem_at (by rw [e1]; omega), .val (.int N), ?_⟩
    simp (disch := (first | with_reducible assumption | omega | ((try simp only [q_sl, List.length_append, List.length_map, List.length_cons, List.length_nil, and_true, true_and]); first | omega | decide))) only [bnd_pure, q_runF, fin_nx, fin_rt, q_var0, q_vars, q_C, q_bin, q_chain, chainK_bl, q_tru, truK_bl, truK_int, truK_lst, truK_tup, truK_non, truK_str, q_test, tstK_bl, q_and, q_or, q_not, q_andV, q_orV, q_notV, q_ifE, q_un, q_nil, q_cons, q_tup, q_lst, q_callF, q_call, q_meth, methK_obj, methO_some, q_isB, q_items, itemsK_str, itemsK_lst, itemsK_tup, q_range1, rangeK_int, q_nop, q_seq, seqK_nx, seqK_rt, seqK_bk, seqK_ct, q_if, q_ret, q_retN, q_drop, q_set, q_setOwn, q_for, q_for_nil, forK_nx, forK_ct, forK_bk, forK_rt, gd_true, lf_some, f_add_int, f_add_str, f_add_lst, f_add_tup, f_sub_int, f_mul_r, f_mul_l, f_mod, f_div, f_eq_str, f_eq_int, f_eq_bl, f_ne_str, f_ne_int, f_ne_bl, f_lt, f_le, f_gt, f_ge, f_in_sign, f_notIn_sign, f_is_bl, f_len_str, f_len_lst, f_len_tup, f_len_scr, f_len_dic, f_int_bl, f_int_int, List.length_cons, List.length_nil, List.length_replicate, List.length_set, List.set_cons_zero, List.set_cons_succ, List.getElem?_cons_zero, List.getElem?_cons_succ, Nat.reduceAdd, Nat.reduceLT, Nat.zero_lt_succ, Nat.lt_add_one, if_true, if_false, Bool.not_true, Bool.not_false, Bool.false_eq_true, reduceIte, decide_true, decide_false, reduceCtorEq, List.cons.injEq, Nat.reduceEqDiff, and_true, true_and, and_false, false_and, isB_str_str, isB_str_int, isB_str_bl, isB_int_int, isB_bool_int, isB_bool_bl, isB_int_bl, isB_int_str, isB_bool_str, f_join_nil, f_join_signs, f_all_map, f_any_map, f_lstrip, f_cut_str, f_cut_lst, f_cut_tup, q_while, q_bm, isTy_str, isTy_lst, isTy_dic, q_part, partK_int, q_noPart, q_cut, q_range2, range2K_int, q_get2, get2K_dic, key_str, key_int, q_dict, q_pairs_nil, pairK_some, q_pairs_cons, q_app, appK_own, q_frz, frzK_own, frzK_val, frzK_no, q_aug, augK_val, f_ix_lst, f_ix_tup, f_ix_scr, f_ix_str, Int.reduceToNat, List.getD_cons_zero, List.getD_cons_succ, q_forN, Int.toNat_natCast, f_in_sign, f_neg_int, f_is_non, f_isNot_non, isNon_non, isNon_tup, isNon_int, isNon_str, isNon_lst, isNon_dic, isNon_bl, isNon_obj, isB_tuple_tup, isB_list_lst, isB_str_tup, isB_str_lst, isB_str_non, isB_tuple_non, l__law_text_by_0, eN, em, hp]
  · refine ⟨c_MIX.getD (N / 3 % 21).toNat 0, List.all_eq_true.mp (show (c_MIX.all fun c => decide (c ∈ c_SIGNS)) = true by decide) _ (mem_at (by rw [e2]; omega)) |> of_decide_eq_true, .val (.int N), ?_⟩
    simp (disch := (first | with_reducible assumption | omega | ((try simp only [q_sl, List.length_append, List.length_map, List.length_cons, List.length_nil, and_true, true_and]); first | omega | decide))) only [bnd_pure, q_runF, fin_nx, fin_rt, q_var0, q_vars, q_C, q_bin, q_chain, chainK_bl, q_tru, truK_bl, truK_int, truK_lst, truK_tup, truK_non, truK_str, q_test, tstK_bl, q_and, q_or, q_not, q_andV, q_orV, q_notV, q_ifE, q_un, q_nil, q_cons, q_tup, q_lst, q_callF, q_call, q_meth, methK_obj, methO_some, q_isB, q_items, itemsK_str, itemsK_lst, itemsK_tup, q_range1, rangeK_int, q_nop, q_seq, seqK_nx, seqK_rt, seqK_bk, seqK_ct, q_if, q_ret, q_retN, q_drop, q_set, q_setOwn, q_for, q_for_nil, forK_nx, forK_ct, forK_bk, forK_rt, gd_true, lf_some, f_add_int, f_add_str, f_add_lst, f_add_tup, f_sub_int, f_mul_r, f_mul_l, f_mod, f_div, f_eq_str, f_eq_int, f_eq_bl, f_ne_str, f_ne_int, f_ne_bl, f_lt, f_le, f_gt, f_ge, f_in_sign, f_notIn_sign, f_is_bl, f_len_str, f_len_lst, f_len_tup, f_len_scr, f_len_dic, f_int_bl, f_int_int, List.length_cons, List.length_nil, List.length_replicate, List.length_set, List.set_cons_zero, List.set_cons_succ, List.getElem?_cons_zero, List.getElem?_cons_succ, Nat.reduceAdd, Nat.reduceLT, Nat.zero_lt_succ, Nat.lt_add_one, if_true, if_false, Bool.not_true, Bool.not_false, Bool.false_eq_true, reduceIte, decide_true, decide_false, reduceCtorEq, List.cons.injEq, Nat.reduceEqDiff, and_true, true_and, and_false, false_and, isB_str_str, isB_str_int, isB_str_bl, isB_int_int, isB_bool_int, isB_bool_bl, isB_int_bl, isB_int_str, isB_bool_str, f_join_nil, f_join_signs, f_all_map, f_any_map, f_lstrip, f_cut_str, f_cut_lst, f_cut_tup, q_while, q_bm, isTy_str, isTy_lst, isTy_dic, q_part, partK_int, q_noPart, q_cut, q_range2, range2K_int, q_get2, get2K_dic, key_str, key_int, q_dict, q_pairs_nil, pairK_some, q_pairs_cons, q_app, appK_own, q_frz, frzK_own, frzK_val, frzK_no, q_aug, augK_val, f_ix_lst, f_ix_tup, f_ix_scr, f_ix_str, Int.reduceToNat, List.getD_cons_zero, List.getD_cons_succ, q_forN, Int.toNat_natCast, f_in_sign, f_neg_int, f_is_non, f_isNot_non, isNon_non, isNon_tup, isNon_int, isNon_str, isNon_lst, isNon_dic, isNon_bl, isNon_obj, isB_tuple_tup, isB_list_lst, isB_str_tup, isB_str_lst, isB_str_non, isB_tuple_non, l__law_text_by_0, eN, em, hp]
theorem text_loop (k : Nat) (c m : Int) (sz : Sl) : ∀ (js : List Int) (s5 s6 : Sl) (found : List D), (∀ j ∈ js, 0 ≤ j ∧ j < 1000000000) → found.length + js.length ≤ 1000 →
    ∃ t : Tx, t.length = js.length ∧ (∀ x ∈ t, x ∈ c_SIGNS) ∧ ∃ s5' s6', forL (bName 5) (l__law_text_by_0 (Ψ (k + 1))) (js.map D.int) [.val (.int c), .val (.int m), .val (.str c_SIGNS), sz, .own (.lst found), s5, s6] =
      pure (.nx [.val (.int c), .val (.int m), .val (.str c_SIGNS), sz, .own (.lst (found ++ t.map fun x => .str [x])), s5', s6'])
  | [], s5, s6, found, _, _ => ⟨[], rfl, by simp, s5, s6, by simp [forL]⟩
  | j :: js, s5, s6, found, hj, hl => by
    rw [List.length_cons] at hl
    obtain ⟨x, hx, s6', e⟩ := text_step (Ψ := Ψ) k c m j sz s6 found (hj j (by simp)) (by omega)
    obtain ⟨t, tl, ht, a, b, e'⟩ := text_loop k c m sz js (.val (.int j)) s6' (found ++ [.str [x]]) (fun i hi => hj i (by simp [hi])) (by simp; omega)
    refine ⟨x :: t, by simp [tl], by simpa [hx] using ht, a, b, ?_⟩
    rw [List.map_cons, q_for_cons (ρ' := [.val (.int c), .val (.int m), .val (.str c_SIGNS), sz, .own (.lst found), .val (.int j), s6]) rfl, e]
    simp (disch := (first | with_reducible assumption | omega | ((try simp only [q_sl, List.length_append, List.length_map, List.length_cons, List.length_nil, and_true, true_and]); first | omega | decide))) only [bnd_pure, q_runF, fin_nx, fin_rt, q_var0, q_vars, q_C, q_bin, q_chain, chainK_bl, q_tru, truK_bl, truK_int, truK_lst, truK_tup, truK_non, truK_str, q_test, tstK_bl, q_and, q_or, q_not, q_andV, q_orV, q_notV, q_ifE, q_un, q_nil, q_cons, q_tup, q_lst, q_callF, q_call, q_meth, methK_obj, methO_some, q_isB, q_items, itemsK_str, itemsK_lst, itemsK_tup, q_range1, rangeK_int, q_nop, q_seq, seqK_nx, seqK_rt, seqK_bk, seqK_ct, q_if, q_ret, q_retN, q_drop, q_set, q_setOwn, q_for, q_for_nil, forK_nx, forK_ct, forK_bk, forK_rt, gd_true, lf_some, f_add_int, f_add_str, f_add_lst, f_add_tup, f_sub_int, f_mul_r, f_mul_l, f_mod, f_div, f_eq_str, f_eq_int, f_eq_bl, f_ne_str, f_ne_int, f_ne_bl, f_lt, f_le, f_gt, f_ge, f_in_sign, f_notIn_sign, f_is_bl, f_len_str, f_len_lst, f_len_tup, f_len_scr, f_len_dic, f_int_bl, f_int_int, List.length_cons, List.length_nil, List.length_replicate, List.length_set, List.set_cons_zero, List.set_cons_succ, List.getElem?_cons_zero, List.getElem?_cons_succ, Nat.reduceAdd, Nat.reduceLT, Nat.zero_lt_succ, Nat.lt_add_one, if_true, if_false, Bool.not_true, Bool.not_false, Bool.false_eq_true, reduceIte, decide_true, decide_false, reduceCtorEq, List.cons.injEq, Nat.reduceEqDiff, and_true, true_and, and_false, false_and, isB_str_str, isB_str_int, isB_str_bl, isB_int_int, isB_bool_int, isB_bool_bl, isB_int_bl, isB_int_str, isB_bool_str, f_join_nil, f_join_signs, f_all_map, f_any_map, f_lstrip, f_cut_str, f_cut_lst, f_cut_tup, q_while, q_bm, isTy_str, isTy_lst, isTy_dic, q_part, partK_int, q_noPart, q_cut, q_range2, range2K_int, q_get2, get2K_dic, key_str, key_int, q_dict, q_pairs_nil, pairK_some, q_pairs_cons, q_app, appK_own, q_frz, frzK_own, frzK_val, frzK_no, q_aug, augK_val, f_ix_lst, f_ix_tup, f_ix_scr, f_ix_str, Int.reduceToNat, List.getD_cons_zero, List.getD_cons_succ, q_forN, Int.toNat_natCast, f_in_sign, f_neg_int, f_is_non, f_isNot_non, isNon_non, isNon_tup, isNon_int, isNon_str, isNon_lst, isNon_dic, isNon_bl, isNon_obj, isB_tuple_tup, isB_list_lst, isB_str_tup, isB_str_lst, isB_str_non, isB_tuple_non]
    rw [e']
    simp
theorem rangeL_map (lo : Int) (n : Nat) : rangeL lo n = ((List.range n).map fun (i : Nat) => lo + (i : Int)).map D.int := by
  unfold rangeL
  rw [List.map_map]; rfl
def c_LAW : Tx := [97, 98, 99, 100, 101, 102, 103, 104, 105, 106, 107, 108, 109, 110, 111, 112, 113, 114, 115, 116, 117, 118, 119, 120, 121, 122, 65, 66, 67, 68, 69, 70, 71, 72, 73, 74, 75, 76, 77, 78, 79, 80, 81, 82, 83, 84, 85, 86, 87, 88, 89, 90, 48, 49, 50, 51, 52, 53, 54, 55, 56, 57]
def wf (c : Int) (j : Nat) : Nat := c_LAW.getD (mixF (c / 7) (j : Int) / 3 % 62).toNat 0
theorem s_word_by (k : Nat) (c : Int) (h : 0 ≤ c ∧ c < 2147483647) : ∃ t : Tx, (1 ≤ t.length ∧ t.length ≤ 40) ∧ (∀ x ∈ t, x ∈ c_AL) ∧ Ψ (k + 2) ._law_word_by [.int c] = pure (.str t) := by
  obtain ⟨n, hm, e⟩ := f_ix_ints [1 + c % 7, 1 + c % 40, 40] _ (mul_truth (c / 40 % 3) (decide (c / 120 % 3 = 1)) 3 (by omega))
  have hn : 1 ≤ n ∧ n ≤ 40 := by
    simp only [List.mem_cons, List.not_mem_nil, or_false] at hm
    omega
  have e : fIx (.lst [.int (1 + c % 7), .int (1 + c % 40), .int 40]) (.int (c / 40 % 3 * if decide (c / 120 % 3 = 1) = true then 1 else 0)) = pure (.int n) := e
  have hw := truth_small (decide (c / 120 % 3 = 1))
  have e1 : ((c_LAW.length : Nat) : Int) = 62 := by decide
  have hs : c_LAW.length ≤ 16777216 := by decide
  have em : [97, 98, 99, 100, 101, 102, 103, 104, 105, 106, 107, 108, 109, 110, 111, 112, 113, 114, 115, 116, 117, 118, 119, 120, 121, 122, 65, 66, 67, 68, 69, 70, 71, 72, 73, 74, 75, 76, 77, 78, 79, 80, 81, 82, 83, 84, 85, 86, 87, 88, 89, 90, 48, 49, 50, 51, 52, 53, 54, 55, 56, 57] = c_LAW := rfl
  refine ⟨(List.range n.toNat).map (wf c), by simp; omega, ?_, ?_⟩
  · intro x hx
    simp only [List.mem_map, List.mem_range] at hx
    obtain ⟨i, hi, rfl⟩ := hx
    unfold wf
    have hx : ∀ x ∈ c_LAW, x ∈ c_AL := by decide
    exact hx _ (mem_at (by rw [e1]; omega))
  · simp (disch := (first | with_reducible assumption | omega | ((try simp only [q_sl, List.length_append, List.length_map, List.length_cons, List.length_nil, and_true, true_and]); first | omega | decide))) only [bnd_pure, q_runF, fin_nx, fin_rt, q_var0, q_vars, q_C, q_bin, q_chain, chainK_bl, q_tru, truK_bl, truK_int, truK_lst, truK_tup, truK_non, truK_str, q_test, tstK_bl, q_and, q_or, q_not, q_andV, q_orV, q_notV, q_ifE, q_un, q_nil, q_cons, q_tup, q_lst, q_callF, q_call, q_meth, methK_obj, methO_some, q_isB, q_items, itemsK_str, itemsK_lst, itemsK_tup, q_range1, rangeK_int, q_nop, q_seq, seqK_nx, seqK_rt, seqK_bk, seqK_ct, q_if, q_ret, q_retN, q_drop, q_set, q_setOwn, q_for, q_for_nil, forK_nx, forK_ct, forK_bk, forK_rt, gd_true, lf_some, f_add_int, f_add_str, f_add_lst, f_add_tup, f_sub_int, f_mul_r, f_mul_l, f_mod, f_div, f_eq_str, f_eq_int, f_eq_bl, f_ne_str, f_ne_int, f_ne_bl, f_lt, f_le, f_gt, f_ge, f_in_sign, f_notIn_sign, f_is_bl, f_len_str, f_len_lst, f_len_tup, f_len_scr, f_len_dic, f_int_bl, f_int_int, List.length_cons, List.length_nil, List.length_replicate, List.length_set, List.set_cons_zero, List.set_cons_succ, List.getElem?_cons_zero, List.getElem?_cons_succ, Nat.reduceAdd, Nat.reduceLT, Nat.zero_lt_succ, Nat.lt_add_one, if_true, if_false, Bool.not_true, Bool.not_false, Bool.false_eq_true, reduceIte, decide_true, decide_false, reduceCtorEq, List.cons.injEq, Nat.reduceEqDiff, and_true, true_and, and_false, false_and, isB_str_str, isB_str_int, isB_str_bl, isB_int_int, isB_bool_int, isB_bool_bl, isB_int_bl, isB_int_str, isB_bool_str, f_join_nil, f_join_signs, f_all_map, f_any_map, f_lstrip, f_cut_str, f_cut_lst, f_cut_tup, q_while, q_bm, isTy_str, isTy_lst, isTy_dic, q_part, partK_int, q_noPart, q_cut, q_range2, range2K_int, q_get2, get2K_dic, key_str, key_int, q_dict, q_pairs_nil, pairK_some, q_pairs_cons, q_app, appK_own, q_frz, frzK_own, frzK_val, frzK_no, q_aug, augK_val, f_ix_lst, f_ix_tup, f_ix_scr, f_ix_str, Int.reduceToNat, List.getD_cons_zero, List.getD_cons_succ, q_forN, Int.toNat_natCast, f_in_sign, f_neg_int, f_is_non, f_isNot_non, isNon_non, isNon_tup, isNon_int, isNon_str, isNon_lst, isNon_dic, isNon_bl, isNon_obj, isB_tuple_tup, isB_list_lst, isB_str_tup, isB_str_lst, isB_str_non, isB_tuple_non, u__law_word_by, b__law_word_by, e, em, q_comp, wipeE]
    rw [rangeL_zero, compL_all (fun j => D.str [wf c j]) (fun j => [.val (.int c), .val (.str c_LAW), .val (.int n), .val (.int (j : Int))]) (fun _ _ => rfl) (fun j hj => by
      have hj := List.mem_range.mp hj
      have hb := mixF_ok (c / 7) (j : Int)
      unfold wf
      simp (disch := (first | with_reducible assumption | omega | ((try simp only [q_sl, List.length_append, List.length_map, List.length_cons, List.length_nil, and_true, true_and]); first | omega | decide))) only [bnd_pure, q_runF, fin_nx, fin_rt, q_var0, q_vars, q_C, q_bin, q_chain, chainK_bl, q_tru, truK_bl, truK_int, truK_lst, truK_tup, truK_non, truK_str, q_test, tstK_bl, q_and, q_or, q_not, q_andV, q_orV, q_notV, q_ifE, q_un, q_nil, q_cons, q_tup, q_lst, q_callF, q_call, q_meth, methK_obj, methO_some, q_isB, q_items, itemsK_str, itemsK_lst, itemsK_tup, q_range1, rangeK_int, q_nop, q_seq, seqK_nx, seqK_rt, seqK_bk, seqK_ct, q_if, q_ret, q_retN, q_drop, q_set, q_setOwn, q_for, q_for_nil, forK_nx, forK_ct, forK_bk, forK_rt, gd_true, lf_some, f_add_int, f_add_str, f_add_lst, f_add_tup, f_sub_int, f_mul_r, f_mul_l, f_mod, f_div, f_eq_str, f_eq_int, f_eq_bl, f_ne_str, f_ne_int, f_ne_bl, f_lt, f_le, f_gt, f_ge, f_in_sign, f_notIn_sign, f_is_bl, f_len_str, f_len_lst, f_len_tup, f_len_scr, f_len_dic, f_int_bl, f_int_int, List.length_cons, List.length_nil, List.length_replicate, List.length_set, List.set_cons_zero, List.set_cons_succ, List.getElem?_cons_zero, List.getElem?_cons_succ, Nat.reduceAdd, Nat.reduceLT, Nat.zero_lt_succ, Nat.lt_add_one, if_true, if_false, Bool.not_true, Bool.not_false, Bool.false_eq_true, reduceIte, decide_true, decide_false, reduceCtorEq, List.cons.injEq, Nat.reduceEqDiff, and_true, true_and, and_false, false_and, isB_str_str, isB_str_int, isB_str_bl, isB_int_int, isB_bool_int, isB_bool_bl, isB_int_bl, isB_int_str, isB_bool_str, f_join_nil, f_join_signs, f_all_map, f_any_map, f_lstrip, f_cut_str, f_cut_lst, f_cut_tup, q_while, q_bm, isTy_str, isTy_lst, isTy_dic, q_part, partK_int, q_noPart, q_cut, q_range2, range2K_int, q_get2, get2K_dic, key_str, key_int, q_dict, q_pairs_nil, pairK_some, q_pairs_cons, q_app, appK_own, q_frz, frzK_own, frzK_val, frzK_no, q_aug, augK_val, f_ix_lst, f_ix_tup, f_ix_scr, f_ix_str, Int.reduceToNat, List.getD_cons_zero, List.getD_cons_succ, q_forN, Int.toNat_natCast, f_in_sign, f_neg_int, f_is_non, f_isNot_non, isNon_non, isNon_tup, isNon_int, isNon_str, isNon_lst, isNon_dic, isNon_bl, isNon_obj, isB_tuple_tup, isB_list_lst, isB_str_tup, isB_str_lst, isB_str_non, isB_tuple_non, s_mixed]) (by simp; omega)]
    have e2 : ((List.range n.toNat).map fun j => D.str [wf c j]) = ((List.range n.toNat).map (wf c)).map fun c => D.str [c] := by rw [List.map_map]; rfl
    rw [e2]
    have hl : ((List.range n.toNat).map (wf c)).length ≤ 16777216 := by simp; omega
    simp (disch := (first | with_reducible assumption | omega | ((try simp only [q_sl, List.length_append, List.length_map, List.length_cons, List.length_nil, and_true, true_and]); first | omega | decide))) only [bnd_pure, q_runF, fin_nx, fin_rt, q_var0, q_vars, q_C, q_bin, q_chain, chainK_bl, q_tru, truK_bl, truK_int, truK_lst, truK_tup, truK_non, truK_str, q_test, tstK_bl, q_and, q_or, q_not, q_andV, q_orV, q_notV, q_ifE, q_un, q_nil, q_cons, q_tup, q_lst, q_callF, q_call, q_meth, methK_obj, methO_some, q_isB, q_items, itemsK_str, itemsK_lst, itemsK_tup, q_range1, rangeK_int, q_nop, q_seq, seqK_nx, seqK_rt, seqK_bk, seqK_ct, q_if, q_ret, q_retN, q_drop, q_set, q_setOwn, q_for, q_for_nil, forK_nx, forK_ct, forK_bk, forK_rt, gd_true, lf_some, f_add_int, f_add_str, f_add_lst, f_add_tup, f_sub_int, f_mul_r, f_mul_l, f_mod, f_div, f_eq_str, f_eq_int, f_eq_bl, f_ne_str, f_ne_int, f_ne_bl, f_lt, f_le, f_gt, f_ge, f_in_sign, f_notIn_sign, f_is_bl, f_len_str, f_len_lst, f_len_tup, f_len_scr, f_len_dic, f_int_bl, f_int_int, List.length_cons, List.length_nil, List.length_replicate, List.length_set, List.set_cons_zero, List.set_cons_succ, List.getElem?_cons_zero, List.getElem?_cons_succ, Nat.reduceAdd, Nat.reduceLT, Nat.zero_lt_succ, Nat.lt_add_one, if_true, if_false, Bool.not_true, Bool.not_false, Bool.false_eq_true, reduceIte, decide_true, decide_false, reduceCtorEq, List.cons.injEq, Nat.reduceEqDiff, and_true, true_and, and_false, false_and, isB_str_str, isB_str_int, isB_str_bl, isB_int_int, isB_bool_int, isB_bool_bl, isB_int_bl, isB_int_str, isB_bool_str, f_join_nil, f_join_signs, f_all_map, f_any_map, f_lstrip, f_cut_str, f_cut_lst, f_cut_tup, q_while, q_bm, isTy_str, isTy_lst, isTy_dic, q_part, partK_int, q_noPart, q_cut, q_range2, range2K_int, q_get2, get2K_dic, key_str, key_int, q_dict, q_pairs_nil, pairK_some, q_pairs_cons, q_app, appK_own, q_frz, frzK_own, frzK_val, frzK_no, q_aug, augK_val, f_ix_lst, f_ix_tup, f_ix_scr, f_ix_str, Int.reduceToNat, List.getD_cons_zero, List.getD_cons_succ, q_forN, Int.toNat_natCast, f_in_sign, f_neg_int, f_is_non, f_isNot_non, isNon_non, isNon_tup, isNon_int, isNon_str, isNon_lst, isNon_dic, isNon_bl, isNon_obj, isB_tuple_tup, isB_list_lst, isB_str_tup, isB_str_lst, isB_str_non, isB_tuple_non]
theorem s_number_by (k : Nat) (c : Int) (h : 0 ≤ c ∧ c < 2147483647) : ∃ n : Int, (-(10 ^ 30) < n ∧ n < 10 ^ 30) ∧ Ψ (k + 1) ._law_number_by [.int c] = pure (.int n) := by
  obtain ⟨n, hm, e⟩ := f_ix_ints [c % 201 - 100, c % 100003, 0, 0 - c % 1000000007, 10 ^ 30 - 1 - c % 2, c * 48271 ^ 4 % 10 ^ 30, 1 - 10 ^ 30] (c / 5 % 7) (by simp; omega)
  have p : fPow (.int 10) (.int 30) = pure (.int (10 ^ 30)) := by rfl
  have p' : fPow (.int 48271) (.int 4) = pure (.int (48271 ^ 4)) := by rfl
  refine ⟨n, ?_, ?_⟩
  · simp only [List.mem_cons, List.not_mem_nil, or_false] at hm
    omega
  · have e : fIx (.lst [.int (c % 201 - 100), .int (c % 100003), .int 0, .int (0 - c % 1000000007), .int (10 ^ 30 - 1 - c % 2), .int (c * 48271 ^ 4 % 10 ^ 30), .int (1 - 10 ^ 30)]) (.int (c / 5 % 7)) = pure (.int n) := e
    simp (disch := (first | with_reducible assumption | omega | ((try simp only [q_sl, List.length_append, List.length_map, List.length_cons, List.length_nil, and_true, true_and]); first | omega | decide))) only [bnd_pure, q_runF, fin_nx, fin_rt, q_var0, q_vars, q_C, q_bin, q_chain, chainK_bl, q_tru, truK_bl, truK_int, truK_lst, truK_tup, truK_non, truK_str, q_test, tstK_bl, q_and, q_or, q_not, q_andV, q_orV, q_notV, q_ifE, q_un, q_nil, q_cons, q_tup, q_lst, q_callF, q_call, q_meth, methK_obj, methO_some, q_isB, q_items, itemsK_str, itemsK_lst, itemsK_tup, q_range1, rangeK_int, q_nop, q_seq, seqK_nx, seqK_rt, seqK_bk, seqK_ct, q_if, q_ret, q_retN, q_drop, q_set, q_setOwn, q_for, q_for_nil, forK_nx, forK_ct, forK_bk, forK_rt, gd_true, lf_some, f_add_int, f_add_str, f_add_lst, f_add_tup, f_sub_int, f_mul_r, f_mul_l, f_mod, f_div, f_eq_str, f_eq_int, f_eq_bl, f_ne_str, f_ne_int, f_ne_bl, f_lt, f_le, f_gt, f_ge, f_in_sign, f_notIn_sign, f_is_bl, f_len_str, f_len_lst, f_len_tup, f_len_scr, f_len_dic, f_int_bl, f_int_int, List.length_cons, List.length_nil, List.length_replicate, List.length_set, List.set_cons_zero, List.set_cons_succ, List.getElem?_cons_zero, List.getElem?_cons_succ, Nat.reduceAdd, Nat.reduceLT, Nat.zero_lt_succ, Nat.lt_add_one, if_true, if_false, Bool.not_true, Bool.not_false, Bool.false_eq_true, reduceIte, decide_true, decide_false, reduceCtorEq, List.cons.injEq, Nat.reduceEqDiff, and_true, true_and, and_false, false_and, isB_str_str, isB_str_int, isB_str_bl, isB_int_int, isB_bool_int, isB_bool_bl, isB_int_bl, isB_int_str, isB_bool_str, f_join_nil, f_join_signs, f_all_map, f_any_map, f_lstrip, f_cut_str, f_cut_lst, f_cut_tup, q_while, q_bm, isTy_str, isTy_lst, isTy_dic, q_part, partK_int, q_noPart, q_cut, q_range2, range2K_int, q_get2, get2K_dic, key_str, key_int, q_dict, q_pairs_nil, pairK_some, q_pairs_cons, q_app, appK_own, q_frz, frzK_own, frzK_val, frzK_no, q_aug, augK_val, f_ix_lst, f_ix_tup, f_ix_scr, f_ix_str, Int.reduceToNat, List.getD_cons_zero, List.getD_cons_succ, q_forN, Int.toNat_natCast, f_in_sign, f_neg_int, f_is_non, f_isNot_non, isNon_non, isNon_tup, isNon_int, isNon_str, isNon_lst, isNon_dic, isNon_bl, isNon_obj, isB_tuple_tup, isB_list_lst, isB_str_tup, isB_str_lst, isB_str_non, isB_tuple_non, u__law_number_by, b__law_number_by, p, p', List.cons_append, List.nil_append, e]
theorem s_cell_at (k : Nat) (ns : List Int) (j : Int) (h : 0 ≤ j) : ∃ n : Int, Ψ (k + 1) ._law_cell_at [.scr ns, .int j] = pure (.int n) := by
  by_cases hj : j < (ns.length : Int)
  · exact ⟨ns.getD j.toNat 0, by simp (disch := (first | with_reducible assumption | omega | ((try simp only [q_sl, List.length_append, List.length_map, List.length_cons, List.length_nil, and_true, true_and]); first | omega | decide))) only [bnd_pure, q_runF, fin_nx, fin_rt, q_var0, q_vars, q_C, q_bin, q_chain, chainK_bl, q_tru, truK_bl, truK_int, truK_lst, truK_tup, truK_non, truK_str, q_test, tstK_bl, q_and, q_or, q_not, q_andV, q_orV, q_notV, q_ifE, q_un, q_nil, q_cons, q_tup, q_lst, q_callF, q_call, q_meth, methK_obj, methO_some, q_isB, q_items, itemsK_str, itemsK_lst, itemsK_tup, q_range1, rangeK_int, q_nop, q_seq, seqK_nx, seqK_rt, seqK_bk, seqK_ct, q_if, q_ret, q_retN, q_drop, q_set, q_setOwn, q_for, q_for_nil, forK_nx, forK_ct, forK_bk, forK_rt, gd_true, lf_some, f_add_int, f_add_str, f_add_lst, f_add_tup, f_sub_int, f_mul_r, f_mul_l, f_mod, f_div, f_eq_str, f_eq_int, f_eq_bl, f_ne_str, f_ne_int, f_ne_bl, f_lt, f_le, f_gt, f_ge, f_in_sign, f_notIn_sign, f_is_bl, f_len_str, f_len_lst, f_len_tup, f_len_scr, f_len_dic, f_int_bl, f_int_int, List.length_cons, List.length_nil, List.length_replicate, List.length_set, List.set_cons_zero, List.set_cons_succ, List.getElem?_cons_zero, List.getElem?_cons_succ, Nat.reduceAdd, Nat.reduceLT, Nat.zero_lt_succ, Nat.lt_add_one, if_true, if_false, Bool.not_true, Bool.not_false, Bool.false_eq_true, reduceIte, decide_true, decide_false, reduceCtorEq, List.cons.injEq, Nat.reduceEqDiff, and_true, true_and, and_false, false_and, isB_str_str, isB_str_int, isB_str_bl, isB_int_int, isB_bool_int, isB_bool_bl, isB_int_bl, isB_int_str, isB_bool_str, f_join_nil, f_join_signs, f_all_map, f_any_map, f_lstrip, f_cut_str, f_cut_lst, f_cut_tup, q_while, q_bm, isTy_str, isTy_lst, isTy_dic, q_part, partK_int, q_noPart, q_cut, q_range2, range2K_int, q_get2, get2K_dic, key_str, key_int, q_dict, q_pairs_nil, pairK_some, q_pairs_cons, q_app, appK_own, q_frz, frzK_own, frzK_val, frzK_no, q_aug, augK_val, f_ix_lst, f_ix_tup, f_ix_scr, f_ix_str, Int.reduceToNat, List.getD_cons_zero, List.getD_cons_succ, q_forN, Int.toNat_natCast, f_in_sign, f_neg_int, f_is_non, f_isNot_non, isNon_non, isNon_tup, isNon_int, isNon_str, isNon_lst, isNon_dic, isNon_bl, isNon_obj, isB_tuple_tup, isB_list_lst, isB_str_tup, isB_str_lst, isB_str_non, isB_tuple_non, u__law_cell_at, b__law_cell_at, hj]⟩
  · exact ⟨0, by simp (disch := (first | with_reducible assumption | omega | ((try simp only [q_sl, List.length_append, List.length_map, List.length_cons, List.length_nil, and_true, true_and]); first | omega | decide))) only [bnd_pure, q_runF, fin_nx, fin_rt, q_var0, q_vars, q_C, q_bin, q_chain, chainK_bl, q_tru, truK_bl, truK_int, truK_lst, truK_tup, truK_non, truK_str, q_test, tstK_bl, q_and, q_or, q_not, q_andV, q_orV, q_notV, q_ifE, q_un, q_nil, q_cons, q_tup, q_lst, q_callF, q_call, q_meth, methK_obj, methO_some, q_isB, q_items, itemsK_str, itemsK_lst, itemsK_tup, q_range1, rangeK_int, q_nop, q_seq, seqK_nx, seqK_rt, seqK_bk, seqK_ct, q_if, q_ret, q_retN, q_drop, q_set, q_setOwn, q_for, q_for_nil, forK_nx, forK_ct, forK_bk, forK_rt, gd_true, lf_some, f_add_int, f_add_str, f_add_lst, f_add_tup, f_sub_int, f_mul_r, f_mul_l, f_mod, f_div, f_eq_str, f_eq_int, f_eq_bl, f_ne_str, f_ne_int, f_ne_bl, f_lt, f_le, f_gt, f_ge, f_in_sign, f_notIn_sign, f_is_bl, f_len_str, f_len_lst, f_len_tup, f_len_scr, f_len_dic, f_int_bl, f_int_int, List.length_cons, List.length_nil, List.length_replicate, List.length_set, List.set_cons_zero, List.set_cons_succ, List.getElem?_cons_zero, List.getElem?_cons_succ, Nat.reduceAdd, Nat.reduceLT, Nat.zero_lt_succ, Nat.lt_add_one, if_true, if_false, Bool.not_true, Bool.not_false, Bool.false_eq_true, reduceIte, decide_true, decide_false, reduceCtorEq, List.cons.injEq, Nat.reduceEqDiff, and_true, true_and, and_false, false_and, isB_str_str, isB_str_int, isB_str_bl, isB_int_int, isB_bool_int, isB_bool_bl, isB_int_bl, isB_int_str, isB_bool_str, f_join_nil, f_join_signs, f_all_map, f_any_map, f_lstrip, f_cut_str, f_cut_lst, f_cut_tup, q_while, q_bm, isTy_str, isTy_lst, isTy_dic, q_part, partK_int, q_noPart, q_cut, q_range2, range2K_int, q_get2, get2K_dic, key_str, key_int, q_dict, q_pairs_nil, pairK_some, q_pairs_cons, q_app, appK_own, q_frz, frzK_own, frzK_val, frzK_no, q_aug, augK_val, f_ix_lst, f_ix_tup, f_ix_scr, f_ix_str, Int.reduceToNat, List.getD_cons_zero, List.getD_cons_succ, q_forN, Int.toNat_natCast, f_in_sign, f_neg_int, f_is_non, f_isNot_non, isNon_non, isNon_tup, isNon_int, isNon_str, isNon_lst, isNon_dic, isNon_bl, isNon_obj, isB_tuple_tup, isB_list_lst, isB_str_tup, isB_str_lst, isB_str_non, isB_tuple_non, u__law_cell_at, b__law_cell_at, hj]⟩
def w_word : Tx := [119, 111, 114, 100]
def w_number : Tx := [110, 117, 109, 98, 101, 114]
def w_quoted : Tx := [113, 117, 111, 116, 101, 100]
def w_plain : Tx := [112, 108, 97, 105, 110]
def w_line : Tx := [108, 105, 110, 101]
theorem eq_nil_lst : fEq (.lst []) (.lst []) = pure (.bl true) := rfl
/-- none of the signs among the ends -/
theorem s_law_ends (k : Nat) (w : Tx) (h1 : w ≠ w_plain) (h2 : w ≠ w_line) (e : Tx) (he : (valD (mergeD [] [(.inr w_word, D.str c_LAW), (.inr w_number, D.str c_FIGURES)]) (.inr w)).getD (D.str []) = .str e) : Ψ (k + 2) ._law_ends [.str w] = pure (.str (c_SIGNS.filter fun c => !decide (c ∈ e))) := by
  have n1 : [112, 108, 97, 105, 110] = w_plain := rfl
  have n2 : [108, 105, 110, 101] = w_line := rfl
  have n3 : [119, 111, 114, 100] = w_word := rfl
  have n4 : [110, 117, 109, 98, 101, 114] = w_number := rfl
  have n5 : [48, 49, 50, 51, 52, 53, 54, 55, 56, 57] = c_FIGURES := rfl
  have n6 : [97, 98, 99, 100, 101, 102, 103, 104, 105, 106, 107, 108, 109, 110, 111, 112, 113, 114, 115, 116, 117, 118, 119, 120, 121, 122, 65, 66, 67, 68, 69, 70, 71, 72, 73, 74, 75, 76, 77, 78, 79, 80, 81, 82, 83, 84, 85, 86, 87, 88, 89, 90, 48, 49, 50, 51, 52, 53, 54, 55, 56, 57] = c_LAW := rfl
  simp (disch := (first | with_reducible assumption | omega | ((try simp only [q_sl, List.length_append, List.length_map, List.length_cons, List.length_nil, and_true, true_and]); first | omega | decide))) only [bnd_pure, q_runF, fin_nx, fin_rt, q_var0, q_vars, q_C, q_bin, q_chain, chainK_bl, q_tru, truK_bl, truK_int, truK_lst, truK_tup, truK_non, truK_str, q_test, tstK_bl, q_and, q_or, q_not, q_andV, q_orV, q_notV, q_ifE, q_un, q_nil, q_cons, q_tup, q_lst, q_callF, q_call, q_meth, methK_obj, methO_some, q_isB, q_items, itemsK_str, itemsK_lst, itemsK_tup, q_range1, rangeK_int, q_nop, q_seq, seqK_nx, seqK_rt, seqK_bk, seqK_ct, q_if, q_ret, q_retN, q_drop, q_set, q_setOwn, q_for, q_for_nil, forK_nx, forK_ct, forK_bk, forK_rt, gd_true, lf_some, f_add_int, f_add_str, f_add_lst, f_add_tup, f_sub_int, f_mul_r, f_mul_l, f_mod, f_div, f_eq_str, f_eq_int, f_eq_bl, f_ne_str, f_ne_int, f_ne_bl, f_lt, f_le, f_gt, f_ge, f_in_sign, f_notIn_sign, f_is_bl, f_len_str, f_len_lst, f_len_tup, f_len_scr, f_len_dic, f_int_bl, f_int_int, List.length_cons, List.length_nil, List.length_replicate, List.length_set, List.set_cons_zero, List.set_cons_succ, List.getElem?_cons_zero, List.getElem?_cons_succ, Nat.reduceAdd, Nat.reduceLT, Nat.zero_lt_succ, Nat.lt_add_one, if_true, if_false, Bool.not_true, Bool.not_false, Bool.false_eq_true, reduceIte, decide_true, decide_false, reduceCtorEq, List.cons.injEq, Nat.reduceEqDiff, and_true, true_and, and_false, false_and, isB_str_str, isB_str_int, isB_str_bl, isB_int_int, isB_bool_int, isB_bool_bl, isB_int_bl, isB_int_str, isB_bool_str, f_join_nil, f_join_signs, f_all_map, f_any_map, f_lstrip, f_cut_str, f_cut_lst, f_cut_tup, q_while, q_bm, isTy_str, isTy_lst, isTy_dic, q_part, partK_int, q_noPart, q_cut, q_range2, range2K_int, q_get2, get2K_dic, key_str, key_int, q_dict, q_pairs_nil, pairK_some, q_pairs_cons, q_app, appK_own, q_frz, frzK_own, frzK_val, frzK_no, q_aug, augK_val, f_ix_lst, f_ix_tup, f_ix_scr, f_ix_str, Int.reduceToNat, List.getD_cons_zero, List.getD_cons_succ, q_forN, Int.toNat_natCast, f_in_sign, f_neg_int, f_is_non, f_isNot_non, isNon_non, isNon_tup, isNon_int, isNon_str, isNon_lst, isNon_dic, isNon_bl, isNon_obj, isB_tuple_tup, isB_list_lst, isB_str_tup, isB_str_lst, isB_str_non, isB_tuple_non, u__law_ends, b__law_ends, n1, n2, n3, n4, n5, n6, h1, h2, s_law_signs, q_comp, wipeE]
  rw [compL_map (fun c => !decide (c ∈ e)) (fun c => D.str [c]) (fun c => [.val (.str w), .val (.dic (mergeD [] [(.inr w_word, D.str c_LAW), (.inr w_number, D.str c_FIGURES)])), .val (.str [c])]) (fun _ _ => rfl) (fun c _ => by simp (disch := (first | with_reducible assumption | omega | ((try simp only [q_sl, List.length_append, List.length_map, List.length_cons, List.length_nil, and_true, true_and]); first | omega | decide))) only [bnd_pure, q_runF, fin_nx, fin_rt, q_var0, q_vars, q_C, q_bin, q_chain, chainK_bl, q_tru, truK_bl, truK_int, truK_lst, truK_tup, truK_non, truK_str, q_test, tstK_bl, q_and, q_or, q_not, q_andV, q_orV, q_notV, q_ifE, q_un, q_nil, q_cons, q_tup, q_lst, q_callF, q_call, q_meth, methK_obj, methO_some, q_isB, q_items, itemsK_str, itemsK_lst, itemsK_tup, q_range1, rangeK_int, q_nop, q_seq, seqK_nx, seqK_rt, seqK_bk, seqK_ct, q_if, q_ret, q_retN, q_drop, q_set, q_setOwn, q_for, q_for_nil, forK_nx, forK_ct, forK_bk, forK_rt, gd_true, lf_some, f_add_int, f_add_str, f_add_lst, f_add_tup, f_sub_int, f_mul_r, f_mul_l, f_mod, f_div, f_eq_str, f_eq_int, f_eq_bl, f_ne_str, f_ne_int, f_ne_bl, f_lt, f_le, f_gt, f_ge, f_in_sign, f_notIn_sign, f_is_bl, f_len_str, f_len_lst, f_len_tup, f_len_scr, f_len_dic, f_int_bl, f_int_int, List.length_cons, List.length_nil, List.length_replicate, List.length_set, List.set_cons_zero, List.set_cons_succ, List.getElem?_cons_zero, List.getElem?_cons_succ, Nat.reduceAdd, Nat.reduceLT, Nat.zero_lt_succ, Nat.lt_add_one, if_true, if_false, Bool.not_true, Bool.not_false, Bool.false_eq_true, reduceIte, decide_true, decide_false, reduceCtorEq, List.cons.injEq, Nat.reduceEqDiff, and_true, true_and, and_false, false_and, isB_str_str, isB_str_int, isB_str_bl, isB_int_int, isB_bool_int, isB_bool_bl, isB_int_bl, isB_int_str, isB_bool_str, f_join_nil, f_join_signs, f_all_map, f_any_map, f_lstrip, f_cut_str, f_cut_lst, f_cut_tup, q_while, q_bm, isTy_str, isTy_lst, isTy_dic, q_part, partK_int, q_noPart, q_cut, q_range2, range2K_int, q_get2, get2K_dic, key_str, key_int, q_dict, q_pairs_nil, pairK_some, q_pairs_cons, q_app, appK_own, q_frz, frzK_own, frzK_val, frzK_no, q_aug, augK_val, f_ix_lst, f_ix_tup, f_ix_scr, f_ix_str, Int.reduceToNat, List.getD_cons_zero, List.getD_cons_succ, q_forN, Int.toNat_natCast, f_in_sign, f_neg_int, f_is_non, f_isNot_non, isNon_non, isNon_tup, isNon_int, isNon_str, isNon_lst, isNon_dic, isNon_bl, isNon_obj, isB_tuple_tup, isB_list_lst, isB_str_tup, isB_str_lst, isB_str_non, isB_tuple_non, he]) (fun c _ _ => by simp (disch := (first | with_reducible assumption | omega | ((try simp only [q_sl, List.length_append, List.length_map, List.length_cons, List.length_nil, and_true, true_and]); first | omega | decide))) only [bnd_pure, q_runF, fin_nx, fin_rt, q_var0, q_vars, q_C, q_bin, q_chain, chainK_bl, q_tru, truK_bl, truK_int, truK_lst, truK_tup, truK_non, truK_str, q_test, tstK_bl, q_and, q_or, q_not, q_andV, q_orV, q_notV, q_ifE, q_un, q_nil, q_cons, q_tup, q_lst, q_callF, q_call, q_meth, methK_obj, methO_some, q_isB, q_items, itemsK_str, itemsK_lst, itemsK_tup, q_range1, rangeK_int, q_nop, q_seq, seqK_nx, seqK_rt, seqK_bk, seqK_ct, q_if, q_ret, q_retN, q_drop, q_set, q_setOwn, q_for, q_for_nil, forK_nx, forK_ct, forK_bk, forK_rt, gd_true, lf_some, f_add_int, f_add_str, f_add_lst, f_add_tup, f_sub_int, f_mul_r, f_mul_l, f_mod, f_div, f_eq_str, f_eq_int, f_eq_bl, f_ne_str, f_ne_int, f_ne_bl, f_lt, f_le, f_gt, f_ge, f_in_sign, f_notIn_sign, f_is_bl, f_len_str, f_len_lst, f_len_tup, f_len_scr, f_len_dic, f_int_bl, f_int_int, List.length_cons, List.length_nil, List.length_replicate, List.length_set, List.set_cons_zero, List.set_cons_succ, List.getElem?_cons_zero, List.getElem?_cons_succ, Nat.reduceAdd, Nat.reduceLT, Nat.zero_lt_succ, Nat.lt_add_one, if_true, if_false, Bool.not_true, Bool.not_false, Bool.false_eq_true, reduceIte, decide_true, decide_false, reduceCtorEq, List.cons.injEq, Nat.reduceEqDiff, and_true, true_and, and_false, false_and, isB_str_str, isB_str_int, isB_str_bl, isB_int_int, isB_bool_int, isB_bool_bl, isB_int_bl, isB_int_str, isB_bool_str, f_join_nil, f_join_signs, f_all_map, f_any_map, f_lstrip, f_cut_str, f_cut_lst, f_cut_tup, q_while, q_bm, isTy_str, isTy_lst, isTy_dic, q_part, partK_int, q_noPart, q_cut, q_range2, range2K_int, q_get2, get2K_dic, key_str, key_int, q_dict, q_pairs_nil, pairK_some, q_pairs_cons, q_app, appK_own, q_frz, frzK_own, frzK_val, frzK_no, q_aug, augK_val, f_ix_lst, f_ix_tup, f_ix_scr, f_ix_str, Int.reduceToNat, List.getD_cons_zero, List.getD_cons_succ, q_forN, Int.toNat_natCast, f_in_sign, f_neg_int, f_is_non, f_isNot_non, isNon_non, isNon_tup, isNon_int, isNon_str, isNon_lst, isNon_dic, isNon_bl, isNon_obj, isB_tuple_tup, isB_list_lst, isB_str_tup, isB_str_lst, isB_str_non, isB_tuple_non]) (by decide)]
  have hz : (c_SIGNS.filter fun c => !decide (c ∈ e)).length ≤ 16777216 := Nat.le_trans (List.length_filter_le _ _) (by decide)
  simp (disch := (first | with_reducible assumption | omega | ((try simp only [q_sl, List.length_append, List.length_map, List.length_cons, List.length_nil, and_true, true_and]); first | omega | decide))) only [bnd_pure, q_runF, fin_nx, fin_rt, q_var0, q_vars, q_C, q_bin, q_chain, chainK_bl, q_tru, truK_bl, truK_int, truK_lst, truK_tup, truK_non, truK_str, q_test, tstK_bl, q_and, q_or, q_not, q_andV, q_orV, q_notV, q_ifE, q_un, q_nil, q_cons, q_tup, q_lst, q_callF, q_call, q_meth, methK_obj, methO_some, q_isB, q_items, itemsK_str, itemsK_lst, itemsK_tup, q_range1, rangeK_int, q_nop, q_seq, seqK_nx, seqK_rt, seqK_bk, seqK_ct, q_if, q_ret, q_retN, q_drop, q_set, q_setOwn, q_for, q_for_nil, forK_nx, forK_ct, forK_bk, forK_rt, gd_true, lf_some, f_add_int, f_add_str, f_add_lst, f_add_tup, f_sub_int, f_mul_r, f_mul_l, f_mod, f_div, f_eq_str, f_eq_int, f_eq_bl, f_ne_str, f_ne_int, f_ne_bl, f_lt, f_le, f_gt, f_ge, f_in_sign, f_notIn_sign, f_is_bl, f_len_str, f_len_lst, f_len_tup, f_len_scr, f_len_dic, f_int_bl, f_int_int, List.length_cons, List.length_nil, List.length_replicate, List.length_set, List.set_cons_zero, List.set_cons_succ, List.getElem?_cons_zero, List.getElem?_cons_succ, Nat.reduceAdd, Nat.reduceLT, Nat.zero_lt_succ, Nat.lt_add_one, if_true, if_false, Bool.not_true, Bool.not_false, Bool.false_eq_true, reduceIte, decide_true, decide_false, reduceCtorEq, List.cons.injEq, Nat.reduceEqDiff, and_true, true_and, and_false, false_and, isB_str_str, isB_str_int, isB_str_bl, isB_int_int, isB_bool_int, isB_bool_bl, isB_int_bl, isB_int_str, isB_bool_str, f_join_nil, f_join_signs, f_all_map, f_any_map, f_lstrip, f_cut_str, f_cut_lst, f_cut_tup, q_while, q_bm, isTy_str, isTy_lst, isTy_dic, q_part, partK_int, q_noPart, q_cut, q_range2, range2K_int, q_get2, get2K_dic, key_str, key_int, q_dict, q_pairs_nil, pairK_some, q_pairs_cons, q_app, appK_own, q_frz, frzK_own, frzK_val, frzK_no, q_aug, augK_val, f_ix_lst, f_ix_tup, f_ix_scr, f_ix_str, Int.reduceToNat, List.getD_cons_zero, List.getD_cons_succ, q_forN, Int.toNat_natCast, f_in_sign, f_neg_int, f_is_non, f_isNot_non, isNon_non, isNon_tup, isNon_int, isNon_str, isNon_lst, isNon_dic, isNon_bl, isNon_obj, isB_tuple_tup, isB_list_lst, isB_str_tup, isB_str_lst, isB_str_non, isB_tuple_non]
theorem s_law_ends_plain (k : Nat) : Ψ (k + 1) ._law_ends [.str w_plain] = pure (.str c_PLAIN_ENDS) := by
  simp (disch := (first | with_reducible assumption | omega | ((try simp only [q_sl, List.length_append, List.length_map, List.length_cons, List.length_nil, and_true, true_and]); first | omega | decide))) only [bnd_pure, q_runF, fin_nx, fin_rt, q_var0, q_vars, q_C, q_bin, q_chain, chainK_bl, q_tru, truK_bl, truK_int, truK_lst, truK_tup, truK_non, truK_str, q_test, tstK_bl, q_and, q_or, q_not, q_andV, q_orV, q_notV, q_ifE, q_un, q_nil, q_cons, q_tup, q_lst, q_callF, q_call, q_meth, methK_obj, methO_some, q_isB, q_items, itemsK_str, itemsK_lst, itemsK_tup, q_range1, rangeK_int, q_nop, q_seq, seqK_nx, seqK_rt, seqK_bk, seqK_ct, q_if, q_ret, q_retN, q_drop, q_set, q_setOwn, q_for, q_for_nil, forK_nx, forK_ct, forK_bk, forK_rt, gd_true, lf_some, f_add_int, f_add_str, f_add_lst, f_add_tup, f_sub_int, f_mul_r, f_mul_l, f_mod, f_div, f_eq_str, f_eq_int, f_eq_bl, f_ne_str, f_ne_int, f_ne_bl, f_lt, f_le, f_gt, f_ge, f_in_sign, f_notIn_sign, f_is_bl, f_len_str, f_len_lst, f_len_tup, f_len_scr, f_len_dic, f_int_bl, f_int_int, List.length_cons, List.length_nil, List.length_replicate, List.length_set, List.set_cons_zero, List.set_cons_succ, List.getElem?_cons_zero, List.getElem?_cons_succ, Nat.reduceAdd, Nat.reduceLT, Nat.zero_lt_succ, Nat.lt_add_one, if_true, if_false, Bool.not_true, Bool.not_false, Bool.false_eq_true, reduceIte, decide_true, decide_false, reduceCtorEq, List.cons.injEq, Nat.reduceEqDiff, and_true, true_and, and_false, false_and, isB_str_str, isB_str_int, isB_str_bl, isB_int_int, isB_bool_int, isB_bool_bl, isB_int_bl, isB_int_str, isB_bool_str, f_join_nil, f_join_signs, f_all_map, f_any_map, f_lstrip, f_cut_str, f_cut_lst, f_cut_tup, q_while, q_bm, isTy_str, isTy_lst, isTy_dic, q_part, partK_int, q_noPart, q_cut, q_range2, range2K_int, q_get2, get2K_dic, key_str, key_int, q_dict, q_pairs_nil, pairK_some, q_pairs_cons, q_app, appK_own, q_frz, frzK_own, frzK_val, frzK_no, q_aug, augK_val, f_ix_lst, f_ix_tup, f_ix_scr, f_ix_str, Int.reduceToNat, List.getD_cons_zero, List.getD_cons_succ, q_forN, Int.toNat_natCast, f_in_sign, f_neg_int, f_is_non, f_isNot_non, isNon_non, isNon_tup, isNon_int, isNon_str, isNon_lst, isNon_dic, isNon_bl, isNon_obj, isB_tuple_tup, isB_list_lst, isB_str_tup, isB_str_lst, isB_str_non, isB_tuple_non, u__law_ends, b__law_ends, w_plain]
  rfl
theorem s_law_ends_line (k : Nat) : Ψ (k + 1) ._law_ends [.str w_line] = pure (.str [10]) := by
  simp (disch := (first | with_reducible assumption | omega | ((try simp only [q_sl, List.length_append, List.length_map, List.length_cons, List.length_nil, and_true, true_and]); first | omega | decide))) only [bnd_pure, q_runF, fin_nx, fin_rt, q_var0, q_vars, q_C, q_bin, q_chain, chainK_bl, q_tru, truK_bl, truK_int, truK_lst, truK_tup, truK_non, truK_str, q_test, tstK_bl, q_and, q_or, q_not, q_andV, q_orV, q_notV, q_ifE, q_un, q_nil, q_cons, q_tup, q_lst, q_callF, q_call, q_meth, methK_obj, methO_some, q_isB, q_items, itemsK_str, itemsK_lst, itemsK_tup, q_range1, rangeK_int, q_nop, q_seq, seqK_nx, seqK_rt, seqK_bk, seqK_ct, q_if, q_ret, q_retN, q_drop, q_set, q_setOwn, q_for, q_for_nil, forK_nx, forK_ct, forK_bk, forK_rt, gd_true, lf_some, f_add_int, f_add_str, f_add_lst, f_add_tup, f_sub_int, f_mul_r, f_mul_l, f_mod, f_div, f_eq_str, f_eq_int, f_eq_bl, f_ne_str, f_ne_int, f_ne_bl, f_lt, f_le, f_gt, f_ge, f_in_sign, f_notIn_sign, f_is_bl, f_len_str, f_len_lst, f_len_tup, f_len_scr, f_len_dic, f_int_bl, f_int_int, List.length_cons, List.length_nil, List.length_replicate, List.length_set, List.set_cons_zero, List.set_cons_succ, List.getElem?_cons_zero, List.getElem?_cons_succ, Nat.reduceAdd, Nat.reduceLT, Nat.zero_lt_succ, Nat.lt_add_one, if_true, if_false, Bool.not_true, Bool.not_false, Bool.false_eq_true, reduceIte, decide_true, decide_false, reduceCtorEq, List.cons.injEq, Nat.reduceEqDiff, and_true, true_and, and_false, false_and, isB_str_str, isB_str_int, isB_str_bl, isB_int_int, isB_bool_int, isB_bool_bl, isB_int_bl, isB_int_str, isB_bool_str, f_join_nil, f_join_signs, f_all_map, f_any_map, f_lstrip, f_cut_str, f_cut_lst, f_cut_tup, q_while, q_bm, isTy_str, isTy_lst, isTy_dic, q_part, partK_int, q_noPart, q_cut, q_range2, range2K_int, q_get2, get2K_dic, key_str, key_int, q_dict, q_pairs_nil, pairK_some, q_pairs_cons, q_app, appK_own, q_frz, frzK_own, frzK_val, frzK_no, q_aug, augK_val, f_ix_lst, f_ix_tup, f_ix_scr, f_ix_str, Int.reduceToNat, List.getD_cons_zero, List.getD_cons_succ, q_forN, Int.toNat_natCast, f_in_sign, f_neg_int, f_is_non, f_isNot_non, isNon_non, isNon_tup, isNon_int, isNon_str, isNon_lst, isNon_dic, isNon_bl, isNon_obj, isB_tuple_tup, isB_list_lst, isB_str_tup, isB_str_lst, isB_str_non, isB_tuple_non, u__law_ends, b__law_ends, w_line]
def e_w : Tx := c_SIGNS.filter fun c => !decide (c ∈ c_AL)
def e_n : Tx := c_SIGNS.filter fun c => !decide (c ∈ c_FIGURES)
def words : D := .lst [.str w_word, .str w_number, .str w_quoted, .str w_plain, .str w_line]
theorem way_w (k : Nat) : Ψ (k + 1) .way_of [.str w_word] = pure (.obj 4) := by simp (disch := (first | with_reducible assumption | omega | ((try simp only [q_sl, List.length_append, List.length_map, List.length_cons, List.length_nil, and_true, true_and]); first | omega | decide))) only [bnd_pure, q_runF, fin_nx, fin_rt, q_var0, q_vars, q_C, q_bin, q_chain, chainK_bl, q_tru, truK_bl, truK_int, truK_lst, truK_tup, truK_non, truK_str, q_test, tstK_bl, q_and, q_or, q_not, q_andV, q_orV, q_notV, q_ifE, q_un, q_nil, q_cons, q_tup, q_lst, q_callF, q_call, q_meth, methK_obj, methO_some, q_isB, q_items, itemsK_str, itemsK_lst, itemsK_tup, q_range1, rangeK_int, q_nop, q_seq, seqK_nx, seqK_rt, seqK_bk, seqK_ct, q_if, q_ret, q_retN, q_drop, q_set, q_setOwn, q_for, q_for_nil, forK_nx, forK_ct, forK_bk, forK_rt, gd_true, lf_some, f_add_int, f_add_str, f_add_lst, f_add_tup, f_sub_int, f_mul_r, f_mul_l, f_mod, f_div, f_eq_str, f_eq_int, f_eq_bl, f_ne_str, f_ne_int, f_ne_bl, f_lt, f_le, f_gt, f_ge, f_in_sign, f_notIn_sign, f_is_bl, f_len_str, f_len_lst, f_len_tup, f_len_scr, f_len_dic, f_int_bl, f_int_int, List.length_cons, List.length_nil, List.length_replicate, List.length_set, List.set_cons_zero, List.set_cons_succ, List.getElem?_cons_zero, List.getElem?_cons_succ, Nat.reduceAdd, Nat.reduceLT, Nat.zero_lt_succ, Nat.lt_add_one, if_true, if_false, Bool.not_true, Bool.not_false, Bool.false_eq_true, reduceIte, decide_true, decide_false, reduceCtorEq, List.cons.injEq, Nat.reduceEqDiff, and_true, true_and, and_false, false_and, isB_str_str, isB_str_int, isB_str_bl, isB_int_int, isB_bool_int, isB_bool_bl, isB_int_bl, isB_int_str, isB_bool_str, f_join_nil, f_join_signs, f_all_map, f_any_map, f_lstrip, f_cut_str, f_cut_lst, f_cut_tup, q_while, q_bm, isTy_str, isTy_lst, isTy_dic, q_part, partK_int, q_noPart, q_cut, q_range2, range2K_int, q_get2, get2K_dic, key_str, key_int, q_dict, q_pairs_nil, pairK_some, q_pairs_cons, q_app, appK_own, q_frz, frzK_own, frzK_val, frzK_no, q_aug, augK_val, f_ix_lst, f_ix_tup, f_ix_scr, f_ix_str, Int.reduceToNat, List.getD_cons_zero, List.getD_cons_succ, q_forN, Int.toNat_natCast, f_in_sign, f_neg_int, f_is_non, f_isNot_non, isNon_non, isNon_tup, isNon_int, isNon_str, isNon_lst, isNon_dic, isNon_bl, isNon_obj, isB_tuple_tup, isB_list_lst, isB_str_tup, isB_str_lst, isB_str_non, isB_tuple_non, u_way_of, b_way_of, w_word]
theorem way_n (k : Nat) : Ψ (k + 1) .way_of [.str w_number] = pure (.obj 5) := by simp (disch := (first | with_reducible assumption | omega | ((try simp only [q_sl, List.length_append, List.length_map, List.length_cons, List.length_nil, and_true, true_and]); first | omega | decide))) only [bnd_pure, q_runF, fin_nx, fin_rt, q_var0, q_vars, q_C, q_bin, q_chain, chainK_bl, q_tru, truK_bl, truK_int, truK_lst, truK_tup, truK_non, truK_str, q_test, tstK_bl, q_and, q_or, q_not, q_andV, q_orV, q_notV, q_ifE, q_un, q_nil, q_cons, q_tup, q_lst, q_callF, q_call, q_meth, methK_obj, methO_some, q_isB, q_items, itemsK_str, itemsK_lst, itemsK_tup, q_range1, rangeK_int, q_nop, q_seq, seqK_nx, seqK_rt, seqK_bk, seqK_ct, q_if, q_ret, q_retN, q_drop, q_set, q_setOwn, q_for, q_for_nil, forK_nx, forK_ct, forK_bk, forK_rt, gd_true, lf_some, f_add_int, f_add_str, f_add_lst, f_add_tup, f_sub_int, f_mul_r, f_mul_l, f_mod, f_div, f_eq_str, f_eq_int, f_eq_bl, f_ne_str, f_ne_int, f_ne_bl, f_lt, f_le, f_gt, f_ge, f_in_sign, f_notIn_sign, f_is_bl, f_len_str, f_len_lst, f_len_tup, f_len_scr, f_len_dic, f_int_bl, f_int_int, List.length_cons, List.length_nil, List.length_replicate, List.length_set, List.set_cons_zero, List.set_cons_succ, List.getElem?_cons_zero, List.getElem?_cons_succ, Nat.reduceAdd, Nat.reduceLT, Nat.zero_lt_succ, Nat.lt_add_one, if_true, if_false, Bool.not_true, Bool.not_false, Bool.false_eq_true, reduceIte, decide_true, decide_false, reduceCtorEq, List.cons.injEq, Nat.reduceEqDiff, and_true, true_and, and_false, false_and, isB_str_str, isB_str_int, isB_str_bl, isB_int_int, isB_bool_int, isB_bool_bl, isB_int_bl, isB_int_str, isB_bool_str, f_join_nil, f_join_signs, f_all_map, f_any_map, f_lstrip, f_cut_str, f_cut_lst, f_cut_tup, q_while, q_bm, isTy_str, isTy_lst, isTy_dic, q_part, partK_int, q_noPart, q_cut, q_range2, range2K_int, q_get2, get2K_dic, key_str, key_int, q_dict, q_pairs_nil, pairK_some, q_pairs_cons, q_app, appK_own, q_frz, frzK_own, frzK_val, frzK_no, q_aug, augK_val, f_ix_lst, f_ix_tup, f_ix_scr, f_ix_str, Int.reduceToNat, List.getD_cons_zero, List.getD_cons_succ, q_forN, Int.toNat_natCast, f_in_sign, f_neg_int, f_is_non, f_isNot_non, isNon_non, isNon_tup, isNon_int, isNon_str, isNon_lst, isNon_dic, isNon_bl, isNon_obj, isB_tuple_tup, isB_list_lst, isB_str_tup, isB_str_lst, isB_str_non, isB_tuple_non, u_way_of, b_way_of, w_number]
theorem way_q (k : Nat) : Ψ (k + 1) .way_of [.str w_quoted] = pure (.obj 6) := by simp (disch := (first | with_reducible assumption | omega | ((try simp only [q_sl, List.length_append, List.length_map, List.length_cons, List.length_nil, and_true, true_and]); first | omega | decide))) only [bnd_pure, q_runF, fin_nx, fin_rt, q_var0, q_vars, q_C, q_bin, q_chain, chainK_bl, q_tru, truK_bl, truK_int, truK_lst, truK_tup, truK_non, truK_str, q_test, tstK_bl, q_and, q_or, q_not, q_andV, q_orV, q_notV, q_ifE, q_un, q_nil, q_cons, q_tup, q_lst, q_callF, q_call, q_meth, methK_obj, methO_some, q_isB, q_items, itemsK_str, itemsK_lst, itemsK_tup, q_range1, rangeK_int, q_nop, q_seq, seqK_nx, seqK_rt, seqK_bk, seqK_ct, q_if, q_ret, q_retN, q_drop, q_set, q_setOwn, q_for, q_for_nil, forK_nx, forK_ct, forK_bk, forK_rt, gd_true, lf_some, f_add_int, f_add_str, f_add_lst, f_add_tup, f_sub_int, f_mul_r, f_mul_l, f_mod, f_div, f_eq_str, f_eq_int, f_eq_bl, f_ne_str, f_ne_int, f_ne_bl, f_lt, f_le, f_gt, f_ge, f_in_sign, f_notIn_sign, f_is_bl, f_len_str, f_len_lst, f_len_tup, f_len_scr, f_len_dic, f_int_bl, f_int_int, List.length_cons, List.length_nil, List.length_replicate, List.length_set, List.set_cons_zero, List.set_cons_succ, List.getElem?_cons_zero, List.getElem?_cons_succ, Nat.reduceAdd, Nat.reduceLT, Nat.zero_lt_succ, Nat.lt_add_one, if_true, if_false, Bool.not_true, Bool.not_false, Bool.false_eq_true, reduceIte, decide_true, decide_false, reduceCtorEq, List.cons.injEq, Nat.reduceEqDiff, and_true, true_and, and_false, false_and, isB_str_str, isB_str_int, isB_str_bl, isB_int_int, isB_bool_int, isB_bool_bl, isB_int_bl, isB_int_str, isB_bool_str, f_join_nil, f_join_signs, f_all_map, f_any_map, f_lstrip, f_cut_str, f_cut_lst, f_cut_tup, q_while, q_bm, isTy_str, isTy_lst, isTy_dic, q_part, partK_int, q_noPart, q_cut, q_range2, range2K_int, q_get2, get2K_dic, key_str, key_int, q_dict, q_pairs_nil, pairK_some, q_pairs_cons, q_app, appK_own, q_frz, frzK_own, frzK_val, frzK_no, q_aug, augK_val, f_ix_lst, f_ix_tup, f_ix_scr, f_ix_str, Int.reduceToNat, List.getD_cons_zero, List.getD_cons_succ, q_forN, Int.toNat_natCast, f_in_sign, f_neg_int, f_is_non, f_isNot_non, isNon_non, isNon_tup, isNon_int, isNon_str, isNon_lst, isNon_dic, isNon_bl, isNon_obj, isB_tuple_tup, isB_list_lst, isB_str_tup, isB_str_lst, isB_str_non, isB_tuple_non, u_way_of, b_way_of, w_quoted]
theorem way_p (k : Nat) : Ψ (k + 1) .way_of [.str w_plain] = pure (.obj 7) := by simp (disch := (first | with_reducible assumption | omega | ((try simp only [q_sl, List.length_append, List.length_map, List.length_cons, List.length_nil, and_true, true_and]); first | omega | decide))) only [bnd_pure, q_runF, fin_nx, fin_rt, q_var0, q_vars, q_C, q_bin, q_chain, chainK_bl, q_tru, truK_bl, truK_int, truK_lst, truK_tup, truK_non, truK_str, q_test, tstK_bl, q_and, q_or, q_not, q_andV, q_orV, q_notV, q_ifE, q_un, q_nil, q_cons, q_tup, q_lst, q_callF, q_call, q_meth, methK_obj, methO_some, q_isB, q_items, itemsK_str, itemsK_lst, itemsK_tup, q_range1, rangeK_int, q_nop, q_seq, seqK_nx, seqK_rt, seqK_bk, seqK_ct, q_if, q_ret, q_retN, q_drop, q_set, q_setOwn, q_for, q_for_nil, forK_nx, forK_ct, forK_bk, forK_rt, gd_true, lf_some, f_add_int, f_add_str, f_add_lst, f_add_tup, f_sub_int, f_mul_r, f_mul_l, f_mod, f_div, f_eq_str, f_eq_int, f_eq_bl, f_ne_str, f_ne_int, f_ne_bl, f_lt, f_le, f_gt, f_ge, f_in_sign, f_notIn_sign, f_is_bl, f_len_str, f_len_lst, f_len_tup, f_len_scr, f_len_dic, f_int_bl, f_int_int, List.length_cons, List.length_nil, List.length_replicate, List.length_set, List.set_cons_zero, List.set_cons_succ, List.getElem?_cons_zero, List.getElem?_cons_succ, Nat.reduceAdd, Nat.reduceLT, Nat.zero_lt_succ, Nat.lt_add_one, if_true, if_false, Bool.not_true, Bool.not_false, Bool.false_eq_true, reduceIte, decide_true, decide_false, reduceCtorEq, List.cons.injEq, Nat.reduceEqDiff, and_true, true_and, and_false, false_and, isB_str_str, isB_str_int, isB_str_bl, isB_int_int, isB_bool_int, isB_bool_bl, isB_int_bl, isB_int_str, isB_bool_str, f_join_nil, f_join_signs, f_all_map, f_any_map, f_lstrip, f_cut_str, f_cut_lst, f_cut_tup, q_while, q_bm, isTy_str, isTy_lst, isTy_dic, q_part, partK_int, q_noPart, q_cut, q_range2, range2K_int, q_get2, get2K_dic, key_str, key_int, q_dict, q_pairs_nil, pairK_some, q_pairs_cons, q_app, appK_own, q_frz, frzK_own, frzK_val, frzK_no, q_aug, augK_val, f_ix_lst, f_ix_tup, f_ix_scr, f_ix_str, Int.reduceToNat, List.getD_cons_zero, List.getD_cons_succ, q_forN, Int.toNat_natCast, f_in_sign, f_neg_int, f_is_non, f_isNot_non, isNon_non, isNon_tup, isNon_int, isNon_str, isNon_lst, isNon_dic, isNon_bl, isNon_obj, isB_tuple_tup, isB_list_lst, isB_str_tup, isB_str_lst, isB_str_non, isB_tuple_non, u_way_of, b_way_of, w_plain]
theorem way_l (k : Nat) : Ψ (k + 1) .way_of [.str w_line] = pure (.obj 8) := by simp (disch := (first | with_reducible assumption | omega | ((try simp only [q_sl, List.length_append, List.length_map, List.length_cons, List.length_nil, and_true, true_and]); first | omega | decide))) only [bnd_pure, q_runF, fin_nx, fin_rt, q_var0, q_vars, q_C, q_bin, q_chain, chainK_bl, q_tru, truK_bl, truK_int, truK_lst, truK_tup, truK_non, truK_str, q_test, tstK_bl, q_and, q_or, q_not, q_andV, q_orV, q_notV, q_ifE, q_un, q_nil, q_cons, q_tup, q_lst, q_callF, q_call, q_meth, methK_obj, methO_some, q_isB, q_items, itemsK_str, itemsK_lst, itemsK_tup, q_range1, rangeK_int, q_nop, q_seq, seqK_nx, seqK_rt, seqK_bk, seqK_ct, q_if, q_ret, q_retN, q_drop, q_set, q_setOwn, q_for, q_for_nil, forK_nx, forK_ct, forK_bk, forK_rt, gd_true, lf_some, f_add_int, f_add_str, f_add_lst, f_add_tup, f_sub_int, f_mul_r, f_mul_l, f_mod, f_div, f_eq_str, f_eq_int, f_eq_bl, f_ne_str, f_ne_int, f_ne_bl, f_lt, f_le, f_gt, f_ge, f_in_sign, f_notIn_sign, f_is_bl, f_len_str, f_len_lst, f_len_tup, f_len_scr, f_len_dic, f_int_bl, f_int_int, List.length_cons, List.length_nil, List.length_replicate, List.length_set, List.set_cons_zero, List.set_cons_succ, List.getElem?_cons_zero, List.getElem?_cons_succ, Nat.reduceAdd, Nat.reduceLT, Nat.zero_lt_succ, Nat.lt_add_one, if_true, if_false, Bool.not_true, Bool.not_false, Bool.false_eq_true, reduceIte, decide_true, decide_false, reduceCtorEq, List.cons.injEq, Nat.reduceEqDiff, and_true, true_and, and_false, false_and, isB_str_str, isB_str_int, isB_str_bl, isB_int_int, isB_bool_int, isB_bool_bl, isB_int_bl, isB_int_str, isB_bool_str, f_join_nil, f_join_signs, f_all_map, f_any_map, f_lstrip, f_cut_str, f_cut_lst, f_cut_tup, q_while, q_bm, isTy_str, isTy_lst, isTy_dic, q_part, partK_int, q_noPart, q_cut, q_range2, range2K_int, q_get2, get2K_dic, key_str, key_int, q_dict, q_pairs_nil, pairK_some, q_pairs_cons, q_app, appK_own, q_frz, frzK_own, frzK_val, frzK_no, q_aug, augK_val, f_ix_lst, f_ix_tup, f_ix_scr, f_ix_str, Int.reduceToNat, List.getD_cons_zero, List.getD_cons_succ, q_forN, Int.toNat_natCast, f_in_sign, f_neg_int, f_is_non, f_isNot_non, isNon_non, isNon_tup, isNon_int, isNon_str, isNon_lst, isNon_dic, isNon_bl, isNon_obj, isB_tuple_tup, isB_list_lst, isB_str_tup, isB_str_lst, isB_str_non, isB_tuple_non, u_way_of, b_way_of, w_line]
theorem le_w (k : Nat) : Ψ (k + 2) ._law_ends [.str w_word] = pure (.str e_w) := by
  rw [s_law_ends (Ψ := Ψ) k w_word (by decide) (by decide) c_LAW (by rfl)]
  have e : (c_SIGNS.filter fun c => !decide (c ∈ c_LAW)) = e_w := by decide +kernel
  rw [e]
theorem le_n (k : Nat) : Ψ (k + 2) ._law_ends [.str w_number] = pure (.str e_n) := s_law_ends k w_number (by decide) (by decide) c_FIGURES (by rfl)
theorem fig {c : Nat} (h : 48 ≤ c ∧ c ≤ 57) : c ∈ c_FIGURES := by
  unfold c_FIGURES
  simp only [List.mem_cons, List.not_mem_nil, or_false]
  omega
theorem not_in_filter {c : Nat} {l e : Tx} (h : c ∈ e) : c ∉ l.filter fun c => !decide (c ∈ e) := by
  simp [List.mem_filter, h]
/-! fits of anything -/
theorem s_is_text' (k : Nat) (t : Tx) (h : t.length ≤ 16000000) : Ψ (k + 1) .is_text [.str t, .int 400] = pure (.bl (decide (t.length ≤ 400) && t.all fun c => decide (c ∈ c_SIGNS))) := by
  by_cases hl : t.length ≤ 400
  · have h' : ¬ (400 : Int) < (t.length : Int) := by omega
    simp (disch := (first | with_reducible assumption | omega | ((try simp only [q_sl, List.length_append, List.length_map, List.length_cons, List.length_nil, and_true, true_and]); first | omega | decide))) only [bnd_pure, q_runF, fin_nx, fin_rt, q_var0, q_vars, q_C, q_bin, q_chain, chainK_bl, q_tru, truK_bl, truK_int, truK_lst, truK_tup, truK_non, truK_str, q_test, tstK_bl, q_and, q_or, q_not, q_andV, q_orV, q_notV, q_ifE, q_un, q_nil, q_cons, q_tup, q_lst, q_callF, q_call, q_meth, methK_obj, methO_some, q_isB, q_items, itemsK_str, itemsK_lst, itemsK_tup, q_range1, rangeK_int, q_nop, q_seq, seqK_nx, seqK_rt, seqK_bk, seqK_ct, q_if, q_ret, q_retN, q_drop, q_set, q_setOwn, q_for, q_for_nil, forK_nx, forK_ct, forK_bk, forK_rt, gd_true, lf_some, f_add_int, f_add_str, f_add_lst, f_add_tup, f_sub_int, f_mul_r, f_mul_l, f_mod, f_div, f_eq_str, f_eq_int, f_eq_bl, f_ne_str, f_ne_int, f_ne_bl, f_lt, f_le, f_gt, f_ge, f_in_sign, f_notIn_sign, f_is_bl, f_len_str, f_len_lst, f_len_tup, f_len_scr, f_len_dic, f_int_bl, f_int_int, List.length_cons, List.length_nil, List.length_replicate, List.length_set, List.set_cons_zero, List.set_cons_succ, List.getElem?_cons_zero, List.getElem?_cons_succ, Nat.reduceAdd, Nat.reduceLT, Nat.zero_lt_succ, Nat.lt_add_one, if_true, if_false, Bool.not_true, Bool.not_false, Bool.false_eq_true, reduceIte, decide_true, decide_false, reduceCtorEq, List.cons.injEq, Nat.reduceEqDiff, and_true, true_and, and_false, false_and, isB_str_str, isB_str_int, isB_str_bl, isB_int_int, isB_bool_int, isB_bool_bl, isB_int_bl, isB_int_str, isB_bool_str, f_join_nil, f_join_signs, f_all_map, f_any_map, f_lstrip, f_cut_str, f_cut_lst, f_cut_tup, q_while, q_bm, isTy_str, isTy_lst, isTy_dic, q_part, partK_int, q_noPart, q_cut, q_range2, range2K_int, q_get2, get2K_dic, key_str, key_int, q_dict, q_pairs_nil, pairK_some, q_pairs_cons, q_app, appK_own, q_frz, frzK_own, frzK_val, frzK_no, q_aug, augK_val, f_ix_lst, f_ix_tup, f_ix_scr, f_ix_str, Int.reduceToNat, List.getD_cons_zero, List.getD_cons_succ, q_forN, Int.toNat_natCast, f_in_sign, f_neg_int, f_is_non, f_isNot_non, isNon_non, isNon_tup, isNon_int, isNon_str, isNon_lst, isNon_dic, isNon_bl, isNon_obj, isB_tuple_tup, isB_list_lst, isB_str_tup, isB_str_lst, isB_str_non, isB_tuple_non, u_is_text, b_is_text, h', q_comp, wipeE]
    rw [compL_all (fun c => D.bl (decide (c ∈ c_SIGNS))) (fun c => [.val (.str t), .val (.int 400), .val (.str [c])]) (fun _ _ => rfl) (fun c _ => by simp (disch := (first | with_reducible assumption | omega | ((try simp only [q_sl, List.length_append, List.length_map, List.length_cons, List.length_nil, and_true, true_and]); first | omega | decide))) only [bnd_pure, q_runF, fin_nx, fin_rt, q_var0, q_vars, q_C, q_bin, q_chain, chainK_bl, q_tru, truK_bl, truK_int, truK_lst, truK_tup, truK_non, truK_str, q_test, tstK_bl, q_and, q_or, q_not, q_andV, q_orV, q_notV, q_ifE, q_un, q_nil, q_cons, q_tup, q_lst, q_callF, q_call, q_meth, methK_obj, methO_some, q_isB, q_items, itemsK_str, itemsK_lst, itemsK_tup, q_range1, rangeK_int, q_nop, q_seq, seqK_nx, seqK_rt, seqK_bk, seqK_ct, q_if, q_ret, q_retN, q_drop, q_set, q_setOwn, q_for, q_for_nil, forK_nx, forK_ct, forK_bk, forK_rt, gd_true, lf_some, f_add_int, f_add_str, f_add_lst, f_add_tup, f_sub_int, f_mul_r, f_mul_l, f_mod, f_div, f_eq_str, f_eq_int, f_eq_bl, f_ne_str, f_ne_int, f_ne_bl, f_lt, f_le, f_gt, f_ge, f_in_sign, f_notIn_sign, f_is_bl, f_len_str, f_len_lst, f_len_tup, f_len_scr, f_len_dic, f_int_bl, f_int_int, List.length_cons, List.length_nil, List.length_replicate, List.length_set, List.set_cons_zero, List.set_cons_succ, List.getElem?_cons_zero, List.getElem?_cons_succ, Nat.reduceAdd, Nat.reduceLT, Nat.zero_lt_succ, Nat.lt_add_one, if_true, if_false, Bool.not_true, Bool.not_false, Bool.false_eq_true, reduceIte, decide_true, decide_false, reduceCtorEq, List.cons.injEq, Nat.reduceEqDiff, and_true, true_and, and_false, false_and, isB_str_str, isB_str_int, isB_str_bl, isB_int_int, isB_bool_int, isB_bool_bl, isB_int_bl, isB_int_str, isB_bool_str, f_join_nil, f_join_signs, f_all_map, f_any_map, f_lstrip, f_cut_str, f_cut_lst, f_cut_tup, q_while, q_bm, isTy_str, isTy_lst, isTy_dic, q_part, partK_int, q_noPart, q_cut, q_range2, range2K_int, q_get2, get2K_dic, key_str, key_int, q_dict, q_pairs_nil, pairK_some, q_pairs_cons, q_app, appK_own, q_frz, frzK_own, frzK_val, frzK_no, q_aug, augK_val, f_ix_lst, f_ix_tup, f_ix_scr, f_ix_str, Int.reduceToNat, List.getD_cons_zero, List.getD_cons_succ, q_forN, Int.toNat_natCast, f_in_sign, f_neg_int, f_is_non, f_isNot_non, isNon_non, isNon_tup, isNon_int, isNon_str, isNon_lst, isNon_dic, isNon_bl, isNon_obj, isB_tuple_tup, isB_list_lst, isB_str_tup, isB_str_lst, isB_str_non, isB_tuple_non]) (by omega)]
    simp (disch := (first | with_reducible assumption | omega | ((try simp only [q_sl, List.length_append, List.length_map, List.length_cons, List.length_nil, and_true, true_and]); first | omega | decide))) only [bnd_pure, q_runF, fin_nx, fin_rt, q_var0, q_vars, q_C, q_bin, q_chain, chainK_bl, q_tru, truK_bl, truK_int, truK_lst, truK_tup, truK_non, truK_str, q_test, tstK_bl, q_and, q_or, q_not, q_andV, q_orV, q_notV, q_ifE, q_un, q_nil, q_cons, q_tup, q_lst, q_callF, q_call, q_meth, methK_obj, methO_some, q_isB, q_items, itemsK_str, itemsK_lst, itemsK_tup, q_range1, rangeK_int, q_nop, q_seq, seqK_nx, seqK_rt, seqK_bk, seqK_ct, q_if, q_ret, q_retN, q_drop, q_set, q_setOwn, q_for, q_for_nil, forK_nx, forK_ct, forK_bk, forK_rt, gd_true, lf_some, f_add_int, f_add_str, f_add_lst, f_add_tup, f_sub_int, f_mul_r, f_mul_l, f_mod, f_div, f_eq_str, f_eq_int, f_eq_bl, f_ne_str, f_ne_int, f_ne_bl, f_lt, f_le, f_gt, f_ge, f_in_sign, f_notIn_sign, f_is_bl, f_len_str, f_len_lst, f_len_tup, f_len_scr, f_len_dic, f_int_bl, f_int_int, List.length_cons, List.length_nil, List.length_replicate, List.length_set, List.set_cons_zero, List.set_cons_succ, List.getElem?_cons_zero, List.getElem?_cons_succ, Nat.reduceAdd, Nat.reduceLT, Nat.zero_lt_succ, Nat.lt_add_one, if_true, if_false, Bool.not_true, Bool.not_false, Bool.false_eq_true, reduceIte, decide_true, decide_false, reduceCtorEq, List.cons.injEq, Nat.reduceEqDiff, and_true, true_and, and_false, false_and, isB_str_str, isB_str_int, isB_str_bl, isB_int_int, isB_bool_int, isB_bool_bl, isB_int_bl, isB_int_str, isB_bool_str, f_join_nil, f_join_signs, f_all_map, f_any_map, f_lstrip, f_cut_str, f_cut_lst, f_cut_tup, q_while, q_bm, isTy_str, isTy_lst, isTy_dic, q_part, partK_int, q_noPart, q_cut, q_range2, range2K_int, q_get2, get2K_dic, key_str, key_int, q_dict, q_pairs_nil, pairK_some, q_pairs_cons, q_app, appK_own, q_frz, frzK_own, frzK_val, frzK_no, q_aug, augK_val, f_ix_lst, f_ix_tup, f_ix_scr, f_ix_str, Int.reduceToNat, List.getD_cons_zero, List.getD_cons_succ, q_forN, Int.toNat_natCast, f_in_sign, f_neg_int, f_is_non, f_isNot_non, isNon_non, isNon_tup, isNon_int, isNon_str, isNon_lst, isNon_dic, isNon_bl, isNon_obj, isB_tuple_tup, isB_list_lst, isB_str_tup, isB_str_lst, isB_str_non, isB_tuple_non, hl, Bool.true_and]
  · have h' : (400 : Int) < (t.length : Int) := by omega
    simp (disch := (first | with_reducible assumption | omega | ((try simp only [q_sl, List.length_append, List.length_map, List.length_cons, List.length_nil, and_true, true_and]); first | omega | decide))) only [bnd_pure, q_runF, fin_nx, fin_rt, q_var0, q_vars, q_C, q_bin, q_chain, chainK_bl, q_tru, truK_bl, truK_int, truK_lst, truK_tup, truK_non, truK_str, q_test, tstK_bl, q_and, q_or, q_not, q_andV, q_orV, q_notV, q_ifE, q_un, q_nil, q_cons, q_tup, q_lst, q_callF, q_call, q_meth, methK_obj, methO_some, q_isB, q_items, itemsK_str, itemsK_lst, itemsK_tup, q_range1, rangeK_int, q_nop, q_seq, seqK_nx, seqK_rt, seqK_bk, seqK_ct, q_if, q_ret, q_retN, q_drop, q_set, q_setOwn, q_for, q_for_nil, forK_nx, forK_ct, forK_bk, forK_rt, gd_true, lf_some, f_add_int, f_add_str, f_add_lst, f_add_tup, f_sub_int, f_mul_r, f_mul_l, f_mod, f_div, f_eq_str, f_eq_int, f_eq_bl, f_ne_str, f_ne_int, f_ne_bl, f_lt, f_le, f_gt, f_ge, f_in_sign, f_notIn_sign, f_is_bl, f_len_str, f_len_lst, f_len_tup, f_len_scr, f_len_dic, f_int_bl, f_int_int, List.length_cons, List.length_nil, List.length_replicate, List.length_set, List.set_cons_zero, List.set_cons_succ, List.getElem?_cons_zero, List.getElem?_cons_succ, Nat.reduceAdd, Nat.reduceLT, Nat.zero_lt_succ, Nat.lt_add_one, if_true, if_false, Bool.not_true, Bool.not_false, Bool.false_eq_true, reduceIte, decide_true, decide_false, reduceCtorEq, List.cons.injEq, Nat.reduceEqDiff, and_true, true_and, and_false, false_and, isB_str_str, isB_str_int, isB_str_bl, isB_int_int, isB_bool_int, isB_bool_bl, isB_int_bl, isB_int_str, isB_bool_str, f_join_nil, f_join_signs, f_all_map, f_any_map, f_lstrip, f_cut_str, f_cut_lst, f_cut_tup, q_while, q_bm, isTy_str, isTy_lst, isTy_dic, q_part, partK_int, q_noPart, q_cut, q_range2, range2K_int, q_get2, get2K_dic, key_str, key_int, q_dict, q_pairs_nil, pairK_some, q_pairs_cons, q_app, appK_own, q_frz, frzK_own, frzK_val, frzK_no, q_aug, augK_val, f_ix_lst, f_ix_tup, f_ix_scr, f_ix_str, Int.reduceToNat, List.getD_cons_zero, List.getD_cons_succ, q_forN, Int.toNat_natCast, f_in_sign, f_neg_int, f_is_non, f_isNot_non, isNon_non, isNon_tup, isNon_int, isNon_str, isNon_lst, isNon_dic, isNon_bl, isNon_obj, isB_tuple_tup, isB_list_lst, isB_str_tup, isB_str_lst, isB_str_non, isB_tuple_non, u_is_text, b_is_text, h', hl, Bool.false_and]
theorem s_Way_fits' (k c : Nat) (t : Tx) (h : t.length ≤ 16000000) : Ψ (k + 2) .Way_fits [.obj c, .str t] = pure (.bl (decide (t.length ≤ 400) && t.all fun c => decide (c ∈ c_SIGNS))) := by
  simp (disch := (first | with_reducible assumption | omega | ((try simp only [q_sl, List.length_append, List.length_map, List.length_cons, List.length_nil, and_true, true_and]); first | omega | decide))) only [bnd_pure, q_runF, fin_nx, fin_rt, q_var0, q_vars, q_C, q_bin, q_chain, chainK_bl, q_tru, truK_bl, truK_int, truK_lst, truK_tup, truK_non, truK_str, q_test, tstK_bl, q_and, q_or, q_not, q_andV, q_orV, q_notV, q_ifE, q_un, q_nil, q_cons, q_tup, q_lst, q_callF, q_call, q_meth, methK_obj, methO_some, q_isB, q_items, itemsK_str, itemsK_lst, itemsK_tup, q_range1, rangeK_int, q_nop, q_seq, seqK_nx, seqK_rt, seqK_bk, seqK_ct, q_if, q_ret, q_retN, q_drop, q_set, q_setOwn, q_for, q_for_nil, forK_nx, forK_ct, forK_bk, forK_rt, gd_true, lf_some, f_add_int, f_add_str, f_add_lst, f_add_tup, f_sub_int, f_mul_r, f_mul_l, f_mod, f_div, f_eq_str, f_eq_int, f_eq_bl, f_ne_str, f_ne_int, f_ne_bl, f_lt, f_le, f_gt, f_ge, f_in_sign, f_notIn_sign, f_is_bl, f_len_str, f_len_lst, f_len_tup, f_len_scr, f_len_dic, f_int_bl, f_int_int, List.length_cons, List.length_nil, List.length_replicate, List.length_set, List.set_cons_zero, List.set_cons_succ, List.getElem?_cons_zero, List.getElem?_cons_succ, Nat.reduceAdd, Nat.reduceLT, Nat.zero_lt_succ, Nat.lt_add_one, if_true, if_false, Bool.not_true, Bool.not_false, Bool.false_eq_true, reduceIte, decide_true, decide_false, reduceCtorEq, List.cons.injEq, Nat.reduceEqDiff, and_true, true_and, and_false, false_and, isB_str_str, isB_str_int, isB_str_bl, isB_int_int, isB_bool_int, isB_bool_bl, isB_int_bl, isB_int_str, isB_bool_str, f_join_nil, f_join_signs, f_all_map, f_any_map, f_lstrip, f_cut_str, f_cut_lst, f_cut_tup, q_while, q_bm, isTy_str, isTy_lst, isTy_dic, q_part, partK_int, q_noPart, q_cut, q_range2, range2K_int, q_get2, get2K_dic, key_str, key_int, q_dict, q_pairs_nil, pairK_some, q_pairs_cons, q_app, appK_own, q_frz, frzK_own, frzK_val, frzK_no, q_aug, augK_val, f_ix_lst, f_ix_tup, f_ix_scr, f_ix_str, Int.reduceToNat, List.getD_cons_zero, List.getD_cons_succ, q_forN, Int.toNat_natCast, f_in_sign, f_neg_int, f_is_non, f_isNot_non, isNon_non, isNon_tup, isNon_int, isNon_str, isNon_lst, isNon_dic, isNon_bl, isNon_obj, isB_tuple_tup, isB_list_lst, isB_str_tup, isB_str_lst, isB_str_non, isB_tuple_non, u_Way_fits, b_Way_fits, s_is_text']
theorem s_Word_fits' (k : Nat) (t : Tx) (h : t.length ≤ 16000000) (ha : ∀ c ∈ t, c ∈ c_AL) : Ψ (k + 1) .Word_fits [.obj 4, .str t] = pure (.bl (decide (1 ≤ t.length ∧ t.length ≤ 40))) := by
  by_cases hl : 1 ≤ t.length ∧ t.length ≤ 40
  · have h1 : (1 : Int) ≤ (t.length : Int) := by omega
    have h2 : (t.length : Int) ≤ 40 := by omega
    have e : c_LETTERS ++ c_GREAT ++ c_FIGURES = c_AL := rfl
    simp (disch := (first | with_reducible assumption | omega | ((try simp only [q_sl, List.length_append, List.length_map, List.length_cons, List.length_nil, and_true, true_and]); first | omega | decide))) only [bnd_pure, q_runF, fin_nx, fin_rt, q_var0, q_vars, q_C, q_bin, q_chain, chainK_bl, q_tru, truK_bl, truK_int, truK_lst, truK_tup, truK_non, truK_str, q_test, tstK_bl, q_and, q_or, q_not, q_andV, q_orV, q_notV, q_ifE, q_un, q_nil, q_cons, q_tup, q_lst, q_callF, q_call, q_meth, methK_obj, methO_some, q_isB, q_items, itemsK_str, itemsK_lst, itemsK_tup, q_range1, rangeK_int, q_nop, q_seq, seqK_nx, seqK_rt, seqK_bk, seqK_ct, q_if, q_ret, q_retN, q_drop, q_set, q_setOwn, q_for, q_for_nil, forK_nx, forK_ct, forK_bk, forK_rt, gd_true, lf_some, f_add_int, f_add_str, f_add_lst, f_add_tup, f_sub_int, f_mul_r, f_mul_l, f_mod, f_div, f_eq_str, f_eq_int, f_eq_bl, f_ne_str, f_ne_int, f_ne_bl, f_lt, f_le, f_gt, f_ge, f_in_sign, f_notIn_sign, f_is_bl, f_len_str, f_len_lst, f_len_tup, f_len_scr, f_len_dic, f_int_bl, f_int_int, List.length_cons, List.length_nil, List.length_replicate, List.length_set, List.set_cons_zero, List.set_cons_succ, List.getElem?_cons_zero, List.getElem?_cons_succ, Nat.reduceAdd, Nat.reduceLT, Nat.zero_lt_succ, Nat.lt_add_one, if_true, if_false, Bool.not_true, Bool.not_false, Bool.false_eq_true, reduceIte, decide_true, decide_false, reduceCtorEq, List.cons.injEq, Nat.reduceEqDiff, and_true, true_and, and_false, false_and, isB_str_str, isB_str_int, isB_str_bl, isB_int_int, isB_bool_int, isB_bool_bl, isB_int_bl, isB_int_str, isB_bool_str, f_join_nil, f_join_signs, f_all_map, f_any_map, f_lstrip, f_cut_str, f_cut_lst, f_cut_tup, q_while, q_bm, isTy_str, isTy_lst, isTy_dic, q_part, partK_int, q_noPart, q_cut, q_range2, range2K_int, q_get2, get2K_dic, key_str, key_int, q_dict, q_pairs_nil, pairK_some, q_pairs_cons, q_app, appK_own, q_frz, frzK_own, frzK_val, frzK_no, q_aug, augK_val, f_ix_lst, f_ix_tup, f_ix_scr, f_ix_str, Int.reduceToNat, List.getD_cons_zero, List.getD_cons_succ, q_forN, Int.toNat_natCast, f_in_sign, f_neg_int, f_is_non, f_isNot_non, isNon_non, isNon_tup, isNon_int, isNon_str, isNon_lst, isNon_dic, isNon_bl, isNon_obj, isB_tuple_tup, isB_list_lst, isB_str_tup, isB_str_lst, isB_str_non, isB_tuple_non, u_Word_fits, b_Word_fits, h1, h2, q_comp, wipeE]
    rw [compL_all (fun c => D.bl (decide (c ∈ c_AL))) (fun c => [.val (.obj 4), .val (.str t), .val (.str [c])]) (fun _ _ => rfl) (fun c _ => by simp (disch := (first | with_reducible assumption | omega | ((try simp only [q_sl, List.length_append, List.length_map, List.length_cons, List.length_nil, and_true, true_and]); first | omega | decide))) only [bnd_pure, q_runF, fin_nx, fin_rt, q_var0, q_vars, q_C, q_bin, q_chain, chainK_bl, q_tru, truK_bl, truK_int, truK_lst, truK_tup, truK_non, truK_str, q_test, tstK_bl, q_and, q_or, q_not, q_andV, q_orV, q_notV, q_ifE, q_un, q_nil, q_cons, q_tup, q_lst, q_callF, q_call, q_meth, methK_obj, methO_some, q_isB, q_items, itemsK_str, itemsK_lst, itemsK_tup, q_range1, rangeK_int, q_nop, q_seq, seqK_nx, seqK_rt, seqK_bk, seqK_ct, q_if, q_ret, q_retN, q_drop, q_set, q_setOwn, q_for, q_for_nil, forK_nx, forK_ct, forK_bk, forK_rt, gd_true, lf_some, f_add_int, f_add_str, f_add_lst, f_add_tup, f_sub_int, f_mul_r, f_mul_l, f_mod, f_div, f_eq_str, f_eq_int, f_eq_bl, f_ne_str, f_ne_int, f_ne_bl, f_lt, f_le, f_gt, f_ge, f_in_sign, f_notIn_sign, f_is_bl, f_len_str, f_len_lst, f_len_tup, f_len_scr, f_len_dic, f_int_bl, f_int_int, List.length_cons, List.length_nil, List.length_replicate, List.length_set, List.set_cons_zero, List.set_cons_succ, List.getElem?_cons_zero, List.getElem?_cons_succ, Nat.reduceAdd, Nat.reduceLT, Nat.zero_lt_succ, Nat.lt_add_one, if_true, if_false, Bool.not_true, Bool.not_false, Bool.false_eq_true, reduceIte, decide_true, decide_false, reduceCtorEq, List.cons.injEq, Nat.reduceEqDiff, and_true, true_and, and_false, false_and, isB_str_str, isB_str_int, isB_str_bl, isB_int_int, isB_bool_int, isB_bool_bl, isB_int_bl, isB_int_str, isB_bool_str, f_join_nil, f_join_signs, f_all_map, f_any_map, f_lstrip, f_cut_str, f_cut_lst, f_cut_tup, q_while, q_bm, isTy_str, isTy_lst, isTy_dic, q_part, partK_int, q_noPart, q_cut, q_range2, range2K_int, q_get2, get2K_dic, key_str, key_int, q_dict, q_pairs_nil, pairK_some, q_pairs_cons, q_app, appK_own, q_frz, frzK_own, frzK_val, frzK_no, q_aug, augK_val, f_ix_lst, f_ix_tup, f_ix_scr, f_ix_str, Int.reduceToNat, List.getD_cons_zero, List.getD_cons_succ, q_forN, Int.toNat_natCast, f_in_sign, f_neg_int, f_is_non, f_isNot_non, isNon_non, isNon_tup, isNon_int, isNon_str, isNon_lst, isNon_dic, isNon_bl, isNon_obj, isB_tuple_tup, isB_list_lst, isB_str_tup, isB_str_lst, isB_str_non, isB_tuple_non, e]) (by omega)]
    have : (t.all fun c => decide (c ∈ c_AL)) = true := by simpa using ha
    simp (disch := (first | with_reducible assumption | omega | ((try simp only [q_sl, List.length_append, List.length_map, List.length_cons, List.length_nil, and_true, true_and]); first | omega | decide))) only [bnd_pure, q_runF, fin_nx, fin_rt, q_var0, q_vars, q_C, q_bin, q_chain, chainK_bl, q_tru, truK_bl, truK_int, truK_lst, truK_tup, truK_non, truK_str, q_test, tstK_bl, q_and, q_or, q_not, q_andV, q_orV, q_notV, q_ifE, q_un, q_nil, q_cons, q_tup, q_lst, q_callF, q_call, q_meth, methK_obj, methO_some, q_isB, q_items, itemsK_str, itemsK_lst, itemsK_tup, q_range1, rangeK_int, q_nop, q_seq, seqK_nx, seqK_rt, seqK_bk, seqK_ct, q_if, q_ret, q_retN, q_drop, q_set, q_setOwn, q_for, q_for_nil, forK_nx, forK_ct, forK_bk, forK_rt, gd_true, lf_some, f_add_int, f_add_str, f_add_lst, f_add_tup, f_sub_int, f_mul_r, f_mul_l, f_mod, f_div, f_eq_str, f_eq_int, f_eq_bl, f_ne_str, f_ne_int, f_ne_bl, f_lt, f_le, f_gt, f_ge, f_in_sign, f_notIn_sign, f_is_bl, f_len_str, f_len_lst, f_len_tup, f_len_scr, f_len_dic, f_int_bl, f_int_int, List.length_cons, List.length_nil, List.length_replicate, List.length_set, List.set_cons_zero, List.set_cons_succ, List.getElem?_cons_zero, List.getElem?_cons_succ, Nat.reduceAdd, Nat.reduceLT, Nat.zero_lt_succ, Nat.lt_add_one, if_true, if_false, Bool.not_true, Bool.not_false, Bool.false_eq_true, reduceIte, decide_true, decide_false, reduceCtorEq, List.cons.injEq, Nat.reduceEqDiff, and_true, true_and, and_false, false_and, isB_str_str, isB_str_int, isB_str_bl, isB_int_int, isB_bool_int, isB_bool_bl, isB_int_bl, isB_int_str, isB_bool_str, f_join_nil, f_join_signs, f_all_map, f_any_map, f_lstrip, f_cut_str, f_cut_lst, f_cut_tup, q_while, q_bm, isTy_str, isTy_lst, isTy_dic, q_part, partK_int, q_noPart, q_cut, q_range2, range2K_int, q_get2, get2K_dic, key_str, key_int, q_dict, q_pairs_nil, pairK_some, q_pairs_cons, q_app, appK_own, q_frz, frzK_own, frzK_val, frzK_no, q_aug, augK_val, f_ix_lst, f_ix_tup, f_ix_scr, f_ix_str, Int.reduceToNat, List.getD_cons_zero, List.getD_cons_succ, q_forN, Int.toNat_natCast, f_in_sign, f_neg_int, f_is_non, f_isNot_non, isNon_non, isNon_tup, isNon_int, isNon_str, isNon_lst, isNon_dic, isNon_bl, isNon_obj, isB_tuple_tup, isB_list_lst, isB_str_tup, isB_str_lst, isB_str_non, isB_tuple_non, this, hl]
  · by_cases h1 : (1 : Int) ≤ (t.length : Int)
    · have h2 : ¬ (t.length : Int) ≤ 40 := by omega
      simp (disch := (first | with_reducible assumption | omega | ((try simp only [q_sl, List.length_append, List.length_map, List.length_cons, List.length_nil, and_true, true_and]); first | omega | decide))) only [bnd_pure, q_runF, fin_nx, fin_rt, q_var0, q_vars, q_C, q_bin, q_chain, chainK_bl, q_tru, truK_bl, truK_int, truK_lst, truK_tup, truK_non, truK_str, q_test, tstK_bl, q_and, q_or, q_not, q_andV, q_orV, q_notV, q_ifE, q_un, q_nil, q_cons, q_tup, q_lst, q_callF, q_call, q_meth, methK_obj, methO_some, q_isB, q_items, itemsK_str, itemsK_lst, itemsK_tup, q_range1, rangeK_int, q_nop, q_seq, seqK_nx, seqK_rt, seqK_bk, seqK_ct, q_if, q_ret, q_retN, q_drop, q_set, q_setOwn, q_for, q_for_nil, forK_nx, forK_ct, forK_bk, forK_rt, gd_true, lf_some, f_add_int, f_add_str, f_add_lst, f_add_tup, f_sub_int, f_mul_r, f_mul_l, f_mod, f_div, f_eq_str, f_eq_int, f_eq_bl, f_ne_str, f_ne_int, f_ne_bl, f_lt, f_le, f_gt, f_ge, f_in_sign, f_notIn_sign, f_is_bl, f_len_str, f_len_lst, f_len_tup, f_len_scr, f_len_dic, f_int_bl, f_int_int, List.length_cons, List.length_nil, List.length_replicate, List.length_set, List.set_cons_zero, List.set_cons_succ, List.getElem?_cons_zero, List.getElem?_cons_succ, Nat.reduceAdd, Nat.reduceLT, Nat.zero_lt_succ, Nat.lt_add_one, if_true, if_false, Bool.not_true, Bool.not_false, Bool.false_eq_true, reduceIte, decide_true, decide_false, reduceCtorEq, List.cons.injEq, Nat.reduceEqDiff, and_true, true_and, and_false, false_and, isB_str_str, isB_str_int, isB_str_bl, isB_int_int, isB_bool_int, isB_bool_bl, isB_int_bl, isB_int_str, isB_bool_str, f_join_nil, f_join_signs, f_all_map, f_any_map, f_lstrip, f_cut_str, f_cut_lst, f_cut_tup, q_while, q_bm, isTy_str, isTy_lst, isTy_dic, q_part, partK_int, q_noPart, q_cut, q_range2, range2K_int, q_get2, get2K_dic, key_str, key_int, q_dict, q_pairs_nil, pairK_some, q_pairs_cons, q_app, appK_own, q_frz, frzK_own, frzK_val, frzK_no, q_aug, augK_val, f_ix_lst, f_ix_tup, f_ix_scr, f_ix_str, Int.reduceToNat, List.getD_cons_zero, List.getD_cons_succ, q_forN, Int.toNat_natCast, f_in_sign, f_neg_int, f_is_non, f_isNot_non, isNon_non, isNon_tup, isNon_int, isNon_str, isNon_lst, isNon_dic, isNon_bl, isNon_obj, isB_tuple_tup, isB_list_lst, isB_str_tup, isB_str_lst, isB_str_non, isB_tuple_non, u_Word_fits, b_Word_fits, h1, h2, hl]
    · simp (disch := (first | with_reducible assumption | omega | ((try simp only [q_sl, List.length_append, List.length_map, List.length_cons, List.length_nil, and_true, true_and]); first | omega | decide))) only [bnd_pure, q_runF, fin_nx, fin_rt, q_var0, q_vars, q_C, q_bin, q_chain, chainK_bl, q_tru, truK_bl, truK_int, truK_lst, truK_tup, truK_non, truK_str, q_test, tstK_bl, q_and, q_or, q_not, q_andV, q_orV, q_notV, q_ifE, q_un, q_nil, q_cons, q_tup, q_lst, q_callF, q_call, q_meth, methK_obj, methO_some, q_isB, q_items, itemsK_str, itemsK_lst, itemsK_tup, q_range1, rangeK_int, q_nop, q_seq, seqK_nx, seqK_rt, seqK_bk, seqK_ct, q_if, q_ret, q_retN, q_drop, q_set, q_setOwn, q_for, q_for_nil, forK_nx, forK_ct, forK_bk, forK_rt, gd_true, lf_some, f_add_int, f_add_str, f_add_lst, f_add_tup, f_sub_int, f_mul_r, f_mul_l, f_mod, f_div, f_eq_str, f_eq_int, f_eq_bl, f_ne_str, f_ne_int, f_ne_bl, f_lt, f_le, f_gt, f_ge, f_in_sign, f_notIn_sign, f_is_bl, f_len_str, f_len_lst, f_len_tup, f_len_scr, f_len_dic, f_int_bl, f_int_int, List.length_cons, List.length_nil, List.length_replicate, List.length_set, List.set_cons_zero, List.set_cons_succ, List.getElem?_cons_zero, List.getElem?_cons_succ, Nat.reduceAdd, Nat.reduceLT, Nat.zero_lt_succ, Nat.lt_add_one, if_true, if_false, Bool.not_true, Bool.not_false, Bool.false_eq_true, reduceIte, decide_true, decide_false, reduceCtorEq, List.cons.injEq, Nat.reduceEqDiff, and_true, true_and, and_false, false_and, isB_str_str, isB_str_int, isB_str_bl, isB_int_int, isB_bool_int, isB_bool_bl, isB_int_bl, isB_int_str, isB_bool_str, f_join_nil, f_join_signs, f_all_map, f_any_map, f_lstrip, f_cut_str, f_cut_lst, f_cut_tup, q_while, q_bm, isTy_str, isTy_lst, isTy_dic, q_part, partK_int, q_noPart, q_cut, q_range2, range2K_int, q_get2, get2K_dic, key_str, key_int, q_dict, q_pairs_nil, pairK_some, q_pairs_cons, q_app, appK_own, q_frz, frzK_own, frzK_val, frzK_no, q_aug, augK_val, f_ix_lst, f_ix_tup, f_ix_scr, f_ix_str, Int.reduceToNat, List.getD_cons_zero, List.getD_cons_succ, q_forN, Int.toNat_natCast, f_in_sign, f_neg_int, f_is_non, f_isNot_non, isNon_non, isNon_tup, isNon_int, isNon_str, isNon_lst, isNon_dic, isNon_bl, isNon_obj, isB_tuple_tup, isB_list_lst, isB_str_tup, isB_str_lst, isB_str_non, isB_tuple_non, u_Word_fits, b_Word_fits, h1, hl]
theorem s_Number_fits (k : Nat) (n : Int) (h : -(10 ^ 30) < n ∧ n < 10 ^ 30) : Ψ (k + 3) .Number_fits [.obj 5, .int n] = pure (.bl true) := by
  have p : fPow (.int 10) (.int 30) = pure (.int (10 ^ 30)) := by rfl
  have h1 : (0 : Int) - 10 ^ 30 < n := by omega
  have h2 : n < 10 ^ 30 := h.2
  simp (disch := (first | with_reducible assumption | omega | ((try simp only [q_sl, List.length_append, List.length_map, List.length_cons, List.length_nil, and_true, true_and]); first | omega | decide))) only [bnd_pure, q_runF, fin_nx, fin_rt, q_var0, q_vars, q_C, q_bin, q_chain, chainK_bl, q_tru, truK_bl, truK_int, truK_lst, truK_tup, truK_non, truK_str, q_test, tstK_bl, q_and, q_or, q_not, q_andV, q_orV, q_notV, q_ifE, q_un, q_nil, q_cons, q_tup, q_lst, q_callF, q_call, q_meth, methK_obj, methO_some, q_isB, q_items, itemsK_str, itemsK_lst, itemsK_tup, q_range1, rangeK_int, q_nop, q_seq, seqK_nx, seqK_rt, seqK_bk, seqK_ct, q_if, q_ret, q_retN, q_drop, q_set, q_setOwn, q_for, q_for_nil, forK_nx, forK_ct, forK_bk, forK_rt, gd_true, lf_some, f_add_int, f_add_str, f_add_lst, f_add_tup, f_sub_int, f_mul_r, f_mul_l, f_mod, f_div, f_eq_str, f_eq_int, f_eq_bl, f_ne_str, f_ne_int, f_ne_bl, f_lt, f_le, f_gt, f_ge, f_in_sign, f_notIn_sign, f_is_bl, f_len_str, f_len_lst, f_len_tup, f_len_scr, f_len_dic, f_int_bl, f_int_int, List.length_cons, List.length_nil, List.length_replicate, List.length_set, List.set_cons_zero, List.set_cons_succ, List.getElem?_cons_zero, List.getElem?_cons_succ, Nat.reduceAdd, Nat.reduceLT, Nat.zero_lt_succ, Nat.lt_add_one, if_true, if_false, Bool.not_true, Bool.not_false, Bool.false_eq_true, reduceIte, decide_true, decide_false, reduceCtorEq, List.cons.injEq, Nat.reduceEqDiff, and_true, true_and, and_false, false_and, isB_str_str, isB_str_int, isB_str_bl, isB_int_int, isB_bool_int, isB_bool_bl, isB_int_bl, isB_int_str, isB_bool_str, f_join_nil, f_join_signs, f_all_map, f_any_map, f_lstrip, f_cut_str, f_cut_lst, f_cut_tup, q_while, q_bm, isTy_str, isTy_lst, isTy_dic, q_part, partK_int, q_noPart, q_cut, q_range2, range2K_int, q_get2, get2K_dic, key_str, key_int, q_dict, q_pairs_nil, pairK_some, q_pairs_cons, q_app, appK_own, q_frz, frzK_own, frzK_val, frzK_no, q_aug, augK_val, f_ix_lst, f_ix_tup, f_ix_scr, f_ix_str, Int.reduceToNat, List.getD_cons_zero, List.getD_cons_succ, q_forN, Int.toNat_natCast, f_in_sign, f_neg_int, f_is_non, f_isNot_non, isNon_non, isNon_tup, isNon_int, isNon_str, isNon_lst, isNon_dic, isNon_bl, isNon_obj, isB_tuple_tup, isB_list_lst, isB_str_tup, isB_str_lst, isB_str_non, isB_tuple_non, u_Number_fits, b_Number_fits, u_is_number, b_is_number, s_is_whole, p, h1, h2]
/-! what is coded, sign by sign -/
def psQ : List (Nat × Nat) := [(94, 94), (34, 113), (10, 110)]
def psP : List (Nat × Nat) := [(126, 126), (60, 108), (62, 103), (38, 97), (124, 98), (10, 110)]
def psL : List (Nat × Nat) := [(126, 126), (10, 110)]
theorem cdQ : Cd 94 psQ := ⟨⟨94, by decide⟩, by decide, by decide⟩
theorem cdP : Cd 126 psP := ⟨⟨126, by decide⟩, by decide, by decide⟩
theorem cdL : Cd 126 psL := ⟨⟨126, by decide⟩, by decide, by decide⟩
def enQ (t : Tx) : Tx := t.flatMap (encS 94 psQ)
def enP (t : Tx) : Tx := t.flatMap (encS 126 psP)
def enL (t : Tx) : Tx := t.flatMap (encS 126 psL)
theorem li_en (t : Tx) : li t = enL t := by
  unfold li enL rp
  refine flatMap_pt (fun c => ?_) t
  by_cases h1 : c = 126
  · subst h1; rfl
  by_cases h2 : c = 10
  · subst h2; rfl
  simp [h1, h2, encS, psL, Ne.symm h1, Ne.symm h2]
theorem qd_en (t : Tx) : qd t = 34 :: (enQ t ++ [34]) := by
  unfold qd enQ rp
  rw [List.flatMap_assoc, List.flatMap_assoc]
  congr 3
  funext c
  by_cases h1 : c = 94
  · subst h1; rfl
  by_cases h2 : c = 34
  · subst h2; rfl
  by_cases h3 : c = 10
  · subst h3; rfl
  simp [h1, h2, h3, encS, psQ, Ne.symm h1, Ne.symm h2, Ne.symm h3]
theorem pl_en (t : Tx) : pl t = enP t := by
  unfold pl enP rp
  rw [List.flatMap_assoc, List.flatMap_assoc, List.flatMap_assoc, List.flatMap_assoc, List.flatMap_assoc]
  congr 1
  funext c
  by_cases h1 : c = 126
  · subst h1; rfl
  by_cases h2 : c = 60
  · subst h2; rfl
  by_cases h3 : c = 62
  · subst h3; rfl
  by_cases h4 : c = 38
  · subst h4; rfl
  by_cases h5 : c = 124
  · subst h5; rfl
  by_cases h6 : c = 10
  · subst h6; rfl
  simp [h1, h2, h3, h4, h5, h6, encS, psP, Ne.symm h1, Ne.symm h2, Ne.symm h3, Ne.symm h4, Ne.symm h5, Ne.symm h6]
theorem m_word (k c : Nat) (t : Tx) : Ψ (k + 1) .Way_marked [.obj c, .str t] = pure (.str t) := by
  simp (disch := (first | with_reducible assumption | omega | ((try simp only [q_sl, List.length_append, List.length_map, List.length_cons, List.length_nil, and_true, true_and]); first | omega | decide))) only [bnd_pure, q_runF, fin_nx, fin_rt, q_var0, q_vars, q_C, q_bin, q_chain, chainK_bl, q_tru, truK_bl, truK_int, truK_lst, truK_tup, truK_non, truK_str, q_test, tstK_bl, q_and, q_or, q_not, q_andV, q_orV, q_notV, q_ifE, q_un, q_nil, q_cons, q_tup, q_lst, q_callF, q_call, q_meth, methK_obj, methO_some, q_isB, q_items, itemsK_str, itemsK_lst, itemsK_tup, q_range1, rangeK_int, q_nop, q_seq, seqK_nx, seqK_rt, seqK_bk, seqK_ct, q_if, q_ret, q_retN, q_drop, q_set, q_setOwn, q_for, q_for_nil, forK_nx, forK_ct, forK_bk, forK_rt, gd_true, lf_some, f_add_int, f_add_str, f_add_lst, f_add_tup, f_sub_int, f_mul_r, f_mul_l, f_mod, f_div, f_eq_str, f_eq_int, f_eq_bl, f_ne_str, f_ne_int, f_ne_bl, f_lt, f_le, f_gt, f_ge, f_in_sign, f_notIn_sign, f_is_bl, f_len_str, f_len_lst, f_len_tup, f_len_scr, f_len_dic, f_int_bl, f_int_int, List.length_cons, List.length_nil, List.length_replicate, List.length_set, List.set_cons_zero, List.set_cons_succ, List.getElem?_cons_zero, List.getElem?_cons_succ, Nat.reduceAdd, Nat.reduceLT, Nat.zero_lt_succ, Nat.lt_add_one, if_true, if_false, Bool.not_true, Bool.not_false, Bool.false_eq_true, reduceIte, decide_true, decide_false, reduceCtorEq, List.cons.injEq, Nat.reduceEqDiff, and_true, true_and, and_false, false_and, isB_str_str, isB_str_int, isB_str_bl, isB_int_int, isB_bool_int, isB_bool_bl, isB_int_bl, isB_int_str, isB_bool_str, f_join_nil, f_join_signs, f_all_map, f_any_map, f_lstrip, f_cut_str, f_cut_lst, f_cut_tup, q_while, q_bm, isTy_str, isTy_lst, isTy_dic, q_part, partK_int, q_noPart, q_cut, q_range2, range2K_int, q_get2, get2K_dic, key_str, key_int, q_dict, q_pairs_nil, pairK_some, q_pairs_cons, q_app, appK_own, q_frz, frzK_own, frzK_val, frzK_no, q_aug, augK_val, f_ix_lst, f_ix_tup, f_ix_scr, f_ix_str, Int.reduceToNat, List.getD_cons_zero, List.getD_cons_succ, q_forN, Int.toNat_natCast, f_in_sign, f_neg_int, f_is_non, f_isNot_non, isNon_non, isNon_tup, isNon_int, isNon_str, isNon_lst, isNon_dic, isNon_bl, isNon_obj, isB_tuple_tup, isB_list_lst, isB_str_tup, isB_str_lst, isB_str_non, isB_tuple_non, u_Way_marked, b_Way_marked]
theorem m_number (k : Nat) (n : Int) (h : -(10 ^ 30) < n ∧ n < 10 ^ 30) : Ψ (k + 1) .Number_marked [.obj 5, .int n] = pure (.str (strI n)) := by
  have e : fStr [.int n] = pure (.str (strI n)) := gd_true (log_ok n h)
  simp (disch := (first | with_reducible assumption | omega | ((try simp only [q_sl, List.length_append, List.length_map, List.length_cons, List.length_nil, and_true, true_and]); first | omega | decide))) only [bnd_pure, q_runF, fin_nx, fin_rt, q_var0, q_vars, q_C, q_bin, q_chain, chainK_bl, q_tru, truK_bl, truK_int, truK_lst, truK_tup, truK_non, truK_str, q_test, tstK_bl, q_and, q_or, q_not, q_andV, q_orV, q_notV, q_ifE, q_un, q_nil, q_cons, q_tup, q_lst, q_callF, q_call, q_meth, methK_obj, methO_some, q_isB, q_items, itemsK_str, itemsK_lst, itemsK_tup, q_range1, rangeK_int, q_nop, q_seq, seqK_nx, seqK_rt, seqK_bk, seqK_ct, q_if, q_ret, q_retN, q_drop, q_set, q_setOwn, q_for, q_for_nil, forK_nx, forK_ct, forK_bk, forK_rt, gd_true, lf_some, f_add_int, f_add_str, f_add_lst, f_add_tup, f_sub_int, f_mul_r, f_mul_l, f_mod, f_div, f_eq_str, f_eq_int, f_eq_bl, f_ne_str, f_ne_int, f_ne_bl, f_lt, f_le, f_gt, f_ge, f_in_sign, f_notIn_sign, f_is_bl, f_len_str, f_len_lst, f_len_tup, f_len_scr, f_len_dic, f_int_bl, f_int_int, List.length_cons, List.length_nil, List.length_replicate, List.length_set, List.set_cons_zero, List.set_cons_succ, List.getElem?_cons_zero, List.getElem?_cons_succ, Nat.reduceAdd, Nat.reduceLT, Nat.zero_lt_succ, Nat.lt_add_one, if_true, if_false, Bool.not_true, Bool.not_false, Bool.false_eq_true, reduceIte, decide_true, decide_false, reduceCtorEq, List.cons.injEq, Nat.reduceEqDiff, and_true, true_and, and_false, false_and, isB_str_str, isB_str_int, isB_str_bl, isB_int_int, isB_bool_int, isB_bool_bl, isB_int_bl, isB_int_str, isB_bool_str, f_join_nil, f_join_signs, f_all_map, f_any_map, f_lstrip, f_cut_str, f_cut_lst, f_cut_tup, q_while, q_bm, isTy_str, isTy_lst, isTy_dic, q_part, partK_int, q_noPart, q_cut, q_range2, range2K_int, q_get2, get2K_dic, key_str, key_int, q_dict, q_pairs_nil, pairK_some, q_pairs_cons, q_app, appK_own, q_frz, frzK_own, frzK_val, frzK_no, q_aug, augK_val, f_ix_lst, f_ix_tup, f_ix_scr, f_ix_str, Int.reduceToNat, List.getD_cons_zero, List.getD_cons_succ, q_forN, Int.toNat_natCast, f_in_sign, f_neg_int, f_is_non, f_isNot_non, isNon_non, isNon_tup, isNon_int, isNon_str, isNon_lst, isNon_dic, isNon_bl, isNon_obj, isB_tuple_tup, isB_list_lst, isB_str_tup, isB_str_lst, isB_str_non, isB_tuple_non, u_Number_marked, b_Number_marked, e]
theorem m_quoted (k : Nat) (t : Tx) (h : t.length ≤ 400) : Ψ (k + 1) .Quoted_marked [.obj 6, .str t] = pure (.str (34 :: (enQ t ++ [34]))) := by
  have l1 := rp_len (c := 94) (z := [94, 94]) (x := t) rfl h
  have l2 := rp_len (c := 34) (z := [94, 113]) rfl l1
  have l3 := rp_len (c := 10) (z := [94, 110]) rfl l2
  rw [← qd_en]
  simp (disch := (first | with_reducible assumption | omega | ((try simp only [q_sl, List.length_append, List.length_map, List.length_cons, List.length_nil, and_true, true_and]); first | omega | decide))) only [bnd_pure, q_runF, fin_nx, fin_rt, q_var0, q_vars, q_C, q_bin, q_chain, chainK_bl, q_tru, truK_bl, truK_int, truK_lst, truK_tup, truK_non, truK_str, q_test, tstK_bl, q_and, q_or, q_not, q_andV, q_orV, q_notV, q_ifE, q_un, q_nil, q_cons, q_tup, q_lst, q_callF, q_call, q_meth, methK_obj, methO_some, q_isB, q_items, itemsK_str, itemsK_lst, itemsK_tup, q_range1, rangeK_int, q_nop, q_seq, seqK_nx, seqK_rt, seqK_bk, seqK_ct, q_if, q_ret, q_retN, q_drop, q_set, q_setOwn, q_for, q_for_nil, forK_nx, forK_ct, forK_bk, forK_rt, gd_true, lf_some, f_add_int, f_add_str, f_add_lst, f_add_tup, f_sub_int, f_mul_r, f_mul_l, f_mod, f_div, f_eq_str, f_eq_int, f_eq_bl, f_ne_str, f_ne_int, f_ne_bl, f_lt, f_le, f_gt, f_ge, f_in_sign, f_notIn_sign, f_is_bl, f_len_str, f_len_lst, f_len_tup, f_len_scr, f_len_dic, f_int_bl, f_int_int, List.length_cons, List.length_nil, List.length_replicate, List.length_set, List.set_cons_zero, List.set_cons_succ, List.getElem?_cons_zero, List.getElem?_cons_succ, Nat.reduceAdd, Nat.reduceLT, Nat.zero_lt_succ, Nat.lt_add_one, if_true, if_false, Bool.not_true, Bool.not_false, Bool.false_eq_true, reduceIte, decide_true, decide_false, reduceCtorEq, List.cons.injEq, Nat.reduceEqDiff, and_true, true_and, and_false, false_and, isB_str_str, isB_str_int, isB_str_bl, isB_int_int, isB_bool_int, isB_bool_bl, isB_int_bl, isB_int_str, isB_bool_str, f_join_nil, f_join_signs, f_all_map, f_any_map, f_lstrip, f_cut_str, f_cut_lst, f_cut_tup, q_while, q_bm, isTy_str, isTy_lst, isTy_dic, q_part, partK_int, q_noPart, q_cut, q_range2, range2K_int, q_get2, get2K_dic, key_str, key_int, q_dict, q_pairs_nil, pairK_some, q_pairs_cons, q_app, appK_own, q_frz, frzK_own, frzK_val, frzK_no, q_aug, augK_val, f_ix_lst, f_ix_tup, f_ix_scr, f_ix_str, Int.reduceToNat, List.getD_cons_zero, List.getD_cons_succ, q_forN, Int.toNat_natCast, f_in_sign, f_neg_int, f_is_non, f_isNot_non, isNon_non, isNon_tup, isNon_int, isNon_str, isNon_lst, isNon_dic, isNon_bl, isNon_obj, isB_tuple_tup, isB_list_lst, isB_str_tup, isB_str_lst, isB_str_non, isB_tuple_non, u_Quoted_marked, b_Quoted_marked, f_rp]
  rfl
theorem m_plain (k : Nat) (t : Tx) (h : t.length ≤ 400) : Ψ (k + 1) .Plain_marked [.obj 7, .str t] = pure (.str (enP t)) := by
  have l1 := rp_len (c := 126) (z := [126, 126]) (x := t) rfl h
  have l2 := rp_len (c := 60) (z := [126, 108]) rfl l1
  have l3 := rp_len (c := 62) (z := [126, 103]) rfl l2
  have l4 := rp_len (c := 38) (z := [126, 97]) rfl l3
  have l5 := rp_len (c := 124) (z := [126, 98]) rfl l4
  rw [← pl_en]
  simp (disch := (first | with_reducible assumption | omega | ((try simp only [q_sl, List.length_append, List.length_map, List.length_cons, List.length_nil, and_true, true_and]); first | omega | decide))) only [bnd_pure, q_runF, fin_nx, fin_rt, q_var0, q_vars, q_C, q_bin, q_chain, chainK_bl, q_tru, truK_bl, truK_int, truK_lst, truK_tup, truK_non, truK_str, q_test, tstK_bl, q_and, q_or, q_not, q_andV, q_orV, q_notV, q_ifE, q_un, q_nil, q_cons, q_tup, q_lst, q_callF, q_call, q_meth, methK_obj, methO_some, q_isB, q_items, itemsK_str, itemsK_lst, itemsK_tup, q_range1, rangeK_int, q_nop, q_seq, seqK_nx, seqK_rt, seqK_bk, seqK_ct, q_if, q_ret, q_retN, q_drop, q_set, q_setOwn, q_for, q_for_nil, forK_nx, forK_ct, forK_bk, forK_rt, gd_true, lf_some, f_add_int, f_add_str, f_add_lst, f_add_tup, f_sub_int, f_mul_r, f_mul_l, f_mod, f_div, f_eq_str, f_eq_int, f_eq_bl, f_ne_str, f_ne_int, f_ne_bl, f_lt, f_le, f_gt, f_ge, f_in_sign, f_notIn_sign, f_is_bl, f_len_str, f_len_lst, f_len_tup, f_len_scr, f_len_dic, f_int_bl, f_int_int, List.length_cons, List.length_nil, List.length_replicate, List.length_set, List.set_cons_zero, List.set_cons_succ, List.getElem?_cons_zero, List.getElem?_cons_succ, Nat.reduceAdd, Nat.reduceLT, Nat.zero_lt_succ, Nat.lt_add_one, if_true, if_false, Bool.not_true, Bool.not_false, Bool.false_eq_true, reduceIte, decide_true, decide_false, reduceCtorEq, List.cons.injEq, Nat.reduceEqDiff, and_true, true_and, and_false, false_and, isB_str_str, isB_str_int, isB_str_bl, isB_int_int, isB_bool_int, isB_bool_bl, isB_int_bl, isB_int_str, isB_bool_str, f_join_nil, f_join_signs, f_all_map, f_any_map, f_lstrip, f_cut_str, f_cut_lst, f_cut_tup, q_while, q_bm, isTy_str, isTy_lst, isTy_dic, q_part, partK_int, q_noPart, q_cut, q_range2, range2K_int, q_get2, get2K_dic, key_str, key_int, q_dict, q_pairs_nil, pairK_some, q_pairs_cons, q_app, appK_own, q_frz, frzK_own, frzK_val, frzK_no, q_aug, augK_val, f_ix_lst, f_ix_tup, f_ix_scr, f_ix_str, Int.reduceToNat, List.getD_cons_zero, List.getD_cons_succ, q_forN, Int.toNat_natCast, f_in_sign, f_neg_int, f_is_non, f_isNot_non, isNon_non, isNon_tup, isNon_int, isNon_str, isNon_lst, isNon_dic, isNon_bl, isNon_obj, isB_tuple_tup, isB_list_lst, isB_str_tup, isB_str_lst, isB_str_non, isB_tuple_non, u_Plain_marked, b_Plain_marked, f_rp]
  rfl
theorem m_line (k : Nat) (t : Tx) (h : t.length ≤ 400) : Ψ (k + 1) .Line_marked [.obj 8, .str t] = pure (.str (enL t)) := by
  have l1 := rp_len (c := 126) (z := [126, 126]) (x := t) rfl h
  rw [← li_en]
  simp (disch := (first | with_reducible assumption | omega | ((try simp only [q_sl, List.length_append, List.length_map, List.length_cons, List.length_nil, and_true, true_and]); first | omega | decide))) only [bnd_pure, q_runF, fin_nx, fin_rt, q_var0, q_vars, q_C, q_bin, q_chain, chainK_bl, q_tru, truK_bl, truK_int, truK_lst, truK_tup, truK_non, truK_str, q_test, tstK_bl, q_and, q_or, q_not, q_andV, q_orV, q_notV, q_ifE, q_un, q_nil, q_cons, q_tup, q_lst, q_callF, q_call, q_meth, methK_obj, methO_some, q_isB, q_items, itemsK_str, itemsK_lst, itemsK_tup, q_range1, rangeK_int, q_nop, q_seq, seqK_nx, seqK_rt, seqK_bk, seqK_ct, q_if, q_ret, q_retN, q_drop, q_set, q_setOwn, q_for, q_for_nil, forK_nx, forK_ct, forK_bk, forK_rt, gd_true, lf_some, f_add_int, f_add_str, f_add_lst, f_add_tup, f_sub_int, f_mul_r, f_mul_l, f_mod, f_div, f_eq_str, f_eq_int, f_eq_bl, f_ne_str, f_ne_int, f_ne_bl, f_lt, f_le, f_gt, f_ge, f_in_sign, f_notIn_sign, f_is_bl, f_len_str, f_len_lst, f_len_tup, f_len_scr, f_len_dic, f_int_bl, f_int_int, List.length_cons, List.length_nil, List.length_replicate, List.length_set, List.set_cons_zero, List.set_cons_succ, List.getElem?_cons_zero, List.getElem?_cons_succ, Nat.reduceAdd, Nat.reduceLT, Nat.zero_lt_succ, Nat.lt_add_one, if_true, if_false, Bool.not_true, Bool.not_false, Bool.false_eq_true, reduceIte, decide_true, decide_false, reduceCtorEq, List.cons.injEq, Nat.reduceEqDiff, and_true, true_and, and_false, false_and, isB_str_str, isB_str_int, isB_str_bl, isB_int_int, isB_bool_int, isB_bool_bl, isB_int_bl, isB_int_str, isB_bool_str, f_join_nil, f_join_signs, f_all_map, f_any_map, f_lstrip, f_cut_str, f_cut_lst, f_cut_tup, q_while, q_bm, isTy_str, isTy_lst, isTy_dic, q_part, partK_int, q_noPart, q_cut, q_range2, range2K_int, q_get2, get2K_dic, key_str, key_int, q_dict, q_pairs_nil, pairK_some, q_pairs_cons, q_app, appK_own, q_frz, frzK_own, frzK_val, frzK_no, q_aug, augK_val, f_ix_lst, f_ix_tup, f_ix_scr, f_ix_str, Int.reduceToNat, List.getD_cons_zero, List.getD_cons_succ, q_forN, Int.toNat_natCast, f_in_sign, f_neg_int, f_is_non, f_isNot_non, isNon_non, isNon_tup, isNon_int, isNon_str, isNon_lst, isNon_dic, isNon_bl, isNon_obj, isB_tuple_tup, isB_list_lst, isB_str_tup, isB_str_lst, isB_str_non, isB_tuple_non, u_Line_marked, b_Line_marked, f_rp]
  rfl
end K02.Ma
end
section
set_option linter.all false
set_option maxRecDepth 100000
namespace K02.Ma
open PySem L2 DL
variable {Ψ : Nat → Fid → List D → M D} [IsΦ Ψ]
theorem cut_one (T : Tx) (i : Nat) : cutL T (some (i : Int)) (some ((i : Int) + 1)) = (T.drop i).take 1 := by
  rw [cut_mid T _ _ (by omega) (by omega), Int.toNat_natCast]
  congr 1
  omega
theorem cut_st (T st : Tx) (i : Nat) (h : (T.drop i).take st.length = st) : cutL T (some (i : Int)) (some ((i : Int) + (st.length : Int))) = st := by
  rw [cut_mid T _ _ (by omega) (by omega), Int.toNat_natCast]
  have e : ((i : Int) + (st.length : Int)).toNat - i = st.length := by omega
  rw [e, h]
theorem take_tw (p : Nat → Bool) (x : Tx) : x.take (x.takeWhile p).length = x.takeWhile p := (List.prefix_iff_eq_take.mp (List.takeWhile_prefix p)).symm
/-! how far -/
theorem s_behind (k cn : Nat) (T e : Tx) (i : Nat) (hi : i ≤ T.length) (hl : T.length ≤ 100000) (he : methO 1 (pure []) cn (tbl_ends (Ψ k) cn) = pure (.str e)) :
    Ψ (k + 1) .Way_behind [.obj cn, .str T, .int (i : Int)] = pure (.int (((i + span (fun c => !decide (c ∈ e)) T i : Nat)) : Int)) := by
  simp (disch := (first | with_reducible assumption | omega | ((try simp only [q_sl, List.length_append, List.length_map, List.length_cons, List.length_nil, and_true, true_and]); first | omega | decide))) only [bnd_pure, q_runF, fin_nx, fin_rt, q_var0, q_vars, q_C, q_bin, q_chain, chainK_bl, q_tru, truK_bl, truK_int, truK_lst, truK_tup, truK_non, truK_str, q_test, tstK_bl, q_and, q_or, q_not, q_andV, q_orV, q_notV, q_ifE, q_un, q_nil, q_cons, q_tup, q_lst, q_callF, q_call, q_meth, methK_obj, methO_some, q_isB, q_items, itemsK_str, itemsK_lst, itemsK_tup, q_range1, rangeK_int, q_nop, q_seq, seqK_nx, seqK_rt, seqK_bk, seqK_ct, q_if, q_ret, q_retN, q_drop, q_set, q_setOwn, q_for, q_for_nil, forK_nx, forK_ct, forK_bk, forK_rt, gd_true, lf_some, f_add_int, f_add_str, f_add_lst, f_add_tup, f_sub_int, f_mul_r, f_mul_l, f_mod, f_div, f_eq_str, f_eq_int, f_eq_bl, f_ne_str, f_ne_int, f_ne_bl, f_lt, f_le, f_gt, f_ge, f_in_sign, f_notIn_sign, f_is_bl, f_len_str, f_len_lst, f_len_tup, f_len_scr, f_len_dic, f_int_bl, f_int_int, List.length_cons, List.length_nil, List.length_replicate, List.length_set, List.set_cons_zero, List.set_cons_succ, List.getElem?_cons_zero, List.getElem?_cons_succ, Nat.reduceAdd, Nat.reduceLT, Nat.zero_lt_succ, Nat.lt_add_one, if_true, if_false, Bool.not_true, Bool.not_false, Bool.false_eq_true, reduceIte, decide_true, decide_false, reduceCtorEq, List.cons.injEq, Nat.reduceEqDiff, and_true, true_and, and_false, false_and, isB_str_str, isB_str_int, isB_str_bl, isB_int_int, isB_bool_int, isB_bool_bl, isB_int_bl, isB_int_str, isB_bool_str, f_join_nil, f_join_signs, f_all_map, f_any_map, f_lstrip, f_cut_str, f_cut_lst, f_cut_tup, q_while, q_bm, isTy_str, isTy_lst, isTy_dic, q_part, partK_int, q_noPart, q_cut, q_range2, range2K_int, q_get2, get2K_dic, key_str, key_int, q_dict, q_pairs_nil, pairK_some, q_pairs_cons, q_app, appK_own, q_frz, frzK_own, frzK_val, frzK_no, q_aug, augK_val, f_ix_lst, f_ix_tup, f_ix_scr, f_ix_str, Int.reduceToNat, List.getD_cons_zero, List.getD_cons_succ, q_forN, Int.toNat_natCast, f_in_sign, f_neg_int, f_is_non, f_isNot_non, isNon_non, isNon_tup, isNon_int, isNon_str, isNon_lst, isNon_dic, isNon_bl, isNon_obj, isB_tuple_tup, isB_list_lst, isB_str_tup, isB_str_lst, isB_str_non, isB_tuple_non, u_Way_behind, b_Way_behind, he]
  rw [while_span (fun c => !decide (c ∈ e)) T (fun j => [.val (.obj cn), .val (.str T), .val (.int (j : Int)), .val (.str e)]) (fun j hj => by
    by_cases h : j < T.length
    · have h' : (j : Int) < (T.length : Int) := by omega
      simp (disch := (first | with_reducible assumption | omega | ((try simp only [q_sl, List.length_append, List.length_map, List.length_cons, List.length_nil, and_true, true_and]); first | omega | decide))) only [bnd_pure, q_runF, fin_nx, fin_rt, q_var0, q_vars, q_C, q_bin, q_chain, chainK_bl, q_tru, truK_bl, truK_int, truK_lst, truK_tup, truK_non, truK_str, q_test, tstK_bl, q_and, q_or, q_not, q_andV, q_orV, q_notV, q_ifE, q_un, q_nil, q_cons, q_tup, q_lst, q_callF, q_call, q_meth, methK_obj, methO_some, q_isB, q_items, itemsK_str, itemsK_lst, itemsK_tup, q_range1, rangeK_int, q_nop, q_seq, seqK_nx, seqK_rt, seqK_bk, seqK_ct, q_if, q_ret, q_retN, q_drop, q_set, q_setOwn, q_for, q_for_nil, forK_nx, forK_ct, forK_bk, forK_rt, gd_true, lf_some, f_add_int, f_add_str, f_add_lst, f_add_tup, f_sub_int, f_mul_r, f_mul_l, f_mod, f_div, f_eq_str, f_eq_int, f_eq_bl, f_ne_str, f_ne_int, f_ne_bl, f_lt, f_le, f_gt, f_ge, f_in_sign, f_notIn_sign, f_is_bl, f_len_str, f_len_lst, f_len_tup, f_len_scr, f_len_dic, f_int_bl, f_int_int, List.length_cons, List.length_nil, List.length_replicate, List.length_set, List.set_cons_zero, List.set_cons_succ, List.getElem?_cons_zero, List.getElem?_cons_succ, Nat.reduceAdd, Nat.reduceLT, Nat.zero_lt_succ, Nat.lt_add_one, if_true, if_false, Bool.not_true, Bool.not_false, Bool.false_eq_true, reduceIte, decide_true, decide_false, reduceCtorEq, List.cons.injEq, Nat.reduceEqDiff, and_true, true_and, and_false, false_and, isB_str_str, isB_str_int, isB_str_bl, isB_int_int, isB_bool_int, isB_bool_bl, isB_int_bl, isB_int_str, isB_bool_str, f_join_nil, f_join_signs, f_all_map, f_any_map, f_lstrip, f_cut_str, f_cut_lst, f_cut_tup, q_while, q_bm, isTy_str, isTy_lst, isTy_dic, q_part, partK_int, q_noPart, q_cut, q_range2, range2K_int, q_get2, get2K_dic, key_str, key_int, q_dict, q_pairs_nil, pairK_some, q_pairs_cons, q_app, appK_own, q_frz, frzK_own, frzK_val, frzK_no, q_aug, augK_val, f_ix_lst, f_ix_tup, f_ix_scr, f_ix_str, Int.reduceToNat, List.getD_cons_zero, List.getD_cons_succ, q_forN, Int.toNat_natCast, f_in_sign, f_neg_int, f_is_non, f_isNot_non, isNon_non, isNon_tup, isNon_int, isNon_str, isNon_lst, isNon_dic, isNon_bl, isNon_obj, isB_tuple_tup, isB_list_lst, isB_str_tup, isB_str_lst, isB_str_non, isB_tuple_non, h', h, Bool.true_and]
    · have h' : ¬ (j : Int) < (T.length : Int) := by omega
      simp (disch := (first | with_reducible assumption | omega | ((try simp only [q_sl, List.length_append, List.length_map, List.length_cons, List.length_nil, and_true, true_and]); first | omega | decide))) only [bnd_pure, q_runF, fin_nx, fin_rt, q_var0, q_vars, q_C, q_bin, q_chain, chainK_bl, q_tru, truK_bl, truK_int, truK_lst, truK_tup, truK_non, truK_str, q_test, tstK_bl, q_and, q_or, q_not, q_andV, q_orV, q_notV, q_ifE, q_un, q_nil, q_cons, q_tup, q_lst, q_callF, q_call, q_meth, methK_obj, methO_some, q_isB, q_items, itemsK_str, itemsK_lst, itemsK_tup, q_range1, rangeK_int, q_nop, q_seq, seqK_nx, seqK_rt, seqK_bk, seqK_ct, q_if, q_ret, q_retN, q_drop, q_set, q_setOwn, q_for, q_for_nil, forK_nx, forK_ct, forK_bk, forK_rt, gd_true, lf_some, f_add_int, f_add_str, f_add_lst, f_add_tup, f_sub_int, f_mul_r, f_mul_l, f_mod, f_div, f_eq_str, f_eq_int, f_eq_bl, f_ne_str, f_ne_int, f_ne_bl, f_lt, f_le, f_gt, f_ge, f_in_sign, f_notIn_sign, f_is_bl, f_len_str, f_len_lst, f_len_tup, f_len_scr, f_len_dic, f_int_bl, f_int_int, List.length_cons, List.length_nil, List.length_replicate, List.length_set, List.set_cons_zero, List.set_cons_succ, List.getElem?_cons_zero, List.getElem?_cons_succ, Nat.reduceAdd, Nat.reduceLT, Nat.zero_lt_succ, Nat.lt_add_one, if_true, if_false, Bool.not_true, Bool.not_false, Bool.false_eq_true, reduceIte, decide_true, decide_false, reduceCtorEq, List.cons.injEq, Nat.reduceEqDiff, and_true, true_and, and_false, false_and, isB_str_str, isB_str_int, isB_str_bl, isB_int_int, isB_bool_int, isB_bool_bl, isB_int_bl, isB_int_str, isB_bool_str, f_join_nil, f_join_signs, f_all_map, f_any_map, f_lstrip, f_cut_str, f_cut_lst, f_cut_tup, q_while, q_bm, isTy_str, isTy_lst, isTy_dic, q_part, partK_int, q_noPart, q_cut, q_range2, range2K_int, q_get2, get2K_dic, key_str, key_int, q_dict, q_pairs_nil, pairK_some, q_pairs_cons, q_app, appK_own, q_frz, frzK_own, frzK_val, frzK_no, q_aug, augK_val, f_ix_lst, f_ix_tup, f_ix_scr, f_ix_str, Int.reduceToNat, List.getD_cons_zero, List.getD_cons_succ, q_forN, Int.toNat_natCast, f_in_sign, f_neg_int, f_is_non, f_isNot_non, isNon_non, isNon_tup, isNon_int, isNon_str, isNon_lst, isNon_dic, isNon_bl, isNon_obj, isB_tuple_tup, isB_list_lst, isB_str_tup, isB_str_lst, isB_str_non, isB_tuple_non, h', h, Bool.false_and]) (fun j hj => by simp (disch := (first | with_reducible assumption | omega | ((try simp only [q_sl, List.length_append, List.length_map, List.length_cons, List.length_nil, and_true, true_and]); first | omega | decide))) only [bnd_pure, q_runF, fin_nx, fin_rt, q_var0, q_vars, q_C, q_bin, q_chain, chainK_bl, q_tru, truK_bl, truK_int, truK_lst, truK_tup, truK_non, truK_str, q_test, tstK_bl, q_and, q_or, q_not, q_andV, q_orV, q_notV, q_ifE, q_un, q_nil, q_cons, q_tup, q_lst, q_callF, q_call, q_meth, methK_obj, methO_some, q_isB, q_items, itemsK_str, itemsK_lst, itemsK_tup, q_range1, rangeK_int, q_nop, q_seq, seqK_nx, seqK_rt, seqK_bk, seqK_ct, q_if, q_ret, q_retN, q_drop, q_set, q_setOwn, q_for, q_for_nil, forK_nx, forK_ct, forK_bk, forK_rt, gd_true, lf_some, f_add_int, f_add_str, f_add_lst, f_add_tup, f_sub_int, f_mul_r, f_mul_l, f_mod, f_div, f_eq_str, f_eq_int, f_eq_bl, f_ne_str, f_ne_int, f_ne_bl, f_lt, f_le, f_gt, f_ge, f_in_sign, f_notIn_sign, f_is_bl, f_len_str, f_len_lst, f_len_tup, f_len_scr, f_len_dic, f_int_bl, f_int_int, List.length_cons, List.length_nil, List.length_replicate, List.length_set, List.set_cons_zero, List.set_cons_succ, List.getElem?_cons_zero, List.getElem?_cons_succ, Nat.reduceAdd, Nat.reduceLT, Nat.zero_lt_succ, Nat.lt_add_one, if_true, if_false, Bool.not_true, Bool.not_false, Bool.false_eq_true, reduceIte, decide_true, decide_false, reduceCtorEq, List.cons.injEq, Nat.reduceEqDiff, and_true, true_and, and_false, false_and, isB_str_str, isB_str_int, isB_str_bl, isB_int_int, isB_bool_int, isB_bool_bl, isB_int_bl, isB_int_str, isB_bool_str, f_join_nil, f_join_signs, f_all_map, f_any_map, f_lstrip, f_cut_str, f_cut_lst, f_cut_tup, q_while, q_bm, isTy_str, isTy_lst, isTy_dic, q_part, partK_int, q_noPart, q_cut, q_range2, range2K_int, q_get2, get2K_dic, key_str, key_int, q_dict, q_pairs_nil, pairK_some, q_pairs_cons, q_app, appK_own, q_frz, frzK_own, frzK_val, frzK_no, q_aug, augK_val, f_ix_lst, f_ix_tup, f_ix_scr, f_ix_str, Int.reduceToNat, List.getD_cons_zero, List.getD_cons_succ, q_forN, Int.toNat_natCast, f_in_sign, f_neg_int, f_is_non, f_isNot_non, isNon_non, isNon_tup, isNon_int, isNon_str, isNon_lst, isNon_dic, isNon_bl, isNon_obj, isB_tuple_tup, isB_list_lst, isB_str_tup, isB_str_lst, isB_str_non, isB_tuple_non, l_Way_behind_0]; rfl) 1000000 i hi (by omega)]
  simp (disch := (first | with_reducible assumption | omega | ((try simp only [q_sl, List.length_append, List.length_map, List.length_cons, List.length_nil, and_true, true_and]); first | omega | decide))) only [bnd_pure, q_runF, fin_nx, fin_rt, q_var0, q_vars, q_C, q_bin, q_chain, chainK_bl, q_tru, truK_bl, truK_int, truK_lst, truK_tup, truK_non, truK_str, q_test, tstK_bl, q_and, q_or, q_not, q_andV, q_orV, q_notV, q_ifE, q_un, q_nil, q_cons, q_tup, q_lst, q_callF, q_call, q_meth, methK_obj, methO_some, q_isB, q_items, itemsK_str, itemsK_lst, itemsK_tup, q_range1, rangeK_int, q_nop, q_seq, seqK_nx, seqK_rt, seqK_bk, seqK_ct, q_if, q_ret, q_retN, q_drop, q_set, q_setOwn, q_for, q_for_nil, forK_nx, forK_ct, forK_bk, forK_rt, gd_true, lf_some, f_add_int, f_add_str, f_add_lst, f_add_tup, f_sub_int, f_mul_r, f_mul_l, f_mod, f_div, f_eq_str, f_eq_int, f_eq_bl, f_ne_str, f_ne_int, f_ne_bl, f_lt, f_le, f_gt, f_ge, f_in_sign, f_notIn_sign, f_is_bl, f_len_str, f_len_lst, f_len_tup, f_len_scr, f_len_dic, f_int_bl, f_int_int, List.length_cons, List.length_nil, List.length_replicate, List.length_set, List.set_cons_zero, List.set_cons_succ, List.getElem?_cons_zero, List.getElem?_cons_succ, Nat.reduceAdd, Nat.reduceLT, Nat.zero_lt_succ, Nat.lt_add_one, if_true, if_false, Bool.not_true, Bool.not_false, Bool.false_eq_true, reduceIte, decide_true, decide_false, reduceCtorEq, List.cons.injEq, Nat.reduceEqDiff, and_true, true_and, and_false, false_and, isB_str_str, isB_str_int, isB_str_bl, isB_int_int, isB_bool_int, isB_bool_bl, isB_int_bl, isB_int_str, isB_bool_str, f_join_nil, f_join_signs, f_all_map, f_any_map, f_lstrip, f_cut_str, f_cut_lst, f_cut_tup, q_while, q_bm, isTy_str, isTy_lst, isTy_dic, q_part, partK_int, q_noPart, q_cut, q_range2, range2K_int, q_get2, get2K_dic, key_str, key_int, q_dict, q_pairs_nil, pairK_some, q_pairs_cons, q_app, appK_own, q_frz, frzK_own, frzK_val, frzK_no, q_aug, augK_val, f_ix_lst, f_ix_tup, f_ix_scr, f_ix_str, Int.reduceToNat, List.getD_cons_zero, List.getD_cons_succ, q_forN, Int.toNat_natCast, f_in_sign, f_neg_int, f_is_non, f_isNot_non, isNon_non, isNon_tup, isNon_int, isNon_str, isNon_lst, isNon_dic, isNon_bl, isNon_obj, isB_tuple_tup, isB_list_lst, isB_str_tup, isB_str_lst, isB_str_non, isB_tuple_non]
/-- a stroke or none, signs of a kind -/
def stN (p : Nat → Bool) (x : Tx) : Tx := if x.take 1 = [45] then 45 :: (x.drop 1).takeWhile p else x.takeWhile p
theorem stN_pre (p : Nat → Bool) (x : Tx) : x.take (stN p x).length = stN p x := by
  unfold stN
  by_cases h : x.take 1 = [45]
  · rw [if_pos h]
    cases x with
    | nil => cases h
    | cons a r =>
      have ha : a = 45 := by simpa using h
      subst ha
      show 45 :: r.take (r.takeWhile p).length = 45 :: r.takeWhile p
      rw [take_tw]
  · rw [if_neg h]
    exact take_tw p x
theorem stN_len (p : Nat → Bool) (T : Tx) (i : Nat) : (stN p (T.drop i)).length = if (T.drop i).take 1 = [45] then 1 + span p T (i + 1) else span p T i := by
  unfold stN span
  by_cases h : (T.drop i).take 1 = [45]
  · rw [if_pos h, if_pos h, List.length_cons, List.drop_drop]
    omega
  · rw [if_neg h, if_neg h]
theorem lt_of_take {T : Tx} {i : Nat} {c : Nat} (h : (T.drop i).take 1 = [c]) : i < T.length := by
  refine Nat.lt_of_not_le fun z => ?_
  rw [List.drop_eq_nil_of_le z] at h
  cases h
theorem s_Number_behind (k : Nat) (T : Tx) (i : Nat) (hi : i ≤ T.length) (hl : T.length ≤ 100000) :
    Ψ (k + 1) .Number_behind [.obj 5, .str T, .int (i : Int)] = pure (.int (((i + (stN (fun c => decide (c ∈ c_FIGURES)) (T.drop i)).length : Nat)) : Int)) := by
  have key := fun (n : Nat) (hn : n ≤ T.length) => while_span (c := (mAnd (mTest (mBin fLt (mVar 2) (mCallF fLen (mCons (mVar 1) mNil)))) (mTest (mBin fIn (mBin fIx (mVar 1) (mVar 2)) (mC (.str c_FIGURES)))))) (m := l_Number_behind_0) (fun c => decide (c ∈ c_FIGURES)) T (fun j => [.val (.obj 5), .val (.str T), .val (.int (j : Int))]) (fun j hj => by
    by_cases h : j < T.length
    · have h' : (j : Int) < (T.length : Int) := by omega
      simp (disch := (first | with_reducible assumption | omega | ((try simp only [q_sl, List.length_append, List.length_map, List.length_cons, List.length_nil, and_true, true_and]); first | omega | decide))) only [bnd_pure, q_runF, fin_nx, fin_rt, q_var0, q_vars, q_C, q_bin, q_chain, chainK_bl, q_tru, truK_bl, truK_int, truK_lst, truK_tup, truK_non, truK_str, q_test, tstK_bl, q_and, q_or, q_not, q_andV, q_orV, q_notV, q_ifE, q_un, q_nil, q_cons, q_tup, q_lst, q_callF, q_call, q_meth, methK_obj, methO_some, q_isB, q_items, itemsK_str, itemsK_lst, itemsK_tup, q_range1, rangeK_int, q_nop, q_seq, seqK_nx, seqK_rt, seqK_bk, seqK_ct, q_if, q_ret, q_retN, q_drop, q_set, q_setOwn, q_for, q_for_nil, forK_nx, forK_ct, forK_bk, forK_rt, gd_true, lf_some, f_add_int, f_add_str, f_add_lst, f_add_tup, f_sub_int, f_mul_r, f_mul_l, f_mod, f_div, f_eq_str, f_eq_int, f_eq_bl, f_ne_str, f_ne_int, f_ne_bl, f_lt, f_le, f_gt, f_ge, f_in_sign, f_notIn_sign, f_is_bl, f_len_str, f_len_lst, f_len_tup, f_len_scr, f_len_dic, f_int_bl, f_int_int, List.length_cons, List.length_nil, List.length_replicate, List.length_set, List.set_cons_zero, List.set_cons_succ, List.getElem?_cons_zero, List.getElem?_cons_succ, Nat.reduceAdd, Nat.reduceLT, Nat.zero_lt_succ, Nat.lt_add_one, if_true, if_false, Bool.not_true, Bool.not_false, Bool.false_eq_true, reduceIte, decide_true, decide_false, reduceCtorEq, List.cons.injEq, Nat.reduceEqDiff, and_true, true_and, and_false, false_and, isB_str_str, isB_str_int, isB_str_bl, isB_int_int, isB_bool_int, isB_bool_bl, isB_int_bl, isB_int_str, isB_bool_str, f_join_nil, f_join_signs, f_all_map, f_any_map, f_lstrip, f_cut_str, f_cut_lst, f_cut_tup, q_while, q_bm, isTy_str, isTy_lst, isTy_dic, q_part, partK_int, q_noPart, q_cut, q_range2, range2K_int, q_get2, get2K_dic, key_str, key_int, q_dict, q_pairs_nil, pairK_some, q_pairs_cons, q_app, appK_own, q_frz, frzK_own, frzK_val, frzK_no, q_aug, augK_val, f_ix_lst, f_ix_tup, f_ix_scr, f_ix_str, Int.reduceToNat, List.getD_cons_zero, List.getD_cons_succ, q_forN, Int.toNat_natCast, f_in_sign, f_neg_int, f_is_non, f_isNot_non, isNon_non, isNon_tup, isNon_int, isNon_str, isNon_lst, isNon_dic, isNon_bl, isNon_obj, isB_tuple_tup, isB_list_lst, isB_str_tup, isB_str_lst, isB_str_non, isB_tuple_non, h', h, Bool.true_and]
    · have h' : ¬ (j : Int) < (T.length : Int) := by omega
      simp (disch := (first | with_reducible assumption | omega | ((try simp only [q_sl, List.length_append, List.length_map, List.length_cons, List.length_nil, and_true, true_and]); first | omega | decide))) only [bnd_pure, q_runF, fin_nx, fin_rt, q_var0, q_vars, q_C, q_bin, q_chain, chainK_bl, q_tru, truK_bl, truK_int, truK_lst, truK_tup, truK_non, truK_str, q_test, tstK_bl, q_and, q_or, q_not, q_andV, q_orV, q_notV, q_ifE, q_un, q_nil, q_cons, q_tup, q_lst, q_callF, q_call, q_meth, methK_obj, methO_some, q_isB, q_items, itemsK_str, itemsK_lst, itemsK_tup, q_range1, rangeK_int, q_nop, q_seq, seqK_nx, seqK_rt, seqK_bk, seqK_ct, q_if, q_ret, q_retN, q_drop, q_set, q_setOwn, q_for, q_for_nil, forK_nx, forK_ct, forK_bk, forK_rt, gd_true, lf_some, f_add_int, f_add_str, f_add_lst, f_add_tup, f_sub_int, f_mul_r, f_mul_l, f_mod, f_div, f_eq_str, f_eq_int, f_eq_bl, f_ne_str, f_ne_int, f_ne_bl, f_lt, f_le, f_gt, f_ge, f_in_sign, f_notIn_sign, f_is_bl, f_len_str, f_len_lst, f_len_tup, f_len_scr, f_len_dic, f_int_bl, f_int_int, List.length_cons, List.length_nil, List.length_replicate, List.length_set, List.set_cons_zero, List.set_cons_succ, List.getElem?_cons_zero, List.getElem?_cons_succ, Nat.reduceAdd, Nat.reduceLT, Nat.zero_lt_succ, Nat.lt_add_one, if_true, if_false, Bool.not_true, Bool.not_false, Bool.false_eq_true, reduceIte, decide_true, decide_false, reduceCtorEq, List.cons.injEq, Nat.reduceEqDiff, and_true, true_and, and_false, false_and, isB_str_str, isB_str_int, isB_str_bl, isB_int_int, isB_bool_int, isB_bool_bl, isB_int_bl, isB_int_str, isB_bool_str, f_join_nil, f_join_signs, f_all_map, f_any_map, f_lstrip, f_cut_str, f_cut_lst, f_cut_tup, q_while, q_bm, isTy_str, isTy_lst, isTy_dic, q_part, partK_int, q_noPart, q_cut, q_range2, range2K_int, q_get2, get2K_dic, key_str, key_int, q_dict, q_pairs_nil, pairK_some, q_pairs_cons, q_app, appK_own, q_frz, frzK_own, frzK_val, frzK_no, q_aug, augK_val, f_ix_lst, f_ix_tup, f_ix_scr, f_ix_str, Int.reduceToNat, List.getD_cons_zero, List.getD_cons_succ, q_forN, Int.toNat_natCast, f_in_sign, f_neg_int, f_is_non, f_isNot_non, isNon_non, isNon_tup, isNon_int, isNon_str, isNon_lst, isNon_dic, isNon_bl, isNon_obj, isB_tuple_tup, isB_list_lst, isB_str_tup, isB_str_lst, isB_str_non, isB_tuple_non, h', h, Bool.false_and]) (fun j hj => by simp (disch := (first | with_reducible assumption | omega | ((try simp only [q_sl, List.length_append, List.length_map, List.length_cons, List.length_nil, and_true, true_and]); first | omega | decide))) only [bnd_pure, q_runF, fin_nx, fin_rt, q_var0, q_vars, q_C, q_bin, q_chain, chainK_bl, q_tru, truK_bl, truK_int, truK_lst, truK_tup, truK_non, truK_str, q_test, tstK_bl, q_and, q_or, q_not, q_andV, q_orV, q_notV, q_ifE, q_un, q_nil, q_cons, q_tup, q_lst, q_callF, q_call, q_meth, methK_obj, methO_some, q_isB, q_items, itemsK_str, itemsK_lst, itemsK_tup, q_range1, rangeK_int, q_nop, q_seq, seqK_nx, seqK_rt, seqK_bk, seqK_ct, q_if, q_ret, q_retN, q_drop, q_set, q_setOwn, q_for, q_for_nil, forK_nx, forK_ct, forK_bk, forK_rt, gd_true, lf_some, f_add_int, f_add_str, f_add_lst, f_add_tup, f_sub_int, f_mul_r, f_mul_l, f_mod, f_div, f_eq_str, f_eq_int, f_eq_bl, f_ne_str, f_ne_int, f_ne_bl, f_lt, f_le, f_gt, f_ge, f_in_sign, f_notIn_sign, f_is_bl, f_len_str, f_len_lst, f_len_tup, f_len_scr, f_len_dic, f_int_bl, f_int_int, List.length_cons, List.length_nil, List.length_replicate, List.length_set, List.set_cons_zero, List.set_cons_succ, List.getElem?_cons_zero, List.getElem?_cons_succ, Nat.reduceAdd, Nat.reduceLT, Nat.zero_lt_succ, Nat.lt_add_one, if_true, if_false, Bool.not_true, Bool.not_false, Bool.false_eq_true, reduceIte, decide_true, decide_false, reduceCtorEq, List.cons.injEq, Nat.reduceEqDiff, and_true, true_and, and_false, false_and, isB_str_str, isB_str_int, isB_str_bl, isB_int_int, isB_bool_int, isB_bool_bl, isB_int_bl, isB_int_str, isB_bool_str, f_join_nil, f_join_signs, f_all_map, f_any_map, f_lstrip, f_cut_str, f_cut_lst, f_cut_tup, q_while, q_bm, isTy_str, isTy_lst, isTy_dic, q_part, partK_int, q_noPart, q_cut, q_range2, range2K_int, q_get2, get2K_dic, key_str, key_int, q_dict, q_pairs_nil, pairK_some, q_pairs_cons, q_app, appK_own, q_frz, frzK_own, frzK_val, frzK_no, q_aug, augK_val, f_ix_lst, f_ix_tup, f_ix_scr, f_ix_str, Int.reduceToNat, List.getD_cons_zero, List.getD_cons_succ, q_forN, Int.toNat_natCast, f_in_sign, f_neg_int, f_is_non, f_isNot_non, isNon_non, isNon_tup, isNon_int, isNon_str, isNon_lst, isNon_dic, isNon_bl, isNon_obj, isB_tuple_tup, isB_list_lst, isB_str_tup, isB_str_lst, isB_str_non, isB_tuple_non, l_Number_behind_0]; rfl) 1000000 n hn (by omega)
  rw [stN_len]
  by_cases h : (T.drop i).take 1 = [45]
  · have hlt := lt_of_take h
    have e : ((i : Int) + 1) = ((i + 1 : Nat) : Int) := by omega
    simp (disch := (first | with_reducible assumption | omega | ((try simp only [q_sl, List.length_append, List.length_map, List.length_cons, List.length_nil, and_true, true_and]); first | omega | decide))) only [bnd_pure, q_runF, fin_nx, fin_rt, q_var0, q_vars, q_C, q_bin, q_chain, chainK_bl, q_tru, truK_bl, truK_int, truK_lst, truK_tup, truK_non, truK_str, q_test, tstK_bl, q_and, q_or, q_not, q_andV, q_orV, q_notV, q_ifE, q_un, q_nil, q_cons, q_tup, q_lst, q_callF, q_call, q_meth, methK_obj, methO_some, q_isB, q_items, itemsK_str, itemsK_lst, itemsK_tup, q_range1, rangeK_int, q_nop, q_seq, seqK_nx, seqK_rt, seqK_bk, seqK_ct, q_if, q_ret, q_retN, q_drop, q_set, q_setOwn, q_for, q_for_nil, forK_nx, forK_ct, forK_bk, forK_rt, gd_true, lf_some, f_add_int, f_add_str, f_add_lst, f_add_tup, f_sub_int, f_mul_r, f_mul_l, f_mod, f_div, f_eq_str, f_eq_int, f_eq_bl, f_ne_str, f_ne_int, f_ne_bl, f_lt, f_le, f_gt, f_ge, f_in_sign, f_notIn_sign, f_is_bl, f_len_str, f_len_lst, f_len_tup, f_len_scr, f_len_dic, f_int_bl, f_int_int, List.length_cons, List.length_nil, List.length_replicate, List.length_set, List.set_cons_zero, List.set_cons_succ, List.getElem?_cons_zero, List.getElem?_cons_succ, Nat.reduceAdd, Nat.reduceLT, Nat.zero_lt_succ, Nat.lt_add_one, if_true, if_false, Bool.not_true, Bool.not_false, Bool.false_eq_true, reduceIte, decide_true, decide_false, reduceCtorEq, List.cons.injEq, Nat.reduceEqDiff, and_true, true_and, and_false, false_and, isB_str_str, isB_str_int, isB_str_bl, isB_int_int, isB_bool_int, isB_bool_bl, isB_int_bl, isB_int_str, isB_bool_str, f_join_nil, f_join_signs, f_all_map, f_any_map, f_lstrip, f_cut_str, f_cut_lst, f_cut_tup, q_while, q_bm, isTy_str, isTy_lst, isTy_dic, q_part, partK_int, q_noPart, q_cut, q_range2, range2K_int, q_get2, get2K_dic, key_str, key_int, q_dict, q_pairs_nil, pairK_some, q_pairs_cons, q_app, appK_own, q_frz, frzK_own, frzK_val, frzK_no, q_aug, augK_val, f_ix_lst, f_ix_tup, f_ix_scr, f_ix_str, Int.reduceToNat, List.getD_cons_zero, List.getD_cons_succ, q_forN, Int.toNat_natCast, f_in_sign, f_neg_int, f_is_non, f_isNot_non, isNon_non, isNon_tup, isNon_int, isNon_str, isNon_lst, isNon_dic, isNon_bl, isNon_obj, isB_tuple_tup, isB_list_lst, isB_str_tup, isB_str_lst, isB_str_non, isB_tuple_non, u_Number_behind, b_Number_behind, cut_one, h]
    rw [e, key (i + 1) (by omega)]
    simp (disch := (first | with_reducible assumption | omega | ((try simp only [q_sl, List.length_append, List.length_map, List.length_cons, List.length_nil, and_true, true_and]); first | omega | decide))) only [bnd_pure, q_runF, fin_nx, fin_rt, q_var0, q_vars, q_C, q_bin, q_chain, chainK_bl, q_tru, truK_bl, truK_int, truK_lst, truK_tup, truK_non, truK_str, q_test, tstK_bl, q_and, q_or, q_not, q_andV, q_orV, q_notV, q_ifE, q_un, q_nil, q_cons, q_tup, q_lst, q_callF, q_call, q_meth, methK_obj, methO_some, q_isB, q_items, itemsK_str, itemsK_lst, itemsK_tup, q_range1, rangeK_int, q_nop, q_seq, seqK_nx, seqK_rt, seqK_bk, seqK_ct, q_if, q_ret, q_retN, q_drop, q_set, q_setOwn, q_for, q_for_nil, forK_nx, forK_ct, forK_bk, forK_rt, gd_true, lf_some, f_add_int, f_add_str, f_add_lst, f_add_tup, f_sub_int, f_mul_r, f_mul_l, f_mod, f_div, f_eq_str, f_eq_int, f_eq_bl, f_ne_str, f_ne_int, f_ne_bl, f_lt, f_le, f_gt, f_ge, f_in_sign, f_notIn_sign, f_is_bl, f_len_str, f_len_lst, f_len_tup, f_len_scr, f_len_dic, f_int_bl, f_int_int, List.length_cons, List.length_nil, List.length_replicate, List.length_set, List.set_cons_zero, List.set_cons_succ, List.getElem?_cons_zero, List.getElem?_cons_succ, Nat.reduceAdd, Nat.reduceLT, Nat.zero_lt_succ, Nat.lt_add_one, if_true, if_false, Bool.not_true, Bool.not_false, Bool.false_eq_true, reduceIte, decide_true, decide_false, reduceCtorEq, List.cons.injEq, Nat.reduceEqDiff, and_true, true_and, and_false, false_and, isB_str_str, isB_str_int, isB_str_bl, isB_int_int, isB_bool_int, isB_bool_bl, isB_int_bl, isB_int_str, isB_bool_str, f_join_nil, f_join_signs, f_all_map, f_any_map, f_lstrip, f_cut_str, f_cut_lst, f_cut_tup, q_while, q_bm, isTy_str, isTy_lst, isTy_dic, q_part, partK_int, q_noPart, q_cut, q_range2, range2K_int, q_get2, get2K_dic, key_str, key_int, q_dict, q_pairs_nil, pairK_some, q_pairs_cons, q_app, appK_own, q_frz, frzK_own, frzK_val, frzK_no, q_aug, augK_val, f_ix_lst, f_ix_tup, f_ix_scr, f_ix_str, Int.reduceToNat, List.getD_cons_zero, List.getD_cons_succ, q_forN, Int.toNat_natCast, f_in_sign, f_neg_int, f_is_non, f_isNot_non, isNon_non, isNon_tup, isNon_int, isNon_str, isNon_lst, isNon_dic, isNon_bl, isNon_obj, isB_tuple_tup, isB_list_lst, isB_str_tup, isB_str_lst, isB_str_non, isB_tuple_non]
    congr 3
    omega
  · simp (disch := (first | with_reducible assumption | omega | ((try simp only [q_sl, List.length_append, List.length_map, List.length_cons, List.length_nil, and_true, true_and]); first | omega | decide))) only [bnd_pure, q_runF, fin_nx, fin_rt, q_var0, q_vars, q_C, q_bin, q_chain, chainK_bl, q_tru, truK_bl, truK_int, truK_lst, truK_tup, truK_non, truK_str, q_test, tstK_bl, q_and, q_or, q_not, q_andV, q_orV, q_notV, q_ifE, q_un, q_nil, q_cons, q_tup, q_lst, q_callF, q_call, q_meth, methK_obj, methO_some, q_isB, q_items, itemsK_str, itemsK_lst, itemsK_tup, q_range1, rangeK_int, q_nop, q_seq, seqK_nx, seqK_rt, seqK_bk, seqK_ct, q_if, q_ret, q_retN, q_drop, q_set, q_setOwn, q_for, q_for_nil, forK_nx, forK_ct, forK_bk, forK_rt, gd_true, lf_some, f_add_int, f_add_str, f_add_lst, f_add_tup, f_sub_int, f_mul_r, f_mul_l, f_mod, f_div, f_eq_str, f_eq_int, f_eq_bl, f_ne_str, f_ne_int, f_ne_bl, f_lt, f_le, f_gt, f_ge, f_in_sign, f_notIn_sign, f_is_bl, f_len_str, f_len_lst, f_len_tup, f_len_scr, f_len_dic, f_int_bl, f_int_int, List.length_cons, List.length_nil, List.length_replicate, List.length_set, List.set_cons_zero, List.set_cons_succ, List.getElem?_cons_zero, List.getElem?_cons_succ, Nat.reduceAdd, Nat.reduceLT, Nat.zero_lt_succ, Nat.lt_add_one, if_true, if_false, Bool.not_true, Bool.not_false, Bool.false_eq_true, reduceIte, decide_true, decide_false, reduceCtorEq, List.cons.injEq, Nat.reduceEqDiff, and_true, true_and, and_false, false_and, isB_str_str, isB_str_int, isB_str_bl, isB_int_int, isB_bool_int, isB_bool_bl, isB_int_bl, isB_int_str, isB_bool_str, f_join_nil, f_join_signs, f_all_map, f_any_map, f_lstrip, f_cut_str, f_cut_lst, f_cut_tup, q_while, q_bm, isTy_str, isTy_lst, isTy_dic, q_part, partK_int, q_noPart, q_cut, q_range2, range2K_int, q_get2, get2K_dic, key_str, key_int, q_dict, q_pairs_nil, pairK_some, q_pairs_cons, q_app, appK_own, q_frz, frzK_own, frzK_val, frzK_no, q_aug, augK_val, f_ix_lst, f_ix_tup, f_ix_scr, f_ix_str, Int.reduceToNat, List.getD_cons_zero, List.getD_cons_succ, q_forN, Int.toNat_natCast, f_in_sign, f_neg_int, f_is_non, f_isNot_non, isNon_non, isNon_tup, isNon_int, isNon_str, isNon_lst, isNon_dic, isNon_bl, isNon_obj, isB_tuple_tup, isB_list_lst, isB_str_tup, isB_str_lst, isB_str_non, isB_tuple_non, u_Number_behind, b_Number_behind, cut_one, h]
    rw [key i hi]
    simp (disch := (first | with_reducible assumption | omega | ((try simp only [q_sl, List.length_append, List.length_map, List.length_cons, List.length_nil, and_true, true_and]); first | omega | decide))) only [bnd_pure, q_runF, fin_nx, fin_rt, q_var0, q_vars, q_C, q_bin, q_chain, chainK_bl, q_tru, truK_bl, truK_int, truK_lst, truK_tup, truK_non, truK_str, q_test, tstK_bl, q_and, q_or, q_not, q_andV, q_orV, q_notV, q_ifE, q_un, q_nil, q_cons, q_tup, q_lst, q_callF, q_call, q_meth, methK_obj, methO_some, q_isB, q_items, itemsK_str, itemsK_lst, itemsK_tup, q_range1, rangeK_int, q_nop, q_seq, seqK_nx, seqK_rt, seqK_bk, seqK_ct, q_if, q_ret, q_retN, q_drop, q_set, q_setOwn, q_for, q_for_nil, forK_nx, forK_ct, forK_bk, forK_rt, gd_true, lf_some, f_add_int, f_add_str, f_add_lst, f_add_tup, f_sub_int, f_mul_r, f_mul_l, f_mod, f_div, f_eq_str, f_eq_int, f_eq_bl, f_ne_str, f_ne_int, f_ne_bl, f_lt, f_le, f_gt, f_ge, f_in_sign, f_notIn_sign, f_is_bl, f_len_str, f_len_lst, f_len_tup, f_len_scr, f_len_dic, f_int_bl, f_int_int, List.length_cons, List.length_nil, List.length_replicate, List.length_set, List.set_cons_zero, List.set_cons_succ, List.getElem?_cons_zero, List.getElem?_cons_succ, Nat.reduceAdd, Nat.reduceLT, Nat.zero_lt_succ, Nat.lt_add_one, if_true, if_false, Bool.not_true, Bool.not_false, Bool.false_eq_true, reduceIte, decide_true, decide_false, reduceCtorEq, List.cons.injEq, Nat.reduceEqDiff, and_true, true_and, and_false, false_and, isB_str_str, isB_str_int, isB_str_bl, isB_int_int, isB_bool_int, isB_bool_bl, isB_int_bl, isB_int_str, isB_bool_str, f_join_nil, f_join_signs, f_all_map, f_any_map, f_lstrip, f_cut_str, f_cut_lst, f_cut_tup, q_while, q_bm, isTy_str, isTy_lst, isTy_dic, q_part, partK_int, q_noPart, q_cut, q_range2, range2K_int, q_get2, get2K_dic, key_str, key_int, q_dict, q_pairs_nil, pairK_some, q_pairs_cons, q_app, appK_own, q_frz, frzK_own, frzK_val, frzK_no, q_aug, augK_val, f_ix_lst, f_ix_tup, f_ix_scr, f_ix_str, Int.reduceToNat, List.getD_cons_zero, List.getD_cons_succ, q_forN, Int.toNat_natCast, f_in_sign, f_neg_int, f_is_non, f_isNot_non, isNon_non, isNon_tup, isNon_int, isNon_str, isNon_lst, isNon_dic, isNon_bl, isNon_obj, isB_tuple_tup, isB_list_lst, isB_str_tup, isB_str_lst, isB_str_non, isB_tuple_non]
/-- in quotes -/
def stQ (x : Tx) : Option Tx := if x.take 1 = [34] ∧ 34 ∈ x.drop 1 then some (34 :: ((x.drop 1).takeWhile (fun c => !decide (c = 34)) ++ [34])) else none
theorem tw_lt {c : Nat} : ∀ {x : Tx}, c ∈ x → x = x.takeWhile (fun d => !decide (d = c)) ++ c :: x.drop ((x.takeWhile fun d => !decide (d = c)).length + 1)
  | [], h => by cases h
  | a :: r, h => by
    by_cases ha : a = c
    · subst ha
      rw [List.takeWhile_cons_of_neg (by simp)]
      rfl
    · have hr : c ∈ r := by
        rcases List.mem_cons.mp h with e | e
        · exact absurd e.symm ha
        · exact e
      rw [List.takeWhile_cons_of_pos (by simpa using ha)]
      have := tw_lt hr
      show a :: r = a :: (_ ++ c :: r.drop _)
      exact congrArg (a :: ·) this
theorem tw_all {c : Nat} {x : Tx} (h : c ∉ x) : x.takeWhile (fun d => !decide (d = c)) = x := by
  induction x with
  | nil => rfl
  | cons a r ih =>
    rw [List.takeWhile_cons_of_pos (by
      have : a ≠ c := fun z => h (by simp [z])
      simpa using this), ih fun z => h (by simp [z])]
theorem stQ_pre {x st : Tx} (h : stQ x = some st) : x.take st.length = st := by
  unfold stQ at h
  by_cases hc : x.take 1 = [34] ∧ 34 ∈ x.drop 1
  · rw [if_pos hc] at h
    cases h
    obtain ⟨h1, h2⟩ := hc
    cases x with
    | nil => cases h1
    | cons a r =>
      have ha : a = 34 := by simpa using h1
      subst ha
      have h2 : 34 ∈ r := h2
      have := tw_lt h2
      show 34 :: r.take _ = 34 :: (r.takeWhile _ ++ [34])
      congr 1
      have hq : ∀ q rest : Tx, r = q ++ 34 :: rest → r.take (q ++ [34]).length = q ++ [34] := by
        intro q rest e
        rw [e, show q ++ 34 :: rest = (q ++ [34]) ++ rest by simp]
        exact List.take_left
      exact hq _ _ this
  · rw [if_neg hc] at h
    cases h
theorem s_Quoted_behind (k : Nat) (T : Tx) (i : Nat) (hi : i ≤ T.length) (hl : T.length ≤ 100000) :
    Ψ (k + 1) .Quoted_behind [.obj 6, .str T, .int (i : Int)] = pure (match stQ (T.drop i) with
      | some st => .int (((i + st.length : Nat)) : Int)
      | none => .non) := by
  unfold stQ
  by_cases h : (T.drop i).take 1 = [34]
  · have hlt := lt_of_take h
    have e : ((i : Int) + 1) = ((i + 1 : Nat) : Int) := by omega
    have e3 : fFind3 (.str T) [.str [34], .int ((i + 1 : Nat) : Int)] = pure (.int (if 34 ∈ T.drop (i + 1) then ((i + 1 + ((T.drop (i + 1)).takeWhile fun x => !decide (x = 34)).length : Nat) : Int) else -1)) := by
      show pure (D.int (Txt.find3 (tS T) (tS [34]) _)) = _
      rw [find3_sign T 34 (i + 1) (by omega)]
    have c1 := cut_one T i
    rw [e] at c1
    by_cases hq : 34 ∈ T.drop (i + 1)
    · rw [if_pos ⟨h, by rw [List.drop_drop]; exact hq⟩]
      rw [if_pos hq] at e3
      have hn : ¬ ((i + 1 + ((T.drop (i + 1)).takeWhile fun x => !decide (x = 34)).length : Nat) : Int) < 0 := by omega
      simp (disch := (first | with_reducible assumption | omega | ((try simp only [q_sl, List.length_append, List.length_map, List.length_cons, List.length_nil, and_true, true_and]); first | omega | decide))) only [bnd_pure, q_runF, fin_nx, fin_rt, q_var0, q_vars, q_C, q_bin, q_chain, chainK_bl, q_tru, truK_bl, truK_int, truK_lst, truK_tup, truK_non, truK_str, q_test, tstK_bl, q_and, q_or, q_not, q_andV, q_orV, q_notV, q_ifE, q_un, q_nil, q_cons, q_tup, q_lst, q_callF, q_call, q_meth, methK_obj, methO_some, q_isB, q_items, itemsK_str, itemsK_lst, itemsK_tup, q_range1, rangeK_int, q_nop, q_seq, seqK_nx, seqK_rt, seqK_bk, seqK_ct, q_if, q_ret, q_retN, q_drop, q_set, q_setOwn, q_for, q_for_nil, forK_nx, forK_ct, forK_bk, forK_rt, gd_true, lf_some, f_add_int, f_add_str, f_add_lst, f_add_tup, f_sub_int, f_mul_r, f_mul_l, f_mod, f_div, f_eq_str, f_eq_int, f_eq_bl, f_ne_str, f_ne_int, f_ne_bl, f_lt, f_le, f_gt, f_ge, f_in_sign, f_notIn_sign, f_is_bl, f_len_str, f_len_lst, f_len_tup, f_len_scr, f_len_dic, f_int_bl, f_int_int, List.length_cons, List.length_nil, List.length_replicate, List.length_set, List.set_cons_zero, List.set_cons_succ, List.getElem?_cons_zero, List.getElem?_cons_succ, Nat.reduceAdd, Nat.reduceLT, Nat.zero_lt_succ, Nat.lt_add_one, if_true, if_false, Bool.not_true, Bool.not_false, Bool.false_eq_true, reduceIte, decide_true, decide_false, reduceCtorEq, List.cons.injEq, Nat.reduceEqDiff, and_true, true_and, and_false, false_and, isB_str_str, isB_str_int, isB_str_bl, isB_int_int, isB_bool_int, isB_bool_bl, isB_int_bl, isB_int_str, isB_bool_str, f_join_nil, f_join_signs, f_all_map, f_any_map, f_lstrip, f_cut_str, f_cut_lst, f_cut_tup, q_while, q_bm, isTy_str, isTy_lst, isTy_dic, q_part, partK_int, q_noPart, q_cut, q_range2, range2K_int, q_get2, get2K_dic, key_str, key_int, q_dict, q_pairs_nil, pairK_some, q_pairs_cons, q_app, appK_own, q_frz, frzK_own, frzK_val, frzK_no, q_aug, augK_val, f_ix_lst, f_ix_tup, f_ix_scr, f_ix_str, Int.reduceToNat, List.getD_cons_zero, List.getD_cons_succ, q_forN, Int.toNat_natCast, f_in_sign, f_neg_int, f_is_non, f_isNot_non, isNon_non, isNon_tup, isNon_int, isNon_str, isNon_lst, isNon_dic, isNon_bl, isNon_obj, isB_tuple_tup, isB_list_lst, isB_str_tup, isB_str_lst, isB_str_non, isB_tuple_non, u_Quoted_behind, b_Quoted_behind, c1, h, e, e3, hn]
      simp only [List.length_cons, List.length_append, List.length_nil, List.drop_drop]
      congr 2
      omega
    · rw [if_neg (fun z => hq (by have := z.2; rwa [List.drop_drop] at this))]
      rw [if_neg hq] at e3
      simp (disch := (first | with_reducible assumption | omega | ((try simp only [q_sl, List.length_append, List.length_map, List.length_cons, List.length_nil, and_true, true_and]); first | omega | decide))) only [bnd_pure, q_runF, fin_nx, fin_rt, q_var0, q_vars, q_C, q_bin, q_chain, chainK_bl, q_tru, truK_bl, truK_int, truK_lst, truK_tup, truK_non, truK_str, q_test, tstK_bl, q_and, q_or, q_not, q_andV, q_orV, q_notV, q_ifE, q_un, q_nil, q_cons, q_tup, q_lst, q_callF, q_call, q_meth, methK_obj, methO_some, q_isB, q_items, itemsK_str, itemsK_lst, itemsK_tup, q_range1, rangeK_int, q_nop, q_seq, seqK_nx, seqK_rt, seqK_bk, seqK_ct, q_if, q_ret, q_retN, q_drop, q_set, q_setOwn, q_for, q_for_nil, forK_nx, forK_ct, forK_bk, forK_rt, gd_true, lf_some, f_add_int, f_add_str, f_add_lst, f_add_tup, f_sub_int, f_mul_r, f_mul_l, f_mod, f_div, f_eq_str, f_eq_int, f_eq_bl, f_ne_str, f_ne_int, f_ne_bl, f_lt, f_le, f_gt, f_ge, f_in_sign, f_notIn_sign, f_is_bl, f_len_str, f_len_lst, f_len_tup, f_len_scr, f_len_dic, f_int_bl, f_int_int, List.length_cons, List.length_nil, List.length_replicate, List.length_set, List.set_cons_zero, List.set_cons_succ, List.getElem?_cons_zero, List.getElem?_cons_succ, Nat.reduceAdd, Nat.reduceLT, Nat.zero_lt_succ, Nat.lt_add_one, if_true, if_false, Bool.not_true, Bool.not_false, Bool.false_eq_true, reduceIte, decide_true, decide_false, reduceCtorEq, List.cons.injEq, Nat.reduceEqDiff, and_true, true_and, and_false, false_and, isB_str_str, isB_str_int, isB_str_bl, isB_int_int, isB_bool_int, isB_bool_bl, isB_int_bl, isB_int_str, isB_bool_str, f_join_nil, f_join_signs, f_all_map, f_any_map, f_lstrip, f_cut_str, f_cut_lst, f_cut_tup, q_while, q_bm, isTy_str, isTy_lst, isTy_dic, q_part, partK_int, q_noPart, q_cut, q_range2, range2K_int, q_get2, get2K_dic, key_str, key_int, q_dict, q_pairs_nil, pairK_some, q_pairs_cons, q_app, appK_own, q_frz, frzK_own, frzK_val, frzK_no, q_aug, augK_val, f_ix_lst, f_ix_tup, f_ix_scr, f_ix_str, Int.reduceToNat, List.getD_cons_zero, List.getD_cons_succ, q_forN, Int.toNat_natCast, f_in_sign, f_neg_int, f_is_non, f_isNot_non, isNon_non, isNon_tup, isNon_int, isNon_str, isNon_lst, isNon_dic, isNon_bl, isNon_obj, isB_tuple_tup, isB_list_lst, isB_str_tup, isB_str_lst, isB_str_non, isB_tuple_non, u_Quoted_behind, b_Quoted_behind, c1, h, e, e3]
      rfl
  · rw [if_neg (fun z => h z.1)]
    simp (disch := (first | with_reducible assumption | omega | ((try simp only [q_sl, List.length_append, List.length_map, List.length_cons, List.length_nil, and_true, true_and]); first | omega | decide))) only [bnd_pure, q_runF, fin_nx, fin_rt, q_var0, q_vars, q_C, q_bin, q_chain, chainK_bl, q_tru, truK_bl, truK_int, truK_lst, truK_tup, truK_non, truK_str, q_test, tstK_bl, q_and, q_or, q_not, q_andV, q_orV, q_notV, q_ifE, q_un, q_nil, q_cons, q_tup, q_lst, q_callF, q_call, q_meth, methK_obj, methO_some, q_isB, q_items, itemsK_str, itemsK_lst, itemsK_tup, q_range1, rangeK_int, q_nop, q_seq, seqK_nx, seqK_rt, seqK_bk, seqK_ct, q_if, q_ret, q_retN, q_drop, q_set, q_setOwn, q_for, q_for_nil, forK_nx, forK_ct, forK_bk, forK_rt, gd_true, lf_some, f_add_int, f_add_str, f_add_lst, f_add_tup, f_sub_int, f_mul_r, f_mul_l, f_mod, f_div, f_eq_str, f_eq_int, f_eq_bl, f_ne_str, f_ne_int, f_ne_bl, f_lt, f_le, f_gt, f_ge, f_in_sign, f_notIn_sign, f_is_bl, f_len_str, f_len_lst, f_len_tup, f_len_scr, f_len_dic, f_int_bl, f_int_int, List.length_cons, List.length_nil, List.length_replicate, List.length_set, List.set_cons_zero, List.set_cons_succ, List.getElem?_cons_zero, List.getElem?_cons_succ, Nat.reduceAdd, Nat.reduceLT, Nat.zero_lt_succ, Nat.lt_add_one, if_true, if_false, Bool.not_true, Bool.not_false, Bool.false_eq_true, reduceIte, decide_true, decide_false, reduceCtorEq, List.cons.injEq, Nat.reduceEqDiff, and_true, true_and, and_false, false_and, isB_str_str, isB_str_int, isB_str_bl, isB_int_int, isB_bool_int, isB_bool_bl, isB_int_bl, isB_int_str, isB_bool_str, f_join_nil, f_join_signs, f_all_map, f_any_map, f_lstrip, f_cut_str, f_cut_lst, f_cut_tup, q_while, q_bm, isTy_str, isTy_lst, isTy_dic, q_part, partK_int, q_noPart, q_cut, q_range2, range2K_int, q_get2, get2K_dic, key_str, key_int, q_dict, q_pairs_nil, pairK_some, q_pairs_cons, q_app, appK_own, q_frz, frzK_own, frzK_val, frzK_no, q_aug, augK_val, f_ix_lst, f_ix_tup, f_ix_scr, f_ix_str, Int.reduceToNat, List.getD_cons_zero, List.getD_cons_succ, q_forN, Int.toNat_natCast, f_in_sign, f_neg_int, f_is_non, f_isNot_non, isNon_non, isNon_tup, isNon_int, isNon_str, isNon_lst, isNon_dic, isNon_bl, isNon_obj, isB_tuple_tup, isB_list_lst, isB_str_tup, isB_str_lst, isB_str_non, isB_tuple_non, u_Quoted_behind, b_Quoted_behind, cut_one, h]
end K02.Ma
end
section
set_option linter.all false
set_option maxRecDepth 100000
namespace K02.Ma
open PySem L2 DL
variable {Ψ : Nat → Fid → List D → M D} [IsΦ Ψ]
def toldOf (ps : List (Nat × Nat)) (sl : Tx) : Tx := match sl with
  | [d] => (match decS ps d with
    | some x => [x]
    | none => [])
  | _ => []
theorem drop_succ {T : Tx} {i : Nat} (h : i < T.length) : T.drop i = T.getD i 0 :: T.drop (i + 1) := by
  have g : T.getD i 0 = T[i] := by simp [List.getD, h]
  rw [g]
  exact List.drop_eq_getElem_cons h
theorem cut_next (T : Tx) (i : Nat) : cutL T (some ((i : Int) + 1)) (some ((i : Int) + 2)) = (T.drop (i + 1)).take 1 := by
  rw [cut_mid T _ _ (by omega) (by omega)]
  have e1 : ((i : Int) + 1).toNat = i + 1 := by omega
  have e2 : ((i : Int) + 2).toNat - (i + 1) = 1 := by omega
  rw [e1, e2]
theorem unm_loop (mk : Nat) (ps : List (Nat × Nat)) (l : List (DKey × D)) (hg : ∀ sl : Tx, sl.length ≤ 1 → (valD l (.inr sl)).getD (.str []) = .str (toldOf ps sl)) (T : Tx) (hT : T.length ≤ 100000) :
    ∀ (n i : Nat) (found : Tx) (s5 : Sl), i ≤ T.length → T.length - i < n → found.length ≤ i → ∃ i' s5', whileL (mTest (mBin fLt (mVar 4) (mCallF fLen (mCons (mVar 0) mNil)))) l_unmarked_0 n [.val (.str T), .val (.str [mk]), .val (.dic l), .val (.str found), .val (.int (i : Int)), s5] =
      (match dec mk ps (T.drop i) with
      | some y => pure (.nx [.val (.str T), .val (.str [mk]), .val (.dic l), .val (.str (found ++ y)), i', s5'])
      | none => pure (.rt (.tup [])))
  | 0, _, _, _, _, h, _ => absurd h (Nat.not_lt_zero _)
  | n + 1, i, found, s5, hi, hn, hf => by
    by_cases hl : i < T.length
    · have h' : (i : Int) < (T.length : Int) := by omega
      have hc : (mTest (mBin fLt (mVar 4) (mCallF fLen (mCons (mVar 0) mNil)))) [.val (.str T), .val (.str [mk]), .val (.dic l), .val (.str found), .val (.int (i : Int)), s5] = pure true := by simp (disch := (first | with_reducible assumption | omega | ((try simp only [q_sl, List.length_append, List.length_map, List.length_cons, List.length_nil, and_true, true_and]); first | omega | decide))) only [bnd_pure, q_runF, fin_nx, fin_rt, q_var0, q_vars, q_C, q_bin, q_chain, chainK_bl, q_tru, truK_bl, truK_int, truK_lst, truK_tup, truK_non, truK_str, q_test, tstK_bl, q_and, q_or, q_not, q_andV, q_orV, q_notV, q_ifE, q_un, q_nil, q_cons, q_tup, q_lst, q_callF, q_call, q_meth, methK_obj, methO_some, q_isB, q_items, itemsK_str, itemsK_lst, itemsK_tup, q_range1, rangeK_int, q_nop, q_seq, seqK_nx, seqK_rt, seqK_bk, seqK_ct, q_if, q_ret, q_retN, q_drop, q_set, q_setOwn, q_for, q_for_nil, forK_nx, forK_ct, forK_bk, forK_rt, gd_true, lf_some, f_add_int, f_add_str, f_add_lst, f_add_tup, f_sub_int, f_mul_r, f_mul_l, f_mod, f_div, f_eq_str, f_eq_int, f_eq_bl, f_ne_str, f_ne_int, f_ne_bl, f_lt, f_le, f_gt, f_ge, f_in_sign, f_notIn_sign, f_is_bl, f_len_str, f_len_lst, f_len_tup, f_len_scr, f_len_dic, f_int_bl, f_int_int, List.length_cons, List.length_nil, List.length_replicate, List.length_set, List.set_cons_zero, List.set_cons_succ, List.getElem?_cons_zero, List.getElem?_cons_succ, Nat.reduceAdd, Nat.reduceLT, Nat.zero_lt_succ, Nat.lt_add_one, if_true, if_false, Bool.not_true, Bool.not_false, Bool.false_eq_true, reduceIte, decide_true, decide_false, reduceCtorEq, List.cons.injEq, Nat.reduceEqDiff, and_true, true_and, and_false, false_and, isB_str_str, isB_str_int, isB_str_bl, isB_int_int, isB_bool_int, isB_bool_bl, isB_int_bl, isB_int_str, isB_bool_str, f_join_nil, f_join_signs, f_all_map, f_any_map, f_lstrip, f_cut_str, f_cut_lst, f_cut_tup, q_while, q_bm, isTy_str, isTy_lst, isTy_dic, q_part, partK_int, q_noPart, q_cut, q_range2, range2K_int, q_get2, get2K_dic, key_str, key_int, q_dict, q_pairs_nil, pairK_some, q_pairs_cons, q_app, appK_own, q_frz, frzK_own, frzK_val, frzK_no, q_aug, augK_val, f_ix_lst, f_ix_tup, f_ix_scr, f_ix_str, Int.reduceToNat, List.getD_cons_zero, List.getD_cons_succ, q_forN, Int.toNat_natCast, f_in_sign, f_neg_int, f_is_non, f_isNot_non, isNon_non, isNon_tup, isNon_int, isNon_str, isNon_lst, isNon_dic, isNon_bl, isNon_obj, isB_tuple_tup, isB_list_lst, isB_str_tup, isB_str_lst, isB_str_non, isB_tuple_non, h']
      rw [drop_succ hl]
      by_cases hm : T.getD i 0 = mk
      · have hg1 := hg ((T.drop (i + 1)).take 1) (by rw [List.length_take]; omega)
        rw [hm]
        by_cases h2 : i + 1 < T.length
        · rw [drop_succ h2] at hg1 ⊢
          rw [dec_mark]
          have e0 : (T.getD (i + 1) 0 :: T.drop (i + 1 + 1)).take 1 = [T.getD (i + 1) 0] := rfl
          rw [e0] at hg1
          have e1 := cut_next T i
          rw [drop_succ h2, e0] at e1
          unfold toldOf at hg1
          cases q : decS ps (T.getD (i + 1) 0) with
          | none =>
            simp only [q] at hg1
            refine ⟨s5, s5, ?_⟩
            rw [while_ret hc (d := .tup []) (by simp (disch := (first | with_reducible assumption | omega | ((try simp only [q_sl, List.length_append, List.length_map, List.length_cons, List.length_nil, and_true, true_and]); first | omega | decide))) only [bnd_pure, q_runF, fin_nx, fin_rt, q_var0, q_vars, q_C, q_bin, q_chain, chainK_bl, q_tru, truK_bl, truK_int, truK_lst, truK_tup, truK_non, truK_str, q_test, tstK_bl, q_and, q_or, q_not, q_andV, q_orV, q_notV, q_ifE, q_un, q_nil, q_cons, q_tup, q_lst, q_callF, q_call, q_meth, methK_obj, methO_some, q_isB, q_items, itemsK_str, itemsK_lst, itemsK_tup, q_range1, rangeK_int, q_nop, q_seq, seqK_nx, seqK_rt, seqK_bk, seqK_ct, q_if, q_ret, q_retN, q_drop, q_set, q_setOwn, q_for, q_for_nil, forK_nx, forK_ct, forK_bk, forK_rt, gd_true, lf_some, f_add_int, f_add_str, f_add_lst, f_add_tup, f_sub_int, f_mul_r, f_mul_l, f_mod, f_div, f_eq_str, f_eq_int, f_eq_bl, f_ne_str, f_ne_int, f_ne_bl, f_lt, f_le, f_gt, f_ge, f_in_sign, f_notIn_sign, f_is_bl, f_len_str, f_len_lst, f_len_tup, f_len_scr, f_len_dic, f_int_bl, f_int_int, List.length_cons, List.length_nil, List.length_replicate, List.length_set, List.set_cons_zero, List.set_cons_succ, List.getElem?_cons_zero, List.getElem?_cons_succ, Nat.reduceAdd, Nat.reduceLT, Nat.zero_lt_succ, Nat.lt_add_one, if_true, if_false, Bool.not_true, Bool.not_false, Bool.false_eq_true, reduceIte, decide_true, decide_false, reduceCtorEq, List.cons.injEq, Nat.reduceEqDiff, and_true, true_and, and_false, false_and, isB_str_str, isB_str_int, isB_str_bl, isB_int_int, isB_bool_int, isB_bool_bl, isB_int_bl, isB_int_str, isB_bool_str, f_join_nil, f_join_signs, f_all_map, f_any_map, f_lstrip, f_cut_str, f_cut_lst, f_cut_tup, q_while, q_bm, isTy_str, isTy_lst, isTy_dic, q_part, partK_int, q_noPart, q_cut, q_range2, range2K_int, q_get2, get2K_dic, key_str, key_int, q_dict, q_pairs_nil, pairK_some, q_pairs_cons, q_app, appK_own, q_frz, frzK_own, frzK_val, frzK_no, q_aug, augK_val, f_ix_lst, f_ix_tup, f_ix_scr, f_ix_str, Int.reduceToNat, List.getD_cons_zero, List.getD_cons_succ, q_forN, Int.toNat_natCast, f_in_sign, f_neg_int, f_is_non, f_isNot_non, isNon_non, isNon_tup, isNon_int, isNon_str, isNon_lst, isNon_dic, isNon_bl, isNon_obj, isB_tuple_tup, isB_list_lst, isB_str_tup, isB_str_lst, isB_str_non, isB_tuple_non, l_unmarked_0, hm, e1, hg1])]
          | some x =>
            simp only [q] at hg1
            have ei : (i : Int) + 2 = ((i + 2 : Nat) : Int) := by omega
            obtain ⟨i', s5', e⟩ := unm_loop mk ps l hg T hT n (i + 2) (found ++ [x]) (.val (.str [x])) (by omega) (by omega) (by rw [List.length_append, List.length_cons, List.length_nil]; omega)
            refine ⟨i', s5', ?_⟩
            rw [while_step hc (ρ' := [.val (.str T), .val (.str [mk]), .val (.dic l), .val (.str (found ++ [x])), .val (.int ((i + 2 : Nat) : Int)), .val (.str [x])]) (by simp (disch := (first | with_reducible assumption | omega | ((try simp only [q_sl, List.length_append, List.length_map, List.length_cons, List.length_nil, and_true, true_and]); first | omega | decide))) only [bnd_pure, q_runF, fin_nx, fin_rt, q_var0, q_vars, q_C, q_bin, q_chain, chainK_bl, q_tru, truK_bl, truK_int, truK_lst, truK_tup, truK_non, truK_str, q_test, tstK_bl, q_and, q_or, q_not, q_andV, q_orV, q_notV, q_ifE, q_un, q_nil, q_cons, q_tup, q_lst, q_callF, q_call, q_meth, methK_obj, methO_some, q_isB, q_items, itemsK_str, itemsK_lst, itemsK_tup, q_range1, rangeK_int, q_nop, q_seq, seqK_nx, seqK_rt, seqK_bk, seqK_ct, q_if, q_ret, q_retN, q_drop, q_set, q_setOwn, q_for, q_for_nil, forK_nx, forK_ct, forK_bk, forK_rt, gd_true, lf_some, f_add_int, f_add_str, f_add_lst, f_add_tup, f_sub_int, f_mul_r, f_mul_l, f_mod, f_div, f_eq_str, f_eq_int, f_eq_bl, f_ne_str, f_ne_int, f_ne_bl, f_lt, f_le, f_gt, f_ge, f_in_sign, f_notIn_sign, f_is_bl, f_len_str, f_len_lst, f_len_tup, f_len_scr, f_len_dic, f_int_bl, f_int_int, List.length_cons, List.length_nil, List.length_replicate, List.length_set, List.set_cons_zero, List.set_cons_succ, List.getElem?_cons_zero, List.getElem?_cons_succ, Nat.reduceAdd, Nat.reduceLT, Nat.zero_lt_succ, Nat.lt_add_one, if_true, if_false, Bool.not_true, Bool.not_false, Bool.false_eq_true, reduceIte, decide_true, decide_false, reduceCtorEq, List.cons.injEq, Nat.reduceEqDiff, and_true, true_and, and_false, false_and, isB_str_str, isB_str_int, isB_str_bl, isB_int_int, isB_bool_int, isB_bool_bl, isB_int_bl, isB_int_str, isB_bool_str, f_join_nil, f_join_signs, f_all_map, f_any_map, f_lstrip, f_cut_str, f_cut_lst, f_cut_tup, q_while, q_bm, isTy_str, isTy_lst, isTy_dic, q_part, partK_int, q_noPart, q_cut, q_range2, range2K_int, q_get2, get2K_dic, key_str, key_int, q_dict, q_pairs_nil, pairK_some, q_pairs_cons, q_app, appK_own, q_frz, frzK_own, frzK_val, frzK_no, q_aug, augK_val, f_ix_lst, f_ix_tup, f_ix_scr, f_ix_str, Int.reduceToNat, List.getD_cons_zero, List.getD_cons_succ, q_forN, Int.toNat_natCast, f_in_sign, f_neg_int, f_is_non, f_isNot_non, isNon_non, isNon_tup, isNon_int, isNon_str, isNon_lst, isNon_dic, isNon_bl, isNon_obj, isB_tuple_tup, isB_list_lst, isB_str_tup, isB_str_lst, isB_str_non, isB_tuple_non, l_unmarked_0, hm, e1, hg1, ← ei]), e]
            show (match dec mk ps (T.drop (i + 2)) with
              | some y => _
              | none => _) = _
            cases dec mk ps (T.drop (i + 2)) with
            | none => rfl
            | some y =>
              show pure _ = pure _
              rw [List.append_assoc]
              rfl
        · have e0 : T.drop (i + 1) = [] := List.drop_eq_nil_of_le (by omega)
          rw [e0] at hg1 ⊢
          rw [dec_end]
          have e1 := cut_next T i
          rw [e0] at e1
          have e2 : ([] : Tx).take 1 = [] := rfl
          rw [e2] at e1 hg1
          refine ⟨s5, s5, ?_⟩
          have hg1 : (valD l (.inr [])).getD (.str []) = .str [] := hg1
          rw [while_ret hc (d := .tup []) (by simp (disch := (first | with_reducible assumption | omega | ((try simp only [q_sl, List.length_append, List.length_map, List.length_cons, List.length_nil, and_true, true_and]); first | omega | decide))) only [bnd_pure, q_runF, fin_nx, fin_rt, q_var0, q_vars, q_C, q_bin, q_chain, chainK_bl, q_tru, truK_bl, truK_int, truK_lst, truK_tup, truK_non, truK_str, q_test, tstK_bl, q_and, q_or, q_not, q_andV, q_orV, q_notV, q_ifE, q_un, q_nil, q_cons, q_tup, q_lst, q_callF, q_call, q_meth, methK_obj, methO_some, q_isB, q_items, itemsK_str, itemsK_lst, itemsK_tup, q_range1, rangeK_int, q_nop, q_seq, seqK_nx, seqK_rt, seqK_bk, seqK_ct, q_if, q_ret, q_retN, q_drop, q_set, q_setOwn, q_for, q_for_nil, forK_nx, forK_ct, forK_bk, forK_rt, gd_true, lf_some, f_add_int, f_add_str, f_add_lst, f_add_tup, f_sub_int, f_mul_r, f_mul_l, f_mod, f_div, f_eq_str, f_eq_int, f_eq_bl, f_ne_str, f_ne_int, f_ne_bl, f_lt, f_le, f_gt, f_ge, f_in_sign, f_notIn_sign, f_is_bl, f_len_str, f_len_lst, f_len_tup, f_len_scr, f_len_dic, f_int_bl, f_int_int, List.length_cons, List.length_nil, List.length_replicate, List.length_set, List.set_cons_zero, List.set_cons_succ, List.getElem?_cons_zero, List.getElem?_cons_succ, Nat.reduceAdd, Nat.reduceLT, Nat.zero_lt_succ, Nat.lt_add_one, if_true, if_false, Bool.not_true, Bool.not_false, Bool.false_eq_true, reduceIte, decide_true, decide_false, reduceCtorEq, List.cons.injEq, Nat.reduceEqDiff, and_true, true_and, and_false, false_and, isB_str_str, isB_str_int, isB_str_bl, isB_int_int, isB_bool_int, isB_bool_bl, isB_int_bl, isB_int_str, isB_bool_str, f_join_nil, f_join_signs, f_all_map, f_any_map, f_lstrip, f_cut_str, f_cut_lst, f_cut_tup, q_while, q_bm, isTy_str, isTy_lst, isTy_dic, q_part, partK_int, q_noPart, q_cut, q_range2, range2K_int, q_get2, get2K_dic, key_str, key_int, q_dict, q_pairs_nil, pairK_some, q_pairs_cons, q_app, appK_own, q_frz, frzK_own, frzK_val, frzK_no, q_aug, augK_val, f_ix_lst, f_ix_tup, f_ix_scr, f_ix_str, Int.reduceToNat, List.getD_cons_zero, List.getD_cons_succ, q_forN, Int.toNat_natCast, f_in_sign, f_neg_int, f_is_non, f_isNot_non, isNon_non, isNon_tup, isNon_int, isNon_str, isNon_lst, isNon_dic, isNon_bl, isNon_obj, isB_tuple_tup, isB_list_lst, isB_str_tup, isB_str_lst, isB_str_non, isB_tuple_non, l_unmarked_0, hm, e1, hg1])]
      · rw [dec_cons hm]
        have ei : (i : Int) + 1 = ((i + 1 : Nat) : Int) := by omega
        obtain ⟨i', s5', e⟩ := unm_loop mk ps l hg T hT n (i + 1) (found ++ [T.getD i 0]) s5 (by omega) (by omega) (by rw [List.length_append, List.length_cons, List.length_nil]; omega)
        refine ⟨i', s5', ?_⟩
        rw [while_step hc (ρ' := [.val (.str T), .val (.str [mk]), .val (.dic l), .val (.str (found ++ [T.getD i 0])), .val (.int ((i + 1 : Nat) : Int)), s5]) (by simp (disch := (first | with_reducible assumption | omega | ((try simp only [q_sl, List.length_append, List.length_map, List.length_cons, List.length_nil, and_true, true_and]); first | omega | decide))) only [bnd_pure, q_runF, fin_nx, fin_rt, q_var0, q_vars, q_C, q_bin, q_chain, chainK_bl, q_tru, truK_bl, truK_int, truK_lst, truK_tup, truK_non, truK_str, q_test, tstK_bl, q_and, q_or, q_not, q_andV, q_orV, q_notV, q_ifE, q_un, q_nil, q_cons, q_tup, q_lst, q_callF, q_call, q_meth, methK_obj, methO_some, q_isB, q_items, itemsK_str, itemsK_lst, itemsK_tup, q_range1, rangeK_int, q_nop, q_seq, seqK_nx, seqK_rt, seqK_bk, seqK_ct, q_if, q_ret, q_retN, q_drop, q_set, q_setOwn, q_for, q_for_nil, forK_nx, forK_ct, forK_bk, forK_rt, gd_true, lf_some, f_add_int, f_add_str, f_add_lst, f_add_tup, f_sub_int, f_mul_r, f_mul_l, f_mod, f_div, f_eq_str, f_eq_int, f_eq_bl, f_ne_str, f_ne_int, f_ne_bl, f_lt, f_le, f_gt, f_ge, f_in_sign, f_notIn_sign, f_is_bl, f_len_str, f_len_lst, f_len_tup, f_len_scr, f_len_dic, f_int_bl, f_int_int, List.length_cons, List.length_nil, List.length_replicate, List.length_set, List.set_cons_zero, List.set_cons_succ, List.getElem?_cons_zero, List.getElem?_cons_succ, Nat.reduceAdd, Nat.reduceLT, Nat.zero_lt_succ, Nat.lt_add_one, if_true, if_false, Bool.not_true, Bool.not_false, Bool.false_eq_true, reduceIte, decide_true, decide_false, reduceCtorEq, List.cons.injEq, Nat.reduceEqDiff, and_true, true_and, and_false, false_and, isB_str_str, isB_str_int, isB_str_bl, isB_int_int, isB_bool_int, isB_bool_bl, isB_int_bl, isB_int_str, isB_bool_str, f_join_nil, f_join_signs, f_all_map, f_any_map, f_lstrip, f_cut_str, f_cut_lst, f_cut_tup, q_while, q_bm, isTy_str, isTy_lst, isTy_dic, q_part, partK_int, q_noPart, q_cut, q_range2, range2K_int, q_get2, get2K_dic, key_str, key_int, q_dict, q_pairs_nil, pairK_some, q_pairs_cons, q_app, appK_own, q_frz, frzK_own, frzK_val, frzK_no, q_aug, augK_val, f_ix_lst, f_ix_tup, f_ix_scr, f_ix_str, Int.reduceToNat, List.getD_cons_zero, List.getD_cons_succ, q_forN, Int.toNat_natCast, f_in_sign, f_neg_int, f_is_non, f_isNot_non, isNon_non, isNon_tup, isNon_int, isNon_str, isNon_lst, isNon_dic, isNon_bl, isNon_obj, isB_tuple_tup, isB_list_lst, isB_str_tup, isB_str_lst, isB_str_non, isB_tuple_non, l_unmarked_0, hm, ← ei]), e]
        cases dec mk ps (T.drop (i + 1)) with
        | none => rfl
        | some y =>
          show pure _ = pure _
          rw [List.append_assoc]
          rfl
    · have h' : ¬ (i : Int) < (T.length : Int) := by omega
      have hc : (mTest (mBin fLt (mVar 4) (mCallF fLen (mCons (mVar 0) mNil)))) [.val (.str T), .val (.str [mk]), .val (.dic l), .val (.str found), .val (.int (i : Int)), s5] = pure false := by simp (disch := (first | with_reducible assumption | omega | ((try simp only [q_sl, List.length_append, List.length_map, List.length_cons, List.length_nil, and_true, true_and]); first | omega | decide))) only [bnd_pure, q_runF, fin_nx, fin_rt, q_var0, q_vars, q_C, q_bin, q_chain, chainK_bl, q_tru, truK_bl, truK_int, truK_lst, truK_tup, truK_non, truK_str, q_test, tstK_bl, q_and, q_or, q_not, q_andV, q_orV, q_notV, q_ifE, q_un, q_nil, q_cons, q_tup, q_lst, q_callF, q_call, q_meth, methK_obj, methO_some, q_isB, q_items, itemsK_str, itemsK_lst, itemsK_tup, q_range1, rangeK_int, q_nop, q_seq, seqK_nx, seqK_rt, seqK_bk, seqK_ct, q_if, q_ret, q_retN, q_drop, q_set, q_setOwn, q_for, q_for_nil, forK_nx, forK_ct, forK_bk, forK_rt, gd_true, lf_some, f_add_int, f_add_str, f_add_lst, f_add_tup, f_sub_int, f_mul_r, f_mul_l, f_mod, f_div, f_eq_str, f_eq_int, f_eq_bl, f_ne_str, f_ne_int, f_ne_bl, f_lt, f_le, f_gt, f_ge, f_in_sign, f_notIn_sign, f_is_bl, f_len_str, f_len_lst, f_len_tup, f_len_scr, f_len_dic, f_int_bl, f_int_int, List.length_cons, List.length_nil, List.length_replicate, List.length_set, List.set_cons_zero, List.set_cons_succ, List.getElem?_cons_zero, List.getElem?_cons_succ, Nat.reduceAdd, Nat.reduceLT, Nat.zero_lt_succ, Nat.lt_add_one, if_true, if_false, Bool.not_true, Bool.not_false, Bool.false_eq_true, reduceIte, decide_true, decide_false, reduceCtorEq, List.cons.injEq, Nat.reduceEqDiff, and_true, true_and, and_false, false_and, isB_str_str, isB_str_int, isB_str_bl, isB_int_int, isB_bool_int, isB_bool_bl, isB_int_bl, isB_int_str, isB_bool_str, f_join_nil, f_join_signs, f_all_map, f_any_map, f_lstrip, f_cut_str, f_cut_lst, f_cut_tup, q_while, q_bm, isTy_str, isTy_lst, isTy_dic, q_part, partK_int, q_noPart, q_cut, q_range2, range2K_int, q_get2, get2K_dic, key_str, key_int, q_dict, q_pairs_nil, pairK_some, q_pairs_cons, q_app, appK_own, q_frz, frzK_own, frzK_val, frzK_no, q_aug, augK_val, f_ix_lst, f_ix_tup, f_ix_scr, f_ix_str, Int.reduceToNat, List.getD_cons_zero, List.getD_cons_succ, q_forN, Int.toNat_natCast, f_in_sign, f_neg_int, f_is_non, f_isNot_non, isNon_non, isNon_tup, isNon_int, isNon_str, isNon_lst, isNon_dic, isNon_bl, isNon_obj, isB_tuple_tup, isB_list_lst, isB_str_tup, isB_str_lst, isB_str_non, isB_tuple_non, h']
      refine ⟨.val (.int (i : Int)), s5, ?_⟩
      rw [while_stop hc (by omega), List.drop_eq_nil_of_le (by omega)]
      show _ = pure _
      rw [List.append_nil]
theorem s_unmarked (k mk : Nat) (ps : List (Nat × Nat)) (l : List (DKey × D)) (hg : ∀ sl : Tx, sl.length ≤ 1 → (valD l (.inr sl)).getD (.str []) = .str (toldOf ps sl)) (T : Tx) (hT : T.length ≤ 100000) :
    Ψ (k + 1) .unmarked [.str T, .str [mk], .dic l] = pure (match dec mk ps T with
      | some y => .tup [.str y]
      | none => .tup []) := by
  obtain ⟨i', s5', e⟩ := unm_loop mk ps l hg T hT 1000000 0 [] .no (by omega) (by omega) (by simp)
  simp (disch := (first | with_reducible assumption | omega | ((try simp only [q_sl, List.length_append, List.length_map, List.length_cons, List.length_nil, and_true, true_and]); first | omega | decide))) only [bnd_pure, q_runF, fin_nx, fin_rt, q_var0, q_vars, q_C, q_bin, q_chain, chainK_bl, q_tru, truK_bl, truK_int, truK_lst, truK_tup, truK_non, truK_str, q_test, tstK_bl, q_and, q_or, q_not, q_andV, q_orV, q_notV, q_ifE, q_un, q_nil, q_cons, q_tup, q_lst, q_callF, q_call, q_meth, methK_obj, methO_some, q_isB, q_items, itemsK_str, itemsK_lst, itemsK_tup, q_range1, rangeK_int, q_nop, q_seq, seqK_nx, seqK_rt, seqK_bk, seqK_ct, q_if, q_ret, q_retN, q_drop, q_set, q_setOwn, q_for, q_for_nil, forK_nx, forK_ct, forK_bk, forK_rt, gd_true, lf_some, f_add_int, f_add_str, f_add_lst, f_add_tup, f_sub_int, f_mul_r, f_mul_l, f_mod, f_div, f_eq_str, f_eq_int, f_eq_bl, f_ne_str, f_ne_int, f_ne_bl, f_lt, f_le, f_gt, f_ge, f_in_sign, f_notIn_sign, f_is_bl, f_len_str, f_len_lst, f_len_tup, f_len_scr, f_len_dic, f_int_bl, f_int_int, List.length_cons, List.length_nil, List.length_replicate, List.length_set, List.set_cons_zero, List.set_cons_succ, List.getElem?_cons_zero, List.getElem?_cons_succ, Nat.reduceAdd, Nat.reduceLT, Nat.zero_lt_succ, Nat.lt_add_one, if_true, if_false, Bool.not_true, Bool.not_false, Bool.false_eq_true, reduceIte, decide_true, decide_false, reduceCtorEq, List.cons.injEq, Nat.reduceEqDiff, and_true, true_and, and_false, false_and, isB_str_str, isB_str_int, isB_str_bl, isB_int_int, isB_bool_int, isB_bool_bl, isB_int_bl, isB_int_str, isB_bool_str, f_join_nil, f_join_signs, f_all_map, f_any_map, f_lstrip, f_cut_str, f_cut_lst, f_cut_tup, q_while, q_bm, isTy_str, isTy_lst, isTy_dic, q_part, partK_int, q_noPart, q_cut, q_range2, range2K_int, q_get2, get2K_dic, key_str, key_int, q_dict, q_pairs_nil, pairK_some, q_pairs_cons, q_app, appK_own, q_frz, frzK_own, frzK_val, frzK_no, q_aug, augK_val, f_ix_lst, f_ix_tup, f_ix_scr, f_ix_str, Int.reduceToNat, List.getD_cons_zero, List.getD_cons_succ, q_forN, Int.toNat_natCast, f_in_sign, f_neg_int, f_is_non, f_isNot_non, isNon_non, isNon_tup, isNon_int, isNon_str, isNon_lst, isNon_dic, isNon_bl, isNon_obj, isB_tuple_tup, isB_list_lst, isB_str_tup, isB_str_lst, isB_str_non, isB_tuple_non, u_unmarked, b_unmarked]
  have e : _ = _ := e
  rw [show ((0 : Nat) : Int) = 0 from rfl] at e
  rw [e]
  rw [List.drop_zero]
  cases dec mk ps T with
  | none => simp (disch := (first | with_reducible assumption | omega | ((try simp only [q_sl, List.length_append, List.length_map, List.length_cons, List.length_nil, and_true, true_and]); first | omega | decide))) only [bnd_pure, q_runF, fin_nx, fin_rt, q_var0, q_vars, q_C, q_bin, q_chain, chainK_bl, q_tru, truK_bl, truK_int, truK_lst, truK_tup, truK_non, truK_str, q_test, tstK_bl, q_and, q_or, q_not, q_andV, q_orV, q_notV, q_ifE, q_un, q_nil, q_cons, q_tup, q_lst, q_callF, q_call, q_meth, methK_obj, methO_some, q_isB, q_items, itemsK_str, itemsK_lst, itemsK_tup, q_range1, rangeK_int, q_nop, q_seq, seqK_nx, seqK_rt, seqK_bk, seqK_ct, q_if, q_ret, q_retN, q_drop, q_set, q_setOwn, q_for, q_for_nil, forK_nx, forK_ct, forK_bk, forK_rt, gd_true, lf_some, f_add_int, f_add_str, f_add_lst, f_add_tup, f_sub_int, f_mul_r, f_mul_l, f_mod, f_div, f_eq_str, f_eq_int, f_eq_bl, f_ne_str, f_ne_int, f_ne_bl, f_lt, f_le, f_gt, f_ge, f_in_sign, f_notIn_sign, f_is_bl, f_len_str, f_len_lst, f_len_tup, f_len_scr, f_len_dic, f_int_bl, f_int_int, List.length_cons, List.length_nil, List.length_replicate, List.length_set, List.set_cons_zero, List.set_cons_succ, List.getElem?_cons_zero, List.getElem?_cons_succ, Nat.reduceAdd, Nat.reduceLT, Nat.zero_lt_succ, Nat.lt_add_one, if_true, if_false, Bool.not_true, Bool.not_false, Bool.false_eq_true, reduceIte, decide_true, decide_false, reduceCtorEq, List.cons.injEq, Nat.reduceEqDiff, and_true, true_and, and_false, false_and, isB_str_str, isB_str_int, isB_str_bl, isB_int_int, isB_bool_int, isB_bool_bl, isB_int_bl, isB_int_str, isB_bool_str, f_join_nil, f_join_signs, f_all_map, f_any_map, f_lstrip, f_cut_str, f_cut_lst, f_cut_tup, q_while, q_bm, isTy_str, isTy_lst, isTy_dic, q_part, partK_int, q_noPart, q_cut, q_range2, range2K_int, q_get2, get2K_dic, key_str, key_int, q_dict, q_pairs_nil, pairK_some, q_pairs_cons, q_app, appK_own, q_frz, frzK_own, frzK_val, frzK_no, q_aug, augK_val, f_ix_lst, f_ix_tup, f_ix_scr, f_ix_str, Int.reduceToNat, List.getD_cons_zero, List.getD_cons_succ, q_forN, Int.toNat_natCast, f_in_sign, f_neg_int, f_is_non, f_isNot_non, isNon_non, isNon_tup, isNon_int, isNon_str, isNon_lst, isNon_dic, isNon_bl, isNon_obj, isB_tuple_tup, isB_list_lst, isB_str_tup, isB_str_lst, isB_str_non, isB_tuple_non]
  | some y => simp (disch := (first | with_reducible assumption | omega | ((try simp only [q_sl, List.length_append, List.length_map, List.length_cons, List.length_nil, and_true, true_and]); first | omega | decide))) only [bnd_pure, q_runF, fin_nx, fin_rt, q_var0, q_vars, q_C, q_bin, q_chain, chainK_bl, q_tru, truK_bl, truK_int, truK_lst, truK_tup, truK_non, truK_str, q_test, tstK_bl, q_and, q_or, q_not, q_andV, q_orV, q_notV, q_ifE, q_un, q_nil, q_cons, q_tup, q_lst, q_callF, q_call, q_meth, methK_obj, methO_some, q_isB, q_items, itemsK_str, itemsK_lst, itemsK_tup, q_range1, rangeK_int, q_nop, q_seq, seqK_nx, seqK_rt, seqK_bk, seqK_ct, q_if, q_ret, q_retN, q_drop, q_set, q_setOwn, q_for, q_for_nil, forK_nx, forK_ct, forK_bk, forK_rt, gd_true, lf_some, f_add_int, f_add_str, f_add_lst, f_add_tup, f_sub_int, f_mul_r, f_mul_l, f_mod, f_div, f_eq_str, f_eq_int, f_eq_bl, f_ne_str, f_ne_int, f_ne_bl, f_lt, f_le, f_gt, f_ge, f_in_sign, f_notIn_sign, f_is_bl, f_len_str, f_len_lst, f_len_tup, f_len_scr, f_len_dic, f_int_bl, f_int_int, List.length_cons, List.length_nil, List.length_replicate, List.length_set, List.set_cons_zero, List.set_cons_succ, List.getElem?_cons_zero, List.getElem?_cons_succ, Nat.reduceAdd, Nat.reduceLT, Nat.zero_lt_succ, Nat.lt_add_one, if_true, if_false, Bool.not_true, Bool.not_false, Bool.false_eq_true, reduceIte, decide_true, decide_false, reduceCtorEq, List.cons.injEq, Nat.reduceEqDiff, and_true, true_and, and_false, false_and, isB_str_str, isB_str_int, isB_str_bl, isB_int_int, isB_bool_int, isB_bool_bl, isB_int_bl, isB_int_str, isB_bool_str, f_join_nil, f_join_signs, f_all_map, f_any_map, f_lstrip, f_cut_str, f_cut_lst, f_cut_tup, q_while, q_bm, isTy_str, isTy_lst, isTy_dic, q_part, partK_int, q_noPart, q_cut, q_range2, range2K_int, q_get2, get2K_dic, key_str, key_int, q_dict, q_pairs_nil, pairK_some, q_pairs_cons, q_app, appK_own, q_frz, frzK_own, frzK_val, frzK_no, q_aug, augK_val, f_ix_lst, f_ix_tup, f_ix_scr, f_ix_str, Int.reduceToNat, List.getD_cons_zero, List.getD_cons_succ, q_forN, Int.toNat_natCast, f_in_sign, f_neg_int, f_is_non, f_isNot_non, isNon_non, isNon_tup, isNon_int, isNon_str, isNon_lst, isNon_dic, isNon_bl, isNon_obj, isB_tuple_tup, isB_list_lst, isB_str_tup, isB_str_lst, isB_str_non, isB_tuple_non, List.nil_append]
end K02.Ma
end
section
set_option linter.all false
set_option maxRecDepth 100000
namespace K02.Ma
open PySem L2 DL
variable {Ψ : Nat → Fid → List D → M D} [IsΦ Ψ]
/-- what the law's own strings tell of the pairs -/
structure Told (mk : Nat) (ps : List (Nat × Nat)) (told plain : Tx) : Prop where
  no : ∀ d, decS ps d = none → d ∉ told
  yes : ∀ d x, decS ps d = some x → d ∈ told ∧ ∃ j : Nat, fSIndex (.str told) [.str [d]] = pure (.int (j : Int)) ∧ j < plain.length ∧ plain.getD j 0 = x
  few : plain.length ≤ 100
theorem decS_mem {ps : List (Nat × Nat)} {d x : Nat} (h : decS ps d = some x) : (x, d) ∈ ps := by
  unfold decS at h
  cases z : ps.find? (fun q => decide (q.2 = d)) with
  | none => rw [z] at h; cases h
  | some p =>
    rw [z] at h
    cases h
    have hp := List.mem_of_find?_eq_some z
    have hc := List.find?_some z
    have hc : p.2 = d := by simpa using hc
    rw [← hc]
    exact hp
theorem decS_none {ps : List (Nat × Nat)} {d : Nat} (h : decS ps d = none) : ∀ q ∈ ps, q.2 ≠ d := by
  intro q hq e
  unfold decS at h
  cases z : ps.find? (fun q => decide (q.2 = d)) with
  | some p => rw [z] at h; cases h
  | none =>
    have := List.find?_eq_none.mp z q hq
    exact this (by simpa using e)
theorem told_of {mk : Nat} {ps : List (Nat × Nat)} {told plain : Tx} (h1 : ∀ d ∈ told, ∃ q ∈ ps, q.2 = d) (h2 : ∀ q ∈ ps, q.2 ∈ told ∧ ∃ j : Nat, Builtin.Str.occurrences (tS told) (tS [q.2]) 0 (tS told).length 1 = [j] ∧ j < plain.length ∧ plain.getD j 0 = q.1) (h3 : plain.length ≤ 100) : Told mk ps told plain where
  no d h hd := by
    obtain ⟨q, hq, e⟩ := h1 d hd
    exact decS_none h q hq e
  yes d x h := by
    obtain ⟨hm, j, e, hj, hx⟩ := h2 _ (decS_mem h)
    refine ⟨hm, j, ?_, hj, hx⟩
    unfold fSIndex
    simp only [e]
  few := h3
theorem toldQ : Told 94 psQ [94, 113, 110] [94, 34, 10] := told_of (by decide) (by
  intro q hq
  simp only [psQ, List.mem_cons, List.not_mem_nil, or_false] at hq
  rcases hq with rfl | rfl | rfl
  · exact ⟨by decide, 0, by decide +kernel, by decide, rfl⟩
  · exact ⟨by decide, 1, by decide +kernel, by decide, rfl⟩
  · exact ⟨by decide, 2, by decide +kernel, by decide, rfl⟩) (by decide)
theorem toldP : Told 126 psP [126, 108, 103, 97, 98, 110] [126, 60, 62, 38, 124, 10] := told_of (by decide) (by
  intro q hq
  simp only [psP, List.mem_cons, List.not_mem_nil, or_false] at hq
  rcases hq with rfl | rfl | rfl | rfl | rfl | rfl
  · exact ⟨by decide, 0, by decide +kernel, by decide, rfl⟩
  · exact ⟨by decide, 1, by decide +kernel, by decide, rfl⟩
  · exact ⟨by decide, 2, by decide +kernel, by decide, rfl⟩
  · exact ⟨by decide, 3, by decide +kernel, by decide, rfl⟩
  · exact ⟨by decide, 4, by decide +kernel, by decide, rfl⟩
  · exact ⟨by decide, 5, by decide +kernel, by decide, rfl⟩) (by decide)
theorem toldL : Told 126 psL [126, 110] [126, 10] := told_of (by decide) (by
  intro q hq
  simp only [psL, List.mem_cons, List.not_mem_nil, or_false] at hq
  rcases hq with rfl | rfl
  · exact ⟨by decide, 0, by decide +kernel, by decide, rfl⟩
  · exact ⟨by decide, 1, by decide +kernel, by decide, rfl⟩) (by decide)
theorem cut_one1 (T : Tx) (i : Nat) : cutL T (some (((i + 1 : Nat)) : Int)) (some ((((i + 1 : Nat)) : Int) + 1)) = (T.drop (i + 1)).take 1 := cut_one T (i + 1)
theorem mean_loop (w s2 : Sl) (mk : Nat) (ps : List (Nat × Nat)) (hcd : Cd mk ps) (told plain : Tx) (ht : Told mk ps told plain) (T : Tx) (hT : T.length ≤ 100000) (hb : ∀ c ∈ T, c ≠ mk → (encS mk ps c ≠ [c] ↔ c = 10)) :
    ∀ (n i : Nat) (found : Tx) (s8 : Sl), i ≤ T.length → T.length - i < n → found.length ≤ i → ∃ i' s8', whileL (mTest (mBin fLt (mVar 7) (mCallF fLen (mCons (mVar 1) mNil)))) l__law_meant_0 n [w, .val (.str T), s2, .val (.str [mk]), .val (.str told), .val (.str plain), .val (.str found), .val (.int (i : Int)), s8] =
      (match ldec mk ps (T.drop i) with
      | some y => pure (.nx [w, .val (.str T), s2, .val (.str [mk]), .val (.str told), .val (.str plain), .val (.str (found ++ y)), i', s8'])
      | none => pure (.rt (.lst [])))
  | 0, _, _, _, _, h, _ => absurd h (Nat.not_lt_zero _)
  | n + 1, i, found, s8, hi, hn, hf => by
    by_cases hl : i < T.length
    · have h' : (i : Int) < (T.length : Int) := by omega
      have hc : (mTest (mBin fLt (mVar 7) (mCallF fLen (mCons (mVar 1) mNil)))) [w, .val (.str T), s2, .val (.str [mk]), .val (.str told), .val (.str plain), .val (.str found), .val (.int (i : Int)), s8] = pure true := by simp (disch := (first | with_reducible assumption | omega | ((try simp only [q_sl, List.length_append, List.length_map, List.length_cons, List.length_nil, and_true, true_and]); first | omega | decide))) only [bnd_pure, q_runF, fin_nx, fin_rt, q_var0, q_vars, q_C, q_bin, q_chain, chainK_bl, q_tru, truK_bl, truK_int, truK_lst, truK_tup, truK_non, truK_str, q_test, tstK_bl, q_and, q_or, q_not, q_andV, q_orV, q_notV, q_ifE, q_un, q_nil, q_cons, q_tup, q_lst, q_callF, q_call, q_meth, methK_obj, methO_some, q_isB, q_items, itemsK_str, itemsK_lst, itemsK_tup, q_range1, rangeK_int, q_nop, q_seq, seqK_nx, seqK_rt, seqK_bk, seqK_ct, q_if, q_ret, q_retN, q_drop, q_set, q_setOwn, q_for, q_for_nil, forK_nx, forK_ct, forK_bk, forK_rt, gd_true, lf_some, f_add_int, f_add_str, f_add_lst, f_add_tup, f_sub_int, f_mul_r, f_mul_l, f_mod, f_div, f_eq_str, f_eq_int, f_eq_bl, f_ne_str, f_ne_int, f_ne_bl, f_lt, f_le, f_gt, f_ge, f_in_sign, f_notIn_sign, f_is_bl, f_len_str, f_len_lst, f_len_tup, f_len_scr, f_len_dic, f_int_bl, f_int_int, List.length_cons, List.length_nil, List.length_replicate, List.length_set, List.set_cons_zero, List.set_cons_succ, List.getElem?_cons_zero, List.getElem?_cons_succ, Nat.reduceAdd, Nat.reduceLT, Nat.zero_lt_succ, Nat.lt_add_one, if_true, if_false, Bool.not_true, Bool.not_false, Bool.false_eq_true, reduceIte, decide_true, decide_false, reduceCtorEq, List.cons.injEq, Nat.reduceEqDiff, and_true, true_and, and_false, false_and, isB_str_str, isB_str_int, isB_str_bl, isB_int_int, isB_bool_int, isB_bool_bl, isB_int_bl, isB_int_str, isB_bool_str, f_join_nil, f_join_signs, f_all_map, f_any_map, f_lstrip, f_cut_str, f_cut_lst, f_cut_tup, q_while, q_bm, isTy_str, isTy_lst, isTy_dic, q_part, partK_int, q_noPart, q_cut, q_range2, range2K_int, q_get2, get2K_dic, key_str, key_int, q_dict, q_pairs_nil, pairK_some, q_pairs_cons, q_app, appK_own, q_frz, frzK_own, frzK_val, frzK_no, q_aug, augK_val, f_ix_lst, f_ix_tup, f_ix_scr, f_ix_str, Int.reduceToNat, List.getD_cons_zero, List.getD_cons_succ, q_forN, Int.toNat_natCast, f_in_sign, f_neg_int, f_is_non, f_isNot_non, isNon_non, isNon_tup, isNon_int, isNon_str, isNon_lst, isNon_dic, isNon_bl, isNon_obj, isB_tuple_tup, isB_list_lst, isB_str_tup, isB_str_lst, isB_str_non, isB_tuple_non, h']
      have ei : (i : Int) + 1 = ((i + 1 : Nat) : Int) := by omega
      rw [drop_succ hl]
      by_cases hm : T.getD i 0 = mk
      · rw [hm]
        by_cases h2 : i + 1 < T.length
        · rw [drop_succ h2, ldec_mark]
          have e1 := cut_one1 T i
          have e0 : (T.getD (i + 1) 0 :: T.drop (i + 1 + 1)).take 1 = [T.getD (i + 1) 0] := rfl
          rw [drop_succ h2, e0] at e1
          cases q : decS ps (T.getD (i + 1) 0) with
          | none =>
            have hno := ht.no _ q
            refine ⟨s8, s8, ?_⟩
            rw [while_ret hc (d := .lst []) (by simp (disch := (first | with_reducible assumption | omega | ((try simp only [q_sl, List.length_append, List.length_map, List.length_cons, List.length_nil, and_true, true_and]); first | omega | decide))) only [bnd_pure, q_runF, fin_nx, fin_rt, q_var0, q_vars, q_C, q_bin, q_chain, chainK_bl, q_tru, truK_bl, truK_int, truK_lst, truK_tup, truK_non, truK_str, q_test, tstK_bl, q_and, q_or, q_not, q_andV, q_orV, q_notV, q_ifE, q_un, q_nil, q_cons, q_tup, q_lst, q_callF, q_call, q_meth, methK_obj, methO_some, q_isB, q_items, itemsK_str, itemsK_lst, itemsK_tup, q_range1, rangeK_int, q_nop, q_seq, seqK_nx, seqK_rt, seqK_bk, seqK_ct, q_if, q_ret, q_retN, q_drop, q_set, q_setOwn, q_for, q_for_nil, forK_nx, forK_ct, forK_bk, forK_rt, gd_true, lf_some, f_add_int, f_add_str, f_add_lst, f_add_tup, f_sub_int, f_mul_r, f_mul_l, f_mod, f_div, f_eq_str, f_eq_int, f_eq_bl, f_ne_str, f_ne_int, f_ne_bl, f_lt, f_le, f_gt, f_ge, f_in_sign, f_notIn_sign, f_is_bl, f_len_str, f_len_lst, f_len_tup, f_len_scr, f_len_dic, f_int_bl, f_int_int, List.length_cons, List.length_nil, List.length_replicate, List.length_set, List.set_cons_zero, List.set_cons_succ, List.getElem?_cons_zero, List.getElem?_cons_succ, Nat.reduceAdd, Nat.reduceLT, Nat.zero_lt_succ, Nat.lt_add_one, if_true, if_false, Bool.not_true, Bool.not_false, Bool.false_eq_true, reduceIte, decide_true, decide_false, reduceCtorEq, List.cons.injEq, Nat.reduceEqDiff, and_true, true_and, and_false, false_and, isB_str_str, isB_str_int, isB_str_bl, isB_int_int, isB_bool_int, isB_bool_bl, isB_int_bl, isB_int_str, isB_bool_str, f_join_nil, f_join_signs, f_all_map, f_any_map, f_lstrip, f_cut_str, f_cut_lst, f_cut_tup, q_while, q_bm, isTy_str, isTy_lst, isTy_dic, q_part, partK_int, q_noPart, q_cut, q_range2, range2K_int, q_get2, get2K_dic, key_str, key_int, q_dict, q_pairs_nil, pairK_some, q_pairs_cons, q_app, appK_own, q_frz, frzK_own, frzK_val, frzK_no, q_aug, augK_val, f_ix_lst, f_ix_tup, f_ix_scr, f_ix_str, Int.reduceToNat, List.getD_cons_zero, List.getD_cons_succ, q_forN, Int.toNat_natCast, f_in_sign, f_neg_int, f_is_non, f_isNot_non, isNon_non, isNon_tup, isNon_int, isNon_str, isNon_lst, isNon_dic, isNon_bl, isNon_obj, isB_tuple_tup, isB_list_lst, isB_str_tup, isB_str_lst, isB_str_non, isB_tuple_non, l__law_meant_0, hm, ei, e1, hno])]
          | some x =>
            obtain ⟨hy, j, ej, hj, hx⟩ := ht.yes _ x q
            have hp := ht.few
            obtain ⟨i', s8', e⟩ := mean_loop w s2 mk ps hcd told plain ht T hT hb n (i + 2) (found ++ [x]) (.val (.str [x])) (by omega) (by omega) (by rw [List.length_append, List.length_cons, List.length_nil]; omega)
            refine ⟨i', s8', ?_⟩
            have ei2 : ((i + 1 : Nat) : Int) + 1 = ((i + 2 : Nat) : Int) := by omega
            rw [ei2] at e1
            rw [while_step hc (ρ' := [w, .val (.str T), s2, .val (.str [mk]), .val (.str told), .val (.str plain), .val (.str (found ++ [x])), .val (.int ((i + 2 : Nat) : Int)), .val (.str [x])]) (by simp (disch := (first | with_reducible assumption | omega | ((try simp only [q_sl, List.length_append, List.length_map, List.length_cons, List.length_nil, and_true, true_and]); first | omega | decide))) only [bnd_pure, q_runF, fin_nx, fin_rt, q_var0, q_vars, q_C, q_bin, q_chain, chainK_bl, q_tru, truK_bl, truK_int, truK_lst, truK_tup, truK_non, truK_str, q_test, tstK_bl, q_and, q_or, q_not, q_andV, q_orV, q_notV, q_ifE, q_un, q_nil, q_cons, q_tup, q_lst, q_callF, q_call, q_meth, methK_obj, methO_some, q_isB, q_items, itemsK_str, itemsK_lst, itemsK_tup, q_range1, rangeK_int, q_nop, q_seq, seqK_nx, seqK_rt, seqK_bk, seqK_ct, q_if, q_ret, q_retN, q_drop, q_set, q_setOwn, q_for, q_for_nil, forK_nx, forK_ct, forK_bk, forK_rt, gd_true, lf_some, f_add_int, f_add_str, f_add_lst, f_add_tup, f_sub_int, f_mul_r, f_mul_l, f_mod, f_div, f_eq_str, f_eq_int, f_eq_bl, f_ne_str, f_ne_int, f_ne_bl, f_lt, f_le, f_gt, f_ge, f_in_sign, f_notIn_sign, f_is_bl, f_len_str, f_len_lst, f_len_tup, f_len_scr, f_len_dic, f_int_bl, f_int_int, List.length_cons, List.length_nil, List.length_replicate, List.length_set, List.set_cons_zero, List.set_cons_succ, List.getElem?_cons_zero, List.getElem?_cons_succ, Nat.reduceAdd, Nat.reduceLT, Nat.zero_lt_succ, Nat.lt_add_one, if_true, if_false, Bool.not_true, Bool.not_false, Bool.false_eq_true, reduceIte, decide_true, decide_false, reduceCtorEq, List.cons.injEq, Nat.reduceEqDiff, and_true, true_and, and_false, false_and, isB_str_str, isB_str_int, isB_str_bl, isB_int_int, isB_bool_int, isB_bool_bl, isB_int_bl, isB_int_str, isB_bool_str, f_join_nil, f_join_signs, f_all_map, f_any_map, f_lstrip, f_cut_str, f_cut_lst, f_cut_tup, q_while, q_bm, isTy_str, isTy_lst, isTy_dic, q_part, partK_int, q_noPart, q_cut, q_range2, range2K_int, q_get2, get2K_dic, key_str, key_int, q_dict, q_pairs_nil, pairK_some, q_pairs_cons, q_app, appK_own, q_frz, frzK_own, frzK_val, frzK_no, q_aug, augK_val, f_ix_lst, f_ix_tup, f_ix_scr, f_ix_str, Int.reduceToNat, List.getD_cons_zero, List.getD_cons_succ, q_forN, Int.toNat_natCast, f_in_sign, f_neg_int, f_is_non, f_isNot_non, isNon_non, isNon_tup, isNon_int, isNon_str, isNon_lst, isNon_dic, isNon_bl, isNon_obj, isB_tuple_tup, isB_list_lst, isB_str_tup, isB_str_lst, isB_str_non, isB_tuple_non, l__law_meant_0, hm, ei, ei2, e1, hy, ej, hx]), e]
            show (match ldec mk ps (T.drop (i + 2)) with
              | some y => _
              | none => _) = _
            cases ldec mk ps (T.drop (i + 2)) with
            | none => rfl
            | some y =>
              show pure _ = pure _
              rw [List.append_assoc]
              rfl
        · have e0 : T.drop (i + 1) = [] := List.drop_eq_nil_of_le (by omega)
          rw [e0, ldec_end]
          have e1 := cut_one1 T i
          rw [e0] at e1
          have e1 : cutL T (some (((i + 1 : Nat)) : Int)) (some ((((i + 1 : Nat)) : Int) + 1)) = [] := e1
          refine ⟨s8, s8, ?_⟩
          rw [while_ret hc (d := .lst []) (by simp (disch := (first | with_reducible assumption | omega | ((try simp only [q_sl, List.length_append, List.length_map, List.length_cons, List.length_nil, and_true, true_and]); first | omega | decide))) only [bnd_pure, q_runF, fin_nx, fin_rt, q_var0, q_vars, q_C, q_bin, q_chain, chainK_bl, q_tru, truK_bl, truK_int, truK_lst, truK_tup, truK_non, truK_str, q_test, tstK_bl, q_and, q_or, q_not, q_andV, q_orV, q_notV, q_ifE, q_un, q_nil, q_cons, q_tup, q_lst, q_callF, q_call, q_meth, methK_obj, methO_some, q_isB, q_items, itemsK_str, itemsK_lst, itemsK_tup, q_range1, rangeK_int, q_nop, q_seq, seqK_nx, seqK_rt, seqK_bk, seqK_ct, q_if, q_ret, q_retN, q_drop, q_set, q_setOwn, q_for, q_for_nil, forK_nx, forK_ct, forK_bk, forK_rt, gd_true, lf_some, f_add_int, f_add_str, f_add_lst, f_add_tup, f_sub_int, f_mul_r, f_mul_l, f_mod, f_div, f_eq_str, f_eq_int, f_eq_bl, f_ne_str, f_ne_int, f_ne_bl, f_lt, f_le, f_gt, f_ge, f_in_sign, f_notIn_sign, f_is_bl, f_len_str, f_len_lst, f_len_tup, f_len_scr, f_len_dic, f_int_bl, f_int_int, List.length_cons, List.length_nil, List.length_replicate, List.length_set, List.set_cons_zero, List.set_cons_succ, List.getElem?_cons_zero, List.getElem?_cons_succ, Nat.reduceAdd, Nat.reduceLT, Nat.zero_lt_succ, Nat.lt_add_one, if_true, if_false, Bool.not_true, Bool.not_false, Bool.false_eq_true, reduceIte, decide_true, decide_false, reduceCtorEq, List.cons.injEq, Nat.reduceEqDiff, and_true, true_and, and_false, false_and, isB_str_str, isB_str_int, isB_str_bl, isB_int_int, isB_bool_int, isB_bool_bl, isB_int_bl, isB_int_str, isB_bool_str, f_join_nil, f_join_signs, f_all_map, f_any_map, f_lstrip, f_cut_str, f_cut_lst, f_cut_tup, q_while, q_bm, isTy_str, isTy_lst, isTy_dic, q_part, partK_int, q_noPart, q_cut, q_range2, range2K_int, q_get2, get2K_dic, key_str, key_int, q_dict, q_pairs_nil, pairK_some, q_pairs_cons, q_app, appK_own, q_frz, frzK_own, frzK_val, frzK_no, q_aug, augK_val, f_ix_lst, f_ix_tup, f_ix_scr, f_ix_str, Int.reduceToNat, List.getD_cons_zero, List.getD_cons_succ, q_forN, Int.toNat_natCast, f_in_sign, f_neg_int, f_is_non, f_isNot_non, isNon_non, isNon_tup, isNon_int, isNon_str, isNon_lst, isNon_dic, isNon_bl, isNon_obj, isB_tuple_tup, isB_list_lst, isB_str_tup, isB_str_lst, isB_str_non, isB_tuple_non, l__law_meant_0, hm, ei, e1])]
      · have hcT : T.getD i 0 ∈ T := getD_mem hl
        by_cases h10 : T.getD i 0 = 10
        · rw [ldec_bare hm ((hb _ hcT hm).mpr h10)]
          refine ⟨s8, s8, ?_⟩
          have hm' : ¬ 10 = mk := fun z => hm (by rw [h10, z])
          rw [while_ret hc (d := .lst []) (by simp (disch := (first | with_reducible assumption | omega | ((try simp only [q_sl, List.length_append, List.length_map, List.length_cons, List.length_nil, and_true, true_and]); first | omega | decide))) only [bnd_pure, q_runF, fin_nx, fin_rt, q_var0, q_vars, q_C, q_bin, q_chain, chainK_bl, q_tru, truK_bl, truK_int, truK_lst, truK_tup, truK_non, truK_str, q_test, tstK_bl, q_and, q_or, q_not, q_andV, q_orV, q_notV, q_ifE, q_un, q_nil, q_cons, q_tup, q_lst, q_callF, q_call, q_meth, methK_obj, methO_some, q_isB, q_items, itemsK_str, itemsK_lst, itemsK_tup, q_range1, rangeK_int, q_nop, q_seq, seqK_nx, seqK_rt, seqK_bk, seqK_ct, q_if, q_ret, q_retN, q_drop, q_set, q_setOwn, q_for, q_for_nil, forK_nx, forK_ct, forK_bk, forK_rt, gd_true, lf_some, f_add_int, f_add_str, f_add_lst, f_add_tup, f_sub_int, f_mul_r, f_mul_l, f_mod, f_div, f_eq_str, f_eq_int, f_eq_bl, f_ne_str, f_ne_int, f_ne_bl, f_lt, f_le, f_gt, f_ge, f_in_sign, f_notIn_sign, f_is_bl, f_len_str, f_len_lst, f_len_tup, f_len_scr, f_len_dic, f_int_bl, f_int_int, List.length_cons, List.length_nil, List.length_replicate, List.length_set, List.set_cons_zero, List.set_cons_succ, List.getElem?_cons_zero, List.getElem?_cons_succ, Nat.reduceAdd, Nat.reduceLT, Nat.zero_lt_succ, Nat.lt_add_one, if_true, if_false, Bool.not_true, Bool.not_false, Bool.false_eq_true, reduceIte, decide_true, decide_false, reduceCtorEq, List.cons.injEq, Nat.reduceEqDiff, and_true, true_and, and_false, false_and, isB_str_str, isB_str_int, isB_str_bl, isB_int_int, isB_bool_int, isB_bool_bl, isB_int_bl, isB_int_str, isB_bool_str, f_join_nil, f_join_signs, f_all_map, f_any_map, f_lstrip, f_cut_str, f_cut_lst, f_cut_tup, q_while, q_bm, isTy_str, isTy_lst, isTy_dic, q_part, partK_int, q_noPart, q_cut, q_range2, range2K_int, q_get2, get2K_dic, key_str, key_int, q_dict, q_pairs_nil, pairK_some, q_pairs_cons, q_app, appK_own, q_frz, frzK_own, frzK_val, frzK_no, q_aug, augK_val, f_ix_lst, f_ix_tup, f_ix_scr, f_ix_str, Int.reduceToNat, List.getD_cons_zero, List.getD_cons_succ, q_forN, Int.toNat_natCast, f_in_sign, f_neg_int, f_is_non, f_isNot_non, isNon_non, isNon_tup, isNon_int, isNon_str, isNon_lst, isNon_dic, isNon_bl, isNon_obj, isB_tuple_tup, isB_list_lst, isB_str_tup, isB_str_lst, isB_str_non, isB_tuple_non, l__law_meant_0, h10, hm'])]
        · have hb' : encS mk ps (T.getD i 0) = [T.getD i 0] := Classical.byContradiction fun z => h10 ((hb _ hcT hm).mp z)
          rw [ldec_cons hm hb']
          obtain ⟨i', s8', e⟩ := mean_loop w s2 mk ps hcd told plain ht T hT hb n (i + 1) (found ++ [T.getD i 0]) (.val (.str [T.getD i 0])) (by omega) (by omega) (by rw [List.length_append, List.length_cons, List.length_nil]; omega)
          refine ⟨i', s8', ?_⟩
          rw [while_step hc (ρ' := [w, .val (.str T), s2, .val (.str [mk]), .val (.str told), .val (.str plain), .val (.str (found ++ [T.getD i 0])), .val (.int ((i + 1 : Nat) : Int)), .val (.str [T.getD i 0])]) (by simp (disch := (first | with_reducible assumption | omega | ((try simp only [q_sl, List.length_append, List.length_map, List.length_cons, List.length_nil, and_true, true_and]); first | omega | decide))) only [bnd_pure, q_runF, fin_nx, fin_rt, q_var0, q_vars, q_C, q_bin, q_chain, chainK_bl, q_tru, truK_bl, truK_int, truK_lst, truK_tup, truK_non, truK_str, q_test, tstK_bl, q_and, q_or, q_not, q_andV, q_orV, q_notV, q_ifE, q_un, q_nil, q_cons, q_tup, q_lst, q_callF, q_call, q_meth, methK_obj, methO_some, q_isB, q_items, itemsK_str, itemsK_lst, itemsK_tup, q_range1, rangeK_int, q_nop, q_seq, seqK_nx, seqK_rt, seqK_bk, seqK_ct, q_if, q_ret, q_retN, q_drop, q_set, q_setOwn, q_for, q_for_nil, forK_nx, forK_ct, forK_bk, forK_rt, gd_true, lf_some, f_add_int, f_add_str, f_add_lst, f_add_tup, f_sub_int, f_mul_r, f_mul_l, f_mod, f_div, f_eq_str, f_eq_int, f_eq_bl, f_ne_str, f_ne_int, f_ne_bl, f_lt, f_le, f_gt, f_ge, f_in_sign, f_notIn_sign, f_is_bl, f_len_str, f_len_lst, f_len_tup, f_len_scr, f_len_dic, f_int_bl, f_int_int, List.length_cons, List.length_nil, List.length_replicate, List.length_set, List.set_cons_zero, List.set_cons_succ, List.getElem?_cons_zero, List.getElem?_cons_succ, Nat.reduceAdd, Nat.reduceLT, Nat.zero_lt_succ, Nat.lt_add_one, if_true, if_false, Bool.not_true, Bool.not_false, Bool.false_eq_true, reduceIte, decide_true, decide_false, reduceCtorEq, List.cons.injEq, Nat.reduceEqDiff, and_true, true_and, and_false, false_and, isB_str_str, isB_str_int, isB_str_bl, isB_int_int, isB_bool_int, isB_bool_bl, isB_int_bl, isB_int_str, isB_bool_str, f_join_nil, f_join_signs, f_all_map, f_any_map, f_lstrip, f_cut_str, f_cut_lst, f_cut_tup, q_while, q_bm, isTy_str, isTy_lst, isTy_dic, q_part, partK_int, q_noPart, q_cut, q_range2, range2K_int, q_get2, get2K_dic, key_str, key_int, q_dict, q_pairs_nil, pairK_some, q_pairs_cons, q_app, appK_own, q_frz, frzK_own, frzK_val, frzK_no, q_aug, augK_val, f_ix_lst, f_ix_tup, f_ix_scr, f_ix_str, Int.reduceToNat, List.getD_cons_zero, List.getD_cons_succ, q_forN, Int.toNat_natCast, f_in_sign, f_neg_int, f_is_non, f_isNot_non, isNon_non, isNon_tup, isNon_int, isNon_str, isNon_lst, isNon_dic, isNon_bl, isNon_obj, isB_tuple_tup, isB_list_lst, isB_str_tup, isB_str_lst, isB_str_non, isB_tuple_non, l__law_meant_0, hm, h10, ← ei]), e]
          cases ldec mk ps (T.drop (i + 1)) with
          | none => rfl
          | some y =>
            show pure _ = pure _
            rw [List.append_assoc]
            rfl
    · have h' : ¬ (i : Int) < (T.length : Int) := by omega
      have hc : (mTest (mBin fLt (mVar 7) (mCallF fLen (mCons (mVar 1) mNil)))) [w, .val (.str T), s2, .val (.str [mk]), .val (.str told), .val (.str plain), .val (.str found), .val (.int (i : Int)), s8] = pure false := by simp (disch := (first | with_reducible assumption | omega | ((try simp only [q_sl, List.length_append, List.length_map, List.length_cons, List.length_nil, and_true, true_and]); first | omega | decide))) only [bnd_pure, q_runF, fin_nx, fin_rt, q_var0, q_vars, q_C, q_bin, q_chain, chainK_bl, q_tru, truK_bl, truK_int, truK_lst, truK_tup, truK_non, truK_str, q_test, tstK_bl, q_and, q_or, q_not, q_andV, q_orV, q_notV, q_ifE, q_un, q_nil, q_cons, q_tup, q_lst, q_callF, q_call, q_meth, methK_obj, methO_some, q_isB, q_items, itemsK_str, itemsK_lst, itemsK_tup, q_range1, rangeK_int, q_nop, q_seq, seqK_nx, seqK_rt, seqK_bk, seqK_ct, q_if, q_ret, q_retN, q_drop, q_set, q_setOwn, q_for, q_for_nil, forK_nx, forK_ct, forK_bk, forK_rt, gd_true, lf_some, f_add_int, f_add_str, f_add_lst, f_add_tup, f_sub_int, f_mul_r, f_mul_l, f_mod, f_div, f_eq_str, f_eq_int, f_eq_bl, f_ne_str, f_ne_int, f_ne_bl, f_lt, f_le, f_gt, f_ge, f_in_sign, f_notIn_sign, f_is_bl, f_len_str, f_len_lst, f_len_tup, f_len_scr, f_len_dic, f_int_bl, f_int_int, List.length_cons, List.length_nil, List.length_replicate, List.length_set, List.set_cons_zero, List.set_cons_succ, List.getElem?_cons_zero, List.getElem?_cons_succ, Nat.reduceAdd, Nat.reduceLT, Nat.zero_lt_succ, Nat.lt_add_one, if_true, if_false, Bool.not_true, Bool.not_false, Bool.false_eq_true, reduceIte, decide_true, decide_false, reduceCtorEq, List.cons.injEq, Nat.reduceEqDiff, and_true, true_and, and_false, false_and, isB_str_str, isB_str_int, isB_str_bl, isB_int_int, isB_bool_int, isB_bool_bl, isB_int_bl, isB_int_str, isB_bool_str, f_join_nil, f_join_signs, f_all_map, f_any_map, f_lstrip, f_cut_str, f_cut_lst, f_cut_tup, q_while, q_bm, isTy_str, isTy_lst, isTy_dic, q_part, partK_int, q_noPart, q_cut, q_range2, range2K_int, q_get2, get2K_dic, key_str, key_int, q_dict, q_pairs_nil, pairK_some, q_pairs_cons, q_app, appK_own, q_frz, frzK_own, frzK_val, frzK_no, q_aug, augK_val, f_ix_lst, f_ix_tup, f_ix_scr, f_ix_str, Int.reduceToNat, List.getD_cons_zero, List.getD_cons_succ, q_forN, Int.toNat_natCast, f_in_sign, f_neg_int, f_is_non, f_isNot_non, isNon_non, isNon_tup, isNon_int, isNon_str, isNon_lst, isNon_dic, isNon_bl, isNon_obj, isB_tuple_tup, isB_list_lst, isB_str_tup, isB_str_lst, isB_str_non, isB_tuple_non, h']
      refine ⟨.val (.int (i : Int)), s8, ?_⟩
      rw [while_stop hc (by omega), List.drop_eq_nil_of_le (by omega)]
      show _ = pure _
      rw [List.append_nil]
end K02.Ma
end
section
set_option linter.all false
set_option maxRecDepth 100000
namespace K02.Ma
open PySem L2 DL
variable {Ψ : Nat → Fid → List D → M D} [IsΦ Ψ]
/-! the law's stretch -/
theorem s_stretch_scan (k : Nat) (w T e : Tx) (i : Nat) (hi : i ≤ T.length) (hl : T.length ≤ 100000) (hq : w ≠ w_quoted) (hn : w ≠ w_number) (he : Ψ k ._law_ends [.str w] = pure (.str e)) :
    Ψ (k + 1) ._law_stretch [.str w, .str T, .int (i : Int)] = pure (.int (((i + span (fun c => !decide (c ∈ e)) T i : Nat)) : Int)) := by
  have n4 : [110, 117, 109, 98, 101, 114] = w_number := rfl
  have n5 : [113, 117, 111, 116, 101, 100] = w_quoted := rfl
  simp (disch := (first | with_reducible assumption | omega | ((try simp only [q_sl, List.length_append, List.length_map, List.length_cons, List.length_nil, and_true, true_and]); first | omega | decide))) only [bnd_pure, q_runF, fin_nx, fin_rt, q_var0, q_vars, q_C, q_bin, q_chain, chainK_bl, q_tru, truK_bl, truK_int, truK_lst, truK_tup, truK_non, truK_str, q_test, tstK_bl, q_and, q_or, q_not, q_andV, q_orV, q_notV, q_ifE, q_un, q_nil, q_cons, q_tup, q_lst, q_callF, q_call, q_meth, methK_obj, methO_some, q_isB, q_items, itemsK_str, itemsK_lst, itemsK_tup, q_range1, rangeK_int, q_nop, q_seq, seqK_nx, seqK_rt, seqK_bk, seqK_ct, q_if, q_ret, q_retN, q_drop, q_set, q_setOwn, q_for, q_for_nil, forK_nx, forK_ct, forK_bk, forK_rt, gd_true, lf_some, f_add_int, f_add_str, f_add_lst, f_add_tup, f_sub_int, f_mul_r, f_mul_l, f_mod, f_div, f_eq_str, f_eq_int, f_eq_bl, f_ne_str, f_ne_int, f_ne_bl, f_lt, f_le, f_gt, f_ge, f_in_sign, f_notIn_sign, f_is_bl, f_len_str, f_len_lst, f_len_tup, f_len_scr, f_len_dic, f_int_bl, f_int_int, List.length_cons, List.length_nil, List.length_replicate, List.length_set, List.set_cons_zero, List.set_cons_succ, List.getElem?_cons_zero, List.getElem?_cons_succ, Nat.reduceAdd, Nat.reduceLT, Nat.zero_lt_succ, Nat.lt_add_one, if_true, if_false, Bool.not_true, Bool.not_false, Bool.false_eq_true, reduceIte, decide_true, decide_false, reduceCtorEq, List.cons.injEq, Nat.reduceEqDiff, and_true, true_and, and_false, false_and, isB_str_str, isB_str_int, isB_str_bl, isB_int_int, isB_bool_int, isB_bool_bl, isB_int_bl, isB_int_str, isB_bool_str, f_join_nil, f_join_signs, f_all_map, f_any_map, f_lstrip, f_cut_str, f_cut_lst, f_cut_tup, q_while, q_bm, isTy_str, isTy_lst, isTy_dic, q_part, partK_int, q_noPart, q_cut, q_range2, range2K_int, q_get2, get2K_dic, key_str, key_int, q_dict, q_pairs_nil, pairK_some, q_pairs_cons, q_app, appK_own, q_frz, frzK_own, frzK_val, frzK_no, q_aug, augK_val, f_ix_lst, f_ix_tup, f_ix_scr, f_ix_str, Int.reduceToNat, List.getD_cons_zero, List.getD_cons_succ, q_forN, Int.toNat_natCast, f_in_sign, f_neg_int, f_is_non, f_isNot_non, isNon_non, isNon_tup, isNon_int, isNon_str, isNon_lst, isNon_dic, isNon_bl, isNon_obj, isB_tuple_tup, isB_list_lst, isB_str_tup, isB_str_lst, isB_str_non, isB_tuple_non, u__law_stretch, b__law_stretch, n4, n5, hq, hn]
  rw [while_span (fun c => !decide (c ∈ e)) T (fun j => [.val (.str w), .val (.str T), .val (.int (i : Int)), .val (.int (j : Int))]) (fun j hj => by
    by_cases h : j < T.length
    · have h' : (j : Int) < (T.length : Int) := by omega
      simp (disch := (first | with_reducible assumption | omega | ((try simp only [q_sl, List.length_append, List.length_map, List.length_cons, List.length_nil, and_true, true_and]); first | omega | decide))) only [bnd_pure, q_runF, fin_nx, fin_rt, q_var0, q_vars, q_C, q_bin, q_chain, chainK_bl, q_tru, truK_bl, truK_int, truK_lst, truK_tup, truK_non, truK_str, q_test, tstK_bl, q_and, q_or, q_not, q_andV, q_orV, q_notV, q_ifE, q_un, q_nil, q_cons, q_tup, q_lst, q_callF, q_call, q_meth, methK_obj, methO_some, q_isB, q_items, itemsK_str, itemsK_lst, itemsK_tup, q_range1, rangeK_int, q_nop, q_seq, seqK_nx, seqK_rt, seqK_bk, seqK_ct, q_if, q_ret, q_retN, q_drop, q_set, q_setOwn, q_for, q_for_nil, forK_nx, forK_ct, forK_bk, forK_rt, gd_true, lf_some, f_add_int, f_add_str, f_add_lst, f_add_tup, f_sub_int, f_mul_r, f_mul_l, f_mod, f_div, f_eq_str, f_eq_int, f_eq_bl, f_ne_str, f_ne_int, f_ne_bl, f_lt, f_le, f_gt, f_ge, f_in_sign, f_notIn_sign, f_is_bl, f_len_str, f_len_lst, f_len_tup, f_len_scr, f_len_dic, f_int_bl, f_int_int, List.length_cons, List.length_nil, List.length_replicate, List.length_set, List.set_cons_zero, List.set_cons_succ, List.getElem?_cons_zero, List.getElem?_cons_succ, Nat.reduceAdd, Nat.reduceLT, Nat.zero_lt_succ, Nat.lt_add_one, if_true, if_false, Bool.not_true, Bool.not_false, Bool.false_eq_true, reduceIte, decide_true, decide_false, reduceCtorEq, List.cons.injEq, Nat.reduceEqDiff, and_true, true_and, and_false, false_and, isB_str_str, isB_str_int, isB_str_bl, isB_int_int, isB_bool_int, isB_bool_bl, isB_int_bl, isB_int_str, isB_bool_str, f_join_nil, f_join_signs, f_all_map, f_any_map, f_lstrip, f_cut_str, f_cut_lst, f_cut_tup, q_while, q_bm, isTy_str, isTy_lst, isTy_dic, q_part, partK_int, q_noPart, q_cut, q_range2, range2K_int, q_get2, get2K_dic, key_str, key_int, q_dict, q_pairs_nil, pairK_some, q_pairs_cons, q_app, appK_own, q_frz, frzK_own, frzK_val, frzK_no, q_aug, augK_val, f_ix_lst, f_ix_tup, f_ix_scr, f_ix_str, Int.reduceToNat, List.getD_cons_zero, List.getD_cons_succ, q_forN, Int.toNat_natCast, f_in_sign, f_neg_int, f_is_non, f_isNot_non, isNon_non, isNon_tup, isNon_int, isNon_str, isNon_lst, isNon_dic, isNon_bl, isNon_obj, isB_tuple_tup, isB_list_lst, isB_str_tup, isB_str_lst, isB_str_non, isB_tuple_non, h', h, he, Bool.true_and]
    · have h' : ¬ (j : Int) < (T.length : Int) := by omega
      simp (disch := (first | with_reducible assumption | omega | ((try simp only [q_sl, List.length_append, List.length_map, List.length_cons, List.length_nil, and_true, true_and]); first | omega | decide))) only [bnd_pure, q_runF, fin_nx, fin_rt, q_var0, q_vars, q_C, q_bin, q_chain, chainK_bl, q_tru, truK_bl, truK_int, truK_lst, truK_tup, truK_non, truK_str, q_test, tstK_bl, q_and, q_or, q_not, q_andV, q_orV, q_notV, q_ifE, q_un, q_nil, q_cons, q_tup, q_lst, q_callF, q_call, q_meth, methK_obj, methO_some, q_isB, q_items, itemsK_str, itemsK_lst, itemsK_tup, q_range1, rangeK_int, q_nop, q_seq, seqK_nx, seqK_rt, seqK_bk, seqK_ct, q_if, q_ret, q_retN, q_drop, q_set, q_setOwn, q_for, q_for_nil, forK_nx, forK_ct, forK_bk, forK_rt, gd_true, lf_some, f_add_int, f_add_str, f_add_lst, f_add_tup, f_sub_int, f_mul_r, f_mul_l, f_mod, f_div, f_eq_str, f_eq_int, f_eq_bl, f_ne_str, f_ne_int, f_ne_bl, f_lt, f_le, f_gt, f_ge, f_in_sign, f_notIn_sign, f_is_bl, f_len_str, f_len_lst, f_len_tup, f_len_scr, f_len_dic, f_int_bl, f_int_int, List.length_cons, List.length_nil, List.length_replicate, List.length_set, List.set_cons_zero, List.set_cons_succ, List.getElem?_cons_zero, List.getElem?_cons_succ, Nat.reduceAdd, Nat.reduceLT, Nat.zero_lt_succ, Nat.lt_add_one, if_true, if_false, Bool.not_true, Bool.not_false, Bool.false_eq_true, reduceIte, decide_true, decide_false, reduceCtorEq, List.cons.injEq, Nat.reduceEqDiff, and_true, true_and, and_false, false_and, isB_str_str, isB_str_int, isB_str_bl, isB_int_int, isB_bool_int, isB_bool_bl, isB_int_bl, isB_int_str, isB_bool_str, f_join_nil, f_join_signs, f_all_map, f_any_map, f_lstrip, f_cut_str, f_cut_lst, f_cut_tup, q_while, q_bm, isTy_str, isTy_lst, isTy_dic, q_part, partK_int, q_noPart, q_cut, q_range2, range2K_int, q_get2, get2K_dic, key_str, key_int, q_dict, q_pairs_nil, pairK_some, q_pairs_cons, q_app, appK_own, q_frz, frzK_own, frzK_val, frzK_no, q_aug, augK_val, f_ix_lst, f_ix_tup, f_ix_scr, f_ix_str, Int.reduceToNat, List.getD_cons_zero, List.getD_cons_succ, q_forN, Int.toNat_natCast, f_in_sign, f_neg_int, f_is_non, f_isNot_non, isNon_non, isNon_tup, isNon_int, isNon_str, isNon_lst, isNon_dic, isNon_bl, isNon_obj, isB_tuple_tup, isB_list_lst, isB_str_tup, isB_str_lst, isB_str_non, isB_tuple_non, h', h, Bool.false_and]) (fun j hj => by simp (disch := (first | with_reducible assumption | omega | ((try simp only [q_sl, List.length_append, List.length_map, List.length_cons, List.length_nil, and_true, true_and]); first | omega | decide))) only [bnd_pure, q_runF, fin_nx, fin_rt, q_var0, q_vars, q_C, q_bin, q_chain, chainK_bl, q_tru, truK_bl, truK_int, truK_lst, truK_tup, truK_non, truK_str, q_test, tstK_bl, q_and, q_or, q_not, q_andV, q_orV, q_notV, q_ifE, q_un, q_nil, q_cons, q_tup, q_lst, q_callF, q_call, q_meth, methK_obj, methO_some, q_isB, q_items, itemsK_str, itemsK_lst, itemsK_tup, q_range1, rangeK_int, q_nop, q_seq, seqK_nx, seqK_rt, seqK_bk, seqK_ct, q_if, q_ret, q_retN, q_drop, q_set, q_setOwn, q_for, q_for_nil, forK_nx, forK_ct, forK_bk, forK_rt, gd_true, lf_some, f_add_int, f_add_str, f_add_lst, f_add_tup, f_sub_int, f_mul_r, f_mul_l, f_mod, f_div, f_eq_str, f_eq_int, f_eq_bl, f_ne_str, f_ne_int, f_ne_bl, f_lt, f_le, f_gt, f_ge, f_in_sign, f_notIn_sign, f_is_bl, f_len_str, f_len_lst, f_len_tup, f_len_scr, f_len_dic, f_int_bl, f_int_int, List.length_cons, List.length_nil, List.length_replicate, List.length_set, List.set_cons_zero, List.set_cons_succ, List.getElem?_cons_zero, List.getElem?_cons_succ, Nat.reduceAdd, Nat.reduceLT, Nat.zero_lt_succ, Nat.lt_add_one, if_true, if_false, Bool.not_true, Bool.not_false, Bool.false_eq_true, reduceIte, decide_true, decide_false, reduceCtorEq, List.cons.injEq, Nat.reduceEqDiff, and_true, true_and, and_false, false_and, isB_str_str, isB_str_int, isB_str_bl, isB_int_int, isB_bool_int, isB_bool_bl, isB_int_bl, isB_int_str, isB_bool_str, f_join_nil, f_join_signs, f_all_map, f_any_map, f_lstrip, f_cut_str, f_cut_lst, f_cut_tup, q_while, q_bm, isTy_str, isTy_lst, isTy_dic, q_part, partK_int, q_noPart, q_cut, q_range2, range2K_int, q_get2, get2K_dic, key_str, key_int, q_dict, q_pairs_nil, pairK_some, q_pairs_cons, q_app, appK_own, q_frz, frzK_own, frzK_val, frzK_no, q_aug, augK_val, f_ix_lst, f_ix_tup, f_ix_scr, f_ix_str, Int.reduceToNat, List.getD_cons_zero, List.getD_cons_succ, q_forN, Int.toNat_natCast, f_in_sign, f_neg_int, f_is_non, f_isNot_non, isNon_non, isNon_tup, isNon_int, isNon_str, isNon_lst, isNon_dic, isNon_bl, isNon_obj, isB_tuple_tup, isB_list_lst, isB_str_tup, isB_str_lst, isB_str_non, isB_tuple_non, l__law_stretch_1]; rfl) 1000000 i hi (by omega)]
  simp (disch := (first | with_reducible assumption | omega | ((try simp only [q_sl, List.length_append, List.length_map, List.length_cons, List.length_nil, and_true, true_and]); first | omega | decide))) only [bnd_pure, q_runF, fin_nx, fin_rt, q_var0, q_vars, q_C, q_bin, q_chain, chainK_bl, q_tru, truK_bl, truK_int, truK_lst, truK_tup, truK_non, truK_str, q_test, tstK_bl, q_and, q_or, q_not, q_andV, q_orV, q_notV, q_ifE, q_un, q_nil, q_cons, q_tup, q_lst, q_callF, q_call, q_meth, methK_obj, methO_some, q_isB, q_items, itemsK_str, itemsK_lst, itemsK_tup, q_range1, rangeK_int, q_nop, q_seq, seqK_nx, seqK_rt, seqK_bk, seqK_ct, q_if, q_ret, q_retN, q_drop, q_set, q_setOwn, q_for, q_for_nil, forK_nx, forK_ct, forK_bk, forK_rt, gd_true, lf_some, f_add_int, f_add_str, f_add_lst, f_add_tup, f_sub_int, f_mul_r, f_mul_l, f_mod, f_div, f_eq_str, f_eq_int, f_eq_bl, f_ne_str, f_ne_int, f_ne_bl, f_lt, f_le, f_gt, f_ge, f_in_sign, f_notIn_sign, f_is_bl, f_len_str, f_len_lst, f_len_tup, f_len_scr, f_len_dic, f_int_bl, f_int_int, List.length_cons, List.length_nil, List.length_replicate, List.length_set, List.set_cons_zero, List.set_cons_succ, List.getElem?_cons_zero, List.getElem?_cons_succ, Nat.reduceAdd, Nat.reduceLT, Nat.zero_lt_succ, Nat.lt_add_one, if_true, if_false, Bool.not_true, Bool.not_false, Bool.false_eq_true, reduceIte, decide_true, decide_false, reduceCtorEq, List.cons.injEq, Nat.reduceEqDiff, and_true, true_and, and_false, false_and, isB_str_str, isB_str_int, isB_str_bl, isB_int_int, isB_bool_int, isB_bool_bl, isB_int_bl, isB_int_str, isB_bool_str, f_join_nil, f_join_signs, f_all_map, f_any_map, f_lstrip, f_cut_str, f_cut_lst, f_cut_tup, q_while, q_bm, isTy_str, isTy_lst, isTy_dic, q_part, partK_int, q_noPart, q_cut, q_range2, range2K_int, q_get2, get2K_dic, key_str, key_int, q_dict, q_pairs_nil, pairK_some, q_pairs_cons, q_app, appK_own, q_frz, frzK_own, frzK_val, frzK_no, q_aug, augK_val, f_ix_lst, f_ix_tup, f_ix_scr, f_ix_str, Int.reduceToNat, List.getD_cons_zero, List.getD_cons_succ, q_forN, Int.toNat_natCast, f_in_sign, f_neg_int, f_is_non, f_isNot_non, isNon_non, isNon_tup, isNon_int, isNon_str, isNon_lst, isNon_dic, isNon_bl, isNon_obj, isB_tuple_tup, isB_list_lst, isB_str_tup, isB_str_lst, isB_str_non, isB_tuple_non]
theorem s_stretch_num (k : Nat) (T e : Tx) (i : Nat) (hi : i ≤ T.length) (hl : T.length ≤ 100000) (he : Ψ k ._law_ends [.str w_number] = pure (.str e)) :
    Ψ (k + 1) ._law_stretch [.str w_number, .str T, .int (i : Int)] = pure (.int (((i + (stN (fun c => !decide (c ∈ e)) (T.drop i)).length : Nat)) : Int)) := by
  have n4 : [110, 117, 109, 98, 101, 114] = w_number := rfl
  have n5 : [113, 117, 111, 116, 101, 100] = w_quoted := rfl
  have hq : ¬ w_number = w_quoted := by decide
  have key := fun (n : Nat) (hn : n ≤ T.length) => while_span (c := (mAnd (mTest (mBin fLt (mVar 3) (mCallF fLen (mCons (mVar 1) mNil)))) (mTest (mBin fNotIn (mBin fIx (mVar 1) (mVar 3)) (mCall 1 (Ψ k ._law_ends) (mCons (mVar 0) mNil)))))) (m := l__law_stretch_1) (fun c => !decide (c ∈ e)) T (fun j => [.val (.str w_number), .val (.str T), .val (.int (i : Int)), .val (.int (j : Int))]) (fun j hj => by
    by_cases h : j < T.length
    · have h' : (j : Int) < (T.length : Int) := by omega
      simp (disch := (first | with_reducible assumption | omega | ((try simp only [q_sl, List.length_append, List.length_map, List.length_cons, List.length_nil, and_true, true_and]); first | omega | decide))) only [bnd_pure, q_runF, fin_nx, fin_rt, q_var0, q_vars, q_C, q_bin, q_chain, chainK_bl, q_tru, truK_bl, truK_int, truK_lst, truK_tup, truK_non, truK_str, q_test, tstK_bl, q_and, q_or, q_not, q_andV, q_orV, q_notV, q_ifE, q_un, q_nil, q_cons, q_tup, q_lst, q_callF, q_call, q_meth, methK_obj, methO_some, q_isB, q_items, itemsK_str, itemsK_lst, itemsK_tup, q_range1, rangeK_int, q_nop, q_seq, seqK_nx, seqK_rt, seqK_bk, seqK_ct, q_if, q_ret, q_retN, q_drop, q_set, q_setOwn, q_for, q_for_nil, forK_nx, forK_ct, forK_bk, forK_rt, gd_true, lf_some, f_add_int, f_add_str, f_add_lst, f_add_tup, f_sub_int, f_mul_r, f_mul_l, f_mod, f_div, f_eq_str, f_eq_int, f_eq_bl, f_ne_str, f_ne_int, f_ne_bl, f_lt, f_le, f_gt, f_ge, f_in_sign, f_notIn_sign, f_is_bl, f_len_str, f_len_lst, f_len_tup, f_len_scr, f_len_dic, f_int_bl, f_int_int, List.length_cons, List.length_nil, List.length_replicate, List.length_set, List.set_cons_zero, List.set_cons_succ, List.getElem?_cons_zero, List.getElem?_cons_succ, Nat.reduceAdd, Nat.reduceLT, Nat.zero_lt_succ, Nat.lt_add_one, if_true, if_false, Bool.not_true, Bool.not_false, Bool.false_eq_true, reduceIte, decide_true, decide_false, reduceCtorEq, List.cons.injEq, Nat.reduceEqDiff, and_true, true_and, and_false, false_and, isB_str_str, isB_str_int, isB_str_bl, isB_int_int, isB_bool_int, isB_bool_bl, isB_int_bl, isB_int_str, isB_bool_str, f_join_nil, f_join_signs, f_all_map, f_any_map, f_lstrip, f_cut_str, f_cut_lst, f_cut_tup, q_while, q_bm, isTy_str, isTy_lst, isTy_dic, q_part, partK_int, q_noPart, q_cut, q_range2, range2K_int, q_get2, get2K_dic, key_str, key_int, q_dict, q_pairs_nil, pairK_some, q_pairs_cons, q_app, appK_own, q_frz, frzK_own, frzK_val, frzK_no, q_aug, augK_val, f_ix_lst, f_ix_tup, f_ix_scr, f_ix_str, Int.reduceToNat, List.getD_cons_zero, List.getD_cons_succ, q_forN, Int.toNat_natCast, f_in_sign, f_neg_int, f_is_non, f_isNot_non, isNon_non, isNon_tup, isNon_int, isNon_str, isNon_lst, isNon_dic, isNon_bl, isNon_obj, isB_tuple_tup, isB_list_lst, isB_str_tup, isB_str_lst, isB_str_non, isB_tuple_non, h', h, he, Bool.true_and]
    · have h' : ¬ (j : Int) < (T.length : Int) := by omega
      simp (disch := (first | with_reducible assumption | omega | ((try simp only [q_sl, List.length_append, List.length_map, List.length_cons, List.length_nil, and_true, true_and]); first | omega | decide))) only [bnd_pure, q_runF, fin_nx, fin_rt, q_var0, q_vars, q_C, q_bin, q_chain, chainK_bl, q_tru, truK_bl, truK_int, truK_lst, truK_tup, truK_non, truK_str, q_test, tstK_bl, q_and, q_or, q_not, q_andV, q_orV, q_notV, q_ifE, q_un, q_nil, q_cons, q_tup, q_lst, q_callF, q_call, q_meth, methK_obj, methO_some, q_isB, q_items, itemsK_str, itemsK_lst, itemsK_tup, q_range1, rangeK_int, q_nop, q_seq, seqK_nx, seqK_rt, seqK_bk, seqK_ct, q_if, q_ret, q_retN, q_drop, q_set, q_setOwn, q_for, q_for_nil, forK_nx, forK_ct, forK_bk, forK_rt, gd_true, lf_some, f_add_int, f_add_str, f_add_lst, f_add_tup, f_sub_int, f_mul_r, f_mul_l, f_mod, f_div, f_eq_str, f_eq_int, f_eq_bl, f_ne_str, f_ne_int, f_ne_bl, f_lt, f_le, f_gt, f_ge, f_in_sign, f_notIn_sign, f_is_bl, f_len_str, f_len_lst, f_len_tup, f_len_scr, f_len_dic, f_int_bl, f_int_int, List.length_cons, List.length_nil, List.length_replicate, List.length_set, List.set_cons_zero, List.set_cons_succ, List.getElem?_cons_zero, List.getElem?_cons_succ, Nat.reduceAdd, Nat.reduceLT, Nat.zero_lt_succ, Nat.lt_add_one, if_true, if_false, Bool.not_true, Bool.not_false, Bool.false_eq_true, reduceIte, decide_true, decide_false, reduceCtorEq, List.cons.injEq, Nat.reduceEqDiff, and_true, true_and, and_false, false_and, isB_str_str, isB_str_int, isB_str_bl, isB_int_int, isB_bool_int, isB_bool_bl, isB_int_bl, isB_int_str, isB_bool_str, f_join_nil, f_join_signs, f_all_map, f_any_map, f_lstrip, f_cut_str, f_cut_lst, f_cut_tup, q_while, q_bm, isTy_str, isTy_lst, isTy_dic, q_part, partK_int, q_noPart, q_cut, q_range2, range2K_int, q_get2, get2K_dic, key_str, key_int, q_dict, q_pairs_nil, pairK_some, q_pairs_cons, q_app, appK_own, q_frz, frzK_own, frzK_val, frzK_no, q_aug, augK_val, f_ix_lst, f_ix_tup, f_ix_scr, f_ix_str, Int.reduceToNat, List.getD_cons_zero, List.getD_cons_succ, q_forN, Int.toNat_natCast, f_in_sign, f_neg_int, f_is_non, f_isNot_non, isNon_non, isNon_tup, isNon_int, isNon_str, isNon_lst, isNon_dic, isNon_bl, isNon_obj, isB_tuple_tup, isB_list_lst, isB_str_tup, isB_str_lst, isB_str_non, isB_tuple_non, h', h, Bool.false_and]) (fun j hj => by simp (disch := (first | with_reducible assumption | omega | ((try simp only [q_sl, List.length_append, List.length_map, List.length_cons, List.length_nil, and_true, true_and]); first | omega | decide))) only [bnd_pure, q_runF, fin_nx, fin_rt, q_var0, q_vars, q_C, q_bin, q_chain, chainK_bl, q_tru, truK_bl, truK_int, truK_lst, truK_tup, truK_non, truK_str, q_test, tstK_bl, q_and, q_or, q_not, q_andV, q_orV, q_notV, q_ifE, q_un, q_nil, q_cons, q_tup, q_lst, q_callF, q_call, q_meth, methK_obj, methO_some, q_isB, q_items, itemsK_str, itemsK_lst, itemsK_tup, q_range1, rangeK_int, q_nop, q_seq, seqK_nx, seqK_rt, seqK_bk, seqK_ct, q_if, q_ret, q_retN, q_drop, q_set, q_setOwn, q_for, q_for_nil, forK_nx, forK_ct, forK_bk, forK_rt, gd_true, lf_some, f_add_int, f_add_str, f_add_lst, f_add_tup, f_sub_int, f_mul_r, f_mul_l, f_mod, f_div, f_eq_str, f_eq_int, f_eq_bl, f_ne_str, f_ne_int, f_ne_bl, f_lt, f_le, f_gt, f_ge, f_in_sign, f_notIn_sign, f_is_bl, f_len_str, f_len_lst, f_len_tup, f_len_scr, f_len_dic, f_int_bl, f_int_int, List.length_cons, List.length_nil, List.length_replicate, List.length_set, List.set_cons_zero, List.set_cons_succ, List.getElem?_cons_zero, List.getElem?_cons_succ, Nat.reduceAdd, Nat.reduceLT, Nat.zero_lt_succ, Nat.lt_add_one, if_true, if_false, Bool.not_true, Bool.not_false, Bool.false_eq_true, reduceIte, decide_true, decide_false, reduceCtorEq, List.cons.injEq, Nat.reduceEqDiff, and_true, true_and, and_false, false_and, isB_str_str, isB_str_int, isB_str_bl, isB_int_int, isB_bool_int, isB_bool_bl, isB_int_bl, isB_int_str, isB_bool_str, f_join_nil, f_join_signs, f_all_map, f_any_map, f_lstrip, f_cut_str, f_cut_lst, f_cut_tup, q_while, q_bm, isTy_str, isTy_lst, isTy_dic, q_part, partK_int, q_noPart, q_cut, q_range2, range2K_int, q_get2, get2K_dic, key_str, key_int, q_dict, q_pairs_nil, pairK_some, q_pairs_cons, q_app, appK_own, q_frz, frzK_own, frzK_val, frzK_no, q_aug, augK_val, f_ix_lst, f_ix_tup, f_ix_scr, f_ix_str, Int.reduceToNat, List.getD_cons_zero, List.getD_cons_succ, q_forN, Int.toNat_natCast, f_in_sign, f_neg_int, f_is_non, f_isNot_non, isNon_non, isNon_tup, isNon_int, isNon_str, isNon_lst, isNon_dic, isNon_bl, isNon_obj, isB_tuple_tup, isB_list_lst, isB_str_tup, isB_str_lst, isB_str_non, isB_tuple_non, l__law_stretch_1]; rfl) 1000000 n hn (by omega)
  rw [stN_len]
  by_cases h : (T.drop i).take 1 = [45]
  · have hlt := lt_of_take h
    have e1 : ((i : Int) + 1) = ((i + 1 : Nat) : Int) := by omega
    simp (disch := (first | with_reducible assumption | omega | ((try simp only [q_sl, List.length_append, List.length_map, List.length_cons, List.length_nil, and_true, true_and]); first | omega | decide))) only [bnd_pure, q_runF, fin_nx, fin_rt, q_var0, q_vars, q_C, q_bin, q_chain, chainK_bl, q_tru, truK_bl, truK_int, truK_lst, truK_tup, truK_non, truK_str, q_test, tstK_bl, q_and, q_or, q_not, q_andV, q_orV, q_notV, q_ifE, q_un, q_nil, q_cons, q_tup, q_lst, q_callF, q_call, q_meth, methK_obj, methO_some, q_isB, q_items, itemsK_str, itemsK_lst, itemsK_tup, q_range1, rangeK_int, q_nop, q_seq, seqK_nx, seqK_rt, seqK_bk, seqK_ct, q_if, q_ret, q_retN, q_drop, q_set, q_setOwn, q_for, q_for_nil, forK_nx, forK_ct, forK_bk, forK_rt, gd_true, lf_some, f_add_int, f_add_str, f_add_lst, f_add_tup, f_sub_int, f_mul_r, f_mul_l, f_mod, f_div, f_eq_str, f_eq_int, f_eq_bl, f_ne_str, f_ne_int, f_ne_bl, f_lt, f_le, f_gt, f_ge, f_in_sign, f_notIn_sign, f_is_bl, f_len_str, f_len_lst, f_len_tup, f_len_scr, f_len_dic, f_int_bl, f_int_int, List.length_cons, List.length_nil, List.length_replicate, List.length_set, List.set_cons_zero, List.set_cons_succ, List.getElem?_cons_zero, List.getElem?_cons_succ, Nat.reduceAdd, Nat.reduceLT, Nat.zero_lt_succ, Nat.lt_add_one, if_true, if_false, Bool.not_true, Bool.not_false, Bool.false_eq_true, reduceIte, decide_true, decide_false, reduceCtorEq, List.cons.injEq, Nat.reduceEqDiff, and_true, true_and, and_false, false_and, isB_str_str, isB_str_int, isB_str_bl, isB_int_int, isB_bool_int, isB_bool_bl, isB_int_bl, isB_int_str, isB_bool_str, f_join_nil, f_join_signs, f_all_map, f_any_map, f_lstrip, f_cut_str, f_cut_lst, f_cut_tup, q_while, q_bm, isTy_str, isTy_lst, isTy_dic, q_part, partK_int, q_noPart, q_cut, q_range2, range2K_int, q_get2, get2K_dic, key_str, key_int, q_dict, q_pairs_nil, pairK_some, q_pairs_cons, q_app, appK_own, q_frz, frzK_own, frzK_val, frzK_no, q_aug, augK_val, f_ix_lst, f_ix_tup, f_ix_scr, f_ix_str, Int.reduceToNat, List.getD_cons_zero, List.getD_cons_succ, q_forN, Int.toNat_natCast, f_in_sign, f_neg_int, f_is_non, f_isNot_non, isNon_non, isNon_tup, isNon_int, isNon_str, isNon_lst, isNon_dic, isNon_bl, isNon_obj, isB_tuple_tup, isB_list_lst, isB_str_tup, isB_str_lst, isB_str_non, isB_tuple_non, u__law_stretch, b__law_stretch, n4, n5, hq, cut_one, h]
    rw [e1, key (i + 1) (by omega)]
    simp (disch := (first | with_reducible assumption | omega | ((try simp only [q_sl, List.length_append, List.length_map, List.length_cons, List.length_nil, and_true, true_and]); first | omega | decide))) only [bnd_pure, q_runF, fin_nx, fin_rt, q_var0, q_vars, q_C, q_bin, q_chain, chainK_bl, q_tru, truK_bl, truK_int, truK_lst, truK_tup, truK_non, truK_str, q_test, tstK_bl, q_and, q_or, q_not, q_andV, q_orV, q_notV, q_ifE, q_un, q_nil, q_cons, q_tup, q_lst, q_callF, q_call, q_meth, methK_obj, methO_some, q_isB, q_items, itemsK_str, itemsK_lst, itemsK_tup, q_range1, rangeK_int, q_nop, q_seq, seqK_nx, seqK_rt, seqK_bk, seqK_ct, q_if, q_ret, q_retN, q_drop, q_set, q_setOwn, q_for, q_for_nil, forK_nx, forK_ct, forK_bk, forK_rt, gd_true, lf_some, f_add_int, f_add_str, f_add_lst, f_add_tup, f_sub_int, f_mul_r, f_mul_l, f_mod, f_div, f_eq_str, f_eq_int, f_eq_bl, f_ne_str, f_ne_int, f_ne_bl, f_lt, f_le, f_gt, f_ge, f_in_sign, f_notIn_sign, f_is_bl, f_len_str, f_len_lst, f_len_tup, f_len_scr, f_len_dic, f_int_bl, f_int_int, List.length_cons, List.length_nil, List.length_replicate, List.length_set, List.set_cons_zero, List.set_cons_succ, List.getElem?_cons_zero, List.getElem?_cons_succ, Nat.reduceAdd, Nat.reduceLT, Nat.zero_lt_succ, Nat.lt_add_one, if_true, if_false, Bool.not_true, Bool.not_false, Bool.false_eq_true, reduceIte, decide_true, decide_false, reduceCtorEq, List.cons.injEq, Nat.reduceEqDiff, and_true, true_and, and_false, false_and, isB_str_str, isB_str_int, isB_str_bl, isB_int_int, isB_bool_int, isB_bool_bl, isB_int_bl, isB_int_str, isB_bool_str, f_join_nil, f_join_signs, f_all_map, f_any_map, f_lstrip, f_cut_str, f_cut_lst, f_cut_tup, q_while, q_bm, isTy_str, isTy_lst, isTy_dic, q_part, partK_int, q_noPart, q_cut, q_range2, range2K_int, q_get2, get2K_dic, key_str, key_int, q_dict, q_pairs_nil, pairK_some, q_pairs_cons, q_app, appK_own, q_frz, frzK_own, frzK_val, frzK_no, q_aug, augK_val, f_ix_lst, f_ix_tup, f_ix_scr, f_ix_str, Int.reduceToNat, List.getD_cons_zero, List.getD_cons_succ, q_forN, Int.toNat_natCast, f_in_sign, f_neg_int, f_is_non, f_isNot_non, isNon_non, isNon_tup, isNon_int, isNon_str, isNon_lst, isNon_dic, isNon_bl, isNon_obj, isB_tuple_tup, isB_list_lst, isB_str_tup, isB_str_lst, isB_str_non, isB_tuple_non]
    congr 3
    omega
  · simp (disch := (first | with_reducible assumption | omega | ((try simp only [q_sl, List.length_append, List.length_map, List.length_cons, List.length_nil, and_true, true_and]); first | omega | decide))) only [bnd_pure, q_runF, fin_nx, fin_rt, q_var0, q_vars, q_C, q_bin, q_chain, chainK_bl, q_tru, truK_bl, truK_int, truK_lst, truK_tup, truK_non, truK_str, q_test, tstK_bl, q_and, q_or, q_not, q_andV, q_orV, q_notV, q_ifE, q_un, q_nil, q_cons, q_tup, q_lst, q_callF, q_call, q_meth, methK_obj, methO_some, q_isB, q_items, itemsK_str, itemsK_lst, itemsK_tup, q_range1, rangeK_int, q_nop, q_seq, seqK_nx, seqK_rt, seqK_bk, seqK_ct, q_if, q_ret, q_retN, q_drop, q_set, q_setOwn, q_for, q_for_nil, forK_nx, forK_ct, forK_bk, forK_rt, gd_true, lf_some, f_add_int, f_add_str, f_add_lst, f_add_tup, f_sub_int, f_mul_r, f_mul_l, f_mod, f_div, f_eq_str, f_eq_int, f_eq_bl, f_ne_str, f_ne_int, f_ne_bl, f_lt, f_le, f_gt, f_ge, f_in_sign, f_notIn_sign, f_is_bl, f_len_str, f_len_lst, f_len_tup, f_len_scr, f_len_dic, f_int_bl, f_int_int, List.length_cons, List.length_nil, List.length_replicate, List.length_set, List.set_cons_zero, List.set_cons_succ, List.getElem?_cons_zero, List.getElem?_cons_succ, Nat.reduceAdd, Nat.reduceLT, Nat.zero_lt_succ, Nat.lt_add_one, if_true, if_false, Bool.not_true, Bool.not_false, Bool.false_eq_true, reduceIte, decide_true, decide_false, reduceCtorEq, List.cons.injEq, Nat.reduceEqDiff, and_true, true_and, and_false, false_and, isB_str_str, isB_str_int, isB_str_bl, isB_int_int, isB_bool_int, isB_bool_bl, isB_int_bl, isB_int_str, isB_bool_str, f_join_nil, f_join_signs, f_all_map, f_any_map, f_lstrip, f_cut_str, f_cut_lst, f_cut_tup, q_while, q_bm, isTy_str, isTy_lst, isTy_dic, q_part, partK_int, q_noPart, q_cut, q_range2, range2K_int, q_get2, get2K_dic, key_str, key_int, q_dict, q_pairs_nil, pairK_some, q_pairs_cons, q_app, appK_own, q_frz, frzK_own, frzK_val, frzK_no, q_aug, augK_val, f_ix_lst, f_ix_tup, f_ix_scr, f_ix_str, Int.reduceToNat, List.getD_cons_zero, List.getD_cons_succ, q_forN, Int.toNat_natCast, f_in_sign, f_neg_int, f_is_non, f_isNot_non, isNon_non, isNon_tup, isNon_int, isNon_str, isNon_lst, isNon_dic, isNon_bl, isNon_obj, isB_tuple_tup, isB_list_lst, isB_str_tup, isB_str_lst, isB_str_non, isB_tuple_non, u__law_stretch, b__law_stretch, n4, n5, hq, cut_one, h]
    rw [key i hi]
    simp (disch := (first | with_reducible assumption | omega | ((try simp only [q_sl, List.length_append, List.length_map, List.length_cons, List.length_nil, and_true, true_and]); first | omega | decide))) only [bnd_pure, q_runF, fin_nx, fin_rt, q_var0, q_vars, q_C, q_bin, q_chain, chainK_bl, q_tru, truK_bl, truK_int, truK_lst, truK_tup, truK_non, truK_str, q_test, tstK_bl, q_and, q_or, q_not, q_andV, q_orV, q_notV, q_ifE, q_un, q_nil, q_cons, q_tup, q_lst, q_callF, q_call, q_meth, methK_obj, methO_some, q_isB, q_items, itemsK_str, itemsK_lst, itemsK_tup, q_range1, rangeK_int, q_nop, q_seq, seqK_nx, seqK_rt, seqK_bk, seqK_ct, q_if, q_ret, q_retN, q_drop, q_set, q_setOwn, q_for, q_for_nil, forK_nx, forK_ct, forK_bk, forK_rt, gd_true, lf_some, f_add_int, f_add_str, f_add_lst, f_add_tup, f_sub_int, f_mul_r, f_mul_l, f_mod, f_div, f_eq_str, f_eq_int, f_eq_bl, f_ne_str, f_ne_int, f_ne_bl, f_lt, f_le, f_gt, f_ge, f_in_sign, f_notIn_sign, f_is_bl, f_len_str, f_len_lst, f_len_tup, f_len_scr, f_len_dic, f_int_bl, f_int_int, List.length_cons, List.length_nil, List.length_replicate, List.length_set, List.set_cons_zero, List.set_cons_succ, List.getElem?_cons_zero, List.getElem?_cons_succ, Nat.reduceAdd, Nat.reduceLT, Nat.zero_lt_succ, Nat.lt_add_one, if_true, if_false, Bool.not_true, Bool.not_false, Bool.false_eq_true, reduceIte, decide_true, decide_false, reduceCtorEq, List.cons.injEq, Nat.reduceEqDiff, and_true, true_and, and_false, false_and, isB_str_str, isB_str_int, isB_str_bl, isB_int_int, isB_bool_int, isB_bool_bl, isB_int_bl, isB_int_str, isB_bool_str, f_join_nil, f_join_signs, f_all_map, f_any_map, f_lstrip, f_cut_str, f_cut_lst, f_cut_tup, q_while, q_bm, isTy_str, isTy_lst, isTy_dic, q_part, partK_int, q_noPart, q_cut, q_range2, range2K_int, q_get2, get2K_dic, key_str, key_int, q_dict, q_pairs_nil, pairK_some, q_pairs_cons, q_app, appK_own, q_frz, frzK_own, frzK_val, frzK_no, q_aug, augK_val, f_ix_lst, f_ix_tup, f_ix_scr, f_ix_str, Int.reduceToNat, List.getD_cons_zero, List.getD_cons_succ, q_forN, Int.toNat_natCast, f_in_sign, f_neg_int, f_is_non, f_isNot_non, isNon_non, isNon_tup, isNon_int, isNon_str, isNon_lst, isNon_dic, isNon_bl, isNon_obj, isB_tuple_tup, isB_list_lst, isB_str_tup, isB_str_lst, isB_str_non, isB_tuple_non]
theorem span_mem {T : Tx} {c i : Nat} : (c ∈ T.drop i ↔ i + span (fun x => !decide (x = c)) T i < T.length) ∨ T.length < i := by
  by_cases hi : i ≤ T.length
  · refine .inl ?_
    unfold span
    constructor
    · intro h
      have := congrArg List.length (tw_lt h)
      rw [List.length_append, List.length_cons, List.length_drop] at this
      omega
    · intro h
      refine Classical.byContradiction fun z => ?_
      rw [tw_all z, List.length_drop] at h
      omega
  · exact .inr (by omega)
theorem s_stretch_quo (k : Nat) (T : Tx) (i : Nat) (hi : i ≤ T.length) (hl : T.length ≤ 100000) :
    Ψ (k + 1) ._law_stretch [.str w_quoted, .str T, .int (i : Int)] = pure (match stQ (T.drop i) with
      | some st => .int (((i + st.length : Nat)) : Int)
      | none => .int (-1)) := by
  have n5 : [113, 117, 111, 116, 101, 100] = w_quoted := rfl
  have e1 : ((i : Int) + 1) = ((i + 1 : Nat) : Int) := by omega
  have c1 := cut_one T i
  rw [e1] at c1
  by_cases hlt : i < T.length
  · have key := while_span (c := (mAnd (mTest (mBin fLt (mVar 3) (mCallF fLen (mCons (mVar 1) mNil)))) (mTest (mBin fNe (mBin fIx (mVar 1) (mVar 3)) (mC (.str [34])))))) (m := l__law_stretch_0) (fun c => !decide (c = 34)) T (fun j => [.val (.str w_quoted), .val (.str T), .val (.int (i : Int)), .val (.int (j : Int))]) (fun j hj => by
      by_cases h : j < T.length
      · have h' : (j : Int) < (T.length : Int) := by omega
        simp (disch := (first | with_reducible assumption | omega | ((try simp only [q_sl, List.length_append, List.length_map, List.length_cons, List.length_nil, and_true, true_and]); first | omega | decide))) only [bnd_pure, q_runF, fin_nx, fin_rt, q_var0, q_vars, q_C, q_bin, q_chain, chainK_bl, q_tru, truK_bl, truK_int, truK_lst, truK_tup, truK_non, truK_str, q_test, tstK_bl, q_and, q_or, q_not, q_andV, q_orV, q_notV, q_ifE, q_un, q_nil, q_cons, q_tup, q_lst, q_callF, q_call, q_meth, methK_obj, methO_some, q_isB, q_items, itemsK_str, itemsK_lst, itemsK_tup, q_range1, rangeK_int, q_nop, q_seq, seqK_nx, seqK_rt, seqK_bk, seqK_ct, q_if, q_ret, q_retN, q_drop, q_set, q_setOwn, q_for, q_for_nil, forK_nx, forK_ct, forK_bk, forK_rt, gd_true, lf_some, f_add_int, f_add_str, f_add_lst, f_add_tup, f_sub_int, f_mul_r, f_mul_l, f_mod, f_div, f_eq_str, f_eq_int, f_eq_bl, f_ne_str, f_ne_int, f_ne_bl, f_lt, f_le, f_gt, f_ge, f_in_sign, f_notIn_sign, f_is_bl, f_len_str, f_len_lst, f_len_tup, f_len_scr, f_len_dic, f_int_bl, f_int_int, List.length_cons, List.length_nil, List.length_replicate, List.length_set, List.set_cons_zero, List.set_cons_succ, List.getElem?_cons_zero, List.getElem?_cons_succ, Nat.reduceAdd, Nat.reduceLT, Nat.zero_lt_succ, Nat.lt_add_one, if_true, if_false, Bool.not_true, Bool.not_false, Bool.false_eq_true, reduceIte, decide_true, decide_false, reduceCtorEq, List.cons.injEq, Nat.reduceEqDiff, and_true, true_and, and_false, false_and, isB_str_str, isB_str_int, isB_str_bl, isB_int_int, isB_bool_int, isB_bool_bl, isB_int_bl, isB_int_str, isB_bool_str, f_join_nil, f_join_signs, f_all_map, f_any_map, f_lstrip, f_cut_str, f_cut_lst, f_cut_tup, q_while, q_bm, isTy_str, isTy_lst, isTy_dic, q_part, partK_int, q_noPart, q_cut, q_range2, range2K_int, q_get2, get2K_dic, key_str, key_int, q_dict, q_pairs_nil, pairK_some, q_pairs_cons, q_app, appK_own, q_frz, frzK_own, frzK_val, frzK_no, q_aug, augK_val, f_ix_lst, f_ix_tup, f_ix_scr, f_ix_str, Int.reduceToNat, List.getD_cons_zero, List.getD_cons_succ, q_forN, Int.toNat_natCast, f_in_sign, f_neg_int, f_is_non, f_isNot_non, isNon_non, isNon_tup, isNon_int, isNon_str, isNon_lst, isNon_dic, isNon_bl, isNon_obj, isB_tuple_tup, isB_list_lst, isB_str_tup, isB_str_lst, isB_str_non, isB_tuple_non, h', h, Bool.true_and]
      · have h' : ¬ (j : Int) < (T.length : Int) := by omega
        simp (disch := (first | with_reducible assumption | omega | ((try simp only [q_sl, List.length_append, List.length_map, List.length_cons, List.length_nil, and_true, true_and]); first | omega | decide))) only [bnd_pure, q_runF, fin_nx, fin_rt, q_var0, q_vars, q_C, q_bin, q_chain, chainK_bl, q_tru, truK_bl, truK_int, truK_lst, truK_tup, truK_non, truK_str, q_test, tstK_bl, q_and, q_or, q_not, q_andV, q_orV, q_notV, q_ifE, q_un, q_nil, q_cons, q_tup, q_lst, q_callF, q_call, q_meth, methK_obj, methO_some, q_isB, q_items, itemsK_str, itemsK_lst, itemsK_tup, q_range1, rangeK_int, q_nop, q_seq, seqK_nx, seqK_rt, seqK_bk, seqK_ct, q_if, q_ret, q_retN, q_drop, q_set, q_setOwn, q_for, q_for_nil, forK_nx, forK_ct, forK_bk, forK_rt, gd_true, lf_some, f_add_int, f_add_str, f_add_lst, f_add_tup, f_sub_int, f_mul_r, f_mul_l, f_mod, f_div, f_eq_str, f_eq_int, f_eq_bl, f_ne_str, f_ne_int, f_ne_bl, f_lt, f_le, f_gt, f_ge, f_in_sign, f_notIn_sign, f_is_bl, f_len_str, f_len_lst, f_len_tup, f_len_scr, f_len_dic, f_int_bl, f_int_int, List.length_cons, List.length_nil, List.length_replicate, List.length_set, List.set_cons_zero, List.set_cons_succ, List.getElem?_cons_zero, List.getElem?_cons_succ, Nat.reduceAdd, Nat.reduceLT, Nat.zero_lt_succ, Nat.lt_add_one, if_true, if_false, Bool.not_true, Bool.not_false, Bool.false_eq_true, reduceIte, decide_true, decide_false, reduceCtorEq, List.cons.injEq, Nat.reduceEqDiff, and_true, true_and, and_false, false_and, isB_str_str, isB_str_int, isB_str_bl, isB_int_int, isB_bool_int, isB_bool_bl, isB_int_bl, isB_int_str, isB_bool_str, f_join_nil, f_join_signs, f_all_map, f_any_map, f_lstrip, f_cut_str, f_cut_lst, f_cut_tup, q_while, q_bm, isTy_str, isTy_lst, isTy_dic, q_part, partK_int, q_noPart, q_cut, q_range2, range2K_int, q_get2, get2K_dic, key_str, key_int, q_dict, q_pairs_nil, pairK_some, q_pairs_cons, q_app, appK_own, q_frz, frzK_own, frzK_val, frzK_no, q_aug, augK_val, f_ix_lst, f_ix_tup, f_ix_scr, f_ix_str, Int.reduceToNat, List.getD_cons_zero, List.getD_cons_succ, q_forN, Int.toNat_natCast, f_in_sign, f_neg_int, f_is_non, f_isNot_non, isNon_non, isNon_tup, isNon_int, isNon_str, isNon_lst, isNon_dic, isNon_bl, isNon_obj, isB_tuple_tup, isB_list_lst, isB_str_tup, isB_str_lst, isB_str_non, isB_tuple_non, h', h, Bool.false_and]) (fun j hj => by simp (disch := (first | with_reducible assumption | omega | ((try simp only [q_sl, List.length_append, List.length_map, List.length_cons, List.length_nil, and_true, true_and]); first | omega | decide))) only [bnd_pure, q_runF, fin_nx, fin_rt, q_var0, q_vars, q_C, q_bin, q_chain, chainK_bl, q_tru, truK_bl, truK_int, truK_lst, truK_tup, truK_non, truK_str, q_test, tstK_bl, q_and, q_or, q_not, q_andV, q_orV, q_notV, q_ifE, q_un, q_nil, q_cons, q_tup, q_lst, q_callF, q_call, q_meth, methK_obj, methO_some, q_isB, q_items, itemsK_str, itemsK_lst, itemsK_tup, q_range1, rangeK_int, q_nop, q_seq, seqK_nx, seqK_rt, seqK_bk, seqK_ct, q_if, q_ret, q_retN, q_drop, q_set, q_setOwn, q_for, q_for_nil, forK_nx, forK_ct, forK_bk, forK_rt, gd_true, lf_some, f_add_int, f_add_str, f_add_lst, f_add_tup, f_sub_int, f_mul_r, f_mul_l, f_mod, f_div, f_eq_str, f_eq_int, f_eq_bl, f_ne_str, f_ne_int, f_ne_bl, f_lt, f_le, f_gt, f_ge, f_in_sign, f_notIn_sign, f_is_bl, f_len_str, f_len_lst, f_len_tup, f_len_scr, f_len_dic, f_int_bl, f_int_int, List.length_cons, List.length_nil, List.length_replicate, List.length_set, List.set_cons_zero, List.set_cons_succ, List.getElem?_cons_zero, List.getElem?_cons_succ, Nat.reduceAdd, Nat.reduceLT, Nat.zero_lt_succ, Nat.lt_add_one, if_true, if_false, Bool.not_true, Bool.not_false, Bool.false_eq_true, reduceIte, decide_true, decide_false, reduceCtorEq, List.cons.injEq, Nat.reduceEqDiff, and_true, true_and, and_false, false_and, isB_str_str, isB_str_int, isB_str_bl, isB_int_int, isB_bool_int, isB_bool_bl, isB_int_bl, isB_int_str, isB_bool_str, f_join_nil, f_join_signs, f_all_map, f_any_map, f_lstrip, f_cut_str, f_cut_lst, f_cut_tup, q_while, q_bm, isTy_str, isTy_lst, isTy_dic, q_part, partK_int, q_noPart, q_cut, q_range2, range2K_int, q_get2, get2K_dic, key_str, key_int, q_dict, q_pairs_nil, pairK_some, q_pairs_cons, q_app, appK_own, q_frz, frzK_own, frzK_val, frzK_no, q_aug, augK_val, f_ix_lst, f_ix_tup, f_ix_scr, f_ix_str, Int.reduceToNat, List.getD_cons_zero, List.getD_cons_succ, q_forN, Int.toNat_natCast, f_in_sign, f_neg_int, f_is_non, f_isNot_non, isNon_non, isNon_tup, isNon_int, isNon_str, isNon_lst, isNon_dic, isNon_bl, isNon_obj, isB_tuple_tup, isB_list_lst, isB_str_tup, isB_str_lst, isB_str_non, isB_tuple_non, l__law_stretch_0]; rfl) 1000000 (i + 1) (by omega) (by omega)
    simp (disch := (first | with_reducible assumption | omega | ((try simp only [q_sl, List.length_append, List.length_map, List.length_cons, List.length_nil, and_true, true_and]); first | omega | decide))) only [bnd_pure, q_runF, fin_nx, fin_rt, q_var0, q_vars, q_C, q_bin, q_chain, chainK_bl, q_tru, truK_bl, truK_int, truK_lst, truK_tup, truK_non, truK_str, q_test, tstK_bl, q_and, q_or, q_not, q_andV, q_orV, q_notV, q_ifE, q_un, q_nil, q_cons, q_tup, q_lst, q_callF, q_call, q_meth, methK_obj, methO_some, q_isB, q_items, itemsK_str, itemsK_lst, itemsK_tup, q_range1, rangeK_int, q_nop, q_seq, seqK_nx, seqK_rt, seqK_bk, seqK_ct, q_if, q_ret, q_retN, q_drop, q_set, q_setOwn, q_for, q_for_nil, forK_nx, forK_ct, forK_bk, forK_rt, gd_true, lf_some, f_add_int, f_add_str, f_add_lst, f_add_tup, f_sub_int, f_mul_r, f_mul_l, f_mod, f_div, f_eq_str, f_eq_int, f_eq_bl, f_ne_str, f_ne_int, f_ne_bl, f_lt, f_le, f_gt, f_ge, f_in_sign, f_notIn_sign, f_is_bl, f_len_str, f_len_lst, f_len_tup, f_len_scr, f_len_dic, f_int_bl, f_int_int, List.length_cons, List.length_nil, List.length_replicate, List.length_set, List.set_cons_zero, List.set_cons_succ, List.getElem?_cons_zero, List.getElem?_cons_succ, Nat.reduceAdd, Nat.reduceLT, Nat.zero_lt_succ, Nat.lt_add_one, if_true, if_false, Bool.not_true, Bool.not_false, Bool.false_eq_true, reduceIte, decide_true, decide_false, reduceCtorEq, List.cons.injEq, Nat.reduceEqDiff, and_true, true_and, and_false, false_and, isB_str_str, isB_str_int, isB_str_bl, isB_int_int, isB_bool_int, isB_bool_bl, isB_int_bl, isB_int_str, isB_bool_str, f_join_nil, f_join_signs, f_all_map, f_any_map, f_lstrip, f_cut_str, f_cut_lst, f_cut_tup, q_while, q_bm, isTy_str, isTy_lst, isTy_dic, q_part, partK_int, q_noPart, q_cut, q_range2, range2K_int, q_get2, get2K_dic, key_str, key_int, q_dict, q_pairs_nil, pairK_some, q_pairs_cons, q_app, appK_own, q_frz, frzK_own, frzK_val, frzK_no, q_aug, augK_val, f_ix_lst, f_ix_tup, f_ix_scr, f_ix_str, Int.reduceToNat, List.getD_cons_zero, List.getD_cons_succ, q_forN, Int.toNat_natCast, f_in_sign, f_neg_int, f_is_non, f_isNot_non, isNon_non, isNon_tup, isNon_int, isNon_str, isNon_lst, isNon_dic, isNon_bl, isNon_obj, isB_tuple_tup, isB_list_lst, isB_str_tup, isB_str_lst, isB_str_non, isB_tuple_non, u__law_stretch, b__law_stretch, n5, e1]
    rw [key]
    have hs := (span_mem (T := T) (c := 34) (i := i + 1)).resolve_right (by omega)
    unfold stQ
    rw [List.drop_drop]
    by_cases h : (T.drop i).take 1 = [34]
    · by_cases hq : 34 ∈ T.drop (i + 1)
      · have h3 := hs.mp hq
        have h4 : ¬ ((T.length : Int) ≤ ((i + 1 + span (fun x => !decide (x = 34)) T (i + 1) : Nat) : Int)) := by omega
        rw [if_pos ⟨h, hq⟩]
        simp (disch := (first | with_reducible assumption | omega | ((try simp only [q_sl, List.length_append, List.length_map, List.length_cons, List.length_nil, and_true, true_and]); first | omega | decide))) only [bnd_pure, q_runF, fin_nx, fin_rt, q_var0, q_vars, q_C, q_bin, q_chain, chainK_bl, q_tru, truK_bl, truK_int, truK_lst, truK_tup, truK_non, truK_str, q_test, tstK_bl, q_and, q_or, q_not, q_andV, q_orV, q_notV, q_ifE, q_un, q_nil, q_cons, q_tup, q_lst, q_callF, q_call, q_meth, methK_obj, methO_some, q_isB, q_items, itemsK_str, itemsK_lst, itemsK_tup, q_range1, rangeK_int, q_nop, q_seq, seqK_nx, seqK_rt, seqK_bk, seqK_ct, q_if, q_ret, q_retN, q_drop, q_set, q_setOwn, q_for, q_for_nil, forK_nx, forK_ct, forK_bk, forK_rt, gd_true, lf_some, f_add_int, f_add_str, f_add_lst, f_add_tup, f_sub_int, f_mul_r, f_mul_l, f_mod, f_div, f_eq_str, f_eq_int, f_eq_bl, f_ne_str, f_ne_int, f_ne_bl, f_lt, f_le, f_gt, f_ge, f_in_sign, f_notIn_sign, f_is_bl, f_len_str, f_len_lst, f_len_tup, f_len_scr, f_len_dic, f_int_bl, f_int_int, List.length_cons, List.length_nil, List.length_replicate, List.length_set, List.set_cons_zero, List.set_cons_succ, List.getElem?_cons_zero, List.getElem?_cons_succ, Nat.reduceAdd, Nat.reduceLT, Nat.zero_lt_succ, Nat.lt_add_one, if_true, if_false, Bool.not_true, Bool.not_false, Bool.false_eq_true, reduceIte, decide_true, decide_false, reduceCtorEq, List.cons.injEq, Nat.reduceEqDiff, and_true, true_and, and_false, false_and, isB_str_str, isB_str_int, isB_str_bl, isB_int_int, isB_bool_int, isB_bool_bl, isB_int_bl, isB_int_str, isB_bool_str, f_join_nil, f_join_signs, f_all_map, f_any_map, f_lstrip, f_cut_str, f_cut_lst, f_cut_tup, q_while, q_bm, isTy_str, isTy_lst, isTy_dic, q_part, partK_int, q_noPart, q_cut, q_range2, range2K_int, q_get2, get2K_dic, key_str, key_int, q_dict, q_pairs_nil, pairK_some, q_pairs_cons, q_app, appK_own, q_frz, frzK_own, frzK_val, frzK_no, q_aug, augK_val, f_ix_lst, f_ix_tup, f_ix_scr, f_ix_str, Int.reduceToNat, List.getD_cons_zero, List.getD_cons_succ, q_forN, Int.toNat_natCast, f_in_sign, f_neg_int, f_is_non, f_isNot_non, isNon_non, isNon_tup, isNon_int, isNon_str, isNon_lst, isNon_dic, isNon_bl, isNon_obj, isB_tuple_tup, isB_list_lst, isB_str_tup, isB_str_lst, isB_str_non, isB_tuple_non, e1, c1, h, h4]
        simp only [List.length_cons, List.length_append, List.length_nil]
        congr 2
        unfold span
        omega
      · have h3 : ¬ (i + 1 + span (fun x => !decide (x = 34)) T (i + 1) < T.length) := fun z => hq (hs.mpr z)
        have h4 : ((T.length : Int) ≤ ((i + 1 + span (fun x => !decide (x = 34)) T (i + 1) : Nat) : Int)) := by omega
        rw [if_neg (fun z => hq z.2)]
        simp (disch := (first | with_reducible assumption | omega | ((try simp only [q_sl, List.length_append, List.length_map, List.length_cons, List.length_nil, and_true, true_and]); first | omega | decide))) only [bnd_pure, q_runF, fin_nx, fin_rt, q_var0, q_vars, q_C, q_bin, q_chain, chainK_bl, q_tru, truK_bl, truK_int, truK_lst, truK_tup, truK_non, truK_str, q_test, tstK_bl, q_and, q_or, q_not, q_andV, q_orV, q_notV, q_ifE, q_un, q_nil, q_cons, q_tup, q_lst, q_callF, q_call, q_meth, methK_obj, methO_some, q_isB, q_items, itemsK_str, itemsK_lst, itemsK_tup, q_range1, rangeK_int, q_nop, q_seq, seqK_nx, seqK_rt, seqK_bk, seqK_ct, q_if, q_ret, q_retN, q_drop, q_set, q_setOwn, q_for, q_for_nil, forK_nx, forK_ct, forK_bk, forK_rt, gd_true, lf_some, f_add_int, f_add_str, f_add_lst, f_add_tup, f_sub_int, f_mul_r, f_mul_l, f_mod, f_div, f_eq_str, f_eq_int, f_eq_bl, f_ne_str, f_ne_int, f_ne_bl, f_lt, f_le, f_gt, f_ge, f_in_sign, f_notIn_sign, f_is_bl, f_len_str, f_len_lst, f_len_tup, f_len_scr, f_len_dic, f_int_bl, f_int_int, List.length_cons, List.length_nil, List.length_replicate, List.length_set, List.set_cons_zero, List.set_cons_succ, List.getElem?_cons_zero, List.getElem?_cons_succ, Nat.reduceAdd, Nat.reduceLT, Nat.zero_lt_succ, Nat.lt_add_one, if_true, if_false, Bool.not_true, Bool.not_false, Bool.false_eq_true, reduceIte, decide_true, decide_false, reduceCtorEq, List.cons.injEq, Nat.reduceEqDiff, and_true, true_and, and_false, false_and, isB_str_str, isB_str_int, isB_str_bl, isB_int_int, isB_bool_int, isB_bool_bl, isB_int_bl, isB_int_str, isB_bool_str, f_join_nil, f_join_signs, f_all_map, f_any_map, f_lstrip, f_cut_str, f_cut_lst, f_cut_tup, q_while, q_bm, isTy_str, isTy_lst, isTy_dic, q_part, partK_int, q_noPart, q_cut, q_range2, range2K_int, q_get2, get2K_dic, key_str, key_int, q_dict, q_pairs_nil, pairK_some, q_pairs_cons, q_app, appK_own, q_frz, frzK_own, frzK_val, frzK_no, q_aug, augK_val, f_ix_lst, f_ix_tup, f_ix_scr, f_ix_str, Int.reduceToNat, List.getD_cons_zero, List.getD_cons_succ, q_forN, Int.toNat_natCast, f_in_sign, f_neg_int, f_is_non, f_isNot_non, isNon_non, isNon_tup, isNon_int, isNon_str, isNon_lst, isNon_dic, isNon_bl, isNon_obj, isB_tuple_tup, isB_list_lst, isB_str_tup, isB_str_lst, isB_str_non, isB_tuple_non, e1, c1, h, h4]
    · rw [if_neg (fun z => h z.1)]
      simp (disch := (first | with_reducible assumption | omega | ((try simp only [q_sl, List.length_append, List.length_map, List.length_cons, List.length_nil, and_true, true_and]); first | omega | decide))) only [bnd_pure, q_runF, fin_nx, fin_rt, q_var0, q_vars, q_C, q_bin, q_chain, chainK_bl, q_tru, truK_bl, truK_int, truK_lst, truK_tup, truK_non, truK_str, q_test, tstK_bl, q_and, q_or, q_not, q_andV, q_orV, q_notV, q_ifE, q_un, q_nil, q_cons, q_tup, q_lst, q_callF, q_call, q_meth, methK_obj, methO_some, q_isB, q_items, itemsK_str, itemsK_lst, itemsK_tup, q_range1, rangeK_int, q_nop, q_seq, seqK_nx, seqK_rt, seqK_bk, seqK_ct, q_if, q_ret, q_retN, q_drop, q_set, q_setOwn, q_for, q_for_nil, forK_nx, forK_ct, forK_bk, forK_rt, gd_true, lf_some, f_add_int, f_add_str, f_add_lst, f_add_tup, f_sub_int, f_mul_r, f_mul_l, f_mod, f_div, f_eq_str, f_eq_int, f_eq_bl, f_ne_str, f_ne_int, f_ne_bl, f_lt, f_le, f_gt, f_ge, f_in_sign, f_notIn_sign, f_is_bl, f_len_str, f_len_lst, f_len_tup, f_len_scr, f_len_dic, f_int_bl, f_int_int, List.length_cons, List.length_nil, List.length_replicate, List.length_set, List.set_cons_zero, List.set_cons_succ, List.getElem?_cons_zero, List.getElem?_cons_succ, Nat.reduceAdd, Nat.reduceLT, Nat.zero_lt_succ, Nat.lt_add_one, if_true, if_false, Bool.not_true, Bool.not_false, Bool.false_eq_true, reduceIte, decide_true, decide_false, reduceCtorEq, List.cons.injEq, Nat.reduceEqDiff, and_true, true_and, and_false, false_and, isB_str_str, isB_str_int, isB_str_bl, isB_int_int, isB_bool_int, isB_bool_bl, isB_int_bl, isB_int_str, isB_bool_str, f_join_nil, f_join_signs, f_all_map, f_any_map, f_lstrip, f_cut_str, f_cut_lst, f_cut_tup, q_while, q_bm, isTy_str, isTy_lst, isTy_dic, q_part, partK_int, q_noPart, q_cut, q_range2, range2K_int, q_get2, get2K_dic, key_str, key_int, q_dict, q_pairs_nil, pairK_some, q_pairs_cons, q_app, appK_own, q_frz, frzK_own, frzK_val, frzK_no, q_aug, augK_val, f_ix_lst, f_ix_tup, f_ix_scr, f_ix_str, Int.reduceToNat, List.getD_cons_zero, List.getD_cons_succ, q_forN, Int.toNat_natCast, f_in_sign, f_neg_int, f_is_non, f_isNot_non, isNon_non, isNon_tup, isNon_int, isNon_str, isNon_lst, isNon_dic, isNon_bl, isNon_obj, isB_tuple_tup, isB_list_lst, isB_str_tup, isB_str_lst, isB_str_non, isB_tuple_non, e1, c1, h]
  · have e0 : T.drop i = [] := List.drop_eq_nil_of_le (by omega)
    have h' : ¬ ((i + 1 : Nat) : Int) < (T.length : Int) := by omega
    have c0 : cutL T (some (i : Int)) (some ((i + 1 : Nat) : Int)) = [] := by rw [c1, e0]; rfl
    rw [e0]
    simp (disch := (first | with_reducible assumption | omega | ((try simp only [q_sl, List.length_append, List.length_map, List.length_cons, List.length_nil, and_true, true_and]); first | omega | decide))) only [bnd_pure, q_runF, fin_nx, fin_rt, q_var0, q_vars, q_C, q_bin, q_chain, chainK_bl, q_tru, truK_bl, truK_int, truK_lst, truK_tup, truK_non, truK_str, q_test, tstK_bl, q_and, q_or, q_not, q_andV, q_orV, q_notV, q_ifE, q_un, q_nil, q_cons, q_tup, q_lst, q_callF, q_call, q_meth, methK_obj, methO_some, q_isB, q_items, itemsK_str, itemsK_lst, itemsK_tup, q_range1, rangeK_int, q_nop, q_seq, seqK_nx, seqK_rt, seqK_bk, seqK_ct, q_if, q_ret, q_retN, q_drop, q_set, q_setOwn, q_for, q_for_nil, forK_nx, forK_ct, forK_bk, forK_rt, gd_true, lf_some, f_add_int, f_add_str, f_add_lst, f_add_tup, f_sub_int, f_mul_r, f_mul_l, f_mod, f_div, f_eq_str, f_eq_int, f_eq_bl, f_ne_str, f_ne_int, f_ne_bl, f_lt, f_le, f_gt, f_ge, f_in_sign, f_notIn_sign, f_is_bl, f_len_str, f_len_lst, f_len_tup, f_len_scr, f_len_dic, f_int_bl, f_int_int, List.length_cons, List.length_nil, List.length_replicate, List.length_set, List.set_cons_zero, List.set_cons_succ, List.getElem?_cons_zero, List.getElem?_cons_succ, Nat.reduceAdd, Nat.reduceLT, Nat.zero_lt_succ, Nat.lt_add_one, if_true, if_false, Bool.not_true, Bool.not_false, Bool.false_eq_true, reduceIte, decide_true, decide_false, reduceCtorEq, List.cons.injEq, Nat.reduceEqDiff, and_true, true_and, and_false, false_and, isB_str_str, isB_str_int, isB_str_bl, isB_int_int, isB_bool_int, isB_bool_bl, isB_int_bl, isB_int_str, isB_bool_str, f_join_nil, f_join_signs, f_all_map, f_any_map, f_lstrip, f_cut_str, f_cut_lst, f_cut_tup, q_while, q_bm, isTy_str, isTy_lst, isTy_dic, q_part, partK_int, q_noPart, q_cut, q_range2, range2K_int, q_get2, get2K_dic, key_str, key_int, q_dict, q_pairs_nil, pairK_some, q_pairs_cons, q_app, appK_own, q_frz, frzK_own, frzK_val, frzK_no, q_aug, augK_val, f_ix_lst, f_ix_tup, f_ix_scr, f_ix_str, Int.reduceToNat, List.getD_cons_zero, List.getD_cons_succ, q_forN, Int.toNat_natCast, f_in_sign, f_neg_int, f_is_non, f_isNot_non, isNon_non, isNon_tup, isNon_int, isNon_str, isNon_lst, isNon_dic, isNon_bl, isNon_obj, isB_tuple_tup, isB_list_lst, isB_str_tup, isB_str_lst, isB_str_non, isB_tuple_non, u__law_stretch, b__law_stretch, n5, e1]
    rw [while_stop (by simp (disch := (first | with_reducible assumption | omega | ((try simp only [q_sl, List.length_append, List.length_map, List.length_cons, List.length_nil, and_true, true_and]); first | omega | decide))) only [bnd_pure, q_runF, fin_nx, fin_rt, q_var0, q_vars, q_C, q_bin, q_chain, chainK_bl, q_tru, truK_bl, truK_int, truK_lst, truK_tup, truK_non, truK_str, q_test, tstK_bl, q_and, q_or, q_not, q_andV, q_orV, q_notV, q_ifE, q_un, q_nil, q_cons, q_tup, q_lst, q_callF, q_call, q_meth, methK_obj, methO_some, q_isB, q_items, itemsK_str, itemsK_lst, itemsK_tup, q_range1, rangeK_int, q_nop, q_seq, seqK_nx, seqK_rt, seqK_bk, seqK_ct, q_if, q_ret, q_retN, q_drop, q_set, q_setOwn, q_for, q_for_nil, forK_nx, forK_ct, forK_bk, forK_rt, gd_true, lf_some, f_add_int, f_add_str, f_add_lst, f_add_tup, f_sub_int, f_mul_r, f_mul_l, f_mod, f_div, f_eq_str, f_eq_int, f_eq_bl, f_ne_str, f_ne_int, f_ne_bl, f_lt, f_le, f_gt, f_ge, f_in_sign, f_notIn_sign, f_is_bl, f_len_str, f_len_lst, f_len_tup, f_len_scr, f_len_dic, f_int_bl, f_int_int, List.length_cons, List.length_nil, List.length_replicate, List.length_set, List.set_cons_zero, List.set_cons_succ, List.getElem?_cons_zero, List.getElem?_cons_succ, Nat.reduceAdd, Nat.reduceLT, Nat.zero_lt_succ, Nat.lt_add_one, if_true, if_false, Bool.not_true, Bool.not_false, Bool.false_eq_true, reduceIte, decide_true, decide_false, reduceCtorEq, List.cons.injEq, Nat.reduceEqDiff, and_true, true_and, and_false, false_and, isB_str_str, isB_str_int, isB_str_bl, isB_int_int, isB_bool_int, isB_bool_bl, isB_int_bl, isB_int_str, isB_bool_str, f_join_nil, f_join_signs, f_all_map, f_any_map, f_lstrip, f_cut_str, f_cut_lst, f_cut_tup, q_while, q_bm, isTy_str, isTy_lst, isTy_dic, q_part, partK_int, q_noPart, q_cut, q_range2, range2K_int, q_get2, get2K_dic, key_str, key_int, q_dict, q_pairs_nil, pairK_some, q_pairs_cons, q_app, appK_own, q_frz, frzK_own, frzK_val, frzK_no, q_aug, augK_val, f_ix_lst, f_ix_tup, f_ix_scr, f_ix_str, Int.reduceToNat, List.getD_cons_zero, List.getD_cons_succ, q_forN, Int.toNat_natCast, f_in_sign, f_neg_int, f_is_non, f_isNot_non, isNon_non, isNon_tup, isNon_int, isNon_str, isNon_lst, isNon_dic, isNon_bl, isNon_obj, isB_tuple_tup, isB_list_lst, isB_str_tup, isB_str_lst, isB_str_non, isB_tuple_non, h']) (by decide)]
    simp (disch := (first | with_reducible assumption | omega | ((try simp only [q_sl, List.length_append, List.length_map, List.length_cons, List.length_nil, and_true, true_and]); first | omega | decide))) only [bnd_pure, q_runF, fin_nx, fin_rt, q_var0, q_vars, q_C, q_bin, q_chain, chainK_bl, q_tru, truK_bl, truK_int, truK_lst, truK_tup, truK_non, truK_str, q_test, tstK_bl, q_and, q_or, q_not, q_andV, q_orV, q_notV, q_ifE, q_un, q_nil, q_cons, q_tup, q_lst, q_callF, q_call, q_meth, methK_obj, methO_some, q_isB, q_items, itemsK_str, itemsK_lst, itemsK_tup, q_range1, rangeK_int, q_nop, q_seq, seqK_nx, seqK_rt, seqK_bk, seqK_ct, q_if, q_ret, q_retN, q_drop, q_set, q_setOwn, q_for, q_for_nil, forK_nx, forK_ct, forK_bk, forK_rt, gd_true, lf_some, f_add_int, f_add_str, f_add_lst, f_add_tup, f_sub_int, f_mul_r, f_mul_l, f_mod, f_div, f_eq_str, f_eq_int, f_eq_bl, f_ne_str, f_ne_int, f_ne_bl, f_lt, f_le, f_gt, f_ge, f_in_sign, f_notIn_sign, f_is_bl, f_len_str, f_len_lst, f_len_tup, f_len_scr, f_len_dic, f_int_bl, f_int_int, List.length_cons, List.length_nil, List.length_replicate, List.length_set, List.set_cons_zero, List.set_cons_succ, List.getElem?_cons_zero, List.getElem?_cons_succ, Nat.reduceAdd, Nat.reduceLT, Nat.zero_lt_succ, Nat.lt_add_one, if_true, if_false, Bool.not_true, Bool.not_false, Bool.false_eq_true, reduceIte, decide_true, decide_false, reduceCtorEq, List.cons.injEq, Nat.reduceEqDiff, and_true, true_and, and_false, false_and, isB_str_str, isB_str_int, isB_str_bl, isB_int_int, isB_bool_int, isB_bool_bl, isB_int_bl, isB_int_str, isB_bool_str, f_join_nil, f_join_signs, f_all_map, f_any_map, f_lstrip, f_cut_str, f_cut_lst, f_cut_tup, q_while, q_bm, isTy_str, isTy_lst, isTy_dic, q_part, partK_int, q_noPart, q_cut, q_range2, range2K_int, q_get2, get2K_dic, key_str, key_int, q_dict, q_pairs_nil, pairK_some, q_pairs_cons, q_app, appK_own, q_frz, frzK_own, frzK_val, frzK_no, q_aug, augK_val, f_ix_lst, f_ix_tup, f_ix_scr, f_ix_str, Int.reduceToNat, List.getD_cons_zero, List.getD_cons_succ, q_forN, Int.toNat_natCast, f_in_sign, f_neg_int, f_is_non, f_isNot_non, isNon_non, isNon_tup, isNon_int, isNon_str, isNon_lst, isNon_dic, isNon_bl, isNon_obj, isB_tuple_tup, isB_list_lst, isB_str_tup, isB_str_lst, isB_str_non, isB_tuple_non, e1, c0]
    rfl
end K02.Ma
end
section
set_option linter.all false
set_option maxRecDepth 100000
namespace K02.Ma
open PySem L2 DL
variable {Ψ : Nat → Fid → List D → M D} [IsΦ Ψ]
/-! what is meant -/
def mW (st : Tx) : Option D := if 1 ≤ st.length ∧ st.length ≤ 40 then some (.str st) else none
def figs (st : Tx) : Tx := if st.take 1 = [45] then st.drop 1 else st
def mN (st : Tx) : Option D := if (1 ≤ (figs st).length ∧ (figs st).length ≤ 30) ∧ ¬ ((figs st).getD 0 0 = 48 ∧ st ≠ [48]) then some (.int (numV st)) else none
def mT (mk : Nat) (ps : List (Nat × Nat)) (x : Tx) : Option D := match ldec mk ps x with
  | some v => if v.length ≤ 400 then some (.str v) else none
  | none => none
theorem take_if (d : D) (b : Bool) : cutL [d] none (some (if b = true then (1 : Int) else 0)) = if b then [d] else [] := by
  cases b <;> rfl
theorem s_lmeant_word (k : Nat) (st : Tx) (h : st.length ≤ 100000) : Ψ (k + 1) ._law_meant [.str w_word, .str st] = pure (.lst (mW st).toList) := by
  have n3 : [119, 111, 114, 100] = w_word := rfl
  unfold mW
  by_cases h1 : (1 : Int) ≤ (st.length : Int)
  · by_cases h2 : (st.length : Int) ≤ 40
    · rw [if_pos (by omega)]
      simp (disch := (first | with_reducible assumption | omega | ((try simp only [q_sl, List.length_append, List.length_map, List.length_cons, List.length_nil, and_true, true_and]); first | omega | decide))) only [bnd_pure, q_runF, fin_nx, fin_rt, q_var0, q_vars, q_C, q_bin, q_chain, chainK_bl, q_tru, truK_bl, truK_int, truK_lst, truK_tup, truK_non, truK_str, q_test, tstK_bl, q_and, q_or, q_not, q_andV, q_orV, q_notV, q_ifE, q_un, q_nil, q_cons, q_tup, q_lst, q_callF, q_call, q_meth, methK_obj, methO_some, q_isB, q_items, itemsK_str, itemsK_lst, itemsK_tup, q_range1, rangeK_int, q_nop, q_seq, seqK_nx, seqK_rt, seqK_bk, seqK_ct, q_if, q_ret, q_retN, q_drop, q_set, q_setOwn, q_for, q_for_nil, forK_nx, forK_ct, forK_bk, forK_rt, gd_true, lf_some, f_add_int, f_add_str, f_add_lst, f_add_tup, f_sub_int, f_mul_r, f_mul_l, f_mod, f_div, f_eq_str, f_eq_int, f_eq_bl, f_ne_str, f_ne_int, f_ne_bl, f_lt, f_le, f_gt, f_ge, f_in_sign, f_notIn_sign, f_is_bl, f_len_str, f_len_lst, f_len_tup, f_len_scr, f_len_dic, f_int_bl, f_int_int, List.length_cons, List.length_nil, List.length_replicate, List.length_set, List.set_cons_zero, List.set_cons_succ, List.getElem?_cons_zero, List.getElem?_cons_succ, Nat.reduceAdd, Nat.reduceLT, Nat.zero_lt_succ, Nat.lt_add_one, if_true, if_false, Bool.not_true, Bool.not_false, Bool.false_eq_true, reduceIte, decide_true, decide_false, reduceCtorEq, List.cons.injEq, Nat.reduceEqDiff, and_true, true_and, and_false, false_and, isB_str_str, isB_str_int, isB_str_bl, isB_int_int, isB_bool_int, isB_bool_bl, isB_int_bl, isB_int_str, isB_bool_str, f_join_nil, f_join_signs, f_all_map, f_any_map, f_lstrip, f_cut_str, f_cut_lst, f_cut_tup, q_while, q_bm, isTy_str, isTy_lst, isTy_dic, q_part, partK_int, q_noPart, q_cut, q_range2, range2K_int, q_get2, get2K_dic, key_str, key_int, q_dict, q_pairs_nil, pairK_some, q_pairs_cons, q_app, appK_own, q_frz, frzK_own, frzK_val, frzK_no, q_aug, augK_val, f_ix_lst, f_ix_tup, f_ix_scr, f_ix_str, Int.reduceToNat, List.getD_cons_zero, List.getD_cons_succ, q_forN, Int.toNat_natCast, f_in_sign, f_neg_int, f_is_non, f_isNot_non, isNon_non, isNon_tup, isNon_int, isNon_str, isNon_lst, isNon_dic, isNon_bl, isNon_obj, isB_tuple_tup, isB_list_lst, isB_str_tup, isB_str_lst, isB_str_non, isB_tuple_non, u__law_meant, b__law_meant, n3, h1, h2]
      rfl
    · rw [if_neg (by omega)]
      simp (disch := (first | with_reducible assumption | omega | ((try simp only [q_sl, List.length_append, List.length_map, List.length_cons, List.length_nil, and_true, true_and]); first | omega | decide))) only [bnd_pure, q_runF, fin_nx, fin_rt, q_var0, q_vars, q_C, q_bin, q_chain, chainK_bl, q_tru, truK_bl, truK_int, truK_lst, truK_tup, truK_non, truK_str, q_test, tstK_bl, q_and, q_or, q_not, q_andV, q_orV, q_notV, q_ifE, q_un, q_nil, q_cons, q_tup, q_lst, q_callF, q_call, q_meth, methK_obj, methO_some, q_isB, q_items, itemsK_str, itemsK_lst, itemsK_tup, q_range1, rangeK_int, q_nop, q_seq, seqK_nx, seqK_rt, seqK_bk, seqK_ct, q_if, q_ret, q_retN, q_drop, q_set, q_setOwn, q_for, q_for_nil, forK_nx, forK_ct, forK_bk, forK_rt, gd_true, lf_some, f_add_int, f_add_str, f_add_lst, f_add_tup, f_sub_int, f_mul_r, f_mul_l, f_mod, f_div, f_eq_str, f_eq_int, f_eq_bl, f_ne_str, f_ne_int, f_ne_bl, f_lt, f_le, f_gt, f_ge, f_in_sign, f_notIn_sign, f_is_bl, f_len_str, f_len_lst, f_len_tup, f_len_scr, f_len_dic, f_int_bl, f_int_int, List.length_cons, List.length_nil, List.length_replicate, List.length_set, List.set_cons_zero, List.set_cons_succ, List.getElem?_cons_zero, List.getElem?_cons_succ, Nat.reduceAdd, Nat.reduceLT, Nat.zero_lt_succ, Nat.lt_add_one, if_true, if_false, Bool.not_true, Bool.not_false, Bool.false_eq_true, reduceIte, decide_true, decide_false, reduceCtorEq, List.cons.injEq, Nat.reduceEqDiff, and_true, true_and, and_false, false_and, isB_str_str, isB_str_int, isB_str_bl, isB_int_int, isB_bool_int, isB_bool_bl, isB_int_bl, isB_int_str, isB_bool_str, f_join_nil, f_join_signs, f_all_map, f_any_map, f_lstrip, f_cut_str, f_cut_lst, f_cut_tup, q_while, q_bm, isTy_str, isTy_lst, isTy_dic, q_part, partK_int, q_noPart, q_cut, q_range2, range2K_int, q_get2, get2K_dic, key_str, key_int, q_dict, q_pairs_nil, pairK_some, q_pairs_cons, q_app, appK_own, q_frz, frzK_own, frzK_val, frzK_no, q_aug, augK_val, f_ix_lst, f_ix_tup, f_ix_scr, f_ix_str, Int.reduceToNat, List.getD_cons_zero, List.getD_cons_succ, q_forN, Int.toNat_natCast, f_in_sign, f_neg_int, f_is_non, f_isNot_non, isNon_non, isNon_tup, isNon_int, isNon_str, isNon_lst, isNon_dic, isNon_bl, isNon_obj, isB_tuple_tup, isB_list_lst, isB_str_tup, isB_str_lst, isB_str_non, isB_tuple_non, u__law_meant, b__law_meant, n3, h1, h2]
      rfl
  · rw [if_neg (by omega)]
    simp (disch := (first | with_reducible assumption | omega | ((try simp only [q_sl, List.length_append, List.length_map, List.length_cons, List.length_nil, and_true, true_and]); first | omega | decide))) only [bnd_pure, q_runF, fin_nx, fin_rt, q_var0, q_vars, q_C, q_bin, q_chain, chainK_bl, q_tru, truK_bl, truK_int, truK_lst, truK_tup, truK_non, truK_str, q_test, tstK_bl, q_and, q_or, q_not, q_andV, q_orV, q_notV, q_ifE, q_un, q_nil, q_cons, q_tup, q_lst, q_callF, q_call, q_meth, methK_obj, methO_some, q_isB, q_items, itemsK_str, itemsK_lst, itemsK_tup, q_range1, rangeK_int, q_nop, q_seq, seqK_nx, seqK_rt, seqK_bk, seqK_ct, q_if, q_ret, q_retN, q_drop, q_set, q_setOwn, q_for, q_for_nil, forK_nx, forK_ct, forK_bk, forK_rt, gd_true, lf_some, f_add_int, f_add_str, f_add_lst, f_add_tup, f_sub_int, f_mul_r, f_mul_l, f_mod, f_div, f_eq_str, f_eq_int, f_eq_bl, f_ne_str, f_ne_int, f_ne_bl, f_lt, f_le, f_gt, f_ge, f_in_sign, f_notIn_sign, f_is_bl, f_len_str, f_len_lst, f_len_tup, f_len_scr, f_len_dic, f_int_bl, f_int_int, List.length_cons, List.length_nil, List.length_replicate, List.length_set, List.set_cons_zero, List.set_cons_succ, List.getElem?_cons_zero, List.getElem?_cons_succ, Nat.reduceAdd, Nat.reduceLT, Nat.zero_lt_succ, Nat.lt_add_one, if_true, if_false, Bool.not_true, Bool.not_false, Bool.false_eq_true, reduceIte, decide_true, decide_false, reduceCtorEq, List.cons.injEq, Nat.reduceEqDiff, and_true, true_and, and_false, false_and, isB_str_str, isB_str_int, isB_str_bl, isB_int_int, isB_bool_int, isB_bool_bl, isB_int_bl, isB_int_str, isB_bool_str, f_join_nil, f_join_signs, f_all_map, f_any_map, f_lstrip, f_cut_str, f_cut_lst, f_cut_tup, q_while, q_bm, isTy_str, isTy_lst, isTy_dic, q_part, partK_int, q_noPart, q_cut, q_range2, range2K_int, q_get2, get2K_dic, key_str, key_int, q_dict, q_pairs_nil, pairK_some, q_pairs_cons, q_app, appK_own, q_frz, frzK_own, frzK_val, frzK_no, q_aug, augK_val, f_ix_lst, f_ix_tup, f_ix_scr, f_ix_str, Int.reduceToNat, List.getD_cons_zero, List.getD_cons_succ, q_forN, Int.toNat_natCast, f_in_sign, f_neg_int, f_is_non, f_isNot_non, isNon_non, isNon_tup, isNon_int, isNon_str, isNon_lst, isNon_dic, isNon_bl, isNon_obj, isB_tuple_tup, isB_list_lst, isB_str_tup, isB_str_lst, isB_str_non, isB_tuple_non, u__law_meant, b__law_meant, n3, h1]
    rfl
theorem figs_pos {st : Tx} (h : st.take 1 ≠ [45]) : figs st = st := by
  unfold figs
  rw [if_neg h]
theorem figs_neg (r : Tx) : figs (45 :: r) = r := by
  unfold figs
  exact if_pos rfl
theorem s_lmeant_num (k : Nat) (st : Tx) (h : st.length ≤ 100000) (hd : NumText.AllDigits (figs st)) : Ψ (k + 1) ._law_meant [.str w_number, .str st] = pure (.lst (mN st).toList) := by
  have n3 : [119, 111, 114, 100] = w_word := rfl
  have n4 : [110, 117, 109, 98, 101, 114] = w_number := rfl
  have hne : ¬ w_number = w_word := by decide
  have c1 : cutL st none (some 1) = st.take 1 := cut_to st 1 (by decide)
  have c2 : cutL st (some (if decide (st.take 1 = [45]) = true then (1 : Int) else 0)) none = figs st := by
    unfold figs
    by_cases h1 : st.take 1 = [45]
    · rw [if_pos h1, decide_eq_true h1]
      exact cut_from st 1 (by decide)
    · rw [if_neg h1, decide_eq_false h1]
      exact cut_from st 0 (by decide)
  have hfl : (figs st).length ≤ 100000 := by
    unfold figs
    split
    · rw [List.length_drop]; omega
    · exact h
  unfold mN
  by_cases h1 : (1 : Int) ≤ ((figs st).length : Int)
  · by_cases h2 : ((figs st).length : Int) ≤ 30
    · have e0 : fIx (.str (figs st)) (.int 0) = pure (.str [(figs st).getD 0 0]) := f_ix_str _ 0 (by omega) (by omega)
      by_cases h3 : (figs st).getD 0 0 = 48 ∧ st ≠ [48]
      · rw [if_neg (fun z => z.2 h3)]
        obtain ⟨h4, h5⟩ := h3
        simp (disch := (first | with_reducible assumption | omega | ((try simp only [q_sl, List.length_append, List.length_map, List.length_cons, List.length_nil, and_true, true_and]); first | omega | decide))) only [bnd_pure, q_runF, fin_nx, fin_rt, q_var0, q_vars, q_C, q_bin, q_chain, chainK_bl, q_tru, truK_bl, truK_int, truK_lst, truK_tup, truK_non, truK_str, q_test, tstK_bl, q_and, q_or, q_not, q_andV, q_orV, q_notV, q_ifE, q_un, q_nil, q_cons, q_tup, q_lst, q_callF, q_call, q_meth, methK_obj, methO_some, q_isB, q_items, itemsK_str, itemsK_lst, itemsK_tup, q_range1, rangeK_int, q_nop, q_seq, seqK_nx, seqK_rt, seqK_bk, seqK_ct, q_if, q_ret, q_retN, q_drop, q_set, q_setOwn, q_for, q_for_nil, forK_nx, forK_ct, forK_bk, forK_rt, gd_true, lf_some, f_add_int, f_add_str, f_add_lst, f_add_tup, f_sub_int, f_mul_r, f_mul_l, f_mod, f_div, f_eq_str, f_eq_int, f_eq_bl, f_ne_str, f_ne_int, f_ne_bl, f_lt, f_le, f_gt, f_ge, f_in_sign, f_notIn_sign, f_is_bl, f_len_str, f_len_lst, f_len_tup, f_len_scr, f_len_dic, f_int_bl, f_int_int, List.length_cons, List.length_nil, List.length_replicate, List.length_set, List.set_cons_zero, List.set_cons_succ, List.getElem?_cons_zero, List.getElem?_cons_succ, Nat.reduceAdd, Nat.reduceLT, Nat.zero_lt_succ, Nat.lt_add_one, if_true, if_false, Bool.not_true, Bool.not_false, Bool.false_eq_true, reduceIte, decide_true, decide_false, reduceCtorEq, List.cons.injEq, Nat.reduceEqDiff, and_true, true_and, and_false, false_and, isB_str_str, isB_str_int, isB_str_bl, isB_int_int, isB_bool_int, isB_bool_bl, isB_int_bl, isB_int_str, isB_bool_str, f_join_nil, f_join_signs, f_all_map, f_any_map, f_lstrip, f_cut_str, f_cut_lst, f_cut_tup, q_while, q_bm, isTy_str, isTy_lst, isTy_dic, q_part, partK_int, q_noPart, q_cut, q_range2, range2K_int, q_get2, get2K_dic, key_str, key_int, q_dict, q_pairs_nil, pairK_some, q_pairs_cons, q_app, appK_own, q_frz, frzK_own, frzK_val, frzK_no, q_aug, augK_val, f_ix_lst, f_ix_tup, f_ix_scr, f_ix_str, Int.reduceToNat, List.getD_cons_zero, List.getD_cons_succ, q_forN, Int.toNat_natCast, f_in_sign, f_neg_int, f_is_non, f_isNot_non, isNon_non, isNon_tup, isNon_int, isNon_str, isNon_lst, isNon_dic, isNon_bl, isNon_obj, isB_tuple_tup, isB_list_lst, isB_str_tup, isB_str_lst, isB_str_non, isB_tuple_non, u__law_meant, b__law_meant, n3, n4, hne, c1, c2, h1, h2, e0, h4, h5]
        rfl
      · rw [if_pos ⟨by omega, h3⟩]
        have hi : fInt [.str st] = pure (.int (numV st)) := by
          by_cases hs : st.take 1 = [45]
          · cases st with
            | nil => cases hs
            | cons a r =>
              have ha : a = 45 := by simpa using hs
              subst ha
              rw [figs_neg] at hd h1 h2
              exact int_neg hd (fun z => by rw [z] at h1; simp at h1) (by omega)
          · rw [figs_pos hs] at hd h1 h2
            exact int_pos hd (fun z => by rw [z] at h1; simp at h1) (by omega)
        by_cases h4 : (figs st).getD 0 0 = 48
        · have h5 : st = [48] := Classical.byContradiction fun z => h3 ⟨h4, z⟩
          simp (disch := (first | with_reducible assumption | omega | ((try simp only [q_sl, List.length_append, List.length_map, List.length_cons, List.length_nil, and_true, true_and]); first | omega | decide))) only [bnd_pure, q_runF, fin_nx, fin_rt, q_var0, q_vars, q_C, q_bin, q_chain, chainK_bl, q_tru, truK_bl, truK_int, truK_lst, truK_tup, truK_non, truK_str, q_test, tstK_bl, q_and, q_or, q_not, q_andV, q_orV, q_notV, q_ifE, q_un, q_nil, q_cons, q_tup, q_lst, q_callF, q_call, q_meth, methK_obj, methO_some, q_isB, q_items, itemsK_str, itemsK_lst, itemsK_tup, q_range1, rangeK_int, q_nop, q_seq, seqK_nx, seqK_rt, seqK_bk, seqK_ct, q_if, q_ret, q_retN, q_drop, q_set, q_setOwn, q_for, q_for_nil, forK_nx, forK_ct, forK_bk, forK_rt, gd_true, lf_some, f_add_int, f_add_str, f_add_lst, f_add_tup, f_sub_int, f_mul_r, f_mul_l, f_mod, f_div, f_eq_str, f_eq_int, f_eq_bl, f_ne_str, f_ne_int, f_ne_bl, f_lt, f_le, f_gt, f_ge, f_in_sign, f_notIn_sign, f_is_bl, f_len_str, f_len_lst, f_len_tup, f_len_scr, f_len_dic, f_int_bl, f_int_int, List.length_cons, List.length_nil, List.length_replicate, List.length_set, List.set_cons_zero, List.set_cons_succ, List.getElem?_cons_zero, List.getElem?_cons_succ, Nat.reduceAdd, Nat.reduceLT, Nat.zero_lt_succ, Nat.lt_add_one, if_true, if_false, Bool.not_true, Bool.not_false, Bool.false_eq_true, reduceIte, decide_true, decide_false, reduceCtorEq, List.cons.injEq, Nat.reduceEqDiff, and_true, true_and, and_false, false_and, isB_str_str, isB_str_int, isB_str_bl, isB_int_int, isB_bool_int, isB_bool_bl, isB_int_bl, isB_int_str, isB_bool_str, f_join_nil, f_join_signs, f_all_map, f_any_map, f_lstrip, f_cut_str, f_cut_lst, f_cut_tup, q_while, q_bm, isTy_str, isTy_lst, isTy_dic, q_part, partK_int, q_noPart, q_cut, q_range2, range2K_int, q_get2, get2K_dic, key_str, key_int, q_dict, q_pairs_nil, pairK_some, q_pairs_cons, q_app, appK_own, q_frz, frzK_own, frzK_val, frzK_no, q_aug, augK_val, f_ix_lst, f_ix_tup, f_ix_scr, f_ix_str, Int.reduceToNat, List.getD_cons_zero, List.getD_cons_succ, q_forN, Int.toNat_natCast, f_in_sign, f_neg_int, f_is_non, f_isNot_non, isNon_non, isNon_tup, isNon_int, isNon_str, isNon_lst, isNon_dic, isNon_bl, isNon_obj, isB_tuple_tup, isB_list_lst, isB_str_tup, isB_str_lst, isB_str_non, isB_tuple_non, u__law_meant, b__law_meant, n3, n4, hne, c1, c2, h1, h2, e0, h4]
          rw [decide_eq_true h5]
          simp (disch := (first | with_reducible assumption | omega | ((try simp only [q_sl, List.length_append, List.length_map, List.length_cons, List.length_nil, and_true, true_and]); first | omega | decide))) only [bnd_pure, q_runF, fin_nx, fin_rt, q_var0, q_vars, q_C, q_bin, q_chain, chainK_bl, q_tru, truK_bl, truK_int, truK_lst, truK_tup, truK_non, truK_str, q_test, tstK_bl, q_and, q_or, q_not, q_andV, q_orV, q_notV, q_ifE, q_un, q_nil, q_cons, q_tup, q_lst, q_callF, q_call, q_meth, methK_obj, methO_some, q_isB, q_items, itemsK_str, itemsK_lst, itemsK_tup, q_range1, rangeK_int, q_nop, q_seq, seqK_nx, seqK_rt, seqK_bk, seqK_ct, q_if, q_ret, q_retN, q_drop, q_set, q_setOwn, q_for, q_for_nil, forK_nx, forK_ct, forK_bk, forK_rt, gd_true, lf_some, f_add_int, f_add_str, f_add_lst, f_add_tup, f_sub_int, f_mul_r, f_mul_l, f_mod, f_div, f_eq_str, f_eq_int, f_eq_bl, f_ne_str, f_ne_int, f_ne_bl, f_lt, f_le, f_gt, f_ge, f_in_sign, f_notIn_sign, f_is_bl, f_len_str, f_len_lst, f_len_tup, f_len_scr, f_len_dic, f_int_bl, f_int_int, List.length_cons, List.length_nil, List.length_replicate, List.length_set, List.set_cons_zero, List.set_cons_succ, List.getElem?_cons_zero, List.getElem?_cons_succ, Nat.reduceAdd, Nat.reduceLT, Nat.zero_lt_succ, Nat.lt_add_one, if_true, if_false, Bool.not_true, Bool.not_false, Bool.false_eq_true, reduceIte, decide_true, decide_false, reduceCtorEq, List.cons.injEq, Nat.reduceEqDiff, and_true, true_and, and_false, false_and, isB_str_str, isB_str_int, isB_str_bl, isB_int_int, isB_bool_int, isB_bool_bl, isB_int_bl, isB_int_str, isB_bool_str, f_join_nil, f_join_signs, f_all_map, f_any_map, f_lstrip, f_cut_str, f_cut_lst, f_cut_tup, q_while, q_bm, isTy_str, isTy_lst, isTy_dic, q_part, partK_int, q_noPart, q_cut, q_range2, range2K_int, q_get2, get2K_dic, key_str, key_int, q_dict, q_pairs_nil, pairK_some, q_pairs_cons, q_app, appK_own, q_frz, frzK_own, frzK_val, frzK_no, q_aug, augK_val, f_ix_lst, f_ix_tup, f_ix_scr, f_ix_str, Int.reduceToNat, List.getD_cons_zero, List.getD_cons_succ, q_forN, Int.toNat_natCast, f_in_sign, f_neg_int, f_is_non, f_isNot_non, isNon_non, isNon_tup, isNon_int, isNon_str, isNon_lst, isNon_dic, isNon_bl, isNon_obj, isB_tuple_tup, isB_list_lst, isB_str_tup, isB_str_lst, isB_str_non, isB_tuple_non, hi]
          rfl
        · simp (disch := (first | with_reducible assumption | omega | ((try simp only [q_sl, List.length_append, List.length_map, List.length_cons, List.length_nil, and_true, true_and]); first | omega | decide))) only [bnd_pure, q_runF, fin_nx, fin_rt, q_var0, q_vars, q_C, q_bin, q_chain, chainK_bl, q_tru, truK_bl, truK_int, truK_lst, truK_tup, truK_non, truK_str, q_test, tstK_bl, q_and, q_or, q_not, q_andV, q_orV, q_notV, q_ifE, q_un, q_nil, q_cons, q_tup, q_lst, q_callF, q_call, q_meth, methK_obj, methO_some, q_isB, q_items, itemsK_str, itemsK_lst, itemsK_tup, q_range1, rangeK_int, q_nop, q_seq, seqK_nx, seqK_rt, seqK_bk, seqK_ct, q_if, q_ret, q_retN, q_drop, q_set, q_setOwn, q_for, q_for_nil, forK_nx, forK_ct, forK_bk, forK_rt, gd_true, lf_some, f_add_int, f_add_str, f_add_lst, f_add_tup, f_sub_int, f_mul_r, f_mul_l, f_mod, f_div, f_eq_str, f_eq_int, f_eq_bl, f_ne_str, f_ne_int, f_ne_bl, f_lt, f_le, f_gt, f_ge, f_in_sign, f_notIn_sign, f_is_bl, f_len_str, f_len_lst, f_len_tup, f_len_scr, f_len_dic, f_int_bl, f_int_int, List.length_cons, List.length_nil, List.length_replicate, List.length_set, List.set_cons_zero, List.set_cons_succ, List.getElem?_cons_zero, List.getElem?_cons_succ, Nat.reduceAdd, Nat.reduceLT, Nat.zero_lt_succ, Nat.lt_add_one, if_true, if_false, Bool.not_true, Bool.not_false, Bool.false_eq_true, reduceIte, decide_true, decide_false, reduceCtorEq, List.cons.injEq, Nat.reduceEqDiff, and_true, true_and, and_false, false_and, isB_str_str, isB_str_int, isB_str_bl, isB_int_int, isB_bool_int, isB_bool_bl, isB_int_bl, isB_int_str, isB_bool_str, f_join_nil, f_join_signs, f_all_map, f_any_map, f_lstrip, f_cut_str, f_cut_lst, f_cut_tup, q_while, q_bm, isTy_str, isTy_lst, isTy_dic, q_part, partK_int, q_noPart, q_cut, q_range2, range2K_int, q_get2, get2K_dic, key_str, key_int, q_dict, q_pairs_nil, pairK_some, q_pairs_cons, q_app, appK_own, q_frz, frzK_own, frzK_val, frzK_no, q_aug, augK_val, f_ix_lst, f_ix_tup, f_ix_scr, f_ix_str, Int.reduceToNat, List.getD_cons_zero, List.getD_cons_succ, q_forN, Int.toNat_natCast, f_in_sign, f_neg_int, f_is_non, f_isNot_non, isNon_non, isNon_tup, isNon_int, isNon_str, isNon_lst, isNon_dic, isNon_bl, isNon_obj, isB_tuple_tup, isB_list_lst, isB_str_tup, isB_str_lst, isB_str_non, isB_tuple_non, u__law_meant, b__law_meant, n3, n4, hne, c1, c2, h1, h2, e0, h4, hi]
          rfl
    · rw [if_neg (fun z => by omega)]
      simp (disch := (first | with_reducible assumption | omega | ((try simp only [q_sl, List.length_append, List.length_map, List.length_cons, List.length_nil, and_true, true_and]); first | omega | decide))) only [bnd_pure, q_runF, fin_nx, fin_rt, q_var0, q_vars, q_C, q_bin, q_chain, chainK_bl, q_tru, truK_bl, truK_int, truK_lst, truK_tup, truK_non, truK_str, q_test, tstK_bl, q_and, q_or, q_not, q_andV, q_orV, q_notV, q_ifE, q_un, q_nil, q_cons, q_tup, q_lst, q_callF, q_call, q_meth, methK_obj, methO_some, q_isB, q_items, itemsK_str, itemsK_lst, itemsK_tup, q_range1, rangeK_int, q_nop, q_seq, seqK_nx, seqK_rt, seqK_bk, seqK_ct, q_if, q_ret, q_retN, q_drop, q_set, q_setOwn, q_for, q_for_nil, forK_nx, forK_ct, forK_bk, forK_rt, gd_true, lf_some, f_add_int, f_add_str, f_add_lst, f_add_tup, f_sub_int, f_mul_r, f_mul_l, f_mod, f_div, f_eq_str, f_eq_int, f_eq_bl, f_ne_str, f_ne_int, f_ne_bl, f_lt, f_le, f_gt, f_ge, f_in_sign, f_notIn_sign, f_is_bl, f_len_str, f_len_lst, f_len_tup, f_len_scr, f_len_dic, f_int_bl, f_int_int, List.length_cons, List.length_nil, List.length_replicate, List.length_set, List.set_cons_zero, List.set_cons_succ, List.getElem?_cons_zero, List.getElem?_cons_succ, Nat.reduceAdd, Nat.reduceLT, Nat.zero_lt_succ, Nat.lt_add_one, if_true, if_false, Bool.not_true, Bool.not_false, Bool.false_eq_true, reduceIte, decide_true, decide_false, reduceCtorEq, List.cons.injEq, Nat.reduceEqDiff, and_true, true_and, and_false, false_and, isB_str_str, isB_str_int, isB_str_bl, isB_int_int, isB_bool_int, isB_bool_bl, isB_int_bl, isB_int_str, isB_bool_str, f_join_nil, f_join_signs, f_all_map, f_any_map, f_lstrip, f_cut_str, f_cut_lst, f_cut_tup, q_while, q_bm, isTy_str, isTy_lst, isTy_dic, q_part, partK_int, q_noPart, q_cut, q_range2, range2K_int, q_get2, get2K_dic, key_str, key_int, q_dict, q_pairs_nil, pairK_some, q_pairs_cons, q_app, appK_own, q_frz, frzK_own, frzK_val, frzK_no, q_aug, augK_val, f_ix_lst, f_ix_tup, f_ix_scr, f_ix_str, Int.reduceToNat, List.getD_cons_zero, List.getD_cons_succ, q_forN, Int.toNat_natCast, f_in_sign, f_neg_int, f_is_non, f_isNot_non, isNon_non, isNon_tup, isNon_int, isNon_str, isNon_lst, isNon_dic, isNon_bl, isNon_obj, isB_tuple_tup, isB_list_lst, isB_str_tup, isB_str_lst, isB_str_non, isB_tuple_non, u__law_meant, b__law_meant, n3, n4, hne, c1, c2, h1, h2]
      rfl
  · rw [if_neg (fun z => by omega)]
    simp (disch := (first | with_reducible assumption | omega | ((try simp only [q_sl, List.length_append, List.length_map, List.length_cons, List.length_nil, and_true, true_and]); first | omega | decide))) only [bnd_pure, q_runF, fin_nx, fin_rt, q_var0, q_vars, q_C, q_bin, q_chain, chainK_bl, q_tru, truK_bl, truK_int, truK_lst, truK_tup, truK_non, truK_str, q_test, tstK_bl, q_and, q_or, q_not, q_andV, q_orV, q_notV, q_ifE, q_un, q_nil, q_cons, q_tup, q_lst, q_callF, q_call, q_meth, methK_obj, methO_some, q_isB, q_items, itemsK_str, itemsK_lst, itemsK_tup, q_range1, rangeK_int, q_nop, q_seq, seqK_nx, seqK_rt, seqK_bk, seqK_ct, q_if, q_ret, q_retN, q_drop, q_set, q_setOwn, q_for, q_for_nil, forK_nx, forK_ct, forK_bk, forK_rt, gd_true, lf_some, f_add_int, f_add_str, f_add_lst, f_add_tup, f_sub_int, f_mul_r, f_mul_l, f_mod, f_div, f_eq_str, f_eq_int, f_eq_bl, f_ne_str, f_ne_int, f_ne_bl, f_lt, f_le, f_gt, f_ge, f_in_sign, f_notIn_sign, f_is_bl, f_len_str, f_len_lst, f_len_tup, f_len_scr, f_len_dic, f_int_bl, f_int_int, List.length_cons, List.length_nil, List.length_replicate, List.length_set, List.set_cons_zero, List.set_cons_succ, List.getElem?_cons_zero, List.getElem?_cons_succ, Nat.reduceAdd, Nat.reduceLT, Nat.zero_lt_succ, Nat.lt_add_one, if_true, if_false, Bool.not_true, Bool.not_false, Bool.false_eq_true, reduceIte, decide_true, decide_false, reduceCtorEq, List.cons.injEq, Nat.reduceEqDiff, and_true, true_and, and_false, false_and, isB_str_str, isB_str_int, isB_str_bl, isB_int_int, isB_bool_int, isB_bool_bl, isB_int_bl, isB_int_str, isB_bool_str, f_join_nil, f_join_signs, f_all_map, f_any_map, f_lstrip, f_cut_str, f_cut_lst, f_cut_tup, q_while, q_bm, isTy_str, isTy_lst, isTy_dic, q_part, partK_int, q_noPart, q_cut, q_range2, range2K_int, q_get2, get2K_dic, key_str, key_int, q_dict, q_pairs_nil, pairK_some, q_pairs_cons, q_app, appK_own, q_frz, frzK_own, frzK_val, frzK_no, q_aug, augK_val, f_ix_lst, f_ix_tup, f_ix_scr, f_ix_str, Int.reduceToNat, List.getD_cons_zero, List.getD_cons_succ, q_forN, Int.toNat_natCast, f_in_sign, f_neg_int, f_is_non, f_isNot_non, isNon_non, isNon_tup, isNon_int, isNon_str, isNon_lst, isNon_dic, isNon_bl, isNon_obj, isB_tuple_tup, isB_list_lst, isB_str_tup, isB_str_lst, isB_str_non, isB_tuple_non, u__law_meant, b__law_meant, n3, n4, hne, c1, c2, h1]
    rfl
def dTold : D := .dic (mergeD [] [(.inr w_line, .str [126, 110]), (.inr w_plain, .str [126, 108, 103, 97, 98, 110]), (.inr w_quoted, .str [94, 113, 110])])
def dPlain : D := .dic (mergeD [] [(.inr w_line, .str [126, 10]), (.inr w_plain, .str [126, 60, 62, 38, 124, 10]), (.inr w_quoted, .str [94, 34, 10])])
theorem fin_mean (found : Tx) (h : found.length ≤ 100000) (s0 s1 s2 s3 s4 s5 s7 s8 : Sl) :
    (mSeq (mRet (mCut (mLst (mCons (mVar 6) mNil)) mNoPart (mPart (mCallF fInt (mCons (mBin fLe (mCallF fLen (mCons (mVar 6) mNil)) (mC (.int 400))) mNil))))) mNop) [s0, s1, s2, s3, s4, s5, .val (.str found), s7, s8] = pure (.rt (.lst (if found.length ≤ 400 then [.str found] else []))) := by
  by_cases h1 : (found.length : Int) ≤ 400
  · rw [if_pos (by omega)]
    simp (disch := (first | with_reducible assumption | omega | ((try simp only [q_sl, List.length_append, List.length_map, List.length_cons, List.length_nil, and_true, true_and]); first | omega | decide))) only [bnd_pure, q_runF, fin_nx, fin_rt, q_var0, q_vars, q_C, q_bin, q_chain, chainK_bl, q_tru, truK_bl, truK_int, truK_lst, truK_tup, truK_non, truK_str, q_test, tstK_bl, q_and, q_or, q_not, q_andV, q_orV, q_notV, q_ifE, q_un, q_nil, q_cons, q_tup, q_lst, q_callF, q_call, q_meth, methK_obj, methO_some, q_isB, q_items, itemsK_str, itemsK_lst, itemsK_tup, q_range1, rangeK_int, q_nop, q_seq, seqK_nx, seqK_rt, seqK_bk, seqK_ct, q_if, q_ret, q_retN, q_drop, q_set, q_setOwn, q_for, q_for_nil, forK_nx, forK_ct, forK_bk, forK_rt, gd_true, lf_some, f_add_int, f_add_str, f_add_lst, f_add_tup, f_sub_int, f_mul_r, f_mul_l, f_mod, f_div, f_eq_str, f_eq_int, f_eq_bl, f_ne_str, f_ne_int, f_ne_bl, f_lt, f_le, f_gt, f_ge, f_in_sign, f_notIn_sign, f_is_bl, f_len_str, f_len_lst, f_len_tup, f_len_scr, f_len_dic, f_int_bl, f_int_int, List.length_cons, List.length_nil, List.length_replicate, List.length_set, List.set_cons_zero, List.set_cons_succ, List.getElem?_cons_zero, List.getElem?_cons_succ, Nat.reduceAdd, Nat.reduceLT, Nat.zero_lt_succ, Nat.lt_add_one, if_true, if_false, Bool.not_true, Bool.not_false, Bool.false_eq_true, reduceIte, decide_true, decide_false, reduceCtorEq, List.cons.injEq, Nat.reduceEqDiff, and_true, true_and, and_false, false_and, isB_str_str, isB_str_int, isB_str_bl, isB_int_int, isB_bool_int, isB_bool_bl, isB_int_bl, isB_int_str, isB_bool_str, f_join_nil, f_join_signs, f_all_map, f_any_map, f_lstrip, f_cut_str, f_cut_lst, f_cut_tup, q_while, q_bm, isTy_str, isTy_lst, isTy_dic, q_part, partK_int, q_noPart, q_cut, q_range2, range2K_int, q_get2, get2K_dic, key_str, key_int, q_dict, q_pairs_nil, pairK_some, q_pairs_cons, q_app, appK_own, q_frz, frzK_own, frzK_val, frzK_no, q_aug, augK_val, f_ix_lst, f_ix_tup, f_ix_scr, f_ix_str, Int.reduceToNat, List.getD_cons_zero, List.getD_cons_succ, q_forN, Int.toNat_natCast, f_in_sign, f_neg_int, f_is_non, f_isNot_non, isNon_non, isNon_tup, isNon_int, isNon_str, isNon_lst, isNon_dic, isNon_bl, isNon_obj, isB_tuple_tup, isB_list_lst, isB_str_tup, isB_str_lst, isB_str_non, isB_tuple_non, h1]
    rfl
  · rw [if_neg (by omega)]
    simp (disch := (first | with_reducible assumption | omega | ((try simp only [q_sl, List.length_append, List.length_map, List.length_cons, List.length_nil, and_true, true_and]); first | omega | decide))) only [bnd_pure, q_runF, fin_nx, fin_rt, q_var0, q_vars, q_C, q_bin, q_chain, chainK_bl, q_tru, truK_bl, truK_int, truK_lst, truK_tup, truK_non, truK_str, q_test, tstK_bl, q_and, q_or, q_not, q_andV, q_orV, q_notV, q_ifE, q_un, q_nil, q_cons, q_tup, q_lst, q_callF, q_call, q_meth, methK_obj, methO_some, q_isB, q_items, itemsK_str, itemsK_lst, itemsK_tup, q_range1, rangeK_int, q_nop, q_seq, seqK_nx, seqK_rt, seqK_bk, seqK_ct, q_if, q_ret, q_retN, q_drop, q_set, q_setOwn, q_for, q_for_nil, forK_nx, forK_ct, forK_bk, forK_rt, gd_true, lf_some, f_add_int, f_add_str, f_add_lst, f_add_tup, f_sub_int, f_mul_r, f_mul_l, f_mod, f_div, f_eq_str, f_eq_int, f_eq_bl, f_ne_str, f_ne_int, f_ne_bl, f_lt, f_le, f_gt, f_ge, f_in_sign, f_notIn_sign, f_is_bl, f_len_str, f_len_lst, f_len_tup, f_len_scr, f_len_dic, f_int_bl, f_int_int, List.length_cons, List.length_nil, List.length_replicate, List.length_set, List.set_cons_zero, List.set_cons_succ, List.getElem?_cons_zero, List.getElem?_cons_succ, Nat.reduceAdd, Nat.reduceLT, Nat.zero_lt_succ, Nat.lt_add_one, if_true, if_false, Bool.not_true, Bool.not_false, Bool.false_eq_true, reduceIte, decide_true, decide_false, reduceCtorEq, List.cons.injEq, Nat.reduceEqDiff, and_true, true_and, and_false, false_and, isB_str_str, isB_str_int, isB_str_bl, isB_int_int, isB_bool_int, isB_bool_bl, isB_int_bl, isB_int_str, isB_bool_str, f_join_nil, f_join_signs, f_all_map, f_any_map, f_lstrip, f_cut_str, f_cut_lst, f_cut_tup, q_while, q_bm, isTy_str, isTy_lst, isTy_dic, q_part, partK_int, q_noPart, q_cut, q_range2, range2K_int, q_get2, get2K_dic, key_str, key_int, q_dict, q_pairs_nil, pairK_some, q_pairs_cons, q_app, appK_own, q_frz, frzK_own, frzK_val, frzK_no, q_aug, augK_val, f_ix_lst, f_ix_tup, f_ix_scr, f_ix_str, Int.reduceToNat, List.getD_cons_zero, List.getD_cons_succ, q_forN, Int.toNat_natCast, f_in_sign, f_neg_int, f_is_non, f_isNot_non, isNon_non, isNon_tup, isNon_int, isNon_str, isNon_lst, isNon_dic, isNon_bl, isNon_obj, isB_tuple_tup, isB_list_lst, isB_str_tup, isB_str_lst, isB_str_non, isB_tuple_non, h1]
    rfl
theorem s_lmeant_text (k : Nat) (w : Tx) (mk : Nat) (ps : List (Nat × Nat)) (hcd : Cd mk ps) (told plain st x : Tx) (ht : Told mk ps told plain) (h1 : w ≠ w_word) (h2 : w ≠ w_number)
    (hx : if w = w_quoted then mk = 94 ∧ st.tail.dropLast = x else mk = 126 ∧ st = x) (h3 : fIx dTold (.str w) = pure (.str told)) (h4 : fIx dPlain (.str w) = pure (.str plain))
    (hl : st.length ≤ 100000) (hb : ∀ c ∈ x, c ≠ mk → (encS mk ps c ≠ [c] ↔ c = 10)) : Ψ (k + 1) ._law_meant [.str w, .str st] = pure (.lst (mT mk ps x).toList) := by
  have n3 : [119, 111, 114, 100] = w_word := rfl
  have n4 : [110, 117, 109, 98, 101, 114] = w_number := rfl
  have n5 : [113, 117, 111, 116, 101, 100] = w_quoted := rfl
  have n6 : [112, 108, 97, 105, 110] = w_plain := rfl
  have n7 : [108, 105, 110, 101] = w_line := rfl
  have d1 : D.dic (mergeD [] [(.inr w_line, .str [126, 110]), (.inr w_plain, .str [126, 108, 103, 97, 98, 110]), (.inr w_quoted, .str [94, 113, 110])]) = dTold := rfl
  have d2 : D.dic (mergeD [] [(.inr w_line, .str [126, 10]), (.inr w_plain, .str [126, 60, 62, 38, 124, 10]), (.inr w_quoted, .str [94, 34, 10])]) = dPlain := rfl
  have hxl : x.length ≤ 100000 := by
    by_cases hq : w = w_quoted
    · rw [if_pos hq] at hx
      rw [← hx.2, List.length_dropLast, List.length_tail]
      omega
    · rw [if_neg hq] at hx
      rw [← hx.2]
      exact hl
  obtain ⟨i', s8', e⟩ := mean_loop (.val (.str w)) .no mk ps hcd told plain ht x hxl hb 1000000 0 [] .no (by omega) (by omega) (by simp)
  rw [List.drop_zero, show ((0 : Nat) : Int) = 0 from rfl] at e
  have key : ∀ s7 s8 : Sl, (match ldec mk ps x with
      | some y => (pure (.nx [.val (.str w), .val (.str x), .no, .val (.str [mk]), .val (.str told), .val (.str plain), .val (.str ([] ++ y)), s7, s8]) : M Fl)
      | none => pure (.rt (.lst []))) >>= seqK (mSeq (mRet (mCut (mLst (mCons (mVar 6) mNil)) mNoPart (mPart (mCallF fInt (mCons (mBin fLe (mCallF fLen (mCons (mVar 6) mNil)) (mC (.int 400))) mNil))))) mNop) = pure (.rt (.lst (mT mk ps x).toList)) := by
    intro s7 s8
    unfold mT
    cases q : ldec mk ps x with
    | none => rfl
    | some y =>
      have hy := dec_len _ _ _ (Nat.le_refl _) ((ldec_iff hcd _ _ _ (Nat.le_refl _)).mp q).1
      show bnd (pure _) (seqK _) = _
      rw [bnd_pure, seqK_nx, List.nil_append, fin_mean y (by omega)]
      by_cases hz : y.length ≤ 400
      · rw [if_pos hz]
        simp [hz]
      · rw [if_neg hz]
        simp [hz]
  have key := key i' s8'
  by_cases hq : w = w_quoted
  · rw [if_pos hq] at hx
    obtain ⟨rfl, hx⟩ := hx
    have c3 : cutL st (some 1) (some (-1)) = x := by rw [cut_inner, hx]
    have hq' := hq
    subst hq
    simp (disch := (first | with_reducible assumption | omega | ((try simp only [q_sl, List.length_append, List.length_map, List.length_cons, List.length_nil, and_true, true_and]); first | omega | decide))) only [bnd_pure, q_runF, fin_nx, fin_rt, q_var0, q_vars, q_C, q_bin, q_chain, chainK_bl, q_tru, truK_bl, truK_int, truK_lst, truK_tup, truK_non, truK_str, q_test, tstK_bl, q_and, q_or, q_not, q_andV, q_orV, q_notV, q_ifE, q_un, q_nil, q_cons, q_tup, q_lst, q_callF, q_call, q_meth, methK_obj, methO_some, q_isB, q_items, itemsK_str, itemsK_lst, itemsK_tup, q_range1, rangeK_int, q_nop, q_seq, seqK_nx, seqK_rt, seqK_bk, seqK_ct, q_if, q_ret, q_retN, q_drop, q_set, q_setOwn, q_for, q_for_nil, forK_nx, forK_ct, forK_bk, forK_rt, gd_true, lf_some, f_add_int, f_add_str, f_add_lst, f_add_tup, f_sub_int, f_mul_r, f_mul_l, f_mod, f_div, f_eq_str, f_eq_int, f_eq_bl, f_ne_str, f_ne_int, f_ne_bl, f_lt, f_le, f_gt, f_ge, f_in_sign, f_notIn_sign, f_is_bl, f_len_str, f_len_lst, f_len_tup, f_len_scr, f_len_dic, f_int_bl, f_int_int, List.length_cons, List.length_nil, List.length_replicate, List.length_set, List.set_cons_zero, List.set_cons_succ, List.getElem?_cons_zero, List.getElem?_cons_succ, Nat.reduceAdd, Nat.reduceLT, Nat.zero_lt_succ, Nat.lt_add_one, if_true, if_false, Bool.not_true, Bool.not_false, Bool.false_eq_true, reduceIte, decide_true, decide_false, reduceCtorEq, List.cons.injEq, Nat.reduceEqDiff, and_true, true_and, and_false, false_and, isB_str_str, isB_str_int, isB_str_bl, isB_int_int, isB_bool_int, isB_bool_bl, isB_int_bl, isB_int_str, isB_bool_str, f_join_nil, f_join_signs, f_all_map, f_any_map, f_lstrip, f_cut_str, f_cut_lst, f_cut_tup, q_while, q_bm, isTy_str, isTy_lst, isTy_dic, q_part, partK_int, q_noPart, q_cut, q_range2, range2K_int, q_get2, get2K_dic, key_str, key_int, q_dict, q_pairs_nil, pairK_some, q_pairs_cons, q_app, appK_own, q_frz, frzK_own, frzK_val, frzK_no, q_aug, augK_val, f_ix_lst, f_ix_tup, f_ix_scr, f_ix_str, Int.reduceToNat, List.getD_cons_zero, List.getD_cons_succ, q_forN, Int.toNat_natCast, f_in_sign, f_neg_int, f_is_non, f_isNot_non, isNon_non, isNon_tup, isNon_int, isNon_str, isNon_lst, isNon_dic, isNon_bl, isNon_obj, isB_tuple_tup, isB_list_lst, isB_str_tup, isB_str_lst, isB_str_non, isB_tuple_non, u__law_meant, b__law_meant, n3, n4, n5, n6, n7, h1, h2, d1, d2, h3, h4, c3]
    rw [e]
    refine Eq.trans (congrArg (fun m => bnd m fin) key) ?_
    simp (disch := (first | with_reducible assumption | omega | ((try simp only [q_sl, List.length_append, List.length_map, List.length_cons, List.length_nil, and_true, true_and]); first | omega | decide))) only [bnd_pure, q_runF, fin_nx, fin_rt, q_var0, q_vars, q_C, q_bin, q_chain, chainK_bl, q_tru, truK_bl, truK_int, truK_lst, truK_tup, truK_non, truK_str, q_test, tstK_bl, q_and, q_or, q_not, q_andV, q_orV, q_notV, q_ifE, q_un, q_nil, q_cons, q_tup, q_lst, q_callF, q_call, q_meth, methK_obj, methO_some, q_isB, q_items, itemsK_str, itemsK_lst, itemsK_tup, q_range1, rangeK_int, q_nop, q_seq, seqK_nx, seqK_rt, seqK_bk, seqK_ct, q_if, q_ret, q_retN, q_drop, q_set, q_setOwn, q_for, q_for_nil, forK_nx, forK_ct, forK_bk, forK_rt, gd_true, lf_some, f_add_int, f_add_str, f_add_lst, f_add_tup, f_sub_int, f_mul_r, f_mul_l, f_mod, f_div, f_eq_str, f_eq_int, f_eq_bl, f_ne_str, f_ne_int, f_ne_bl, f_lt, f_le, f_gt, f_ge, f_in_sign, f_notIn_sign, f_is_bl, f_len_str, f_len_lst, f_len_tup, f_len_scr, f_len_dic, f_int_bl, f_int_int, List.length_cons, List.length_nil, List.length_replicate, List.length_set, List.set_cons_zero, List.set_cons_succ, List.getElem?_cons_zero, List.getElem?_cons_succ, Nat.reduceAdd, Nat.reduceLT, Nat.zero_lt_succ, Nat.lt_add_one, if_true, if_false, Bool.not_true, Bool.not_false, Bool.false_eq_true, reduceIte, decide_true, decide_false, reduceCtorEq, List.cons.injEq, Nat.reduceEqDiff, and_true, true_and, and_false, false_and, isB_str_str, isB_str_int, isB_str_bl, isB_int_int, isB_bool_int, isB_bool_bl, isB_int_bl, isB_int_str, isB_bool_str, f_join_nil, f_join_signs, f_all_map, f_any_map, f_lstrip, f_cut_str, f_cut_lst, f_cut_tup, q_while, q_bm, isTy_str, isTy_lst, isTy_dic, q_part, partK_int, q_noPart, q_cut, q_range2, range2K_int, q_get2, get2K_dic, key_str, key_int, q_dict, q_pairs_nil, pairK_some, q_pairs_cons, q_app, appK_own, q_frz, frzK_own, frzK_val, frzK_no, q_aug, augK_val, f_ix_lst, f_ix_tup, f_ix_scr, f_ix_str, Int.reduceToNat, List.getD_cons_zero, List.getD_cons_succ, q_forN, Int.toNat_natCast, f_in_sign, f_neg_int, f_is_non, f_isNot_non, isNon_non, isNon_tup, isNon_int, isNon_str, isNon_lst, isNon_dic, isNon_bl, isNon_obj, isB_tuple_tup, isB_list_lst, isB_str_tup, isB_str_lst, isB_str_non, isB_tuple_non]
  · rw [if_neg hq] at hx
    obtain ⟨rfl, rfl⟩ := hx
    simp (disch := (first | with_reducible assumption | omega | ((try simp only [q_sl, List.length_append, List.length_map, List.length_cons, List.length_nil, and_true, true_and]); first | omega | decide))) only [bnd_pure, q_runF, fin_nx, fin_rt, q_var0, q_vars, q_C, q_bin, q_chain, chainK_bl, q_tru, truK_bl, truK_int, truK_lst, truK_tup, truK_non, truK_str, q_test, tstK_bl, q_and, q_or, q_not, q_andV, q_orV, q_notV, q_ifE, q_un, q_nil, q_cons, q_tup, q_lst, q_callF, q_call, q_meth, methK_obj, methO_some, q_isB, q_items, itemsK_str, itemsK_lst, itemsK_tup, q_range1, rangeK_int, q_nop, q_seq, seqK_nx, seqK_rt, seqK_bk, seqK_ct, q_if, q_ret, q_retN, q_drop, q_set, q_setOwn, q_for, q_for_nil, forK_nx, forK_ct, forK_bk, forK_rt, gd_true, lf_some, f_add_int, f_add_str, f_add_lst, f_add_tup, f_sub_int, f_mul_r, f_mul_l, f_mod, f_div, f_eq_str, f_eq_int, f_eq_bl, f_ne_str, f_ne_int, f_ne_bl, f_lt, f_le, f_gt, f_ge, f_in_sign, f_notIn_sign, f_is_bl, f_len_str, f_len_lst, f_len_tup, f_len_scr, f_len_dic, f_int_bl, f_int_int, List.length_cons, List.length_nil, List.length_replicate, List.length_set, List.set_cons_zero, List.set_cons_succ, List.getElem?_cons_zero, List.getElem?_cons_succ, Nat.reduceAdd, Nat.reduceLT, Nat.zero_lt_succ, Nat.lt_add_one, if_true, if_false, Bool.not_true, Bool.not_false, Bool.false_eq_true, reduceIte, decide_true, decide_false, reduceCtorEq, List.cons.injEq, Nat.reduceEqDiff, and_true, true_and, and_false, false_and, isB_str_str, isB_str_int, isB_str_bl, isB_int_int, isB_bool_int, isB_bool_bl, isB_int_bl, isB_int_str, isB_bool_str, f_join_nil, f_join_signs, f_all_map, f_any_map, f_lstrip, f_cut_str, f_cut_lst, f_cut_tup, q_while, q_bm, isTy_str, isTy_lst, isTy_dic, q_part, partK_int, q_noPart, q_cut, q_range2, range2K_int, q_get2, get2K_dic, key_str, key_int, q_dict, q_pairs_nil, pairK_some, q_pairs_cons, q_app, appK_own, q_frz, frzK_own, frzK_val, frzK_no, q_aug, augK_val, f_ix_lst, f_ix_tup, f_ix_scr, f_ix_str, Int.reduceToNat, List.getD_cons_zero, List.getD_cons_succ, q_forN, Int.toNat_natCast, f_in_sign, f_neg_int, f_is_non, f_isNot_non, isNon_non, isNon_tup, isNon_int, isNon_str, isNon_lst, isNon_dic, isNon_bl, isNon_obj, isB_tuple_tup, isB_list_lst, isB_str_tup, isB_str_lst, isB_str_non, isB_tuple_non, u__law_meant, b__law_meant, n3, n4, n5, n6, n7, h1, h2, hq, d1, d2, h3, h4]
    rw [e]
    refine Eq.trans (congrArg (fun m => bnd m fin) key) ?_
    simp (disch := (first | with_reducible assumption | omega | ((try simp only [q_sl, List.length_append, List.length_map, List.length_cons, List.length_nil, and_true, true_and]); first | omega | decide))) only [bnd_pure, q_runF, fin_nx, fin_rt, q_var0, q_vars, q_C, q_bin, q_chain, chainK_bl, q_tru, truK_bl, truK_int, truK_lst, truK_tup, truK_non, truK_str, q_test, tstK_bl, q_and, q_or, q_not, q_andV, q_orV, q_notV, q_ifE, q_un, q_nil, q_cons, q_tup, q_lst, q_callF, q_call, q_meth, methK_obj, methO_some, q_isB, q_items, itemsK_str, itemsK_lst, itemsK_tup, q_range1, rangeK_int, q_nop, q_seq, seqK_nx, seqK_rt, seqK_bk, seqK_ct, q_if, q_ret, q_retN, q_drop, q_set, q_setOwn, q_for, q_for_nil, forK_nx, forK_ct, forK_bk, forK_rt, gd_true, lf_some, f_add_int, f_add_str, f_add_lst, f_add_tup, f_sub_int, f_mul_r, f_mul_l, f_mod, f_div, f_eq_str, f_eq_int, f_eq_bl, f_ne_str, f_ne_int, f_ne_bl, f_lt, f_le, f_gt, f_ge, f_in_sign, f_notIn_sign, f_is_bl, f_len_str, f_len_lst, f_len_tup, f_len_scr, f_len_dic, f_int_bl, f_int_int, List.length_cons, List.length_nil, List.length_replicate, List.length_set, List.set_cons_zero, List.set_cons_succ, List.getElem?_cons_zero, List.getElem?_cons_succ, Nat.reduceAdd, Nat.reduceLT, Nat.zero_lt_succ, Nat.lt_add_one, if_true, if_false, Bool.not_true, Bool.not_false, Bool.false_eq_true, reduceIte, decide_true, decide_false, reduceCtorEq, List.cons.injEq, Nat.reduceEqDiff, and_true, true_and, and_false, false_and, isB_str_str, isB_str_int, isB_str_bl, isB_int_int, isB_bool_int, isB_bool_bl, isB_int_bl, isB_int_str, isB_bool_str, f_join_nil, f_join_signs, f_all_map, f_any_map, f_lstrip, f_cut_str, f_cut_lst, f_cut_tup, q_while, q_bm, isTy_str, isTy_lst, isTy_dic, q_part, partK_int, q_noPart, q_cut, q_range2, range2K_int, q_get2, get2K_dic, key_str, key_int, q_dict, q_pairs_nil, pairK_some, q_pairs_cons, q_app, appK_own, q_frz, frzK_own, frzK_val, frzK_no, q_aug, augK_val, f_ix_lst, f_ix_tup, f_ix_scr, f_ix_str, Int.reduceToNat, List.getD_cons_zero, List.getD_cons_succ, q_forN, Int.toNat_natCast, f_in_sign, f_neg_int, f_is_non, f_isNot_non, isNon_non, isNon_tup, isNon_int, isNon_str, isNon_lst, isNon_dic, isNon_bl, isNon_obj, isB_tuple_tup, isB_list_lst, isB_str_tup, isB_str_lst, isB_str_non, isB_tuple_non]
end K02.Ma
end
section
set_option linter.all false
set_option maxRecDepth 100000
namespace K02.Ma
open PySem L2 DL
variable {Ψ : Nat → Fid → List D → M D} [IsΦ Ψ]
/-! what is told of a place -/
def dueD (i : Nat) (st : Tx) (m : Option D) : D := match m with
  | some v => .tup [v, .int (((i + st.length : Nat)) : Int)]
  | none => .non
theorem fine_lst {v : D} (h : v.fine 0 = true) : D.fine 1 (.lst [v]) = true := by
  show (List.all [v] (D.fine 0)) = true
  simp [h]
theorem fine_tup2 {v : D} {j : Int} (h : v.fine 0 = true) : D.fine 1 (.tup [v, .int j]) = true := by
  show (List.all [v, .int j] (D.fine 0)) = true
  simp [h, D.fine]
theorem ne_nil {v : D} (h : v.fine 0 = true) : fEq (.lst [v]) (.lst []) = pure (.bl false) := f_eq_of (fine_ok (fine_lst h) (by decide)) rfl rfl
theorem cut_st' (T st : Tx) (i : Nat) (h : (T.drop i).take st.length = st) : cutL T (some (i : Int)) (some (((i + st.length : Nat)) : Int)) = st := by
  have := cut_st T st i h
  rwa [show (i : Int) + (st.length : Int) = ((i + st.length : Nat) : Int) by omega] at this
theorem s_law_due (k : Nat) (w T st : Tx) (i : Nat) (m : Option D) (hl : T.length ≤ 100000) (hs : Ψ k ._law_stretch [.str w, .str T, .int (i : Int)] = pure (.int (((i + st.length : Nat)) : Int)))
    (hp : (T.drop i).take st.length = st) (hm : Ψ k ._law_meant [.str w, .str st] = pure (.lst m.toList)) (hf : ∀ v, m = some v → v.fine 0 = true) : Ψ (k + 1) ._law_due [.str w, .str T, .int (i : Int)] = pure (dueD i st m) := by
  have h0 : ¬ (((i + st.length : Nat)) : Int) < 0 := by omega
  have hc := cut_st' T st i hp
  cases m with
  | none =>
    have hm : Ψ k ._law_meant [.str w, .str st] = pure (.lst []) := hm
    have e : fEq (.lst []) (.lst []) = pure (.bl true) := rfl
    simp (disch := (first | with_reducible assumption | omega | ((try simp only [q_sl, List.length_append, List.length_map, List.length_cons, List.length_nil, and_true, true_and]); first | omega | decide))) only [bnd_pure, q_runF, fin_nx, fin_rt, q_var0, q_vars, q_C, q_bin, q_chain, chainK_bl, q_tru, truK_bl, truK_int, truK_lst, truK_tup, truK_non, truK_str, q_test, tstK_bl, q_and, q_or, q_not, q_andV, q_orV, q_notV, q_ifE, q_un, q_nil, q_cons, q_tup, q_lst, q_callF, q_call, q_meth, methK_obj, methO_some, q_isB, q_items, itemsK_str, itemsK_lst, itemsK_tup, q_range1, rangeK_int, q_nop, q_seq, seqK_nx, seqK_rt, seqK_bk, seqK_ct, q_if, q_ret, q_retN, q_drop, q_set, q_setOwn, q_for, q_for_nil, forK_nx, forK_ct, forK_bk, forK_rt, gd_true, lf_some, f_add_int, f_add_str, f_add_lst, f_add_tup, f_sub_int, f_mul_r, f_mul_l, f_mod, f_div, f_eq_str, f_eq_int, f_eq_bl, f_ne_str, f_ne_int, f_ne_bl, f_lt, f_le, f_gt, f_ge, f_in_sign, f_notIn_sign, f_is_bl, f_len_str, f_len_lst, f_len_tup, f_len_scr, f_len_dic, f_int_bl, f_int_int, List.length_cons, List.length_nil, List.length_replicate, List.length_set, List.set_cons_zero, List.set_cons_succ, List.getElem?_cons_zero, List.getElem?_cons_succ, Nat.reduceAdd, Nat.reduceLT, Nat.zero_lt_succ, Nat.lt_add_one, if_true, if_false, Bool.not_true, Bool.not_false, Bool.false_eq_true, reduceIte, decide_true, decide_false, reduceCtorEq, List.cons.injEq, Nat.reduceEqDiff, and_true, true_and, and_false, false_and, isB_str_str, isB_str_int, isB_str_bl, isB_int_int, isB_bool_int, isB_bool_bl, isB_int_bl, isB_int_str, isB_bool_str, f_join_nil, f_join_signs, f_all_map, f_any_map, f_lstrip, f_cut_str, f_cut_lst, f_cut_tup, q_while, q_bm, isTy_str, isTy_lst, isTy_dic, q_part, partK_int, q_noPart, q_cut, q_range2, range2K_int, q_get2, get2K_dic, key_str, key_int, q_dict, q_pairs_nil, pairK_some, q_pairs_cons, q_app, appK_own, q_frz, frzK_own, frzK_val, frzK_no, q_aug, augK_val, f_ix_lst, f_ix_tup, f_ix_scr, f_ix_str, Int.reduceToNat, List.getD_cons_zero, List.getD_cons_succ, q_forN, Int.toNat_natCast, f_in_sign, f_neg_int, f_is_non, f_isNot_non, isNon_non, isNon_tup, isNon_int, isNon_str, isNon_lst, isNon_dic, isNon_bl, isNon_obj, isB_tuple_tup, isB_list_lst, isB_str_tup, isB_str_lst, isB_str_non, isB_tuple_non, u__law_due, b__law_due, hs, h0, hc, hm, e]
    rfl
  | some v =>
    have hm : Ψ k ._law_meant [.str w, .str st] = pure (.lst [v]) := hm
    have e := ne_nil (hf v rfl)
    have e0 : fIx (.lst [v]) (.int 0) = pure v := rfl
    simp (disch := (first | with_reducible assumption | omega | ((try simp only [q_sl, List.length_append, List.length_map, List.length_cons, List.length_nil, and_true, true_and]); first | omega | decide))) only [bnd_pure, q_runF, fin_nx, fin_rt, q_var0, q_vars, q_C, q_bin, q_chain, chainK_bl, q_tru, truK_bl, truK_int, truK_lst, truK_tup, truK_non, truK_str, q_test, tstK_bl, q_and, q_or, q_not, q_andV, q_orV, q_notV, q_ifE, q_un, q_nil, q_cons, q_tup, q_lst, q_callF, q_call, q_meth, methK_obj, methO_some, q_isB, q_items, itemsK_str, itemsK_lst, itemsK_tup, q_range1, rangeK_int, q_nop, q_seq, seqK_nx, seqK_rt, seqK_bk, seqK_ct, q_if, q_ret, q_retN, q_drop, q_set, q_setOwn, q_for, q_for_nil, forK_nx, forK_ct, forK_bk, forK_rt, gd_true, lf_some, f_add_int, f_add_str, f_add_lst, f_add_tup, f_sub_int, f_mul_r, f_mul_l, f_mod, f_div, f_eq_str, f_eq_int, f_eq_bl, f_ne_str, f_ne_int, f_ne_bl, f_lt, f_le, f_gt, f_ge, f_in_sign, f_notIn_sign, f_is_bl, f_len_str, f_len_lst, f_len_tup, f_len_scr, f_len_dic, f_int_bl, f_int_int, List.length_cons, List.length_nil, List.length_replicate, List.length_set, List.set_cons_zero, List.set_cons_succ, List.getElem?_cons_zero, List.getElem?_cons_succ, Nat.reduceAdd, Nat.reduceLT, Nat.zero_lt_succ, Nat.lt_add_one, if_true, if_false, Bool.not_true, Bool.not_false, Bool.false_eq_true, reduceIte, decide_true, decide_false, reduceCtorEq, List.cons.injEq, Nat.reduceEqDiff, and_true, true_and, and_false, false_and, isB_str_str, isB_str_int, isB_str_bl, isB_int_int, isB_bool_int, isB_bool_bl, isB_int_bl, isB_int_str, isB_bool_str, f_join_nil, f_join_signs, f_all_map, f_any_map, f_lstrip, f_cut_str, f_cut_lst, f_cut_tup, q_while, q_bm, isTy_str, isTy_lst, isTy_dic, q_part, partK_int, q_noPart, q_cut, q_range2, range2K_int, q_get2, get2K_dic, key_str, key_int, q_dict, q_pairs_nil, pairK_some, q_pairs_cons, q_app, appK_own, q_frz, frzK_own, frzK_val, frzK_no, q_aug, augK_val, f_ix_lst, f_ix_tup, f_ix_scr, f_ix_str, Int.reduceToNat, List.getD_cons_zero, List.getD_cons_succ, q_forN, Int.toNat_natCast, f_in_sign, f_neg_int, f_is_non, f_isNot_non, isNon_non, isNon_tup, isNon_int, isNon_str, isNon_lst, isNon_dic, isNon_bl, isNon_obj, isB_tuple_tup, isB_list_lst, isB_str_tup, isB_str_lst, isB_str_non, isB_tuple_non, u__law_due, b__law_due, hs, h0, hc, hm, e, e0]
    rfl
theorem s_law_due_none (k : Nat) (w T : Tx) (i : Nat) (hs : Ψ k ._law_stretch [.str w, .str T, .int (i : Int)] = pure (.int (-1))) : Ψ (k + 1) ._law_due [.str w, .str T, .int (i : Int)] = pure .non := by
  simp (disch := (first | with_reducible assumption | omega | ((try simp only [q_sl, List.length_append, List.length_map, List.length_cons, List.length_nil, and_true, true_and]); first | omega | decide))) only [bnd_pure, q_runF, fin_nx, fin_rt, q_var0, q_vars, q_C, q_bin, q_chain, chainK_bl, q_tru, truK_bl, truK_int, truK_lst, truK_tup, truK_non, truK_str, q_test, tstK_bl, q_and, q_or, q_not, q_andV, q_orV, q_notV, q_ifE, q_un, q_nil, q_cons, q_tup, q_lst, q_callF, q_call, q_meth, methK_obj, methO_some, q_isB, q_items, itemsK_str, itemsK_lst, itemsK_tup, q_range1, rangeK_int, q_nop, q_seq, seqK_nx, seqK_rt, seqK_bk, seqK_ct, q_if, q_ret, q_retN, q_drop, q_set, q_setOwn, q_for, q_for_nil, forK_nx, forK_ct, forK_bk, forK_rt, gd_true, lf_some, f_add_int, f_add_str, f_add_lst, f_add_tup, f_sub_int, f_mul_r, f_mul_l, f_mod, f_div, f_eq_str, f_eq_int, f_eq_bl, f_ne_str, f_ne_int, f_ne_bl, f_lt, f_le, f_gt, f_ge, f_in_sign, f_notIn_sign, f_is_bl, f_len_str, f_len_lst, f_len_tup, f_len_scr, f_len_dic, f_int_bl, f_int_int, List.length_cons, List.length_nil, List.length_replicate, List.length_set, List.set_cons_zero, List.set_cons_succ, List.getElem?_cons_zero, List.getElem?_cons_succ, Nat.reduceAdd, Nat.reduceLT, Nat.zero_lt_succ, Nat.lt_add_one, if_true, if_false, Bool.not_true, Bool.not_false, Bool.false_eq_true, reduceIte, decide_true, decide_false, reduceCtorEq, List.cons.injEq, Nat.reduceEqDiff, and_true, true_and, and_false, false_and, isB_str_str, isB_str_int, isB_str_bl, isB_int_int, isB_bool_int, isB_bool_bl, isB_int_bl, isB_int_str, isB_bool_str, f_join_nil, f_join_signs, f_all_map, f_any_map, f_lstrip, f_cut_str, f_cut_lst, f_cut_tup, q_while, q_bm, isTy_str, isTy_lst, isTy_dic, q_part, partK_int, q_noPart, q_cut, q_range2, range2K_int, q_get2, get2K_dic, key_str, key_int, q_dict, q_pairs_nil, pairK_some, q_pairs_cons, q_app, appK_own, q_frz, frzK_own, frzK_val, frzK_no, q_aug, augK_val, f_ix_lst, f_ix_tup, f_ix_scr, f_ix_str, Int.reduceToNat, List.getD_cons_zero, List.getD_cons_succ, q_forN, Int.toNat_natCast, f_in_sign, f_neg_int, f_is_non, f_isNot_non, isNon_non, isNon_tup, isNon_int, isNon_str, isNon_lst, isNon_dic, isNon_bl, isNon_obj, isB_tuple_tup, isB_list_lst, isB_str_tup, isB_str_lst, isB_str_non, isB_tuple_non, u__law_due, b__law_due, hs]
  rfl
/-- what reading makes of what a stretch may mean -/
inductive Takes1 (Ψk : Fid → List D → M D) (cn : Nat) (st : Tx) : Option D → Option D → Prop
  | none : Takes1 Ψk cn st none none
  | unfit {v : D} (h : methO 2 (pure [v]) cn (tbl_fits Ψk cn) = pure (.bl false)) : Takes1 Ψk cn st (some v) none
  | other {v : D} {x : Tx} (h : methO 2 (pure [v]) cn (tbl_fits Ψk cn) = pure (.bl true)) (h2 : methO 2 (pure [v]) cn (tbl_marked Ψk cn) = pure (.str x)) (hx : x ≠ st) : Takes1 Ψk cn st (some v) none
  | same {v : D} (h : methO 2 (pure [v]) cn (tbl_fits Ψk cn) = pure (.bl true)) (h2 : methO 2 (pure [v]) cn (tbl_marked Ψk cn) = pure (.str st)) : Takes1 Ψk cn st (some v) (some v)
theorem s_read (k cn : Nat) (T st : Tx) (i : Nat) (pv m : Option D) (hl : T.length ≤ 100000) (hb : methO 3 (pure [.str T, .int (i : Int)]) cn (tbl_behind (Ψ k) cn) = pure (.int (((i + st.length : Nat)) : Int)))
    (hp : (T.drop i).take st.length = st) (hm : methO 2 (pure [.str st]) cn (tbl_meant (Ψ k) cn) = pure (.tup pv.toList)) (ht : Takes1 (Ψ k) cn st pv m) : Ψ (k + 1) .Way_read [.obj cn, .str T, .int (i : Int)] = pure (dueD i st m) := by
  have hc := cut_st' T st i hp
  cases ht with
  | none =>
    have hm : methO 2 (pure [.str st]) cn (tbl_meant (Ψ k) cn) = pure (.tup []) := hm
    simp (disch := (first | with_reducible assumption | omega | ((try simp only [q_sl, List.length_append, List.length_map, List.length_cons, List.length_nil, and_true, true_and]); first | omega | decide))) only [bnd_pure, q_runF, fin_nx, fin_rt, q_var0, q_vars, q_C, q_bin, q_chain, chainK_bl, q_tru, truK_bl, truK_int, truK_lst, truK_tup, truK_non, truK_str, q_test, tstK_bl, q_and, q_or, q_not, q_andV, q_orV, q_notV, q_ifE, q_un, q_nil, q_cons, q_tup, q_lst, q_callF, q_call, q_meth, methK_obj, methO_some, q_isB, q_items, itemsK_str, itemsK_lst, itemsK_tup, q_range1, rangeK_int, q_nop, q_seq, seqK_nx, seqK_rt, seqK_bk, seqK_ct, q_if, q_ret, q_retN, q_drop, q_set, q_setOwn, q_for, q_for_nil, forK_nx, forK_ct, forK_bk, forK_rt, gd_true, lf_some, f_add_int, f_add_str, f_add_lst, f_add_tup, f_sub_int, f_mul_r, f_mul_l, f_mod, f_div, f_eq_str, f_eq_int, f_eq_bl, f_ne_str, f_ne_int, f_ne_bl, f_lt, f_le, f_gt, f_ge, f_in_sign, f_notIn_sign, f_is_bl, f_len_str, f_len_lst, f_len_tup, f_len_scr, f_len_dic, f_int_bl, f_int_int, List.length_cons, List.length_nil, List.length_replicate, List.length_set, List.set_cons_zero, List.set_cons_succ, List.getElem?_cons_zero, List.getElem?_cons_succ, Nat.reduceAdd, Nat.reduceLT, Nat.zero_lt_succ, Nat.lt_add_one, if_true, if_false, Bool.not_true, Bool.not_false, Bool.false_eq_true, reduceIte, decide_true, decide_false, reduceCtorEq, List.cons.injEq, Nat.reduceEqDiff, and_true, true_and, and_false, false_and, isB_str_str, isB_str_int, isB_str_bl, isB_int_int, isB_bool_int, isB_bool_bl, isB_int_bl, isB_int_str, isB_bool_str, f_join_nil, f_join_signs, f_all_map, f_any_map, f_lstrip, f_cut_str, f_cut_lst, f_cut_tup, q_while, q_bm, isTy_str, isTy_lst, isTy_dic, q_part, partK_int, q_noPart, q_cut, q_range2, range2K_int, q_get2, get2K_dic, key_str, key_int, q_dict, q_pairs_nil, pairK_some, q_pairs_cons, q_app, appK_own, q_frz, frzK_own, frzK_val, frzK_no, q_aug, augK_val, f_ix_lst, f_ix_tup, f_ix_scr, f_ix_str, Int.reduceToNat, List.getD_cons_zero, List.getD_cons_succ, q_forN, Int.toNat_natCast, f_in_sign, f_neg_int, f_is_non, f_isNot_non, isNon_non, isNon_tup, isNon_int, isNon_str, isNon_lst, isNon_dic, isNon_bl, isNon_obj, isB_tuple_tup, isB_list_lst, isB_str_tup, isB_str_lst, isB_str_non, isB_tuple_non, u_Way_read, b_Way_read, hb, hc, hm]
    rfl
  | unfit h =>
    rename_i v
    have hm : methO 2 (pure [.str st]) cn (tbl_meant (Ψ k) cn) = pure (.tup [v]) := hm
    simp (disch := (first | with_reducible assumption | omega | ((try simp only [q_sl, List.length_append, List.length_map, List.length_cons, List.length_nil, and_true, true_and]); first | omega | decide))) only [bnd_pure, q_runF, fin_nx, fin_rt, q_var0, q_vars, q_C, q_bin, q_chain, chainK_bl, q_tru, truK_bl, truK_int, truK_lst, truK_tup, truK_non, truK_str, q_test, tstK_bl, q_and, q_or, q_not, q_andV, q_orV, q_notV, q_ifE, q_un, q_nil, q_cons, q_tup, q_lst, q_callF, q_call, q_meth, methK_obj, methO_some, q_isB, q_items, itemsK_str, itemsK_lst, itemsK_tup, q_range1, rangeK_int, q_nop, q_seq, seqK_nx, seqK_rt, seqK_bk, seqK_ct, q_if, q_ret, q_retN, q_drop, q_set, q_setOwn, q_for, q_for_nil, forK_nx, forK_ct, forK_bk, forK_rt, gd_true, lf_some, f_add_int, f_add_str, f_add_lst, f_add_tup, f_sub_int, f_mul_r, f_mul_l, f_mod, f_div, f_eq_str, f_eq_int, f_eq_bl, f_ne_str, f_ne_int, f_ne_bl, f_lt, f_le, f_gt, f_ge, f_in_sign, f_notIn_sign, f_is_bl, f_len_str, f_len_lst, f_len_tup, f_len_scr, f_len_dic, f_int_bl, f_int_int, List.length_cons, List.length_nil, List.length_replicate, List.length_set, List.set_cons_zero, List.set_cons_succ, List.getElem?_cons_zero, List.getElem?_cons_succ, Nat.reduceAdd, Nat.reduceLT, Nat.zero_lt_succ, Nat.lt_add_one, if_true, if_false, Bool.not_true, Bool.not_false, Bool.false_eq_true, reduceIte, decide_true, decide_false, reduceCtorEq, List.cons.injEq, Nat.reduceEqDiff, and_true, true_and, and_false, false_and, isB_str_str, isB_str_int, isB_str_bl, isB_int_int, isB_bool_int, isB_bool_bl, isB_int_bl, isB_int_str, isB_bool_str, f_join_nil, f_join_signs, f_all_map, f_any_map, f_lstrip, f_cut_str, f_cut_lst, f_cut_tup, q_while, q_bm, isTy_str, isTy_lst, isTy_dic, q_part, partK_int, q_noPart, q_cut, q_range2, range2K_int, q_get2, get2K_dic, key_str, key_int, q_dict, q_pairs_nil, pairK_some, q_pairs_cons, q_app, appK_own, q_frz, frzK_own, frzK_val, frzK_no, q_aug, augK_val, f_ix_lst, f_ix_tup, f_ix_scr, f_ix_str, Int.reduceToNat, List.getD_cons_zero, List.getD_cons_succ, q_forN, Int.toNat_natCast, f_in_sign, f_neg_int, f_is_non, f_isNot_non, isNon_non, isNon_tup, isNon_int, isNon_str, isNon_lst, isNon_dic, isNon_bl, isNon_obj, isB_tuple_tup, isB_list_lst, isB_str_tup, isB_str_lst, isB_str_non, isB_tuple_non, u_Way_read, b_Way_read, hb, hc, hm, l_Way_read_0, h]
    rfl
  | other h h2 hx =>
    rename_i v x
    have hm : methO 2 (pure [.str st]) cn (tbl_meant (Ψ k) cn) = pure (.tup [v]) := hm
    simp (disch := (first | with_reducible assumption | omega | ((try simp only [q_sl, List.length_append, List.length_map, List.length_cons, List.length_nil, and_true, true_and]); first | omega | decide))) only [bnd_pure, q_runF, fin_nx, fin_rt, q_var0, q_vars, q_C, q_bin, q_chain, chainK_bl, q_tru, truK_bl, truK_int, truK_lst, truK_tup, truK_non, truK_str, q_test, tstK_bl, q_and, q_or, q_not, q_andV, q_orV, q_notV, q_ifE, q_un, q_nil, q_cons, q_tup, q_lst, q_callF, q_call, q_meth, methK_obj, methO_some, q_isB, q_items, itemsK_str, itemsK_lst, itemsK_tup, q_range1, rangeK_int, q_nop, q_seq, seqK_nx, seqK_rt, seqK_bk, seqK_ct, q_if, q_ret, q_retN, q_drop, q_set, q_setOwn, q_for, q_for_nil, forK_nx, forK_ct, forK_bk, forK_rt, gd_true, lf_some, f_add_int, f_add_str, f_add_lst, f_add_tup, f_sub_int, f_mul_r, f_mul_l, f_mod, f_div, f_eq_str, f_eq_int, f_eq_bl, f_ne_str, f_ne_int, f_ne_bl, f_lt, f_le, f_gt, f_ge, f_in_sign, f_notIn_sign, f_is_bl, f_len_str, f_len_lst, f_len_tup, f_len_scr, f_len_dic, f_int_bl, f_int_int, List.length_cons, List.length_nil, List.length_replicate, List.length_set, List.set_cons_zero, List.set_cons_succ, List.getElem?_cons_zero, List.getElem?_cons_succ, Nat.reduceAdd, Nat.reduceLT, Nat.zero_lt_succ, Nat.lt_add_one, if_true, if_false, Bool.not_true, Bool.not_false, Bool.false_eq_true, reduceIte, decide_true, decide_false, reduceCtorEq, List.cons.injEq, Nat.reduceEqDiff, and_true, true_and, and_false, false_and, isB_str_str, isB_str_int, isB_str_bl, isB_int_int, isB_bool_int, isB_bool_bl, isB_int_bl, isB_int_str, isB_bool_str, f_join_nil, f_join_signs, f_all_map, f_any_map, f_lstrip, f_cut_str, f_cut_lst, f_cut_tup, q_while, q_bm, isTy_str, isTy_lst, isTy_dic, q_part, partK_int, q_noPart, q_cut, q_range2, range2K_int, q_get2, get2K_dic, key_str, key_int, q_dict, q_pairs_nil, pairK_some, q_pairs_cons, q_app, appK_own, q_frz, frzK_own, frzK_val, frzK_no, q_aug, augK_val, f_ix_lst, f_ix_tup, f_ix_scr, f_ix_str, Int.reduceToNat, List.getD_cons_zero, List.getD_cons_succ, q_forN, Int.toNat_natCast, f_in_sign, f_neg_int, f_is_non, f_isNot_non, isNon_non, isNon_tup, isNon_int, isNon_str, isNon_lst, isNon_dic, isNon_bl, isNon_obj, isB_tuple_tup, isB_list_lst, isB_str_tup, isB_str_lst, isB_str_non, isB_tuple_non, u_Way_read, b_Way_read, hb, hc, hm, l_Way_read_0, h, h2, hx]
    rfl
  | same h h2 =>
    rename_i v
    have hm : methO 2 (pure [.str st]) cn (tbl_meant (Ψ k) cn) = pure (.tup [v]) := hm
    simp (disch := (first | with_reducible assumption | omega | ((try simp only [q_sl, List.length_append, List.length_map, List.length_cons, List.length_nil, and_true, true_and]); first | omega | decide))) only [bnd_pure, q_runF, fin_nx, fin_rt, q_var0, q_vars, q_C, q_bin, q_chain, chainK_bl, q_tru, truK_bl, truK_int, truK_lst, truK_tup, truK_non, truK_str, q_test, tstK_bl, q_and, q_or, q_not, q_andV, q_orV, q_notV, q_ifE, q_un, q_nil, q_cons, q_tup, q_lst, q_callF, q_call, q_meth, methK_obj, methO_some, q_isB, q_items, itemsK_str, itemsK_lst, itemsK_tup, q_range1, rangeK_int, q_nop, q_seq, seqK_nx, seqK_rt, seqK_bk, seqK_ct, q_if, q_ret, q_retN, q_drop, q_set, q_setOwn, q_for, q_for_nil, forK_nx, forK_ct, forK_bk, forK_rt, gd_true, lf_some, f_add_int, f_add_str, f_add_lst, f_add_tup, f_sub_int, f_mul_r, f_mul_l, f_mod, f_div, f_eq_str, f_eq_int, f_eq_bl, f_ne_str, f_ne_int, f_ne_bl, f_lt, f_le, f_gt, f_ge, f_in_sign, f_notIn_sign, f_is_bl, f_len_str, f_len_lst, f_len_tup, f_len_scr, f_len_dic, f_int_bl, f_int_int, List.length_cons, List.length_nil, List.length_replicate, List.length_set, List.set_cons_zero, List.set_cons_succ, List.getElem?_cons_zero, List.getElem?_cons_succ, Nat.reduceAdd, Nat.reduceLT, Nat.zero_lt_succ, Nat.lt_add_one, if_true, if_false, Bool.not_true, Bool.not_false, Bool.false_eq_true, reduceIte, decide_true, decide_false, reduceCtorEq, List.cons.injEq, Nat.reduceEqDiff, and_true, true_and, and_false, false_and, isB_str_str, isB_str_int, isB_str_bl, isB_int_int, isB_bool_int, isB_bool_bl, isB_int_bl, isB_int_str, isB_bool_str, f_join_nil, f_join_signs, f_all_map, f_any_map, f_lstrip, f_cut_str, f_cut_lst, f_cut_tup, q_while, q_bm, isTy_str, isTy_lst, isTy_dic, q_part, partK_int, q_noPart, q_cut, q_range2, range2K_int, q_get2, get2K_dic, key_str, key_int, q_dict, q_pairs_nil, pairK_some, q_pairs_cons, q_app, appK_own, q_frz, frzK_own, frzK_val, frzK_no, q_aug, augK_val, f_ix_lst, f_ix_tup, f_ix_scr, f_ix_str, Int.reduceToNat, List.getD_cons_zero, List.getD_cons_succ, q_forN, Int.toNat_natCast, f_in_sign, f_neg_int, f_is_non, f_isNot_non, isNon_non, isNon_tup, isNon_int, isNon_str, isNon_lst, isNon_dic, isNon_bl, isNon_obj, isB_tuple_tup, isB_list_lst, isB_str_tup, isB_str_lst, isB_str_non, isB_tuple_non, u_Way_read, b_Way_read, hb, hc, hm, l_Way_read_0, h, h2]
    rfl
theorem s_read_none (k cn : Nat) (T : Tx) (i : Nat) (hb : methO 3 (pure [.str T, .int (i : Int)]) cn (tbl_behind (Ψ k) cn) = pure .non) : Ψ (k + 1) .Way_read [.obj cn, .str T, .int (i : Int)] = pure .non := by
  simp (disch := (first | with_reducible assumption | omega | ((try simp only [q_sl, List.length_append, List.length_map, List.length_cons, List.length_nil, and_true, true_and]); first | omega | decide))) only [bnd_pure, q_runF, fin_nx, fin_rt, q_var0, q_vars, q_C, q_bin, q_chain, chainK_bl, q_tru, truK_bl, truK_int, truK_lst, truK_tup, truK_non, truK_str, q_test, tstK_bl, q_and, q_or, q_not, q_andV, q_orV, q_notV, q_ifE, q_un, q_nil, q_cons, q_tup, q_lst, q_callF, q_call, q_meth, methK_obj, methO_some, q_isB, q_items, itemsK_str, itemsK_lst, itemsK_tup, q_range1, rangeK_int, q_nop, q_seq, seqK_nx, seqK_rt, seqK_bk, seqK_ct, q_if, q_ret, q_retN, q_drop, q_set, q_setOwn, q_for, q_for_nil, forK_nx, forK_ct, forK_bk, forK_rt, gd_true, lf_some, f_add_int, f_add_str, f_add_lst, f_add_tup, f_sub_int, f_mul_r, f_mul_l, f_mod, f_div, f_eq_str, f_eq_int, f_eq_bl, f_ne_str, f_ne_int, f_ne_bl, f_lt, f_le, f_gt, f_ge, f_in_sign, f_notIn_sign, f_is_bl, f_len_str, f_len_lst, f_len_tup, f_len_scr, f_len_dic, f_int_bl, f_int_int, List.length_cons, List.length_nil, List.length_replicate, List.length_set, List.set_cons_zero, List.set_cons_succ, List.getElem?_cons_zero, List.getElem?_cons_succ, Nat.reduceAdd, Nat.reduceLT, Nat.zero_lt_succ, Nat.lt_add_one, if_true, if_false, Bool.not_true, Bool.not_false, Bool.false_eq_true, reduceIte, decide_true, decide_false, reduceCtorEq, List.cons.injEq, Nat.reduceEqDiff, and_true, true_and, and_false, false_and, isB_str_str, isB_str_int, isB_str_bl, isB_int_int, isB_bool_int, isB_bool_bl, isB_int_bl, isB_int_str, isB_bool_str, f_join_nil, f_join_signs, f_all_map, f_any_map, f_lstrip, f_cut_str, f_cut_lst, f_cut_tup, q_while, q_bm, isTy_str, isTy_lst, isTy_dic, q_part, partK_int, q_noPart, q_cut, q_range2, range2K_int, q_get2, get2K_dic, key_str, key_int, q_dict, q_pairs_nil, pairK_some, q_pairs_cons, q_app, appK_own, q_frz, frzK_own, frzK_val, frzK_no, q_aug, augK_val, f_ix_lst, f_ix_tup, f_ix_scr, f_ix_str, Int.reduceToNat, List.getD_cons_zero, List.getD_cons_succ, q_forN, Int.toNat_natCast, f_in_sign, f_neg_int, f_is_non, f_isNot_non, isNon_non, isNon_tup, isNon_int, isNon_str, isNon_lst, isNon_dic, isNon_bl, isNon_obj, isB_tuple_tup, isB_list_lst, isB_str_tup, isB_str_lst, isB_str_non, isB_tuple_non, u_Way_read, b_Way_read, hb]
/-! _law_same -/
theorem s_law_whole (k : Nat) (j : Int) : Ψ (k + 1) ._law_whole [.int j] = pure (.bl true) := by
  simp (disch := (first | with_reducible assumption | omega | ((try simp only [q_sl, List.length_append, List.length_map, List.length_cons, List.length_nil, and_true, true_and]); first | omega | decide))) only [bnd_pure, q_runF, fin_nx, fin_rt, q_var0, q_vars, q_C, q_bin, q_chain, chainK_bl, q_tru, truK_bl, truK_int, truK_lst, truK_tup, truK_non, truK_str, q_test, tstK_bl, q_and, q_or, q_not, q_andV, q_orV, q_notV, q_ifE, q_un, q_nil, q_cons, q_tup, q_lst, q_callF, q_call, q_meth, methK_obj, methO_some, q_isB, q_items, itemsK_str, itemsK_lst, itemsK_tup, q_range1, rangeK_int, q_nop, q_seq, seqK_nx, seqK_rt, seqK_bk, seqK_ct, q_if, q_ret, q_retN, q_drop, q_set, q_setOwn, q_for, q_for_nil, forK_nx, forK_ct, forK_bk, forK_rt, gd_true, lf_some, f_add_int, f_add_str, f_add_lst, f_add_tup, f_sub_int, f_mul_r, f_mul_l, f_mod, f_div, f_eq_str, f_eq_int, f_eq_bl, f_ne_str, f_ne_int, f_ne_bl, f_lt, f_le, f_gt, f_ge, f_in_sign, f_notIn_sign, f_is_bl, f_len_str, f_len_lst, f_len_tup, f_len_scr, f_len_dic, f_int_bl, f_int_int, List.length_cons, List.length_nil, List.length_replicate, List.length_set, List.set_cons_zero, List.set_cons_succ, List.getElem?_cons_zero, List.getElem?_cons_succ, Nat.reduceAdd, Nat.reduceLT, Nat.zero_lt_succ, Nat.lt_add_one, if_true, if_false, Bool.not_true, Bool.not_false, Bool.false_eq_true, reduceIte, decide_true, decide_false, reduceCtorEq, List.cons.injEq, Nat.reduceEqDiff, and_true, true_and, and_false, false_and, isB_str_str, isB_str_int, isB_str_bl, isB_int_int, isB_bool_int, isB_bool_bl, isB_int_bl, isB_int_str, isB_bool_str, f_join_nil, f_join_signs, f_all_map, f_any_map, f_lstrip, f_cut_str, f_cut_lst, f_cut_tup, q_while, q_bm, isTy_str, isTy_lst, isTy_dic, q_part, partK_int, q_noPart, q_cut, q_range2, range2K_int, q_get2, get2K_dic, key_str, key_int, q_dict, q_pairs_nil, pairK_some, q_pairs_cons, q_app, appK_own, q_frz, frzK_own, frzK_val, frzK_no, q_aug, augK_val, f_ix_lst, f_ix_tup, f_ix_scr, f_ix_str, Int.reduceToNat, List.getD_cons_zero, List.getD_cons_succ, q_forN, Int.toNat_natCast, f_in_sign, f_neg_int, f_is_non, f_isNot_non, isNon_non, isNon_tup, isNon_int, isNon_str, isNon_lst, isNon_dic, isNon_bl, isNon_obj, isB_tuple_tup, isB_list_lst, isB_str_tup, isB_str_lst, isB_str_non, isB_tuple_non, u__law_whole, b__law_whole]
theorem s_same_none (k : Nat) : Ψ (k + 1) ._law_same [.non, .non] = pure (.bl true) := by
  simp (disch := (first | with_reducible assumption | omega | ((try simp only [q_sl, List.length_append, List.length_map, List.length_cons, List.length_nil, and_true, true_and]); first | omega | decide))) only [bnd_pure, q_runF, fin_nx, fin_rt, q_var0, q_vars, q_C, q_bin, q_chain, chainK_bl, q_tru, truK_bl, truK_int, truK_lst, truK_tup, truK_non, truK_str, q_test, tstK_bl, q_and, q_or, q_not, q_andV, q_orV, q_notV, q_ifE, q_un, q_nil, q_cons, q_tup, q_lst, q_callF, q_call, q_meth, methK_obj, methO_some, q_isB, q_items, itemsK_str, itemsK_lst, itemsK_tup, q_range1, rangeK_int, q_nop, q_seq, seqK_nx, seqK_rt, seqK_bk, seqK_ct, q_if, q_ret, q_retN, q_drop, q_set, q_setOwn, q_for, q_for_nil, forK_nx, forK_ct, forK_bk, forK_rt, gd_true, lf_some, f_add_int, f_add_str, f_add_lst, f_add_tup, f_sub_int, f_mul_r, f_mul_l, f_mod, f_div, f_eq_str, f_eq_int, f_eq_bl, f_ne_str, f_ne_int, f_ne_bl, f_lt, f_le, f_gt, f_ge, f_in_sign, f_notIn_sign, f_is_bl, f_len_str, f_len_lst, f_len_tup, f_len_scr, f_len_dic, f_int_bl, f_int_int, List.length_cons, List.length_nil, List.length_replicate, List.length_set, List.set_cons_zero, List.set_cons_succ, List.getElem?_cons_zero, List.getElem?_cons_succ, Nat.reduceAdd, Nat.reduceLT, Nat.zero_lt_succ, Nat.lt_add_one, if_true, if_false, Bool.not_true, Bool.not_false, Bool.false_eq_true, reduceIte, decide_true, decide_false, reduceCtorEq, List.cons.injEq, Nat.reduceEqDiff, and_true, true_and, and_false, false_and, isB_str_str, isB_str_int, isB_str_bl, isB_int_int, isB_bool_int, isB_bool_bl, isB_int_bl, isB_int_str, isB_bool_str, f_join_nil, f_join_signs, f_all_map, f_any_map, f_lstrip, f_cut_str, f_cut_lst, f_cut_tup, q_while, q_bm, isTy_str, isTy_lst, isTy_dic, q_part, partK_int, q_noPart, q_cut, q_range2, range2K_int, q_get2, get2K_dic, key_str, key_int, q_dict, q_pairs_nil, pairK_some, q_pairs_cons, q_app, appK_own, q_frz, frzK_own, frzK_val, frzK_no, q_aug, augK_val, f_ix_lst, f_ix_tup, f_ix_scr, f_ix_str, Int.reduceToNat, List.getD_cons_zero, List.getD_cons_succ, q_forN, Int.toNat_natCast, f_in_sign, f_neg_int, f_is_non, f_isNot_non, isNon_non, isNon_tup, isNon_int, isNon_str, isNon_lst, isNon_dic, isNon_bl, isNon_obj, isB_tuple_tup, isB_list_lst, isB_str_tup, isB_str_lst, isB_str_non, isB_tuple_non, u__law_same, b__law_same]
def okV (v : D) : Prop := v.fine 0 = true ∧ ((∃ s, v = .str s) ∨ ∃ i, v = .int i)
theorem s_same_some (k : Nat) (v : D) (j : Int) (h : okV v) : Ψ (k + 2) ._law_same [.tup [v, .int j], .tup [v, .int j]] = pure (.bl true) := by
  have e := f_eq_self (fine_ok (fine_tup2 (j := j) h.1) (by decide))
  have e0 : fIx (.tup [v, .int j]) (.int 0) = pure v := rfl
  have e1 : fIx (.tup [v, .int j]) (.int 1) = pure (.int j) := rfl
  have c2 : ((2 : Nat) : Int) = 2 := rfl
  rcases h.2 with ⟨s, rfl⟩ | ⟨n, rfl⟩
  · simp (disch := (first | with_reducible assumption | omega | ((try simp only [q_sl, List.length_append, List.length_map, List.length_cons, List.length_nil, and_true, true_and]); first | omega | decide))) only [bnd_pure, q_runF, fin_nx, fin_rt, q_var0, q_vars, q_C, q_bin, q_chain, chainK_bl, q_tru, truK_bl, truK_int, truK_lst, truK_tup, truK_non, truK_str, q_test, tstK_bl, q_and, q_or, q_not, q_andV, q_orV, q_notV, q_ifE, q_un, q_nil, q_cons, q_tup, q_lst, q_callF, q_call, q_meth, methK_obj, methO_some, q_isB, q_items, itemsK_str, itemsK_lst, itemsK_tup, q_range1, rangeK_int, q_nop, q_seq, seqK_nx, seqK_rt, seqK_bk, seqK_ct, q_if, q_ret, q_retN, q_drop, q_set, q_setOwn, q_for, q_for_nil, forK_nx, forK_ct, forK_bk, forK_rt, gd_true, lf_some, f_add_int, f_add_str, f_add_lst, f_add_tup, f_sub_int, f_mul_r, f_mul_l, f_mod, f_div, f_eq_str, f_eq_int, f_eq_bl, f_ne_str, f_ne_int, f_ne_bl, f_lt, f_le, f_gt, f_ge, f_in_sign, f_notIn_sign, f_is_bl, f_len_str, f_len_lst, f_len_tup, f_len_scr, f_len_dic, f_int_bl, f_int_int, List.length_cons, List.length_nil, List.length_replicate, List.length_set, List.set_cons_zero, List.set_cons_succ, List.getElem?_cons_zero, List.getElem?_cons_succ, Nat.reduceAdd, Nat.reduceLT, Nat.zero_lt_succ, Nat.lt_add_one, if_true, if_false, Bool.not_true, Bool.not_false, Bool.false_eq_true, reduceIte, decide_true, decide_false, reduceCtorEq, List.cons.injEq, Nat.reduceEqDiff, and_true, true_and, and_false, false_and, isB_str_str, isB_str_int, isB_str_bl, isB_int_int, isB_bool_int, isB_bool_bl, isB_int_bl, isB_int_str, isB_bool_str, f_join_nil, f_join_signs, f_all_map, f_any_map, f_lstrip, f_cut_str, f_cut_lst, f_cut_tup, q_while, q_bm, isTy_str, isTy_lst, isTy_dic, q_part, partK_int, q_noPart, q_cut, q_range2, range2K_int, q_get2, get2K_dic, key_str, key_int, q_dict, q_pairs_nil, pairK_some, q_pairs_cons, q_app, appK_own, q_frz, frzK_own, frzK_val, frzK_no, q_aug, augK_val, f_ix_lst, f_ix_tup, f_ix_scr, f_ix_str, Int.reduceToNat, List.getD_cons_zero, List.getD_cons_succ, q_forN, Int.toNat_natCast, f_in_sign, f_neg_int, f_is_non, f_isNot_non, isNon_non, isNon_tup, isNon_int, isNon_str, isNon_lst, isNon_dic, isNon_bl, isNon_obj, isB_tuple_tup, isB_list_lst, isB_str_tup, isB_str_lst, isB_str_non, isB_tuple_non, u__law_same, b__law_same, e, e0, e1, s_law_whole, c2]
  · simp (disch := (first | with_reducible assumption | omega | ((try simp only [q_sl, List.length_append, List.length_map, List.length_cons, List.length_nil, and_true, true_and]); first | omega | decide))) only [bnd_pure, q_runF, fin_nx, fin_rt, q_var0, q_vars, q_C, q_bin, q_chain, chainK_bl, q_tru, truK_bl, truK_int, truK_lst, truK_tup, truK_non, truK_str, q_test, tstK_bl, q_and, q_or, q_not, q_andV, q_orV, q_notV, q_ifE, q_un, q_nil, q_cons, q_tup, q_lst, q_callF, q_call, q_meth, methK_obj, methO_some, q_isB, q_items, itemsK_str, itemsK_lst, itemsK_tup, q_range1, rangeK_int, q_nop, q_seq, seqK_nx, seqK_rt, seqK_bk, seqK_ct, q_if, q_ret, q_retN, q_drop, q_set, q_setOwn, q_for, q_for_nil, forK_nx, forK_ct, forK_bk, forK_rt, gd_true, lf_some, f_add_int, f_add_str, f_add_lst, f_add_tup, f_sub_int, f_mul_r, f_mul_l, f_mod, f_div, f_eq_str, f_eq_int, f_eq_bl, f_ne_str, f_ne_int, f_ne_bl, f_lt, f_le, f_gt, f_ge, f_in_sign, f_notIn_sign, f_is_bl, f_len_str, f_len_lst, f_len_tup, f_len_scr, f_len_dic, f_int_bl, f_int_int, List.length_cons, List.length_nil, List.length_replicate, List.length_set, List.set_cons_zero, List.set_cons_succ, List.getElem?_cons_zero, List.getElem?_cons_succ, Nat.reduceAdd, Nat.reduceLT, Nat.zero_lt_succ, Nat.lt_add_one, if_true, if_false, Bool.not_true, Bool.not_false, Bool.false_eq_true, reduceIte, decide_true, decide_false, reduceCtorEq, List.cons.injEq, Nat.reduceEqDiff, and_true, true_and, and_false, false_and, isB_str_str, isB_str_int, isB_str_bl, isB_int_int, isB_bool_int, isB_bool_bl, isB_int_bl, isB_int_str, isB_bool_str, f_join_nil, f_join_signs, f_all_map, f_any_map, f_lstrip, f_cut_str, f_cut_lst, f_cut_tup, q_while, q_bm, isTy_str, isTy_lst, isTy_dic, q_part, partK_int, q_noPart, q_cut, q_range2, range2K_int, q_get2, get2K_dic, key_str, key_int, q_dict, q_pairs_nil, pairK_some, q_pairs_cons, q_app, appK_own, q_frz, frzK_own, frzK_val, frzK_no, q_aug, augK_val, f_ix_lst, f_ix_tup, f_ix_scr, f_ix_str, Int.reduceToNat, List.getD_cons_zero, List.getD_cons_succ, q_forN, Int.toNat_natCast, f_in_sign, f_neg_int, f_is_non, f_isNot_non, isNon_non, isNon_tup, isNon_int, isNon_str, isNon_lst, isNon_dic, isNon_bl, isNon_obj, isB_tuple_tup, isB_list_lst, isB_str_tup, isB_str_lst, isB_str_non, isB_tuple_non, u__law_same, b__law_same, e, e0, e1, s_law_whole, c2]
theorem s_same (k i : Nat) (st : Tx) (m : Option D) (h : ∀ v, m = some v → okV v) : Ψ (k + 2) ._law_same [dueD i st m, dueD i st m] = pure (.bl true) := by
  cases m with
  | none => exact s_same_none (k + 1)
  | some v => exact s_same_some k v _ (h v rfl)
end K02.Ma
end
section
set_option linter.all false
set_option maxRecDepth 100000
namespace K02.Ma
open PySem L2 DL
variable {Ψ : Nat → Fid → List D → M D} [IsΦ Ψ]
theorem takes_text (k cn mk : Nat) (ps : List (Nat × Nat)) (hcd : Cd mk ps) (wrap : Tx → Tx) (hw : ∀ a b, wrap a = wrap b → a = b) (x : Tx) (hx : ∀ c ∈ x, c ∈ c_SIGNS) (hps : ∀ q ∈ ps, q.1 ∈ c_SIGNS) (hl : x.length ≤ 100000)
    (hfit : ∀ v : Tx, v.length ≤ 16000000 → methO 2 (pure [.str v]) cn (tbl_fits (Ψ k) cn) = pure (.bl (decide (v.length ≤ 400) && v.all fun c => decide (c ∈ c_SIGNS))))
    (hmark : ∀ v : Tx, v.length ≤ 400 → methO 2 (pure [.str v]) cn (tbl_marked (Ψ k) cn) = pure (.str (wrap (v.flatMap (encS mk ps))))) : Takes1 (Ψ k) cn (wrap x) ((dec mk ps x).map .str) (mT mk ps x) := by
  have hi := fun v => ldec_iff hcd x.length x v (Nat.le_refl _)
  cases q : dec mk ps x with
  | none =>
    have : mT mk ps x = none := by
      unfold mT
      cases q2 : ldec mk ps x with
      | none => rfl
      | some v =>
        have := ((hi v).mp q2).1
        rw [q] at this
        cases this
    rw [this]
    exact .none
  | some v =>
    have hv := dec_len _ _ _ (Nat.le_refl _) q
    have hs : (v.all fun c => decide (c ∈ c_SIGNS)) = true := by
      rw [List.all_eq_true]
      intro c hc
      rcases dec_mem _ _ _ (Nat.le_refl _) q c hc with h | ⟨p, hp, rfl⟩
      · exact decide_eq_true (hx c h)
      · exact decide_eq_true (hps p hp)
    have hf := hfit v (by omega)
    rw [hs, Bool.and_true] at hf
    show Takes1 (Ψ k) cn (wrap x) (some (.str v)) (mT mk ps x)
    by_cases h4 : v.length ≤ 400
    · rw [decide_eq_true h4] at hf
      by_cases he : v.flatMap (encS mk ps) = x
      · have : mT mk ps x = some (.str v) := by
          unfold mT
          rw [(hi v).mpr ⟨q, he⟩]
          simp [h4]
        rw [this]
        exact .same hf (by rw [hmark v h4, he])
      · have : mT mk ps x = none := by
          unfold mT
          cases q2 : ldec mk ps x with
          | none => rfl
          | some u =>
            have hu := (hi u).mp q2
            rw [q] at hu
            cases hu.1
            exact absurd hu.2 he
        rw [this]
        exact .other hf (hmark v h4) fun z => he (hw _ _ z)
    · rw [decide_eq_false h4] at hf
      have : mT mk ps x = none := by
        unfold mT
        cases q2 : ldec mk ps x with
        | none => rfl
        | some u =>
          have hu := (hi u).mp q2
          rw [q] at hu
          cases hu.1
          simp [h4]
      rw [this]
      exact .unfit hf
theorem mT_ok {mk : Nat} {ps : List (Nat × Nat)} (hcd : Cd mk ps) {x : Tx} (hx : ∀ c ∈ x, c ∈ c_SIGNS) (hps : ∀ q ∈ ps, q.1 ∈ c_SIGNS) : ∀ v, mT mk ps x = some v → okV v := by
  intro v h
  unfold mT at h
  cases q : ldec mk ps x with
  | none => rw [q] at h; cases h
  | some u =>
    rw [q] at h
    have h : (if u.length ≤ 400 then some (D.str u) else none) = some v := h
    by_cases h4 : u.length ≤ 400
    · rw [if_pos h4] at h
      cases h
      refine ⟨?_, .inl ⟨u, rfl⟩⟩
      show (u.all fun c => decide (c < 0x110000)) = true
      rw [List.all_eq_true]
      intro c hc
      have : c ∈ c_SIGNS := by
        rcases dec_mem _ _ _ (Nat.le_refl _) ((ldec_iff hcd _ _ _ (Nat.le_refl _)).mp q).1 c hc with h | ⟨p, hp, rfl⟩
        · exact hx c h
        · exact hps p hp
      have q2 : ∀ c ∈ c_SIGNS, c < 0x110000 := by decide
      exact decide_eq_true (q2 c this)
    · rw [if_neg h4] at h
      cases h
theorem psQ_s : ∀ q ∈ psQ, q.1 ∈ c_SIGNS := by decide
theorem psP_s : ∀ q ∈ psP, q.1 ∈ c_SIGNS := by decide
theorem psL_s : ∀ q ∈ psL, q.1 ∈ c_SIGNS := by decide
/-- what is told of a place, by a way: 0 word .. 4 line -/
def spanT (e T : Tx) (i : Nat) : Tx := (T.drop i).takeWhile fun c => !decide (c ∈ e)
theorem spanT_pre (e T : Tx) (i : Nat) : (T.drop i).take (spanT e T i).length = spanT e T i := take_tw _ _
theorem spanT_len (e T : Tx) (i : Nat) : i + span (fun c => !decide (c ∈ e)) T i = i + (spanT e T i).length := rfl
theorem mem_tw {p : Nat → Bool} {c : Nat} : ∀ {x : Tx}, c ∈ x.takeWhile p → p c = true
  | [], h => by cases h
  | a :: r, h => by
    by_cases ha : p a = true
    · rw [List.takeWhile_cons_of_pos ha] at h
      rcases List.mem_cons.mp h with rfl | h
      · exact ha
      · exact mem_tw h
    · rw [List.takeWhile_cons_of_neg ha] at h
      cases h
theorem spanT_mem {e T : Tx} {i c : Nat} (h : c ∈ spanT e T i) : c ∈ T ∧ c ∉ e := by
  refine ⟨List.mem_of_mem_drop ((List.takeWhile_sublist _).subset h), ?_⟩
  have := mem_tw h
  simpa using this
def Good (T : Tx) : Prop := T.length ≤ 50000 ∧ ∀ c ∈ T, c ∈ c_SIGNS
theorem mul_word (k : Nat) (T : Tx) (i : Nat) (hT : Good T) (hi : i ≤ T.length) : Ψ (k + 6) .Way_read [.obj 4, .str T, .int (i : Int)] = pure (dueD i (spanT e_w T i) (mW (spanT e_w T i))) ∧ Ψ (k + 6) ._law_due [.str w_word, .str T, .int (i : Int)] = pure (dueD i (spanT e_w T i) (mW (spanT e_w T i))) := by
  have hl := hT.1
  have hst : (spanT e_w T i).length ≤ 50000 := Nat.le_trans ((List.takeWhile_sublist _).length_le) (by rw [List.length_drop]; omega)
  have hal : ∀ c ∈ spanT e_w T i, c ∈ c_AL := by
    intro c hc
    obtain ⟨h1, h2⟩ := spanT_mem hc
    have h3 := hT.2 c h1
    refine Classical.byContradiction fun z => h2 ?_
    unfold e_w
    simp [List.mem_filter, h3, z]
  have hfine : ∀ v, mW (spanT e_w T i) = some v → v.fine 0 = true := by
    intro v hv
    unfold mW at hv
    split at hv
    · cases hv
      show (List.all _ _) = true
      rw [List.all_eq_true]
      intro c hc
      have q2 : ∀ c ∈ c_SIGNS, c < 0x110000 := by decide
      exact decide_eq_true (q2 c (hT.2 c (spanT_mem hc).1))
    · cases hv
  constructor
  · refine s_read (k + 5) 4 T (spanT e_w T i) i (some (.str (spanT e_w T i))) _ (by omega) ?_ (spanT_pre _ _ _) ?_ ?_
    · simp (disch := (first | with_reducible assumption | omega | ((try simp only [q_sl, List.length_append, List.length_map, List.length_cons, List.length_nil, and_true, true_and]); first | omega | decide))) only [bnd_pure, q_runF, fin_nx, fin_rt, q_var0, q_vars, q_C, q_bin, q_chain, chainK_bl, q_tru, truK_bl, truK_int, truK_lst, truK_tup, truK_non, truK_str, q_test, tstK_bl, q_and, q_or, q_not, q_andV, q_orV, q_notV, q_ifE, q_un, q_nil, q_cons, q_tup, q_lst, q_callF, q_call, q_meth, methK_obj, methO_some, q_isB, q_items, itemsK_str, itemsK_lst, itemsK_tup, q_range1, rangeK_int, q_nop, q_seq, seqK_nx, seqK_rt, seqK_bk, seqK_ct, q_if, q_ret, q_retN, q_drop, q_set, q_setOwn, q_for, q_for_nil, forK_nx, forK_ct, forK_bk, forK_rt, gd_true, lf_some, f_add_int, f_add_str, f_add_lst, f_add_tup, f_sub_int, f_mul_r, f_mul_l, f_mod, f_div, f_eq_str, f_eq_int, f_eq_bl, f_ne_str, f_ne_int, f_ne_bl, f_lt, f_le, f_gt, f_ge, f_in_sign, f_notIn_sign, f_is_bl, f_len_str, f_len_lst, f_len_tup, f_len_scr, f_len_dic, f_int_bl, f_int_int, List.length_cons, List.length_nil, List.length_replicate, List.length_set, List.set_cons_zero, List.set_cons_succ, List.getElem?_cons_zero, List.getElem?_cons_succ, Nat.reduceAdd, Nat.reduceLT, Nat.zero_lt_succ, Nat.lt_add_one, if_true, if_false, Bool.not_true, Bool.not_false, Bool.false_eq_true, reduceIte, decide_true, decide_false, reduceCtorEq, List.cons.injEq, Nat.reduceEqDiff, and_true, true_and, and_false, false_and, isB_str_str, isB_str_int, isB_str_bl, isB_int_int, isB_bool_int, isB_bool_bl, isB_int_bl, isB_int_str, isB_bool_str, f_join_nil, f_join_signs, f_all_map, f_any_map, f_lstrip, f_cut_str, f_cut_lst, f_cut_tup, q_while, q_bm, isTy_str, isTy_lst, isTy_dic, q_part, partK_int, q_noPart, q_cut, q_range2, range2K_int, q_get2, get2K_dic, key_str, key_int, q_dict, q_pairs_nil, pairK_some, q_pairs_cons, q_app, appK_own, q_frz, frzK_own, frzK_val, frzK_no, q_aug, augK_val, f_ix_lst, f_ix_tup, f_ix_scr, f_ix_str, Int.reduceToNat, List.getD_cons_zero, List.getD_cons_succ, q_forN, Int.toNat_natCast, f_in_sign, f_neg_int, f_is_non, f_isNot_non, isNon_non, isNon_tup, isNon_int, isNon_str, isNon_lst, isNon_dic, isNon_bl, isNon_obj, isB_tuple_tup, isB_list_lst, isB_str_tup, isB_str_lst, isB_str_non, isB_tuple_non, tbl_behind]
      rw [s_behind (Ψ := Ψ) (k + 4) 4 T e_w i hi (by omega) (by simp (disch := (first | with_reducible assumption | omega | ((try simp only [q_sl, List.length_append, List.length_map, List.length_cons, List.length_nil, and_true, true_and]); first | omega | decide))) only [bnd_pure, q_runF, fin_nx, fin_rt, q_var0, q_vars, q_C, q_bin, q_chain, chainK_bl, q_tru, truK_bl, truK_int, truK_lst, truK_tup, truK_non, truK_str, q_test, tstK_bl, q_and, q_or, q_not, q_andV, q_orV, q_notV, q_ifE, q_un, q_nil, q_cons, q_tup, q_lst, q_callF, q_call, q_meth, methK_obj, methO_some, q_isB, q_items, itemsK_str, itemsK_lst, itemsK_tup, q_range1, rangeK_int, q_nop, q_seq, seqK_nx, seqK_rt, seqK_bk, seqK_ct, q_if, q_ret, q_retN, q_drop, q_set, q_setOwn, q_for, q_for_nil, forK_nx, forK_ct, forK_bk, forK_rt, gd_true, lf_some, f_add_int, f_add_str, f_add_lst, f_add_tup, f_sub_int, f_mul_r, f_mul_l, f_mod, f_div, f_eq_str, f_eq_int, f_eq_bl, f_ne_str, f_ne_int, f_ne_bl, f_lt, f_le, f_gt, f_ge, f_in_sign, f_notIn_sign, f_is_bl, f_len_str, f_len_lst, f_len_tup, f_len_scr, f_len_dic, f_int_bl, f_int_int, List.length_cons, List.length_nil, List.length_replicate, List.length_set, List.set_cons_zero, List.set_cons_succ, List.getElem?_cons_zero, List.getElem?_cons_succ, Nat.reduceAdd, Nat.reduceLT, Nat.zero_lt_succ, Nat.lt_add_one, if_true, if_false, Bool.not_true, Bool.not_false, Bool.false_eq_true, reduceIte, decide_true, decide_false, reduceCtorEq, List.cons.injEq, Nat.reduceEqDiff, and_true, true_and, and_false, false_and, isB_str_str, isB_str_int, isB_str_bl, isB_int_int, isB_bool_int, isB_bool_bl, isB_int_bl, isB_int_str, isB_bool_str, f_join_nil, f_join_signs, f_all_map, f_any_map, f_lstrip, f_cut_str, f_cut_lst, f_cut_tup, q_while, q_bm, isTy_str, isTy_lst, isTy_dic, q_part, partK_int, q_noPart, q_cut, q_range2, range2K_int, q_get2, get2K_dic, key_str, key_int, q_dict, q_pairs_nil, pairK_some, q_pairs_cons, q_app, appK_own, q_frz, frzK_own, frzK_val, frzK_no, q_aug, augK_val, f_ix_lst, f_ix_tup, f_ix_scr, f_ix_str, Int.reduceToNat, List.getD_cons_zero, List.getD_cons_succ, q_forN, Int.toNat_natCast, f_in_sign, f_neg_int, f_is_non, f_isNot_non, isNon_non, isNon_tup, isNon_int, isNon_str, isNon_lst, isNon_dic, isNon_bl, isNon_obj, isB_tuple_tup, isB_list_lst, isB_str_tup, isB_str_lst, isB_str_non, isB_tuple_non, tbl_ends, s_Word_ends]; rfl)]
      rfl
    · simp (disch := (first | with_reducible assumption | omega | ((try simp only [q_sl, List.length_append, List.length_map, List.length_cons, List.length_nil, and_true, true_and]); first | omega | decide))) only [bnd_pure, q_runF, fin_nx, fin_rt, q_var0, q_vars, q_C, q_bin, q_chain, chainK_bl, q_tru, truK_bl, truK_int, truK_lst, truK_tup, truK_non, truK_str, q_test, tstK_bl, q_and, q_or, q_not, q_andV, q_orV, q_notV, q_ifE, q_un, q_nil, q_cons, q_tup, q_lst, q_callF, q_call, q_meth, methK_obj, methO_some, q_isB, q_items, itemsK_str, itemsK_lst, itemsK_tup, q_range1, rangeK_int, q_nop, q_seq, seqK_nx, seqK_rt, seqK_bk, seqK_ct, q_if, q_ret, q_retN, q_drop, q_set, q_setOwn, q_for, q_for_nil, forK_nx, forK_ct, forK_bk, forK_rt, gd_true, lf_some, f_add_int, f_add_str, f_add_lst, f_add_tup, f_sub_int, f_mul_r, f_mul_l, f_mod, f_div, f_eq_str, f_eq_int, f_eq_bl, f_ne_str, f_ne_int, f_ne_bl, f_lt, f_le, f_gt, f_ge, f_in_sign, f_notIn_sign, f_is_bl, f_len_str, f_len_lst, f_len_tup, f_len_scr, f_len_dic, f_int_bl, f_int_int, List.length_cons, List.length_nil, List.length_replicate, List.length_set, List.set_cons_zero, List.set_cons_succ, List.getElem?_cons_zero, List.getElem?_cons_succ, Nat.reduceAdd, Nat.reduceLT, Nat.zero_lt_succ, Nat.lt_add_one, if_true, if_false, Bool.not_true, Bool.not_false, Bool.false_eq_true, reduceIte, decide_true, decide_false, reduceCtorEq, List.cons.injEq, Nat.reduceEqDiff, and_true, true_and, and_false, false_and, isB_str_str, isB_str_int, isB_str_bl, isB_int_int, isB_bool_int, isB_bool_bl, isB_int_bl, isB_int_str, isB_bool_str, f_join_nil, f_join_signs, f_all_map, f_any_map, f_lstrip, f_cut_str, f_cut_lst, f_cut_tup, q_while, q_bm, isTy_str, isTy_lst, isTy_dic, q_part, partK_int, q_noPart, q_cut, q_range2, range2K_int, q_get2, get2K_dic, key_str, key_int, q_dict, q_pairs_nil, pairK_some, q_pairs_cons, q_app, appK_own, q_frz, frzK_own, frzK_val, frzK_no, q_aug, augK_val, f_ix_lst, f_ix_tup, f_ix_scr, f_ix_str, Int.reduceToNat, List.getD_cons_zero, List.getD_cons_succ, q_forN, Int.toNat_natCast, f_in_sign, f_neg_int, f_is_non, f_isNot_non, isNon_non, isNon_tup, isNon_int, isNon_str, isNon_lst, isNon_dic, isNon_bl, isNon_obj, isB_tuple_tup, isB_list_lst, isB_str_tup, isB_str_lst, isB_str_non, isB_tuple_non, tbl_meant, u_Way_meant, b_Way_meant]
      rfl
    · have hfit : methO 2 (pure [.str (spanT e_w T i)]) 4 (tbl_fits (Ψ (k + 5)) 4) = pure (.bl (decide (1 ≤ (spanT e_w T i).length ∧ (spanT e_w T i).length ≤ 40))) := by
        simp (disch := (first | with_reducible assumption | omega | ((try simp only [q_sl, List.length_append, List.length_map, List.length_cons, List.length_nil, and_true, true_and]); first | omega | decide))) only [bnd_pure, q_runF, fin_nx, fin_rt, q_var0, q_vars, q_C, q_bin, q_chain, chainK_bl, q_tru, truK_bl, truK_int, truK_lst, truK_tup, truK_non, truK_str, q_test, tstK_bl, q_and, q_or, q_not, q_andV, q_orV, q_notV, q_ifE, q_un, q_nil, q_cons, q_tup, q_lst, q_callF, q_call, q_meth, methK_obj, methO_some, q_isB, q_items, itemsK_str, itemsK_lst, itemsK_tup, q_range1, rangeK_int, q_nop, q_seq, seqK_nx, seqK_rt, seqK_bk, seqK_ct, q_if, q_ret, q_retN, q_drop, q_set, q_setOwn, q_for, q_for_nil, forK_nx, forK_ct, forK_bk, forK_rt, gd_true, lf_some, f_add_int, f_add_str, f_add_lst, f_add_tup, f_sub_int, f_mul_r, f_mul_l, f_mod, f_div, f_eq_str, f_eq_int, f_eq_bl, f_ne_str, f_ne_int, f_ne_bl, f_lt, f_le, f_gt, f_ge, f_in_sign, f_notIn_sign, f_is_bl, f_len_str, f_len_lst, f_len_tup, f_len_scr, f_len_dic, f_int_bl, f_int_int, List.length_cons, List.length_nil, List.length_replicate, List.length_set, List.set_cons_zero, List.set_cons_succ, List.getElem?_cons_zero, List.getElem?_cons_succ, Nat.reduceAdd, Nat.reduceLT, Nat.zero_lt_succ, Nat.lt_add_one, if_true, if_false, Bool.not_true, Bool.not_false, Bool.false_eq_true, reduceIte, decide_true, decide_false, reduceCtorEq, List.cons.injEq, Nat.reduceEqDiff, and_true, true_and, and_false, false_and, isB_str_str, isB_str_int, isB_str_bl, isB_int_int, isB_bool_int, isB_bool_bl, isB_int_bl, isB_int_str, isB_bool_str, f_join_nil, f_join_signs, f_all_map, f_any_map, f_lstrip, f_cut_str, f_cut_lst, f_cut_tup, q_while, q_bm, isTy_str, isTy_lst, isTy_dic, q_part, partK_int, q_noPart, q_cut, q_range2, range2K_int, q_get2, get2K_dic, key_str, key_int, q_dict, q_pairs_nil, pairK_some, q_pairs_cons, q_app, appK_own, q_frz, frzK_own, frzK_val, frzK_no, q_aug, augK_val, f_ix_lst, f_ix_tup, f_ix_scr, f_ix_str, Int.reduceToNat, List.getD_cons_zero, List.getD_cons_succ, q_forN, Int.toNat_natCast, f_in_sign, f_neg_int, f_is_non, f_isNot_non, isNon_non, isNon_tup, isNon_int, isNon_str, isNon_lst, isNon_dic, isNon_bl, isNon_obj, isB_tuple_tup, isB_list_lst, isB_str_tup, isB_str_lst, isB_str_non, isB_tuple_non, tbl_fits, s_Word_fits' _ _ (show _ ≤ 16000000 by omega) hal]
      by_cases h : 1 ≤ (spanT e_w T i).length ∧ (spanT e_w T i).length ≤ 40
      · rw [show mW (spanT e_w T i) = some (.str (spanT e_w T i)) from if_pos h]
        rw [decide_eq_true h] at hfit
        exact .same hfit (by simp (disch := (first | with_reducible assumption | omega | ((try simp only [q_sl, List.length_append, List.length_map, List.length_cons, List.length_nil, and_true, true_and]); first | omega | decide))) only [bnd_pure, q_runF, fin_nx, fin_rt, q_var0, q_vars, q_C, q_bin, q_chain, chainK_bl, q_tru, truK_bl, truK_int, truK_lst, truK_tup, truK_non, truK_str, q_test, tstK_bl, q_and, q_or, q_not, q_andV, q_orV, q_notV, q_ifE, q_un, q_nil, q_cons, q_tup, q_lst, q_callF, q_call, q_meth, methK_obj, methO_some, q_isB, q_items, itemsK_str, itemsK_lst, itemsK_tup, q_range1, rangeK_int, q_nop, q_seq, seqK_nx, seqK_rt, seqK_bk, seqK_ct, q_if, q_ret, q_retN, q_drop, q_set, q_setOwn, q_for, q_for_nil, forK_nx, forK_ct, forK_bk, forK_rt, gd_true, lf_some, f_add_int, f_add_str, f_add_lst, f_add_tup, f_sub_int, f_mul_r, f_mul_l, f_mod, f_div, f_eq_str, f_eq_int, f_eq_bl, f_ne_str, f_ne_int, f_ne_bl, f_lt, f_le, f_gt, f_ge, f_in_sign, f_notIn_sign, f_is_bl, f_len_str, f_len_lst, f_len_tup, f_len_scr, f_len_dic, f_int_bl, f_int_int, List.length_cons, List.length_nil, List.length_replicate, List.length_set, List.set_cons_zero, List.set_cons_succ, List.getElem?_cons_zero, List.getElem?_cons_succ, Nat.reduceAdd, Nat.reduceLT, Nat.zero_lt_succ, Nat.lt_add_one, if_true, if_false, Bool.not_true, Bool.not_false, Bool.false_eq_true, reduceIte, decide_true, decide_false, reduceCtorEq, List.cons.injEq, Nat.reduceEqDiff, and_true, true_and, and_false, false_and, isB_str_str, isB_str_int, isB_str_bl, isB_int_int, isB_bool_int, isB_bool_bl, isB_int_bl, isB_int_str, isB_bool_str, f_join_nil, f_join_signs, f_all_map, f_any_map, f_lstrip, f_cut_str, f_cut_lst, f_cut_tup, q_while, q_bm, isTy_str, isTy_lst, isTy_dic, q_part, partK_int, q_noPart, q_cut, q_range2, range2K_int, q_get2, get2K_dic, key_str, key_int, q_dict, q_pairs_nil, pairK_some, q_pairs_cons, q_app, appK_own, q_frz, frzK_own, frzK_val, frzK_no, q_aug, augK_val, f_ix_lst, f_ix_tup, f_ix_scr, f_ix_str, Int.reduceToNat, List.getD_cons_zero, List.getD_cons_succ, q_forN, Int.toNat_natCast, f_in_sign, f_neg_int, f_is_non, f_isNot_non, isNon_non, isNon_tup, isNon_int, isNon_str, isNon_lst, isNon_dic, isNon_bl, isNon_obj, isB_tuple_tup, isB_list_lst, isB_str_tup, isB_str_lst, isB_str_non, isB_tuple_non, tbl_marked, m_word])
      · rw [show mW (spanT e_w T i) = none from if_neg h]
        rw [decide_eq_false h] at hfit
        exact .unfit hfit
  · exact s_law_due (k + 5) w_word T (spanT e_w T i) i _ (by omega) (by rw [s_stretch_scan (Ψ := Ψ) (k + 4) w_word T e_w i hi (by omega) (by decide) (by decide) (le_w _)]; rfl) (spanT_pre _ _ _) (s_lmeant_word (k + 4) _ (by omega)) hfine
end K02.Ma
end
section
set_option linter.all false
set_option maxRecDepth 100000
namespace K02.Ma
open PySem L2 DL
variable {Ψ : Nat → Fid → List D → M D} [IsΦ Ψ]
theorem span_len {e T : Tx} (i : Nat) (h : T.length ≤ 50000) : (spanT e T i).length ≤ 50000 := Nat.le_trans ((List.takeWhile_sublist _).length_le) (by rw [List.length_drop]; omega)
def dGetP : List (DKey × D) := mergeD [] [(.inr [126], .str [126]), (.inr [108], .str [60]), (.inr [103], .str [62]), (.inr [97], .str [38]), (.inr [98], .str [124]), (.inr [110], .str [10])]
def dGetL : List (DKey × D) := mergeD [] [(.inr [126], .str [126]), (.inr [110], .str [10])]
def dGetQ : List (DKey × D) := mergeD [] [(.inr [94], .str [94]), (.inr [113], .str [34]), (.inr [110], .str [10])]
theorem get_fact {l : List (DKey × D)} {ps : List (Nat × Nat)} (hl : l = ps.map fun q => (.inr [q.2], .str [q.1])) (sl : Tx) (h : sl.length ≤ 1) : (valD l (.inr sl)).getD (.str []) = .str (toldOf ps sl) := by
  subst hl
  cases sl with
  | nil =>
    have : valD (ps.map fun q => ((.inr [q.2] : DKey), D.str [q.1])) (.inr []) = none := by
      unfold valD
      rw [Option.map_eq_none_iff, List.find?_eq_none]
      intro x hx
      obtain ⟨q, _, rfl⟩ := List.mem_map.mp hx
      simp
    rw [this]
    rfl
  | cons d r =>
    have hr : r = [] := by
      cases r with
      | nil => rfl
      | cons a b => simp at h
    subst hr
    have key : ∀ ps : List (Nat × Nat), valD (ps.map fun q => ((.inr [q.2] : DKey), D.str [q.1])) (.inr [d]) = (decS ps d).map fun x => D.str [x] := by
      intro ps
      unfold valD decS
      induction ps with
      | nil => rfl
      | cons q ps ih =>
        rw [List.map_cons]
        by_cases hq : q.2 = d
        · simp [List.find?_cons, hq]
        · simp only [List.find?_cons, hq, Sum.inr.injEq, List.cons.injEq, and_true, decide_false]
          exact ih
    rw [key]
    show _ = D.str (match decS ps d with
      | some x => [x]
      | none => [])
    cases decS ps d <;> rfl
theorem bare_li {e T : Tx} {i mk : Nat} {ps : List (Nat × Nat)} (hps : ∀ q ∈ ps, q.1 = mk ∨ q.1 = 10 ∨ q.1 ∈ e) (h10 : (10 : Nat) ∈ e) : ∀ c ∈ spanT e T i, c ≠ mk → (encS mk ps c ≠ [c] ↔ c = 10) := by
  intro c hc hm
  have hn := (spanT_mem hc).2
  constructor
  · intro he
    unfold encS at he
    cases z : ps.find? (fun q => decide (q.1 = c)) with
    | none => rw [z] at he; exact absurd rfl he
    | some q =>
      have hq := List.mem_of_find?_eq_some z
      have hqc := List.find?_some z
      have hqc : q.1 = c := by simpa using hqc
      rcases hps q hq with h | h | h
      · exact absurd (hqc.symm.trans h) hm
      · exact hqc.symm.trans h
      · rw [hqc] at h
        exact absurd h hn
  · intro z
    rw [z] at hn
    exact absurd h10 hn
theorem mul_plain (k : Nat) (T : Tx) (i : Nat) (hT : Good T) (hi : i ≤ T.length) : Ψ (k + 6) .Way_read [.obj 7, .str T, .int (i : Int)] = pure (dueD i (spanT c_PLAIN_ENDS T i) (mT 126 psP (spanT c_PLAIN_ENDS T i))) ∧ Ψ (k + 6) ._law_due [.str w_plain, .str T, .int (i : Int)] = pure (dueD i (spanT c_PLAIN_ENDS T i) (mT 126 psP (spanT c_PLAIN_ENDS T i))) := by
  have hl := hT.1
  have hst := span_len (e := c_PLAIN_ENDS) i hl
  have hx : ∀ c ∈ spanT c_PLAIN_ENDS T i, c ∈ c_SIGNS := fun c hc => hT.2 c (spanT_mem hc).1
  constructor
  · refine s_read (k + 5) 7 T _ i ((dec 126 psP (spanT c_PLAIN_ENDS T i)).map .str) _ (by omega) ?_ (spanT_pre _ _ _) ?_ ?_
    · simp (disch := (first | with_reducible assumption | omega | ((try simp only [q_sl, List.length_append, List.length_map, List.length_cons, List.length_nil, and_true, true_and]); first | omega | decide))) only [bnd_pure, q_runF, fin_nx, fin_rt, q_var0, q_vars, q_C, q_bin, q_chain, chainK_bl, q_tru, truK_bl, truK_int, truK_lst, truK_tup, truK_non, truK_str, q_test, tstK_bl, q_and, q_or, q_not, q_andV, q_orV, q_notV, q_ifE, q_un, q_nil, q_cons, q_tup, q_lst, q_callF, q_call, q_meth, methK_obj, methO_some, q_isB, q_items, itemsK_str, itemsK_lst, itemsK_tup, q_range1, rangeK_int, q_nop, q_seq, seqK_nx, seqK_rt, seqK_bk, seqK_ct, q_if, q_ret, q_retN, q_drop, q_set, q_setOwn, q_for, q_for_nil, forK_nx, forK_ct, forK_bk, forK_rt, gd_true, lf_some, f_add_int, f_add_str, f_add_lst, f_add_tup, f_sub_int, f_mul_r, f_mul_l, f_mod, f_div, f_eq_str, f_eq_int, f_eq_bl, f_ne_str, f_ne_int, f_ne_bl, f_lt, f_le, f_gt, f_ge, f_in_sign, f_notIn_sign, f_is_bl, f_len_str, f_len_lst, f_len_tup, f_len_scr, f_len_dic, f_int_bl, f_int_int, List.length_cons, List.length_nil, List.length_replicate, List.length_set, List.set_cons_zero, List.set_cons_succ, List.getElem?_cons_zero, List.getElem?_cons_succ, Nat.reduceAdd, Nat.reduceLT, Nat.zero_lt_succ, Nat.lt_add_one, if_true, if_false, Bool.not_true, Bool.not_false, Bool.false_eq_true, reduceIte, decide_true, decide_false, reduceCtorEq, List.cons.injEq, Nat.reduceEqDiff, and_true, true_and, and_false, false_and, isB_str_str, isB_str_int, isB_str_bl, isB_int_int, isB_bool_int, isB_bool_bl, isB_int_bl, isB_int_str, isB_bool_str, f_join_nil, f_join_signs, f_all_map, f_any_map, f_lstrip, f_cut_str, f_cut_lst, f_cut_tup, q_while, q_bm, isTy_str, isTy_lst, isTy_dic, q_part, partK_int, q_noPart, q_cut, q_range2, range2K_int, q_get2, get2K_dic, key_str, key_int, q_dict, q_pairs_nil, pairK_some, q_pairs_cons, q_app, appK_own, q_frz, frzK_own, frzK_val, frzK_no, q_aug, augK_val, f_ix_lst, f_ix_tup, f_ix_scr, f_ix_str, Int.reduceToNat, List.getD_cons_zero, List.getD_cons_succ, q_forN, Int.toNat_natCast, f_in_sign, f_neg_int, f_is_non, f_isNot_non, isNon_non, isNon_tup, isNon_int, isNon_str, isNon_lst, isNon_dic, isNon_bl, isNon_obj, isB_tuple_tup, isB_list_lst, isB_str_tup, isB_str_lst, isB_str_non, isB_tuple_non, tbl_behind]
      rw [s_behind (Ψ := Ψ) (k + 4) 7 T c_PLAIN_ENDS i hi (by omega) (by simp (disch := (first | with_reducible assumption | omega | ((try simp only [q_sl, List.length_append, List.length_map, List.length_cons, List.length_nil, and_true, true_and]); first | omega | decide))) only [bnd_pure, q_runF, fin_nx, fin_rt, q_var0, q_vars, q_C, q_bin, q_chain, chainK_bl, q_tru, truK_bl, truK_int, truK_lst, truK_tup, truK_non, truK_str, q_test, tstK_bl, q_and, q_or, q_not, q_andV, q_orV, q_notV, q_ifE, q_un, q_nil, q_cons, q_tup, q_lst, q_callF, q_call, q_meth, methK_obj, methO_some, q_isB, q_items, itemsK_str, itemsK_lst, itemsK_tup, q_range1, rangeK_int, q_nop, q_seq, seqK_nx, seqK_rt, seqK_bk, seqK_ct, q_if, q_ret, q_retN, q_drop, q_set, q_setOwn, q_for, q_for_nil, forK_nx, forK_ct, forK_bk, forK_rt, gd_true, lf_some, f_add_int, f_add_str, f_add_lst, f_add_tup, f_sub_int, f_mul_r, f_mul_l, f_mod, f_div, f_eq_str, f_eq_int, f_eq_bl, f_ne_str, f_ne_int, f_ne_bl, f_lt, f_le, f_gt, f_ge, f_in_sign, f_notIn_sign, f_is_bl, f_len_str, f_len_lst, f_len_tup, f_len_scr, f_len_dic, f_int_bl, f_int_int, List.length_cons, List.length_nil, List.length_replicate, List.length_set, List.set_cons_zero, List.set_cons_succ, List.getElem?_cons_zero, List.getElem?_cons_succ, Nat.reduceAdd, Nat.reduceLT, Nat.zero_lt_succ, Nat.lt_add_one, if_true, if_false, Bool.not_true, Bool.not_false, Bool.false_eq_true, reduceIte, decide_true, decide_false, reduceCtorEq, List.cons.injEq, Nat.reduceEqDiff, and_true, true_and, and_false, false_and, isB_str_str, isB_str_int, isB_str_bl, isB_int_int, isB_bool_int, isB_bool_bl, isB_int_bl, isB_int_str, isB_bool_str, f_join_nil, f_join_signs, f_all_map, f_any_map, f_lstrip, f_cut_str, f_cut_lst, f_cut_tup, q_while, q_bm, isTy_str, isTy_lst, isTy_dic, q_part, partK_int, q_noPart, q_cut, q_range2, range2K_int, q_get2, get2K_dic, key_str, key_int, q_dict, q_pairs_nil, pairK_some, q_pairs_cons, q_app, appK_own, q_frz, frzK_own, frzK_val, frzK_no, q_aug, augK_val, f_ix_lst, f_ix_tup, f_ix_scr, f_ix_str, Int.reduceToNat, List.getD_cons_zero, List.getD_cons_succ, q_forN, Int.toNat_natCast, f_in_sign, f_neg_int, f_is_non, f_isNot_non, isNon_non, isNon_tup, isNon_int, isNon_str, isNon_lst, isNon_dic, isNon_bl, isNon_obj, isB_tuple_tup, isB_list_lst, isB_str_tup, isB_str_lst, isB_str_non, isB_tuple_non, tbl_ends, s_Plain_ends])]
      rfl
    · have hd : mergeD [] [(.inr [126], .str [126]), (.inr [108], .str [60]), (.inr [103], .str [62]), (.inr [97], .str [38]), (.inr [98], .str [124]), (.inr [110], .str [10])] = dGetP := rfl
      have hu := s_unmarked (Ψ := Ψ) (k + 3) 126 psP dGetP (get_fact (by rfl)) (spanT c_PLAIN_ENDS T i) (by omega)
      simp (disch := (first | with_reducible assumption | omega | ((try simp only [q_sl, List.length_append, List.length_map, List.length_cons, List.length_nil, and_true, true_and]); first | omega | decide))) only [bnd_pure, q_runF, fin_nx, fin_rt, q_var0, q_vars, q_C, q_bin, q_chain, chainK_bl, q_tru, truK_bl, truK_int, truK_lst, truK_tup, truK_non, truK_str, q_test, tstK_bl, q_and, q_or, q_not, q_andV, q_orV, q_notV, q_ifE, q_un, q_nil, q_cons, q_tup, q_lst, q_callF, q_call, q_meth, methK_obj, methO_some, q_isB, q_items, itemsK_str, itemsK_lst, itemsK_tup, q_range1, rangeK_int, q_nop, q_seq, seqK_nx, seqK_rt, seqK_bk, seqK_ct, q_if, q_ret, q_retN, q_drop, q_set, q_setOwn, q_for, q_for_nil, forK_nx, forK_ct, forK_bk, forK_rt, gd_true, lf_some, f_add_int, f_add_str, f_add_lst, f_add_tup, f_sub_int, f_mul_r, f_mul_l, f_mod, f_div, f_eq_str, f_eq_int, f_eq_bl, f_ne_str, f_ne_int, f_ne_bl, f_lt, f_le, f_gt, f_ge, f_in_sign, f_notIn_sign, f_is_bl, f_len_str, f_len_lst, f_len_tup, f_len_scr, f_len_dic, f_int_bl, f_int_int, List.length_cons, List.length_nil, List.length_replicate, List.length_set, List.set_cons_zero, List.set_cons_succ, List.getElem?_cons_zero, List.getElem?_cons_succ, Nat.reduceAdd, Nat.reduceLT, Nat.zero_lt_succ, Nat.lt_add_one, if_true, if_false, Bool.not_true, Bool.not_false, Bool.false_eq_true, reduceIte, decide_true, decide_false, reduceCtorEq, List.cons.injEq, Nat.reduceEqDiff, and_true, true_and, and_false, false_and, isB_str_str, isB_str_int, isB_str_bl, isB_int_int, isB_bool_int, isB_bool_bl, isB_int_bl, isB_int_str, isB_bool_str, f_join_nil, f_join_signs, f_all_map, f_any_map, f_lstrip, f_cut_str, f_cut_lst, f_cut_tup, q_while, q_bm, isTy_str, isTy_lst, isTy_dic, q_part, partK_int, q_noPart, q_cut, q_range2, range2K_int, q_get2, get2K_dic, key_str, key_int, q_dict, q_pairs_nil, pairK_some, q_pairs_cons, q_app, appK_own, q_frz, frzK_own, frzK_val, frzK_no, q_aug, augK_val, f_ix_lst, f_ix_tup, f_ix_scr, f_ix_str, Int.reduceToNat, List.getD_cons_zero, List.getD_cons_succ, q_forN, Int.toNat_natCast, f_in_sign, f_neg_int, f_is_non, f_isNot_non, isNon_non, isNon_tup, isNon_int, isNon_str, isNon_lst, isNon_dic, isNon_bl, isNon_obj, isB_tuple_tup, isB_list_lst, isB_str_tup, isB_str_lst, isB_str_non, isB_tuple_non, tbl_meant, u_Plain_meant, b_Plain_meant, hd, hu]
      cases dec 126 psP (spanT c_PLAIN_ENDS T i) <;> rfl
    · exact takes_text (k + 5) 7 126 psP cdP id (fun _ _ z => z) (spanT c_PLAIN_ENDS T i) hx psP_s (by omega) (fun v hv => by simp (disch := (first | with_reducible assumption | omega | ((try simp only [q_sl, List.length_append, List.length_map, List.length_cons, List.length_nil, and_true, true_and]); first | omega | decide))) only [bnd_pure, q_runF, fin_nx, fin_rt, q_var0, q_vars, q_C, q_bin, q_chain, chainK_bl, q_tru, truK_bl, truK_int, truK_lst, truK_tup, truK_non, truK_str, q_test, tstK_bl, q_and, q_or, q_not, q_andV, q_orV, q_notV, q_ifE, q_un, q_nil, q_cons, q_tup, q_lst, q_callF, q_call, q_meth, methK_obj, methO_some, q_isB, q_items, itemsK_str, itemsK_lst, itemsK_tup, q_range1, rangeK_int, q_nop, q_seq, seqK_nx, seqK_rt, seqK_bk, seqK_ct, q_if, q_ret, q_retN, q_drop, q_set, q_setOwn, q_for, q_for_nil, forK_nx, forK_ct, forK_bk, forK_rt, gd_true, lf_some, f_add_int, f_add_str, f_add_lst, f_add_tup, f_sub_int, f_mul_r, f_mul_l, f_mod, f_div, f_eq_str, f_eq_int, f_eq_bl, f_ne_str, f_ne_int, f_ne_bl, f_lt, f_le, f_gt, f_ge, f_in_sign, f_notIn_sign, f_is_bl, f_len_str, f_len_lst, f_len_tup, f_len_scr, f_len_dic, f_int_bl, f_int_int, List.length_cons, List.length_nil, List.length_replicate, List.length_set, List.set_cons_zero, List.set_cons_succ, List.getElem?_cons_zero, List.getElem?_cons_succ, Nat.reduceAdd, Nat.reduceLT, Nat.zero_lt_succ, Nat.lt_add_one, if_true, if_false, Bool.not_true, Bool.not_false, Bool.false_eq_true, reduceIte, decide_true, decide_false, reduceCtorEq, List.cons.injEq, Nat.reduceEqDiff, and_true, true_and, and_false, false_and, isB_str_str, isB_str_int, isB_str_bl, isB_int_int, isB_bool_int, isB_bool_bl, isB_int_bl, isB_int_str, isB_bool_str, f_join_nil, f_join_signs, f_all_map, f_any_map, f_lstrip, f_cut_str, f_cut_lst, f_cut_tup, q_while, q_bm, isTy_str, isTy_lst, isTy_dic, q_part, partK_int, q_noPart, q_cut, q_range2, range2K_int, q_get2, get2K_dic, key_str, key_int, q_dict, q_pairs_nil, pairK_some, q_pairs_cons, q_app, appK_own, q_frz, frzK_own, frzK_val, frzK_no, q_aug, augK_val, f_ix_lst, f_ix_tup, f_ix_scr, f_ix_str, Int.reduceToNat, List.getD_cons_zero, List.getD_cons_succ, q_forN, Int.toNat_natCast, f_in_sign, f_neg_int, f_is_non, f_isNot_non, isNon_non, isNon_tup, isNon_int, isNon_str, isNon_lst, isNon_dic, isNon_bl, isNon_obj, isB_tuple_tup, isB_list_lst, isB_str_tup, isB_str_lst, isB_str_non, isB_tuple_non, tbl_fits, s_Way_fits']) (fun v hv => by simp (disch := (first | with_reducible assumption | omega | ((try simp only [q_sl, List.length_append, List.length_map, List.length_cons, List.length_nil, and_true, true_and]); first | omega | decide))) only [bnd_pure, q_runF, fin_nx, fin_rt, q_var0, q_vars, q_C, q_bin, q_chain, chainK_bl, q_tru, truK_bl, truK_int, truK_lst, truK_tup, truK_non, truK_str, q_test, tstK_bl, q_and, q_or, q_not, q_andV, q_orV, q_notV, q_ifE, q_un, q_nil, q_cons, q_tup, q_lst, q_callF, q_call, q_meth, methK_obj, methO_some, q_isB, q_items, itemsK_str, itemsK_lst, itemsK_tup, q_range1, rangeK_int, q_nop, q_seq, seqK_nx, seqK_rt, seqK_bk, seqK_ct, q_if, q_ret, q_retN, q_drop, q_set, q_setOwn, q_for, q_for_nil, forK_nx, forK_ct, forK_bk, forK_rt, gd_true, lf_some, f_add_int, f_add_str, f_add_lst, f_add_tup, f_sub_int, f_mul_r, f_mul_l, f_mod, f_div, f_eq_str, f_eq_int, f_eq_bl, f_ne_str, f_ne_int, f_ne_bl, f_lt, f_le, f_gt, f_ge, f_in_sign, f_notIn_sign, f_is_bl, f_len_str, f_len_lst, f_len_tup, f_len_scr, f_len_dic, f_int_bl, f_int_int, List.length_cons, List.length_nil, List.length_replicate, List.length_set, List.set_cons_zero, List.set_cons_succ, List.getElem?_cons_zero, List.getElem?_cons_succ, Nat.reduceAdd, Nat.reduceLT, Nat.zero_lt_succ, Nat.lt_add_one, if_true, if_false, Bool.not_true, Bool.not_false, Bool.false_eq_true, reduceIte, decide_true, decide_false, reduceCtorEq, List.cons.injEq, Nat.reduceEqDiff, and_true, true_and, and_false, false_and, isB_str_str, isB_str_int, isB_str_bl, isB_int_int, isB_bool_int, isB_bool_bl, isB_int_bl, isB_int_str, isB_bool_str, f_join_nil, f_join_signs, f_all_map, f_any_map, f_lstrip, f_cut_str, f_cut_lst, f_cut_tup, q_while, q_bm, isTy_str, isTy_lst, isTy_dic, q_part, partK_int, q_noPart, q_cut, q_range2, range2K_int, q_get2, get2K_dic, key_str, key_int, q_dict, q_pairs_nil, pairK_some, q_pairs_cons, q_app, appK_own, q_frz, frzK_own, frzK_val, frzK_no, q_aug, augK_val, f_ix_lst, f_ix_tup, f_ix_scr, f_ix_str, Int.reduceToNat, List.getD_cons_zero, List.getD_cons_succ, q_forN, Int.toNat_natCast, f_in_sign, f_neg_int, f_is_non, f_isNot_non, isNon_non, isNon_tup, isNon_int, isNon_str, isNon_lst, isNon_dic, isNon_bl, isNon_obj, isB_tuple_tup, isB_list_lst, isB_str_tup, isB_str_lst, isB_str_non, isB_tuple_non, tbl_marked, m_plain]; rfl)
  · exact s_law_due (k + 5) w_plain T _ i _ (by omega) (by rw [s_stretch_scan (Ψ := Ψ) (k + 4) w_plain T c_PLAIN_ENDS i hi (by omega) (by decide) (by decide) (s_law_ends_plain _)]; rfl) (spanT_pre _ _ _)
      (s_lmeant_text (k + 4) w_plain 126 psP cdP _ _ (spanT c_PLAIN_ENDS T i) (spanT c_PLAIN_ENDS T i) toldP (by decide) (by decide) (by rw [if_neg (by decide)]; exact ⟨rfl, rfl⟩) (by rfl) (by rfl) (by omega) (bare_li (by decide) (by decide))) fun v hv => (mT_ok cdP hx psP_s v hv).1
theorem mul_line (k : Nat) (T : Tx) (i : Nat) (hT : Good T) (hi : i ≤ T.length) : Ψ (k + 6) .Way_read [.obj 8, .str T, .int (i : Int)] = pure (dueD i (spanT [10] T i) (mT 126 psL (spanT [10] T i))) ∧ Ψ (k + 6) ._law_due [.str w_line, .str T, .int (i : Int)] = pure (dueD i (spanT [10] T i) (mT 126 psL (spanT [10] T i))) := by
  have hl := hT.1
  have hst := span_len (e := [10]) i hl
  have hx : ∀ c ∈ spanT [10] T i, c ∈ c_SIGNS := fun c hc => hT.2 c (spanT_mem hc).1
  constructor
  · refine s_read (k + 5) 8 T _ i ((dec 126 psL (spanT [10] T i)).map .str) _ (by omega) ?_ (spanT_pre _ _ _) ?_ ?_
    · simp (disch := (first | with_reducible assumption | omega | ((try simp only [q_sl, List.length_append, List.length_map, List.length_cons, List.length_nil, and_true, true_and]); first | omega | decide))) only [bnd_pure, q_runF, fin_nx, fin_rt, q_var0, q_vars, q_C, q_bin, q_chain, chainK_bl, q_tru, truK_bl, truK_int, truK_lst, truK_tup, truK_non, truK_str, q_test, tstK_bl, q_and, q_or, q_not, q_andV, q_orV, q_notV, q_ifE, q_un, q_nil, q_cons, q_tup, q_lst, q_callF, q_call, q_meth, methK_obj, methO_some, q_isB, q_items, itemsK_str, itemsK_lst, itemsK_tup, q_range1, rangeK_int, q_nop, q_seq, seqK_nx, seqK_rt, seqK_bk, seqK_ct, q_if, q_ret, q_retN, q_drop, q_set, q_setOwn, q_for, q_for_nil, forK_nx, forK_ct, forK_bk, forK_rt, gd_true, lf_some, f_add_int, f_add_str, f_add_lst, f_add_tup, f_sub_int, f_mul_r, f_mul_l, f_mod, f_div, f_eq_str, f_eq_int, f_eq_bl, f_ne_str, f_ne_int, f_ne_bl, f_lt, f_le, f_gt, f_ge, f_in_sign, f_notIn_sign, f_is_bl, f_len_str, f_len_lst, f_len_tup, f_len_scr, f_len_dic, f_int_bl, f_int_int, List.length_cons, List.length_nil, List.length_replicate, List.length_set, List.set_cons_zero, List.set_cons_succ, List.getElem?_cons_zero, List.getElem?_cons_succ, Nat.reduceAdd, Nat.reduceLT, Nat.zero_lt_succ, Nat.lt_add_one, if_true, if_false, Bool.not_true, Bool.not_false, Bool.false_eq_true, reduceIte, decide_true, decide_false, reduceCtorEq, List.cons.injEq, Nat.reduceEqDiff, and_true, true_and, and_false, false_and, isB_str_str, isB_str_int, isB_str_bl, isB_int_int, isB_bool_int, isB_bool_bl, isB_int_bl, isB_int_str, isB_bool_str, f_join_nil, f_join_signs, f_all_map, f_any_map, f_lstrip, f_cut_str, f_cut_lst, f_cut_tup, q_while, q_bm, isTy_str, isTy_lst, isTy_dic, q_part, partK_int, q_noPart, q_cut, q_range2, range2K_int, q_get2, get2K_dic, key_str, key_int, q_dict, q_pairs_nil, pairK_some, q_pairs_cons, q_app, appK_own, q_frz, frzK_own, frzK_val, frzK_no, q_aug, augK_val, f_ix_lst, f_ix_tup, f_ix_scr, f_ix_str, Int.reduceToNat, List.getD_cons_zero, List.getD_cons_succ, q_forN, Int.toNat_natCast, f_in_sign, f_neg_int, f_is_non, f_isNot_non, isNon_non, isNon_tup, isNon_int, isNon_str, isNon_lst, isNon_dic, isNon_bl, isNon_obj, isB_tuple_tup, isB_list_lst, isB_str_tup, isB_str_lst, isB_str_non, isB_tuple_non, tbl_behind]
      rw [s_behind (Ψ := Ψ) (k + 4) 8 T [10] i hi (by omega) (by simp (disch := (first | with_reducible assumption | omega | ((try simp only [q_sl, List.length_append, List.length_map, List.length_cons, List.length_nil, and_true, true_and]); first | omega | decide))) only [bnd_pure, q_runF, fin_nx, fin_rt, q_var0, q_vars, q_C, q_bin, q_chain, chainK_bl, q_tru, truK_bl, truK_int, truK_lst, truK_tup, truK_non, truK_str, q_test, tstK_bl, q_and, q_or, q_not, q_andV, q_orV, q_notV, q_ifE, q_un, q_nil, q_cons, q_tup, q_lst, q_callF, q_call, q_meth, methK_obj, methO_some, q_isB, q_items, itemsK_str, itemsK_lst, itemsK_tup, q_range1, rangeK_int, q_nop, q_seq, seqK_nx, seqK_rt, seqK_bk, seqK_ct, q_if, q_ret, q_retN, q_drop, q_set, q_setOwn, q_for, q_for_nil, forK_nx, forK_ct, forK_bk, forK_rt, gd_true, lf_some, f_add_int, f_add_str, f_add_lst, f_add_tup, f_sub_int, f_mul_r, f_mul_l, f_mod, f_div, f_eq_str, f_eq_int, f_eq_bl, f_ne_str, f_ne_int, f_ne_bl, f_lt, f_le, f_gt, f_ge, f_in_sign, f_notIn_sign, f_is_bl, f_len_str, f_len_lst, f_len_tup, f_len_scr, f_len_dic, f_int_bl, f_int_int, List.length_cons, List.length_nil, List.length_replicate, List.length_set, List.set_cons_zero, List.set_cons_succ, List.getElem?_cons_zero, List.getElem?_cons_succ, Nat.reduceAdd, Nat.reduceLT, Nat.zero_lt_succ, Nat.lt_add_one, if_true, if_false, Bool.not_true, Bool.not_false, Bool.false_eq_true, reduceIte, decide_true, decide_false, reduceCtorEq, List.cons.injEq, Nat.reduceEqDiff, and_true, true_and, and_false, false_and, isB_str_str, isB_str_int, isB_str_bl, isB_int_int, isB_bool_int, isB_bool_bl, isB_int_bl, isB_int_str, isB_bool_str, f_join_nil, f_join_signs, f_all_map, f_any_map, f_lstrip, f_cut_str, f_cut_lst, f_cut_tup, q_while, q_bm, isTy_str, isTy_lst, isTy_dic, q_part, partK_int, q_noPart, q_cut, q_range2, range2K_int, q_get2, get2K_dic, key_str, key_int, q_dict, q_pairs_nil, pairK_some, q_pairs_cons, q_app, appK_own, q_frz, frzK_own, frzK_val, frzK_no, q_aug, augK_val, f_ix_lst, f_ix_tup, f_ix_scr, f_ix_str, Int.reduceToNat, List.getD_cons_zero, List.getD_cons_succ, q_forN, Int.toNat_natCast, f_in_sign, f_neg_int, f_is_non, f_isNot_non, isNon_non, isNon_tup, isNon_int, isNon_str, isNon_lst, isNon_dic, isNon_bl, isNon_obj, isB_tuple_tup, isB_list_lst, isB_str_tup, isB_str_lst, isB_str_non, isB_tuple_non, tbl_ends, s_Line_ends])]
      rfl
    · have hd : mergeD [] [(.inr [126], .str [126]), (.inr [110], .str [10])] = dGetL := rfl
      have hu := s_unmarked (Ψ := Ψ) (k + 3) 126 psL dGetL (get_fact (by rfl)) (spanT [10] T i) (by omega)
      simp (disch := (first | with_reducible assumption | omega | ((try simp only [q_sl, List.length_append, List.length_map, List.length_cons, List.length_nil, and_true, true_and]); first | omega | decide))) only [bnd_pure, q_runF, fin_nx, fin_rt, q_var0, q_vars, q_C, q_bin, q_chain, chainK_bl, q_tru, truK_bl, truK_int, truK_lst, truK_tup, truK_non, truK_str, q_test, tstK_bl, q_and, q_or, q_not, q_andV, q_orV, q_notV, q_ifE, q_un, q_nil, q_cons, q_tup, q_lst, q_callF, q_call, q_meth, methK_obj, methO_some, q_isB, q_items, itemsK_str, itemsK_lst, itemsK_tup, q_range1, rangeK_int, q_nop, q_seq, seqK_nx, seqK_rt, seqK_bk, seqK_ct, q_if, q_ret, q_retN, q_drop, q_set, q_setOwn, q_for, q_for_nil, forK_nx, forK_ct, forK_bk, forK_rt, gd_true, lf_some, f_add_int, f_add_str, f_add_lst, f_add_tup, f_sub_int, f_mul_r, f_mul_l, f_mod, f_div, f_eq_str, f_eq_int, f_eq_bl, f_ne_str, f_ne_int, f_ne_bl, f_lt, f_le, f_gt, f_ge, f_in_sign, f_notIn_sign, f_is_bl, f_len_str, f_len_lst, f_len_tup, f_len_scr, f_len_dic, f_int_bl, f_int_int, List.length_cons, List.length_nil, List.length_replicate, List.length_set, List.set_cons_zero, List.set_cons_succ, List.getElem?_cons_zero, List.getElem?_cons_succ, Nat.reduceAdd, Nat.reduceLT, Nat.zero_lt_succ, Nat.lt_add_one, if_true, if_false, Bool.not_true, Bool.not_false, Bool.false_eq_true, reduceIte, decide_true, decide_false, reduceCtorEq, List.cons.injEq, Nat.reduceEqDiff, and_true, true_and, and_false, false_and, isB_str_str, isB_str_int, isB_str_bl, isB_int_int, isB_bool_int, isB_bool_bl, isB_int_bl, isB_int_str, isB_bool_str, f_join_nil, f_join_signs, f_all_map, f_any_map, f_lstrip, f_cut_str, f_cut_lst, f_cut_tup, q_while, q_bm, isTy_str, isTy_lst, isTy_dic, q_part, partK_int, q_noPart, q_cut, q_range2, range2K_int, q_get2, get2K_dic, key_str, key_int, q_dict, q_pairs_nil, pairK_some, q_pairs_cons, q_app, appK_own, q_frz, frzK_own, frzK_val, frzK_no, q_aug, augK_val, f_ix_lst, f_ix_tup, f_ix_scr, f_ix_str, Int.reduceToNat, List.getD_cons_zero, List.getD_cons_succ, q_forN, Int.toNat_natCast, f_in_sign, f_neg_int, f_is_non, f_isNot_non, isNon_non, isNon_tup, isNon_int, isNon_str, isNon_lst, isNon_dic, isNon_bl, isNon_obj, isB_tuple_tup, isB_list_lst, isB_str_tup, isB_str_lst, isB_str_non, isB_tuple_non, tbl_meant, u_Line_meant, b_Line_meant, hd, hu]
      cases dec 126 psL (spanT [10] T i) <;> rfl
    · exact takes_text (k + 5) 8 126 psL cdL id (fun _ _ z => z) (spanT [10] T i) hx psL_s (by omega) (fun v hv => by simp (disch := (first | with_reducible assumption | omega | ((try simp only [q_sl, List.length_append, List.length_map, List.length_cons, List.length_nil, and_true, true_and]); first | omega | decide))) only [bnd_pure, q_runF, fin_nx, fin_rt, q_var0, q_vars, q_C, q_bin, q_chain, chainK_bl, q_tru, truK_bl, truK_int, truK_lst, truK_tup, truK_non, truK_str, q_test, tstK_bl, q_and, q_or, q_not, q_andV, q_orV, q_notV, q_ifE, q_un, q_nil, q_cons, q_tup, q_lst, q_callF, q_call, q_meth, methK_obj, methO_some, q_isB, q_items, itemsK_str, itemsK_lst, itemsK_tup, q_range1, rangeK_int, q_nop, q_seq, seqK_nx, seqK_rt, seqK_bk, seqK_ct, q_if, q_ret, q_retN, q_drop, q_set, q_setOwn, q_for, q_for_nil, forK_nx, forK_ct, forK_bk, forK_rt, gd_true, lf_some, f_add_int, f_add_str, f_add_lst, f_add_tup, f_sub_int, f_mul_r, f_mul_l, f_mod, f_div, f_eq_str, f_eq_int, f_eq_bl, f_ne_str, f_ne_int, f_ne_bl, f_lt, f_le, f_gt, f_ge, f_in_sign, f_notIn_sign, f_is_bl, f_len_str, f_len_lst, f_len_tup, f_len_scr, f_len_dic, f_int_bl, f_int_int, List.length_cons, List.length_nil, List.length_replicate, List.length_set, List.set_cons_zero, List.set_cons_succ, List.getElem?_cons_zero, List.getElem?_cons_succ, Nat.reduceAdd, Nat.reduceLT, Nat.zero_lt_succ, Nat.lt_add_one, if_true, if_false, Bool.not_true, Bool.not_false, Bool.false_eq_true, reduceIte, decide_true, decide_false, reduceCtorEq, List.cons.injEq, Nat.reduceEqDiff, and_true, true_and, and_false, false_and, isB_str_str, isB_str_int, isB_str_bl, isB_int_int, isB_bool_int, isB_bool_bl, isB_int_bl, isB_int_str, isB_bool_str, f_join_nil, f_join_signs, f_all_map, f_any_map, f_lstrip, f_cut_str, f_cut_lst, f_cut_tup, q_while, q_bm, isTy_str, isTy_lst, isTy_dic, q_part, partK_int, q_noPart, q_cut, q_range2, range2K_int, q_get2, get2K_dic, key_str, key_int, q_dict, q_pairs_nil, pairK_some, q_pairs_cons, q_app, appK_own, q_frz, frzK_own, frzK_val, frzK_no, q_aug, augK_val, f_ix_lst, f_ix_tup, f_ix_scr, f_ix_str, Int.reduceToNat, List.getD_cons_zero, List.getD_cons_succ, q_forN, Int.toNat_natCast, f_in_sign, f_neg_int, f_is_non, f_isNot_non, isNon_non, isNon_tup, isNon_int, isNon_str, isNon_lst, isNon_dic, isNon_bl, isNon_obj, isB_tuple_tup, isB_list_lst, isB_str_tup, isB_str_lst, isB_str_non, isB_tuple_non, tbl_fits, s_Way_fits']) (fun v hv => by simp (disch := (first | with_reducible assumption | omega | ((try simp only [q_sl, List.length_append, List.length_map, List.length_cons, List.length_nil, and_true, true_and]); first | omega | decide))) only [bnd_pure, q_runF, fin_nx, fin_rt, q_var0, q_vars, q_C, q_bin, q_chain, chainK_bl, q_tru, truK_bl, truK_int, truK_lst, truK_tup, truK_non, truK_str, q_test, tstK_bl, q_and, q_or, q_not, q_andV, q_orV, q_notV, q_ifE, q_un, q_nil, q_cons, q_tup, q_lst, q_callF, q_call, q_meth, methK_obj, methO_some, q_isB, q_items, itemsK_str, itemsK_lst, itemsK_tup, q_range1, rangeK_int, q_nop, q_seq, seqK_nx, seqK_rt, seqK_bk, seqK_ct, q_if, q_ret, q_retN, q_drop, q_set, q_setOwn, q_for, q_for_nil, forK_nx, forK_ct, forK_bk, forK_rt, gd_true, lf_some, f_add_int, f_add_str, f_add_lst, f_add_tup, f_sub_int, f_mul_r, f_mul_l, f_mod, f_div, f_eq_str, f_eq_int, f_eq_bl, f_ne_str, f_ne_int, f_ne_bl, f_lt, f_le, f_gt, f_ge, f_in_sign, f_notIn_sign, f_is_bl, f_len_str, f_len_lst, f_len_tup, f_len_scr, f_len_dic, f_int_bl, f_int_int, List.length_cons, List.length_nil, List.length_replicate, List.length_set, List.set_cons_zero, List.set_cons_succ, List.getElem?_cons_zero, List.getElem?_cons_succ, Nat.reduceAdd, Nat.reduceLT, Nat.zero_lt_succ, Nat.lt_add_one, if_true, if_false, Bool.not_true, Bool.not_false, Bool.false_eq_true, reduceIte, decide_true, decide_false, reduceCtorEq, List.cons.injEq, Nat.reduceEqDiff, and_true, true_and, and_false, false_and, isB_str_str, isB_str_int, isB_str_bl, isB_int_int, isB_bool_int, isB_bool_bl, isB_int_bl, isB_int_str, isB_bool_str, f_join_nil, f_join_signs, f_all_map, f_any_map, f_lstrip, f_cut_str, f_cut_lst, f_cut_tup, q_while, q_bm, isTy_str, isTy_lst, isTy_dic, q_part, partK_int, q_noPart, q_cut, q_range2, range2K_int, q_get2, get2K_dic, key_str, key_int, q_dict, q_pairs_nil, pairK_some, q_pairs_cons, q_app, appK_own, q_frz, frzK_own, frzK_val, frzK_no, q_aug, augK_val, f_ix_lst, f_ix_tup, f_ix_scr, f_ix_str, Int.reduceToNat, List.getD_cons_zero, List.getD_cons_succ, q_forN, Int.toNat_natCast, f_in_sign, f_neg_int, f_is_non, f_isNot_non, isNon_non, isNon_tup, isNon_int, isNon_str, isNon_lst, isNon_dic, isNon_bl, isNon_obj, isB_tuple_tup, isB_list_lst, isB_str_tup, isB_str_lst, isB_str_non, isB_tuple_non, tbl_marked, m_line]; rfl)
  · exact s_law_due (k + 5) w_line T _ i _ (by omega) (by rw [s_stretch_scan (Ψ := Ψ) (k + 4) w_line T [10] i hi (by omega) (by decide) (by decide) (s_law_ends_line _)]; rfl) (spanT_pre _ _ _)
      (s_lmeant_text (k + 4) w_line 126 psL cdL _ _ (spanT [10] T i) (spanT [10] T i) toldL (by decide) (by decide) (by rw [if_neg (by decide)]; exact ⟨rfl, rfl⟩) (by rfl) (by rfl) (by omega) (bare_li (by decide) (by decide))) fun v hv => (mT_ok cdL hx psL_s v hv).1
end K02.Ma
end
section
set_option linter.all false
set_option maxRecDepth 100000
namespace K02.Ma
open PySem L2 DL
variable {Ψ : Nat → Fid → List D → M D} [IsΦ Ψ]
theorem stQ_some {x st : Tx} (h : stQ x = some st) : ∃ inn : Tx, st = 34 :: (inn ++ [34]) ∧ (∀ c ∈ inn, c ≠ 34 ∧ c ∈ x) ∧ inn.length ≤ x.length := by
  unfold stQ at h
  split at h
  · cases h
    refine ⟨_, rfl, fun c hc => ⟨by simpa using mem_tw hc, List.mem_of_mem_drop ((List.takeWhile_sublist _).subset hc)⟩, ?_⟩
    refine Nat.le_trans ((List.takeWhile_sublist _).length_le) ?_
    rw [List.length_drop]
    omega
  · cases h
theorem inner_of (inn : Tx) : (34 :: (inn ++ [34])).tail.dropLast = inn := by
  show (inn ++ [34]).dropLast = inn
  exact List.dropLast_concat
theorem bare_q {inn : Tx} (h : ∀ c ∈ inn, c ≠ 34) : ∀ c ∈ inn, c ≠ 94 → (encS 94 psQ c ≠ [c] ↔ c = 10) := by
  intro c hc hm
  have hn := h c hc
  constructor
  · intro he
    refine Classical.byContradiction fun z => he ?_
    simp [encS, psQ, Ne.symm hm, Ne.symm hn, Ne.symm z]
  · rintro rfl
    decide
def dueQ (T : Tx) (i : Nat) : D := match stQ (T.drop i) with
  | some st => dueD i st (mT 94 psQ st.tail.dropLast)
  | none => .non
theorem mul_quoted (k : Nat) (T : Tx) (i : Nat) (hT : Good T) (hi : i ≤ T.length) : Ψ (k + 6) .Way_read [.obj 6, .str T, .int (i : Int)] = pure (dueQ T i) ∧ Ψ (k + 6) ._law_due [.str w_quoted, .str T, .int (i : Int)] = pure (dueQ T i) := by
  have hl := hT.1
  have hb := s_Quoted_behind (Ψ := Ψ) (k + 4) T i hi (by omega)
  have hs := s_stretch_quo (Ψ := Ψ) (k + 4) T i hi (by omega)
  unfold dueQ
  cases q : stQ (T.drop i) with
  | none =>
    rw [q] at hb hs
    exact ⟨s_read_none (k + 5) 6 T i (by simp (disch := (first | with_reducible assumption | omega | ((try simp only [q_sl, List.length_append, List.length_map, List.length_cons, List.length_nil, and_true, true_and]); first | omega | decide))) only [bnd_pure, q_runF, fin_nx, fin_rt, q_var0, q_vars, q_C, q_bin, q_chain, chainK_bl, q_tru, truK_bl, truK_int, truK_lst, truK_tup, truK_non, truK_str, q_test, tstK_bl, q_and, q_or, q_not, q_andV, q_orV, q_notV, q_ifE, q_un, q_nil, q_cons, q_tup, q_lst, q_callF, q_call, q_meth, methK_obj, methO_some, q_isB, q_items, itemsK_str, itemsK_lst, itemsK_tup, q_range1, rangeK_int, q_nop, q_seq, seqK_nx, seqK_rt, seqK_bk, seqK_ct, q_if, q_ret, q_retN, q_drop, q_set, q_setOwn, q_for, q_for_nil, forK_nx, forK_ct, forK_bk, forK_rt, gd_true, lf_some, f_add_int, f_add_str, f_add_lst, f_add_tup, f_sub_int, f_mul_r, f_mul_l, f_mod, f_div, f_eq_str, f_eq_int, f_eq_bl, f_ne_str, f_ne_int, f_ne_bl, f_lt, f_le, f_gt, f_ge, f_in_sign, f_notIn_sign, f_is_bl, f_len_str, f_len_lst, f_len_tup, f_len_scr, f_len_dic, f_int_bl, f_int_int, List.length_cons, List.length_nil, List.length_replicate, List.length_set, List.set_cons_zero, List.set_cons_succ, List.getElem?_cons_zero, List.getElem?_cons_succ, Nat.reduceAdd, Nat.reduceLT, Nat.zero_lt_succ, Nat.lt_add_one, if_true, if_false, Bool.not_true, Bool.not_false, Bool.false_eq_true, reduceIte, decide_true, decide_false, reduceCtorEq, List.cons.injEq, Nat.reduceEqDiff, and_true, true_and, and_false, false_and, isB_str_str, isB_str_int, isB_str_bl, isB_int_int, isB_bool_int, isB_bool_bl, isB_int_bl, isB_int_str, isB_bool_str, f_join_nil, f_join_signs, f_all_map, f_any_map, f_lstrip, f_cut_str, f_cut_lst, f_cut_tup, q_while, q_bm, isTy_str, isTy_lst, isTy_dic, q_part, partK_int, q_noPart, q_cut, q_range2, range2K_int, q_get2, get2K_dic, key_str, key_int, q_dict, q_pairs_nil, pairK_some, q_pairs_cons, q_app, appK_own, q_frz, frzK_own, frzK_val, frzK_no, q_aug, augK_val, f_ix_lst, f_ix_tup, f_ix_scr, f_ix_str, Int.reduceToNat, List.getD_cons_zero, List.getD_cons_succ, q_forN, Int.toNat_natCast, f_in_sign, f_neg_int, f_is_non, f_isNot_non, isNon_non, isNon_tup, isNon_int, isNon_str, isNon_lst, isNon_dic, isNon_bl, isNon_obj, isB_tuple_tup, isB_list_lst, isB_str_tup, isB_str_lst, isB_str_non, isB_tuple_non, tbl_behind, hb]), s_law_due_none (k + 5) w_quoted T i hs⟩
  | some st =>
    rw [q] at hb hs
    have hpre := stQ_pre q
    obtain ⟨inn, rfl, hin, hln⟩ := stQ_some q
    have hx : ∀ c ∈ inn, c ∈ c_SIGNS := fun c hc => hT.2 c (List.mem_of_mem_drop (hin c hc).2)
    have hil : inn.length ≤ 50000 := by rw [List.length_drop] at hln; omega
    have hsl : (34 :: (inn ++ [34])).length ≤ 60000 := by
      rw [List.length_cons, List.length_append, List.length_cons, List.length_nil]
      omega
    show _ = pure (dueD i (34 :: (inn ++ [34])) (mT 94 psQ (34 :: (inn ++ [34])).tail.dropLast)) ∧ _ = pure (dueD i (34 :: (inn ++ [34])) (mT 94 psQ (34 :: (inn ++ [34])).tail.dropLast))
    rw [inner_of]
    have hc : cutL (34 :: (inn ++ [34])) (some 1) (some (-1)) = inn := by rw [cut_inner, inner_of]
    constructor
    · refine s_read (k + 5) 6 T _ i ((dec 94 psQ inn).map .str) _ (by omega) (by simp (disch := (first | with_reducible assumption | omega | ((try simp only [q_sl, List.length_append, List.length_map, List.length_cons, List.length_nil, and_true, true_and]); first | omega | decide))) only [bnd_pure, q_runF, fin_nx, fin_rt, q_var0, q_vars, q_C, q_bin, q_chain, chainK_bl, q_tru, truK_bl, truK_int, truK_lst, truK_tup, truK_non, truK_str, q_test, tstK_bl, q_and, q_or, q_not, q_andV, q_orV, q_notV, q_ifE, q_un, q_nil, q_cons, q_tup, q_lst, q_callF, q_call, q_meth, methK_obj, methO_some, q_isB, q_items, itemsK_str, itemsK_lst, itemsK_tup, q_range1, rangeK_int, q_nop, q_seq, seqK_nx, seqK_rt, seqK_bk, seqK_ct, q_if, q_ret, q_retN, q_drop, q_set, q_setOwn, q_for, q_for_nil, forK_nx, forK_ct, forK_bk, forK_rt, gd_true, lf_some, f_add_int, f_add_str, f_add_lst, f_add_tup, f_sub_int, f_mul_r, f_mul_l, f_mod, f_div, f_eq_str, f_eq_int, f_eq_bl, f_ne_str, f_ne_int, f_ne_bl, f_lt, f_le, f_gt, f_ge, f_in_sign, f_notIn_sign, f_is_bl, f_len_str, f_len_lst, f_len_tup, f_len_scr, f_len_dic, f_int_bl, f_int_int, List.length_cons, List.length_nil, List.length_replicate, List.length_set, List.set_cons_zero, List.set_cons_succ, List.getElem?_cons_zero, List.getElem?_cons_succ, Nat.reduceAdd, Nat.reduceLT, Nat.zero_lt_succ, Nat.lt_add_one, if_true, if_false, Bool.not_true, Bool.not_false, Bool.false_eq_true, reduceIte, decide_true, decide_false, reduceCtorEq, List.cons.injEq, Nat.reduceEqDiff, and_true, true_and, and_false, false_and, isB_str_str, isB_str_int, isB_str_bl, isB_int_int, isB_bool_int, isB_bool_bl, isB_int_bl, isB_int_str, isB_bool_str, f_join_nil, f_join_signs, f_all_map, f_any_map, f_lstrip, f_cut_str, f_cut_lst, f_cut_tup, q_while, q_bm, isTy_str, isTy_lst, isTy_dic, q_part, partK_int, q_noPart, q_cut, q_range2, range2K_int, q_get2, get2K_dic, key_str, key_int, q_dict, q_pairs_nil, pairK_some, q_pairs_cons, q_app, appK_own, q_frz, frzK_own, frzK_val, frzK_no, q_aug, augK_val, f_ix_lst, f_ix_tup, f_ix_scr, f_ix_str, Int.reduceToNat, List.getD_cons_zero, List.getD_cons_succ, q_forN, Int.toNat_natCast, f_in_sign, f_neg_int, f_is_non, f_isNot_non, isNon_non, isNon_tup, isNon_int, isNon_str, isNon_lst, isNon_dic, isNon_bl, isNon_obj, isB_tuple_tup, isB_list_lst, isB_str_tup, isB_str_lst, isB_str_non, isB_tuple_non, tbl_behind, hb]) hpre ?_ ?_
      · have hd : mergeD [] [(.inr [94], .str [94]), (.inr [113], .str [34]), (.inr [110], .str [10])] = dGetQ := rfl
        have hu := s_unmarked (Ψ := Ψ) (k + 3) 94 psQ dGetQ (get_fact (by rfl)) inn (by omega)
        have hcc : fCut (.str (34 :: (inn ++ [34]))) (some 1) (some (-1)) = pure (.str inn) := by rw [f_cut_str _ _ _ (by omega), hc]
        simp (disch := (first | with_reducible assumption | omega | ((try simp only [q_sl, List.length_append, List.length_map, List.length_cons, List.length_nil, and_true, true_and]); first | omega | decide))) only [bnd_pure, q_runF, fin_nx, fin_rt, q_var0, q_vars, q_C, q_bin, q_chain, chainK_bl, q_tru, truK_bl, truK_int, truK_lst, truK_tup, truK_non, truK_str, q_test, tstK_bl, q_and, q_or, q_not, q_andV, q_orV, q_notV, q_ifE, q_un, q_nil, q_cons, q_tup, q_lst, q_callF, q_call, q_meth, methK_obj, methO_some, q_isB, q_items, itemsK_str, itemsK_lst, itemsK_tup, q_range1, rangeK_int, q_nop, q_seq, seqK_nx, seqK_rt, seqK_bk, seqK_ct, q_if, q_ret, q_retN, q_drop, q_set, q_setOwn, q_for, q_for_nil, forK_nx, forK_ct, forK_bk, forK_rt, gd_true, lf_some, f_add_int, f_add_str, f_add_lst, f_add_tup, f_sub_int, f_mul_r, f_mul_l, f_mod, f_div, f_eq_str, f_eq_int, f_eq_bl, f_ne_str, f_ne_int, f_ne_bl, f_lt, f_le, f_gt, f_ge, f_in_sign, f_notIn_sign, f_is_bl, f_len_str, f_len_lst, f_len_tup, f_len_scr, f_len_dic, f_int_bl, f_int_int, List.length_cons, List.length_nil, List.length_replicate, List.length_set, List.set_cons_zero, List.set_cons_succ, List.getElem?_cons_zero, List.getElem?_cons_succ, Nat.reduceAdd, Nat.reduceLT, Nat.zero_lt_succ, Nat.lt_add_one, if_true, if_false, Bool.not_true, Bool.not_false, Bool.false_eq_true, reduceIte, decide_true, decide_false, reduceCtorEq, List.cons.injEq, Nat.reduceEqDiff, and_true, true_and, and_false, false_and, isB_str_str, isB_str_int, isB_str_bl, isB_int_int, isB_bool_int, isB_bool_bl, isB_int_bl, isB_int_str, isB_bool_str, f_join_nil, f_join_signs, f_all_map, f_any_map, f_lstrip, f_cut_str, f_cut_lst, f_cut_tup, q_while, q_bm, isTy_str, isTy_lst, isTy_dic, q_part, partK_int, q_noPart, q_cut, q_range2, range2K_int, q_get2, get2K_dic, key_str, key_int, q_dict, q_pairs_nil, pairK_some, q_pairs_cons, q_app, appK_own, q_frz, frzK_own, frzK_val, frzK_no, q_aug, augK_val, f_ix_lst, f_ix_tup, f_ix_scr, f_ix_str, Int.reduceToNat, List.getD_cons_zero, List.getD_cons_succ, q_forN, Int.toNat_natCast, f_in_sign, f_neg_int, f_is_non, f_isNot_non, isNon_non, isNon_tup, isNon_int, isNon_str, isNon_lst, isNon_dic, isNon_bl, isNon_obj, isB_tuple_tup, isB_list_lst, isB_str_tup, isB_str_lst, isB_str_non, isB_tuple_non, tbl_meant, u_Quoted_meant, b_Quoted_meant, hd, hcc, hu]
        cases dec 94 psQ inn <;> rfl
      · exact takes_text (k + 5) 6 94 psQ cdQ (fun v => 34 :: (v ++ [34])) (fun a b z => by simpa using z) inn hx psQ_s (by omega) (fun v hv => by simp (disch := (first | with_reducible assumption | omega | ((try simp only [q_sl, List.length_append, List.length_map, List.length_cons, List.length_nil, and_true, true_and]); first | omega | decide))) only [bnd_pure, q_runF, fin_nx, fin_rt, q_var0, q_vars, q_C, q_bin, q_chain, chainK_bl, q_tru, truK_bl, truK_int, truK_lst, truK_tup, truK_non, truK_str, q_test, tstK_bl, q_and, q_or, q_not, q_andV, q_orV, q_notV, q_ifE, q_un, q_nil, q_cons, q_tup, q_lst, q_callF, q_call, q_meth, methK_obj, methO_some, q_isB, q_items, itemsK_str, itemsK_lst, itemsK_tup, q_range1, rangeK_int, q_nop, q_seq, seqK_nx, seqK_rt, seqK_bk, seqK_ct, q_if, q_ret, q_retN, q_drop, q_set, q_setOwn, q_for, q_for_nil, forK_nx, forK_ct, forK_bk, forK_rt, gd_true, lf_some, f_add_int, f_add_str, f_add_lst, f_add_tup, f_sub_int, f_mul_r, f_mul_l, f_mod, f_div, f_eq_str, f_eq_int, f_eq_bl, f_ne_str, f_ne_int, f_ne_bl, f_lt, f_le, f_gt, f_ge, f_in_sign, f_notIn_sign, f_is_bl, f_len_str, f_len_lst, f_len_tup, f_len_scr, f_len_dic, f_int_bl, f_int_int, List.length_cons, List.length_nil, List.length_replicate, List.length_set, List.set_cons_zero, List.set_cons_succ, List.getElem?_cons_zero, List.getElem?_cons_succ, Nat.reduceAdd, Nat.reduceLT, Nat.zero_lt_succ, Nat.lt_add_one, if_true, if_false, Bool.not_true, Bool.not_false, Bool.false_eq_true, reduceIte, decide_true, decide_false, reduceCtorEq, List.cons.injEq, Nat.reduceEqDiff, and_true, true_and, and_false, false_and, isB_str_str, isB_str_int, isB_str_bl, isB_int_int, isB_bool_int, isB_bool_bl, isB_int_bl, isB_int_str, isB_bool_str, f_join_nil, f_join_signs, f_all_map, f_any_map, f_lstrip, f_cut_str, f_cut_lst, f_cut_tup, q_while, q_bm, isTy_str, isTy_lst, isTy_dic, q_part, partK_int, q_noPart, q_cut, q_range2, range2K_int, q_get2, get2K_dic, key_str, key_int, q_dict, q_pairs_nil, pairK_some, q_pairs_cons, q_app, appK_own, q_frz, frzK_own, frzK_val, frzK_no, q_aug, augK_val, f_ix_lst, f_ix_tup, f_ix_scr, f_ix_str, Int.reduceToNat, List.getD_cons_zero, List.getD_cons_succ, q_forN, Int.toNat_natCast, f_in_sign, f_neg_int, f_is_non, f_isNot_non, isNon_non, isNon_tup, isNon_int, isNon_str, isNon_lst, isNon_dic, isNon_bl, isNon_obj, isB_tuple_tup, isB_list_lst, isB_str_tup, isB_str_lst, isB_str_non, isB_tuple_non, tbl_fits, s_Way_fits']) (fun v hv => by simp (disch := (first | with_reducible assumption | omega | ((try simp only [q_sl, List.length_append, List.length_map, List.length_cons, List.length_nil, and_true, true_and]); first | omega | decide))) only [bnd_pure, q_runF, fin_nx, fin_rt, q_var0, q_vars, q_C, q_bin, q_chain, chainK_bl, q_tru, truK_bl, truK_int, truK_lst, truK_tup, truK_non, truK_str, q_test, tstK_bl, q_and, q_or, q_not, q_andV, q_orV, q_notV, q_ifE, q_un, q_nil, q_cons, q_tup, q_lst, q_callF, q_call, q_meth, methK_obj, methO_some, q_isB, q_items, itemsK_str, itemsK_lst, itemsK_tup, q_range1, rangeK_int, q_nop, q_seq, seqK_nx, seqK_rt, seqK_bk, seqK_ct, q_if, q_ret, q_retN, q_drop, q_set, q_setOwn, q_for, q_for_nil, forK_nx, forK_ct, forK_bk, forK_rt, gd_true, lf_some, f_add_int, f_add_str, f_add_lst, f_add_tup, f_sub_int, f_mul_r, f_mul_l, f_mod, f_div, f_eq_str, f_eq_int, f_eq_bl, f_ne_str, f_ne_int, f_ne_bl, f_lt, f_le, f_gt, f_ge, f_in_sign, f_notIn_sign, f_is_bl, f_len_str, f_len_lst, f_len_tup, f_len_scr, f_len_dic, f_int_bl, f_int_int, List.length_cons, List.length_nil, List.length_replicate, List.length_set, List.set_cons_zero, List.set_cons_succ, List.getElem?_cons_zero, List.getElem?_cons_succ, Nat.reduceAdd, Nat.reduceLT, Nat.zero_lt_succ, Nat.lt_add_one, if_true, if_false, Bool.not_true, Bool.not_false, Bool.false_eq_true, reduceIte, decide_true, decide_false, reduceCtorEq, List.cons.injEq, Nat.reduceEqDiff, and_true, true_and, and_false, false_and, isB_str_str, isB_str_int, isB_str_bl, isB_int_int, isB_bool_int, isB_bool_bl, isB_int_bl, isB_int_str, isB_bool_str, f_join_nil, f_join_signs, f_all_map, f_any_map, f_lstrip, f_cut_str, f_cut_lst, f_cut_tup, q_while, q_bm, isTy_str, isTy_lst, isTy_dic, q_part, partK_int, q_noPart, q_cut, q_range2, range2K_int, q_get2, get2K_dic, key_str, key_int, q_dict, q_pairs_nil, pairK_some, q_pairs_cons, q_app, appK_own, q_frz, frzK_own, frzK_val, frzK_no, q_aug, augK_val, f_ix_lst, f_ix_tup, f_ix_scr, f_ix_str, Int.reduceToNat, List.getD_cons_zero, List.getD_cons_succ, q_forN, Int.toNat_natCast, f_in_sign, f_neg_int, f_is_non, f_isNot_non, isNon_non, isNon_tup, isNon_int, isNon_str, isNon_lst, isNon_dic, isNon_bl, isNon_obj, isB_tuple_tup, isB_list_lst, isB_str_tup, isB_str_lst, isB_str_non, isB_tuple_non, tbl_marked, m_quoted]; rfl)
    · exact s_law_due (k + 5) w_quoted T _ i _ (by omega) hs hpre
        (s_lmeant_text (k + 4) w_quoted 94 psQ cdQ _ _ (34 :: (inn ++ [34])) inn toldQ (by decide) (by decide) (by rw [if_pos rfl]; exact ⟨rfl, inner_of inn⟩) (by rfl) (by rfl) (by omega) (bare_q fun c hc => (hin c hc).1)) fun v hv => (mT_ok cdQ hx psQ_s v hv).1
end K02.Ma
end
section
set_option linter.all false
set_option maxRecDepth 100000
namespace K02.Ma
open PySem L2 DL
variable {Ψ : Nat → Fid → List D → M D} [IsΦ Ψ]
def pF (c : Nat) : Bool := decide (c ∈ c_FIGURES)
theorem tw_congr {p q : Nat → Bool} : ∀ {x : Tx}, (∀ c ∈ x, p c = q c) → x.takeWhile p = x.takeWhile q
  | [], _ => rfl
  | a :: r, h => by
    have ha := h a (by simp)
    have hr := tw_congr fun c hc => h c (List.mem_cons_of_mem a hc)
    rw [List.takeWhile_cons, List.takeWhile_cons, ha, hr]
theorem stN_congr {p q : Nat → Bool} {x : Tx} (h : ∀ c ∈ x, p c = q c) : stN p x = stN q x := by
  unfold stN
  rw [tw_congr h, tw_congr fun c hc => h c (List.mem_of_mem_drop hc)]
theorem fig_of {c : Nat} (h : pF c = true) : 48 ≤ c ∧ c ≤ 57 := by
  have h : c ∈ c_FIGURES := of_decide_eq_true h
  unfold c_FIGURES at h
  simp only [List.mem_cons, List.not_mem_nil, or_false] at h
  omega
theorem stN_cases (x : Tx) : (∃ r, stN pF x = 45 :: r ∧ NumText.AllDigits r ∧ ∀ c ∈ r, c ∈ x) ∨ (NumText.AllDigits (stN pF x) ∧ (∀ c ∈ stN pF x, c ∈ x) ∧ (stN pF x).take 1 ≠ [45]) := by
  unfold stN
  by_cases h : x.take 1 = [45]
  · rw [if_pos h]
    exact .inl ⟨_, rfl, fun c hc => fig_of (mem_tw hc), fun c hc => List.mem_of_mem_drop ((List.takeWhile_sublist _).subset hc)⟩
  · rw [if_neg h]
    refine .inr ⟨fun c hc => fig_of (mem_tw hc), fun c hc => (List.takeWhile_sublist _).subset hc, fun z => ?_⟩
    have : 45 ∈ x.takeWhile pF := List.mem_of_mem_take (by rw [z]; exact List.mem_singleton.mpr rfl)
    have := fig_of (mem_tw this)
    omega
theorem figs_digits (x : Tx) : NumText.AllDigits (figs (stN pF x)) := by
  rcases stN_cases x with ⟨r, e, h, _⟩ | ⟨h, _, hn⟩
  · rw [e, figs_neg]
    exact h
  · rw [figs_pos hn]
    exact h
theorem strip_figs (x : Tx) : (stN pF x).dropWhile (fun c => decide (c ∈ ([45] : Tx))) = figs (stN pF x) := by
  have hd : ∀ r : Tx, NumText.AllDigits r → r.dropWhile (fun c => decide (c ∈ ([45] : Tx))) = r := by
    intro r h
    cases r with
    | nil => rfl
    | cons a b =>
      have ha := h.head
      rw [List.dropWhile_cons, if_neg (by simp; omega)]
  rcases stN_cases x with ⟨r, e, h, _⟩ | ⟨h, _, hn⟩
  · rw [e, figs_neg, List.dropWhile_cons, if_pos (by decide)]
    exact hd r h
  · rw [figs_pos hn]
    exact hd _ h
theorem numV_bound {x : Tx} (h : (figs (stN pF x)).length ≤ 30) : -(10 ^ 30) < numV (stN pF x) ∧ numV (stN pF x) < 10 ^ 30 := by
  have key : ∀ r : Tx, NumText.AllDigits r → r.length ≤ 30 → NumText.digitsVal r < 10 ^ 30 := fun r h hl => Nat.lt_of_lt_of_le (digitsVal_lt h) (Nat.pow_le_pow_right (by decide) hl)
  rcases stN_cases x with ⟨r, e, h1, _⟩ | ⟨h1, _, hn⟩
  · rw [e] at h ⊢
    rw [figs_neg] at h
    have := key r h1 h
    show -(10 ^ 30) < -((NumText.digitsVal r : Nat) : Int) ∧ -((NumText.digitsVal r : Nat) : Int) < 10 ^ 30
    omega
  · rw [figs_pos hn] at h
    have := key _ h1 h
    rw [numV_pos h1]
    omega
theorem int_figs {x : Tx} (h1 : figs (stN pF x) ≠ []) (h : (figs (stN pF x)).length ≤ 30) : fInt [.str (stN pF x)] = pure (.int (numV (stN pF x))) := by
  rcases stN_cases x with ⟨r, e, hd, _⟩ | ⟨hd, _, hn⟩
  · rw [e] at h h1 ⊢
    rw [figs_neg] at h h1
    exact int_neg hd h1 (by omega)
  · rw [figs_pos hn] at h h1
    exact int_pos hd h1 (by omega)
theorem canon {x : Tx} (h1 : figs (stN pF x) ≠ []) : strI (numV (stN pF x)) = stN pF x ↔ ¬ ((figs (stN pF x)).getD 0 0 = 48 ∧ stN pF x ≠ [48]) := by
  rcases stN_cases x with ⟨r, e, hd, _⟩ | ⟨hd, _, hn⟩
  · rw [e] at h1 ⊢
    rw [figs_neg] at h1 ⊢
    rw [canon_neg hd h1]
    constructor
    · intro z w
      exact z w.1
    · intro z w
      exact z ⟨w, fun y => by cases y⟩
  · rw [figs_pos hn] at h1 ⊢
    exact canon_pos hd h1
theorem s_Number_meant (k : Nat) (x : Tx) (hl : (stN pF x).length ≤ 100000) : Ψ (k + 1) .Number_meant [.obj 5, .str (stN pF x)] = pure (.tup (if figs (stN pF x) = [] ∨ 30 < (figs (stN pF x)).length then none else some (D.int (numV (stN pF x)))).toList) := by
  have hs := strip_figs x
  have hfl : (figs (stN pF x)).length ≤ 100000 := by
    rw [← hs]
    exact Nat.le_trans ((List.dropWhile_sublist _).length_le) hl
  by_cases h1 : figs (stN pF x) = []
  · rw [if_pos (.inl h1)]
    simp (disch := (first | with_reducible assumption | omega | ((try simp only [q_sl, List.length_append, List.length_map, List.length_cons, List.length_nil, and_true, true_and]); first | omega | decide))) only [bnd_pure, q_runF, fin_nx, fin_rt, q_var0, q_vars, q_C, q_bin, q_chain, chainK_bl, q_tru, truK_bl, truK_int, truK_lst, truK_tup, truK_non, truK_str, q_test, tstK_bl, q_and, q_or, q_not, q_andV, q_orV, q_notV, q_ifE, q_un, q_nil, q_cons, q_tup, q_lst, q_callF, q_call, q_meth, methK_obj, methO_some, q_isB, q_items, itemsK_str, itemsK_lst, itemsK_tup, q_range1, rangeK_int, q_nop, q_seq, seqK_nx, seqK_rt, seqK_bk, seqK_ct, q_if, q_ret, q_retN, q_drop, q_set, q_setOwn, q_for, q_for_nil, forK_nx, forK_ct, forK_bk, forK_rt, gd_true, lf_some, f_add_int, f_add_str, f_add_lst, f_add_tup, f_sub_int, f_mul_r, f_mul_l, f_mod, f_div, f_eq_str, f_eq_int, f_eq_bl, f_ne_str, f_ne_int, f_ne_bl, f_lt, f_le, f_gt, f_ge, f_in_sign, f_notIn_sign, f_is_bl, f_len_str, f_len_lst, f_len_tup, f_len_scr, f_len_dic, f_int_bl, f_int_int, List.length_cons, List.length_nil, List.length_replicate, List.length_set, List.set_cons_zero, List.set_cons_succ, List.getElem?_cons_zero, List.getElem?_cons_succ, Nat.reduceAdd, Nat.reduceLT, Nat.zero_lt_succ, Nat.lt_add_one, if_true, if_false, Bool.not_true, Bool.not_false, Bool.false_eq_true, reduceIte, decide_true, decide_false, reduceCtorEq, List.cons.injEq, Nat.reduceEqDiff, and_true, true_and, and_false, false_and, isB_str_str, isB_str_int, isB_str_bl, isB_int_int, isB_bool_int, isB_bool_bl, isB_int_bl, isB_int_str, isB_bool_str, f_join_nil, f_join_signs, f_all_map, f_any_map, f_lstrip, f_cut_str, f_cut_lst, f_cut_tup, q_while, q_bm, isTy_str, isTy_lst, isTy_dic, q_part, partK_int, q_noPart, q_cut, q_range2, range2K_int, q_get2, get2K_dic, key_str, key_int, q_dict, q_pairs_nil, pairK_some, q_pairs_cons, q_app, appK_own, q_frz, frzK_own, frzK_val, frzK_no, q_aug, augK_val, f_ix_lst, f_ix_tup, f_ix_scr, f_ix_str, Int.reduceToNat, List.getD_cons_zero, List.getD_cons_succ, q_forN, Int.toNat_natCast, f_in_sign, f_neg_int, f_is_non, f_isNot_non, isNon_non, isNon_tup, isNon_int, isNon_str, isNon_lst, isNon_dic, isNon_bl, isNon_obj, isB_tuple_tup, isB_list_lst, isB_str_tup, isB_str_lst, isB_str_non, isB_tuple_non, u_Number_meant, b_Number_meant, hs, h1]
    rfl
  · by_cases h2 : (30 : Int) < ((figs (stN pF x)).length : Int)
    · rw [if_pos (.inr (by omega))]
      simp (disch := (first | with_reducible assumption | omega | ((try simp only [q_sl, List.length_append, List.length_map, List.length_cons, List.length_nil, and_true, true_and]); first | omega | decide))) only [bnd_pure, q_runF, fin_nx, fin_rt, q_var0, q_vars, q_C, q_bin, q_chain, chainK_bl, q_tru, truK_bl, truK_int, truK_lst, truK_tup, truK_non, truK_str, q_test, tstK_bl, q_and, q_or, q_not, q_andV, q_orV, q_notV, q_ifE, q_un, q_nil, q_cons, q_tup, q_lst, q_callF, q_call, q_meth, methK_obj, methO_some, q_isB, q_items, itemsK_str, itemsK_lst, itemsK_tup, q_range1, rangeK_int, q_nop, q_seq, seqK_nx, seqK_rt, seqK_bk, seqK_ct, q_if, q_ret, q_retN, q_drop, q_set, q_setOwn, q_for, q_for_nil, forK_nx, forK_ct, forK_bk, forK_rt, gd_true, lf_some, f_add_int, f_add_str, f_add_lst, f_add_tup, f_sub_int, f_mul_r, f_mul_l, f_mod, f_div, f_eq_str, f_eq_int, f_eq_bl, f_ne_str, f_ne_int, f_ne_bl, f_lt, f_le, f_gt, f_ge, f_in_sign, f_notIn_sign, f_is_bl, f_len_str, f_len_lst, f_len_tup, f_len_scr, f_len_dic, f_int_bl, f_int_int, List.length_cons, List.length_nil, List.length_replicate, List.length_set, List.set_cons_zero, List.set_cons_succ, List.getElem?_cons_zero, List.getElem?_cons_succ, Nat.reduceAdd, Nat.reduceLT, Nat.zero_lt_succ, Nat.lt_add_one, if_true, if_false, Bool.not_true, Bool.not_false, Bool.false_eq_true, reduceIte, decide_true, decide_false, reduceCtorEq, List.cons.injEq, Nat.reduceEqDiff, and_true, true_and, and_false, false_and, isB_str_str, isB_str_int, isB_str_bl, isB_int_int, isB_bool_int, isB_bool_bl, isB_int_bl, isB_int_str, isB_bool_str, f_join_nil, f_join_signs, f_all_map, f_any_map, f_lstrip, f_cut_str, f_cut_lst, f_cut_tup, q_while, q_bm, isTy_str, isTy_lst, isTy_dic, q_part, partK_int, q_noPart, q_cut, q_range2, range2K_int, q_get2, get2K_dic, key_str, key_int, q_dict, q_pairs_nil, pairK_some, q_pairs_cons, q_app, appK_own, q_frz, frzK_own, frzK_val, frzK_no, q_aug, augK_val, f_ix_lst, f_ix_tup, f_ix_scr, f_ix_str, Int.reduceToNat, List.getD_cons_zero, List.getD_cons_succ, q_forN, Int.toNat_natCast, f_in_sign, f_neg_int, f_is_non, f_isNot_non, isNon_non, isNon_tup, isNon_int, isNon_str, isNon_lst, isNon_dic, isNon_bl, isNon_obj, isB_tuple_tup, isB_list_lst, isB_str_tup, isB_str_lst, isB_str_non, isB_tuple_non, u_Number_meant, b_Number_meant, hs, h1, h2]
      rfl
    · rw [if_neg (fun z => z.elim h1 (by omega))]
      have hi := int_figs h1 (by omega)
      simp (disch := (first | with_reducible assumption | omega | ((try simp only [q_sl, List.length_append, List.length_map, List.length_cons, List.length_nil, and_true, true_and]); first | omega | decide))) only [bnd_pure, q_runF, fin_nx, fin_rt, q_var0, q_vars, q_C, q_bin, q_chain, chainK_bl, q_tru, truK_bl, truK_int, truK_lst, truK_tup, truK_non, truK_str, q_test, tstK_bl, q_and, q_or, q_not, q_andV, q_orV, q_notV, q_ifE, q_un, q_nil, q_cons, q_tup, q_lst, q_callF, q_call, q_meth, methK_obj, methO_some, q_isB, q_items, itemsK_str, itemsK_lst, itemsK_tup, q_range1, rangeK_int, q_nop, q_seq, seqK_nx, seqK_rt, seqK_bk, seqK_ct, q_if, q_ret, q_retN, q_drop, q_set, q_setOwn, q_for, q_for_nil, forK_nx, forK_ct, forK_bk, forK_rt, gd_true, lf_some, f_add_int, f_add_str, f_add_lst, f_add_tup, f_sub_int, f_mul_r, f_mul_l, f_mod, f_div, f_eq_str, f_eq_int, f_eq_bl, f_ne_str, f_ne_int, f_ne_bl, f_lt, f_le, f_gt, f_ge, f_in_sign, f_notIn_sign, f_is_bl, f_len_str, f_len_lst, f_len_tup, f_len_scr, f_len_dic, f_int_bl, f_int_int, List.length_cons, List.length_nil, List.length_replicate, List.length_set, List.set_cons_zero, List.set_cons_succ, List.getElem?_cons_zero, List.getElem?_cons_succ, Nat.reduceAdd, Nat.reduceLT, Nat.zero_lt_succ, Nat.lt_add_one, if_true, if_false, Bool.not_true, Bool.not_false, Bool.false_eq_true, reduceIte, decide_true, decide_false, reduceCtorEq, List.cons.injEq, Nat.reduceEqDiff, and_true, true_and, and_false, false_and, isB_str_str, isB_str_int, isB_str_bl, isB_int_int, isB_bool_int, isB_bool_bl, isB_int_bl, isB_int_str, isB_bool_str, f_join_nil, f_join_signs, f_all_map, f_any_map, f_lstrip, f_cut_str, f_cut_lst, f_cut_tup, q_while, q_bm, isTy_str, isTy_lst, isTy_dic, q_part, partK_int, q_noPart, q_cut, q_range2, range2K_int, q_get2, get2K_dic, key_str, key_int, q_dict, q_pairs_nil, pairK_some, q_pairs_cons, q_app, appK_own, q_frz, frzK_own, frzK_val, frzK_no, q_aug, augK_val, f_ix_lst, f_ix_tup, f_ix_scr, f_ix_str, Int.reduceToNat, List.getD_cons_zero, List.getD_cons_succ, q_forN, Int.toNat_natCast, f_in_sign, f_neg_int, f_is_non, f_isNot_non, isNon_non, isNon_tup, isNon_int, isNon_str, isNon_lst, isNon_dic, isNon_bl, isNon_obj, isB_tuple_tup, isB_list_lst, isB_str_tup, isB_str_lst, isB_str_non, isB_tuple_non, u_Number_meant, b_Number_meant, hs, h1, h2, hi]
      rfl
theorem mul_number (k : Nat) (T : Tx) (i : Nat) (hT : Good T) (hi : i ≤ T.length) : Ψ (k + 6) .Way_read [.obj 5, .str T, .int (i : Int)] = pure (dueD i (stN pF (T.drop i)) (mN (stN pF (T.drop i)))) ∧ Ψ (k + 6) ._law_due [.str w_number, .str T, .int (i : Int)] = pure (dueD i (stN pF (T.drop i)) (mN (stN pF (T.drop i)))) := by
  have hl := hT.1
  have hpre := stN_pre pF (T.drop i)
  have hsl : (stN pF (T.drop i)).length ≤ 60000 := by
    rw [← hpre, List.length_take, List.length_drop]
    omega
  have heq : stN (fun c => !decide (c ∈ e_n)) (T.drop i) = stN pF (T.drop i) := stN_congr fun c hc => by
    have h3 := hT.2 c (List.mem_of_mem_drop hc)
    unfold e_n pF
    rw [Bool.eq_iff_iff]
    simp [List.mem_filter, h3]
  have hfine : ∀ v, mN (stN pF (T.drop i)) = some v → v.fine 0 = true := by
    intro v hv
    unfold mN at hv
    split at hv
    · cases hv
      rfl
    · cases hv
  have hstr := s_stretch_num (Ψ := Ψ) (k + 4) T e_n i hi (by omega) (le_n _)
  rw [heq] at hstr
  constructor
  · refine s_read (k + 5) 5 T _ i (if figs (stN pF (T.drop i)) = [] ∨ 30 < (figs (stN pF (T.drop i))).length then none else some (D.int (numV (stN pF (T.drop i))))) _ (by omega) ?_ hpre ?_ ?_
    · simp (disch := (first | with_reducible assumption | omega | ((try simp only [q_sl, List.length_append, List.length_map, List.length_cons, List.length_nil, and_true, true_and]); first | omega | decide))) only [bnd_pure, q_runF, fin_nx, fin_rt, q_var0, q_vars, q_C, q_bin, q_chain, chainK_bl, q_tru, truK_bl, truK_int, truK_lst, truK_tup, truK_non, truK_str, q_test, tstK_bl, q_and, q_or, q_not, q_andV, q_orV, q_notV, q_ifE, q_un, q_nil, q_cons, q_tup, q_lst, q_callF, q_call, q_meth, methK_obj, methO_some, q_isB, q_items, itemsK_str, itemsK_lst, itemsK_tup, q_range1, rangeK_int, q_nop, q_seq, seqK_nx, seqK_rt, seqK_bk, seqK_ct, q_if, q_ret, q_retN, q_drop, q_set, q_setOwn, q_for, q_for_nil, forK_nx, forK_ct, forK_bk, forK_rt, gd_true, lf_some, f_add_int, f_add_str, f_add_lst, f_add_tup, f_sub_int, f_mul_r, f_mul_l, f_mod, f_div, f_eq_str, f_eq_int, f_eq_bl, f_ne_str, f_ne_int, f_ne_bl, f_lt, f_le, f_gt, f_ge, f_in_sign, f_notIn_sign, f_is_bl, f_len_str, f_len_lst, f_len_tup, f_len_scr, f_len_dic, f_int_bl, f_int_int, List.length_cons, List.length_nil, List.length_replicate, List.length_set, List.set_cons_zero, List.set_cons_succ, List.getElem?_cons_zero, List.getElem?_cons_succ, Nat.reduceAdd, Nat.reduceLT, Nat.zero_lt_succ, Nat.lt_add_one, if_true, if_false, Bool.not_true, Bool.not_false, Bool.false_eq_true, reduceIte, decide_true, decide_false, reduceCtorEq, List.cons.injEq, Nat.reduceEqDiff, and_true, true_and, and_false, false_and, isB_str_str, isB_str_int, isB_str_bl, isB_int_int, isB_bool_int, isB_bool_bl, isB_int_bl, isB_int_str, isB_bool_str, f_join_nil, f_join_signs, f_all_map, f_any_map, f_lstrip, f_cut_str, f_cut_lst, f_cut_tup, q_while, q_bm, isTy_str, isTy_lst, isTy_dic, q_part, partK_int, q_noPart, q_cut, q_range2, range2K_int, q_get2, get2K_dic, key_str, key_int, q_dict, q_pairs_nil, pairK_some, q_pairs_cons, q_app, appK_own, q_frz, frzK_own, frzK_val, frzK_no, q_aug, augK_val, f_ix_lst, f_ix_tup, f_ix_scr, f_ix_str, Int.reduceToNat, List.getD_cons_zero, List.getD_cons_succ, q_forN, Int.toNat_natCast, f_in_sign, f_neg_int, f_is_non, f_isNot_non, isNon_non, isNon_tup, isNon_int, isNon_str, isNon_lst, isNon_dic, isNon_bl, isNon_obj, isB_tuple_tup, isB_list_lst, isB_str_tup, isB_str_lst, isB_str_non, isB_tuple_non, tbl_behind]
      rw [s_Number_behind (Ψ := Ψ) (k + 4) T i hi (by omega)]
      rfl
    · simp (disch := (first | with_reducible assumption | omega | ((try simp only [q_sl, List.length_append, List.length_map, List.length_cons, List.length_nil, and_true, true_and]); first | omega | decide))) only [bnd_pure, q_runF, fin_nx, fin_rt, q_var0, q_vars, q_C, q_bin, q_chain, chainK_bl, q_tru, truK_bl, truK_int, truK_lst, truK_tup, truK_non, truK_str, q_test, tstK_bl, q_and, q_or, q_not, q_andV, q_orV, q_notV, q_ifE, q_un, q_nil, q_cons, q_tup, q_lst, q_callF, q_call, q_meth, methK_obj, methO_some, q_isB, q_items, itemsK_str, itemsK_lst, itemsK_tup, q_range1, rangeK_int, q_nop, q_seq, seqK_nx, seqK_rt, seqK_bk, seqK_ct, q_if, q_ret, q_retN, q_drop, q_set, q_setOwn, q_for, q_for_nil, forK_nx, forK_ct, forK_bk, forK_rt, gd_true, lf_some, f_add_int, f_add_str, f_add_lst, f_add_tup, f_sub_int, f_mul_r, f_mul_l, f_mod, f_div, f_eq_str, f_eq_int, f_eq_bl, f_ne_str, f_ne_int, f_ne_bl, f_lt, f_le, f_gt, f_ge, f_in_sign, f_notIn_sign, f_is_bl, f_len_str, f_len_lst, f_len_tup, f_len_scr, f_len_dic, f_int_bl, f_int_int, List.length_cons, List.length_nil, List.length_replicate, List.length_set, List.set_cons_zero, List.set_cons_succ, List.getElem?_cons_zero, List.getElem?_cons_succ, Nat.reduceAdd, Nat.reduceLT, Nat.zero_lt_succ, Nat.lt_add_one, if_true, if_false, Bool.not_true, Bool.not_false, Bool.false_eq_true, reduceIte, decide_true, decide_false, reduceCtorEq, List.cons.injEq, Nat.reduceEqDiff, and_true, true_and, and_false, false_and, isB_str_str, isB_str_int, isB_str_bl, isB_int_int, isB_bool_int, isB_bool_bl, isB_int_bl, isB_int_str, isB_bool_str, f_join_nil, f_join_signs, f_all_map, f_any_map, f_lstrip, f_cut_str, f_cut_lst, f_cut_tup, q_while, q_bm, isTy_str, isTy_lst, isTy_dic, q_part, partK_int, q_noPart, q_cut, q_range2, range2K_int, q_get2, get2K_dic, key_str, key_int, q_dict, q_pairs_nil, pairK_some, q_pairs_cons, q_app, appK_own, q_frz, frzK_own, frzK_val, frzK_no, q_aug, augK_val, f_ix_lst, f_ix_tup, f_ix_scr, f_ix_str, Int.reduceToNat, List.getD_cons_zero, List.getD_cons_succ, q_forN, Int.toNat_natCast, f_in_sign, f_neg_int, f_is_non, f_isNot_non, isNon_non, isNon_tup, isNon_int, isNon_str, isNon_lst, isNon_dic, isNon_bl, isNon_obj, isB_tuple_tup, isB_list_lst, isB_str_tup, isB_str_lst, isB_str_non, isB_tuple_non, tbl_meant, s_Number_meant _ _ (show (stN pF (T.drop i)).length ≤ 100000 by omega)]
    · by_cases h1 : figs (stN pF (T.drop i)) = [] ∨ 30 < (figs (stN pF (T.drop i))).length
      · rw [if_pos h1]
        have : mN (stN pF (T.drop i)) = none := by
          unfold mN
          rw [if_neg]
          rintro ⟨⟨h2, h3⟩, _⟩
          rcases h1 with h1 | h1
          · rw [h1] at h2; simp at h2
          · omega
        rw [this]
        exact .none
      · rw [if_neg h1]
        have hne : figs (stN pF (T.drop i)) ≠ [] := fun z => h1 (.inl z)
        have h30 : (figs (stN pF (T.drop i))).length ≤ 30 := Nat.le_of_not_lt fun z => h1 (.inr z)
        have hpos : 1 ≤ (figs (stN pF (T.drop i))).length := by
          cases q : figs (stN pF (T.drop i)) with
          | nil => exact absurd q hne
          | cons => simp
        have hb := numV_bound h30
        have hfit : methO 2 (pure [.int (numV (stN pF (T.drop i)))]) 5 (tbl_fits (Ψ (k + 5)) 5) = pure (.bl true) := by
          simp (disch := (first | with_reducible assumption | omega | ((try simp only [q_sl, List.length_append, List.length_map, List.length_cons, List.length_nil, and_true, true_and]); first | omega | decide))) only [bnd_pure, q_runF, fin_nx, fin_rt, q_var0, q_vars, q_C, q_bin, q_chain, chainK_bl, q_tru, truK_bl, truK_int, truK_lst, truK_tup, truK_non, truK_str, q_test, tstK_bl, q_and, q_or, q_not, q_andV, q_orV, q_notV, q_ifE, q_un, q_nil, q_cons, q_tup, q_lst, q_callF, q_call, q_meth, methK_obj, methO_some, q_isB, q_items, itemsK_str, itemsK_lst, itemsK_tup, q_range1, rangeK_int, q_nop, q_seq, seqK_nx, seqK_rt, seqK_bk, seqK_ct, q_if, q_ret, q_retN, q_drop, q_set, q_setOwn, q_for, q_for_nil, forK_nx, forK_ct, forK_bk, forK_rt, gd_true, lf_some, f_add_int, f_add_str, f_add_lst, f_add_tup, f_sub_int, f_mul_r, f_mul_l, f_mod, f_div, f_eq_str, f_eq_int, f_eq_bl, f_ne_str, f_ne_int, f_ne_bl, f_lt, f_le, f_gt, f_ge, f_in_sign, f_notIn_sign, f_is_bl, f_len_str, f_len_lst, f_len_tup, f_len_scr, f_len_dic, f_int_bl, f_int_int, List.length_cons, List.length_nil, List.length_replicate, List.length_set, List.set_cons_zero, List.set_cons_succ, List.getElem?_cons_zero, List.getElem?_cons_succ, Nat.reduceAdd, Nat.reduceLT, Nat.zero_lt_succ, Nat.lt_add_one, if_true, if_false, Bool.not_true, Bool.not_false, Bool.false_eq_true, reduceIte, decide_true, decide_false, reduceCtorEq, List.cons.injEq, Nat.reduceEqDiff, and_true, true_and, and_false, false_and, isB_str_str, isB_str_int, isB_str_bl, isB_int_int, isB_bool_int, isB_bool_bl, isB_int_bl, isB_int_str, isB_bool_str, f_join_nil, f_join_signs, f_all_map, f_any_map, f_lstrip, f_cut_str, f_cut_lst, f_cut_tup, q_while, q_bm, isTy_str, isTy_lst, isTy_dic, q_part, partK_int, q_noPart, q_cut, q_range2, range2K_int, q_get2, get2K_dic, key_str, key_int, q_dict, q_pairs_nil, pairK_some, q_pairs_cons, q_app, appK_own, q_frz, frzK_own, frzK_val, frzK_no, q_aug, augK_val, f_ix_lst, f_ix_tup, f_ix_scr, f_ix_str, Int.reduceToNat, List.getD_cons_zero, List.getD_cons_succ, q_forN, Int.toNat_natCast, f_in_sign, f_neg_int, f_is_non, f_isNot_non, isNon_non, isNon_tup, isNon_int, isNon_str, isNon_lst, isNon_dic, isNon_bl, isNon_obj, isB_tuple_tup, isB_list_lst, isB_str_tup, isB_str_lst, isB_str_non, isB_tuple_non, tbl_fits, s_Number_fits _ _ hb]
        have hmk : methO 2 (pure [.int (numV (stN pF (T.drop i)))]) 5 (tbl_marked (Ψ (k + 5)) 5) = pure (.str (strI (numV (stN pF (T.drop i))))) := by
          simp (disch := (first | with_reducible assumption | omega | ((try simp only [q_sl, List.length_append, List.length_map, List.length_cons, List.length_nil, and_true, true_and]); first | omega | decide))) only [bnd_pure, q_runF, fin_nx, fin_rt, q_var0, q_vars, q_C, q_bin, q_chain, chainK_bl, q_tru, truK_bl, truK_int, truK_lst, truK_tup, truK_non, truK_str, q_test, tstK_bl, q_and, q_or, q_not, q_andV, q_orV, q_notV, q_ifE, q_un, q_nil, q_cons, q_tup, q_lst, q_callF, q_call, q_meth, methK_obj, methO_some, q_isB, q_items, itemsK_str, itemsK_lst, itemsK_tup, q_range1, rangeK_int, q_nop, q_seq, seqK_nx, seqK_rt, seqK_bk, seqK_ct, q_if, q_ret, q_retN, q_drop, q_set, q_setOwn, q_for, q_for_nil, forK_nx, forK_ct, forK_bk, forK_rt, gd_true, lf_some, f_add_int, f_add_str, f_add_lst, f_add_tup, f_sub_int, f_mul_r, f_mul_l, f_mod, f_div, f_eq_str, f_eq_int, f_eq_bl, f_ne_str, f_ne_int, f_ne_bl, f_lt, f_le, f_gt, f_ge, f_in_sign, f_notIn_sign, f_is_bl, f_len_str, f_len_lst, f_len_tup, f_len_scr, f_len_dic, f_int_bl, f_int_int, List.length_cons, List.length_nil, List.length_replicate, List.length_set, List.set_cons_zero, List.set_cons_succ, List.getElem?_cons_zero, List.getElem?_cons_succ, Nat.reduceAdd, Nat.reduceLT, Nat.zero_lt_succ, Nat.lt_add_one, if_true, if_false, Bool.not_true, Bool.not_false, Bool.false_eq_true, reduceIte, decide_true, decide_false, reduceCtorEq, List.cons.injEq, Nat.reduceEqDiff, and_true, true_and, and_false, false_and, isB_str_str, isB_str_int, isB_str_bl, isB_int_int, isB_bool_int, isB_bool_bl, isB_int_bl, isB_int_str, isB_bool_str, f_join_nil, f_join_signs, f_all_map, f_any_map, f_lstrip, f_cut_str, f_cut_lst, f_cut_tup, q_while, q_bm, isTy_str, isTy_lst, isTy_dic, q_part, partK_int, q_noPart, q_cut, q_range2, range2K_int, q_get2, get2K_dic, key_str, key_int, q_dict, q_pairs_nil, pairK_some, q_pairs_cons, q_app, appK_own, q_frz, frzK_own, frzK_val, frzK_no, q_aug, augK_val, f_ix_lst, f_ix_tup, f_ix_scr, f_ix_str, Int.reduceToNat, List.getD_cons_zero, List.getD_cons_succ, q_forN, Int.toNat_natCast, f_in_sign, f_neg_int, f_is_non, f_isNot_non, isNon_non, isNon_tup, isNon_int, isNon_str, isNon_lst, isNon_dic, isNon_bl, isNon_obj, isB_tuple_tup, isB_list_lst, isB_str_tup, isB_str_lst, isB_str_non, isB_tuple_non, tbl_marked, m_number _ _ hb]
        by_cases hc : (figs (stN pF (T.drop i))).getD 0 0 = 48 ∧ stN pF (T.drop i) ≠ [48]
        · rw [show mN (stN pF (T.drop i)) = none from if_neg fun z => z.2 hc]
          exact .other hfit hmk fun z => (canon hne).mp z hc
        · rw [show mN (stN pF (T.drop i)) = some (.int (numV (stN pF (T.drop i)))) from if_pos ⟨⟨hpos, h30⟩, hc⟩]
          exact .same hfit (by rw [hmk, (canon hne).mpr hc])
  · exact s_law_due (k + 5) w_number T _ i _ (by omega) hstr hpre (s_lmeant_num (k + 4) _ (by omega) (figs_digits _)) hfine
end K02.Ma
end
section
set_option linter.all false
set_option maxRecDepth 100000
namespace K02.Ma
open PySem L2 DL
variable {Ψ : Nat → Fid → List D → M D} [IsΦ Ψ]
theorem s_text_m (k : Nat) (c m : Int) (h : 0 ≤ c ∧ c < 2147483647) (hm1 : 1 ≤ m ∧ m ≤ 400) : ∃ t : Tx, ((t.length : Int) ≤ max m 8 ∧ t.length ≤ 400) ∧ (∀ x ∈ t, x ∈ c_SIGNS) ∧ Ψ (k + 2) ._law_text_by [.int c, .int m] = pure (.str t) := by
  obtain ⟨n, hm, e⟩ := f_ix_ints [c % 9, c % 9, c % (m + 1), m - c % 2] _ (mul_truth (c / 9 % 4) (decide (c / 36 % 3 = 1)) 4 (by omega))
  have hn : 0 ≤ n ∧ n ≤ max m 8 := by
    simp only [List.mem_cons, List.not_mem_nil, or_false] at hm
    have h1 := Int.emod_nonneg c (show m + 1 ≠ 0 by omega)
    have h2 := Int.emod_lt_of_pos c (show 0 < m + 1 by omega)
    omega
  obtain ⟨t, tl, ht, a, b, e'⟩ := text_loop (Ψ := Ψ) k c m (.val (.int n)) ((List.range n.toNat).map fun (i : Nat) => 0 + (i : Int)) .no .no [] (by
    intro j hj
    simp only [List.mem_map, List.mem_range] at hj
    obtain ⟨i, hi, rfl⟩ := hj
    omega) (by simp; omega)
  have tl : t.length = n.toNat := by simpa using tl
  refine ⟨t, by omega, ht, ?_⟩
  have e : fIx (.lst [.int (c % 9), .int (c % 9), .int (c % (m + 1)), .int (m - c % 2)]) (.int (c / 9 % 4 * if decide (c / 36 % 3 = 1) = true then 1 else 0)) = pure (.int n) := e
  have hw := truth_small (decide (c / 36 % 3 = 1))
  simp (disch := (first | with_reducible assumption | omega | ((try simp only [q_sl, List.length_append, List.length_map, List.length_cons, List.length_nil, and_true, true_and]); first | omega | decide))) only [bnd_pure, q_runF, fin_nx, fin_rt, q_var0, q_vars, q_C, q_bin, q_chain, chainK_bl, q_tru, truK_bl, truK_int, truK_lst, truK_tup, truK_non, truK_str, q_test, tstK_bl, q_and, q_or, q_not, q_andV, q_orV, q_notV, q_ifE, q_un, q_nil, q_cons, q_tup, q_lst, q_callF, q_call, q_meth, methK_obj, methO_some, q_isB, q_items, itemsK_str, itemsK_lst, itemsK_tup, q_range1, rangeK_int, q_nop, q_seq, seqK_nx, seqK_rt, seqK_bk, seqK_ct, q_if, q_ret, q_retN, q_drop, q_set, q_setOwn, q_for, q_for_nil, forK_nx, forK_ct, forK_bk, forK_rt, gd_true, lf_some, f_add_int, f_add_str, f_add_lst, f_add_tup, f_sub_int, f_mul_r, f_mul_l, f_mod, f_div, f_eq_str, f_eq_int, f_eq_bl, f_ne_str, f_ne_int, f_ne_bl, f_lt, f_le, f_gt, f_ge, f_in_sign, f_notIn_sign, f_is_bl, f_len_str, f_len_lst, f_len_tup, f_len_scr, f_len_dic, f_int_bl, f_int_int, List.length_cons, List.length_nil, List.length_replicate, List.length_set, List.set_cons_zero, List.set_cons_succ, List.getElem?_cons_zero, List.getElem?_cons_succ, Nat.reduceAdd, Nat.reduceLT, Nat.zero_lt_succ, Nat.lt_add_one, if_true, if_false, Bool.not_true, Bool.not_false, Bool.false_eq_true, reduceIte, decide_true, decide_false, reduceCtorEq, List.cons.injEq, Nat.reduceEqDiff, and_true, true_and, and_false, false_and, isB_str_str, isB_str_int, isB_str_bl, isB_int_int, isB_bool_int, isB_bool_bl, isB_int_bl, isB_int_str, isB_bool_str, f_join_nil, f_join_signs, f_all_map, f_any_map, f_lstrip, f_cut_str, f_cut_lst, f_cut_tup, q_while, q_bm, isTy_str, isTy_lst, isTy_dic, q_part, partK_int, q_noPart, q_cut, q_range2, range2K_int, q_get2, get2K_dic, key_str, key_int, q_dict, q_pairs_nil, pairK_some, q_pairs_cons, q_app, appK_own, q_frz, frzK_own, frzK_val, frzK_no, q_aug, augK_val, f_ix_lst, f_ix_tup, f_ix_scr, f_ix_str, Int.reduceToNat, List.getD_cons_zero, List.getD_cons_succ, q_forN, Int.toNat_natCast, f_in_sign, f_neg_int, f_is_non, f_isNot_non, isNon_non, isNon_tup, isNon_int, isNon_str, isNon_lst, isNon_dic, isNon_bl, isNon_obj, isB_tuple_tup, isB_list_lst, isB_str_tup, isB_str_lst, isB_str_non, isB_tuple_non, u__law_text_by, b__law_text_by, s_law_signs, e, rangeL_map, e', List.nil_append]
/-! what the law codes -/
theorem enc_len (mk : Nat) (ps : List (Nat × Nat)) (t : Tx) : (t.flatMap (encS mk ps)).length ≤ 2 * t.length := flatMap_len fun a => by
  unfold encS
  split <;> simp
def mkD (mk : Nat) (ps : List (Nat × Nat)) : List (DKey × D) := ps.map fun q => (.inr [q.1], .str [mk, q.2])
theorem get_enc (mk : Nat) (ps : List (Nat × Nat)) (c : Nat) : (valD (mkD mk ps) (.inr [c])).getD (.str [c]) = .str (encS mk ps c) := by
  have key : ∀ ps : List (Nat × Nat), valD (mkD mk ps) (.inr [c]) = (ps.find? fun q => decide (q.1 = c)).map fun q => D.str [mk, q.2] := by
    intro ps
    unfold mkD valD
    induction ps with
    | nil => rfl
    | cons q ps ih =>
      rw [List.map_cons]
      by_cases hq : q.1 = c
      · simp [List.find?_cons, hq]
      · simp only [List.find?_cons, hq, Sum.inr.injEq, List.cons.injEq, and_true, decide_false]
        exact ih
  rw [key]
  unfold encS
  cases ps.find? (fun q => decide (q.1 = c)) <;> rfl
theorem join_enc (mk : Nat) (ps : List (Nat × Nat)) (t : Tx) (h : t.length ≤ 400) : fJoin (.str []) [.lst (t.map fun c => .str (encS mk ps c))] = pure (.str (t.flatMap (encS mk ps))) := by
  have e : (t.map fun c => D.str (encS mk ps c)) = (t.map (encS mk ps)).map D.str := by rw [List.map_map]; rfl
  have e2 : (t.map (encS mk ps)).flatten = t.flatMap (encS mk ps) := rfl
  rw [e, f_join_nil, e2]
  have := enc_len mk ps t
  rw [← e2, List.length_flatten] at this
  exact Nat.le_trans this (by omega)
theorem comp_enc (mk : Nat) (ps : List (Nat × Nat)) (w t : Tx) (h : t.length ≤ 400) : compL (bName 4) [.val (.str w), .val (.str t), .val (.dic (mkD mk ps)), .no, .no] mYes (mGet2 (mVar 2) (mVar 4) (mVar 4)) (t.map fun c => .str [c]) [] = pure (t.map fun c => .str (encS mk ps c)) := by
  rw [compL_all (fun c => D.str (encS mk ps c)) (fun c => [.val (.str w), .val (.str t), .val (.dic (mkD mk ps)), .no, .val (.str [c])]) (fun _ _ => rfl) (fun c _ => by simp (disch := (first | with_reducible assumption | omega | ((try simp only [q_sl, List.length_append, List.length_map, List.length_cons, List.length_nil, and_true, true_and]); first | omega | decide))) only [bnd_pure, q_runF, fin_nx, fin_rt, q_var0, q_vars, q_C, q_bin, q_chain, chainK_bl, q_tru, truK_bl, truK_int, truK_lst, truK_tup, truK_non, truK_str, q_test, tstK_bl, q_and, q_or, q_not, q_andV, q_orV, q_notV, q_ifE, q_un, q_nil, q_cons, q_tup, q_lst, q_callF, q_call, q_meth, methK_obj, methO_some, q_isB, q_items, itemsK_str, itemsK_lst, itemsK_tup, q_range1, rangeK_int, q_nop, q_seq, seqK_nx, seqK_rt, seqK_bk, seqK_ct, q_if, q_ret, q_retN, q_drop, q_set, q_setOwn, q_for, q_for_nil, forK_nx, forK_ct, forK_bk, forK_rt, gd_true, lf_some, f_add_int, f_add_str, f_add_lst, f_add_tup, f_sub_int, f_mul_r, f_mul_l, f_mod, f_div, f_eq_str, f_eq_int, f_eq_bl, f_ne_str, f_ne_int, f_ne_bl, f_lt, f_le, f_gt, f_ge, f_in_sign, f_notIn_sign, f_is_bl, f_len_str, f_len_lst, f_len_tup, f_len_scr, f_len_dic, f_int_bl, f_int_int, List.length_cons, List.length_nil, List.length_replicate, List.length_set, List.set_cons_zero, List.set_cons_succ, List.getElem?_cons_zero, List.getElem?_cons_succ, Nat.reduceAdd, Nat.reduceLT, Nat.zero_lt_succ, Nat.lt_add_one, if_true, if_false, Bool.not_true, Bool.not_false, Bool.false_eq_true, reduceIte, decide_true, decide_false, reduceCtorEq, List.cons.injEq, Nat.reduceEqDiff, and_true, true_and, and_false, false_and, isB_str_str, isB_str_int, isB_str_bl, isB_int_int, isB_bool_int, isB_bool_bl, isB_int_bl, isB_int_str, isB_bool_str, f_join_nil, f_join_signs, f_all_map, f_any_map, f_lstrip, f_cut_str, f_cut_lst, f_cut_tup, q_while, q_bm, isTy_str, isTy_lst, isTy_dic, q_part, partK_int, q_noPart, q_cut, q_range2, range2K_int, q_get2, get2K_dic, key_str, key_int, q_dict, q_pairs_nil, pairK_some, q_pairs_cons, q_app, appK_own, q_frz, frzK_own, frzK_val, frzK_no, q_aug, augK_val, f_ix_lst, f_ix_tup, f_ix_scr, f_ix_str, Int.reduceToNat, List.getD_cons_zero, List.getD_cons_succ, q_forN, Int.toNat_natCast, f_in_sign, f_neg_int, f_is_non, f_isNot_non, isNon_non, isNon_tup, isNon_int, isNon_str, isNon_lst, isNon_dic, isNon_bl, isNon_obj, isB_tuple_tup, isB_list_lst, isB_str_tup, isB_str_lst, isB_str_non, isB_tuple_non, get_enc]) (by omega)]
theorem c_word (k : Nat) (t : Tx) : Ψ (k + 1) ._law_coded [.str w_word, .str t] = pure (.str t) := by
  have n3 : [119, 111, 114, 100] = w_word := rfl
  simp (disch := (first | with_reducible assumption | omega | ((try simp only [q_sl, List.length_append, List.length_map, List.length_cons, List.length_nil, and_true, true_and]); first | omega | decide))) only [bnd_pure, q_runF, fin_nx, fin_rt, q_var0, q_vars, q_C, q_bin, q_chain, chainK_bl, q_tru, truK_bl, truK_int, truK_lst, truK_tup, truK_non, truK_str, q_test, tstK_bl, q_and, q_or, q_not, q_andV, q_orV, q_notV, q_ifE, q_un, q_nil, q_cons, q_tup, q_lst, q_callF, q_call, q_meth, methK_obj, methO_some, q_isB, q_items, itemsK_str, itemsK_lst, itemsK_tup, q_range1, rangeK_int, q_nop, q_seq, seqK_nx, seqK_rt, seqK_bk, seqK_ct, q_if, q_ret, q_retN, q_drop, q_set, q_setOwn, q_for, q_for_nil, forK_nx, forK_ct, forK_bk, forK_rt, gd_true, lf_some, f_add_int, f_add_str, f_add_lst, f_add_tup, f_sub_int, f_mul_r, f_mul_l, f_mod, f_div, f_eq_str, f_eq_int, f_eq_bl, f_ne_str, f_ne_int, f_ne_bl, f_lt, f_le, f_gt, f_ge, f_in_sign, f_notIn_sign, f_is_bl, f_len_str, f_len_lst, f_len_tup, f_len_scr, f_len_dic, f_int_bl, f_int_int, List.length_cons, List.length_nil, List.length_replicate, List.length_set, List.set_cons_zero, List.set_cons_succ, List.getElem?_cons_zero, List.getElem?_cons_succ, Nat.reduceAdd, Nat.reduceLT, Nat.zero_lt_succ, Nat.lt_add_one, if_true, if_false, Bool.not_true, Bool.not_false, Bool.false_eq_true, reduceIte, decide_true, decide_false, reduceCtorEq, List.cons.injEq, Nat.reduceEqDiff, and_true, true_and, and_false, false_and, isB_str_str, isB_str_int, isB_str_bl, isB_int_int, isB_bool_int, isB_bool_bl, isB_int_bl, isB_int_str, isB_bool_str, f_join_nil, f_join_signs, f_all_map, f_any_map, f_lstrip, f_cut_str, f_cut_lst, f_cut_tup, q_while, q_bm, isTy_str, isTy_lst, isTy_dic, q_part, partK_int, q_noPart, q_cut, q_range2, range2K_int, q_get2, get2K_dic, key_str, key_int, q_dict, q_pairs_nil, pairK_some, q_pairs_cons, q_app, appK_own, q_frz, frzK_own, frzK_val, frzK_no, q_aug, augK_val, f_ix_lst, f_ix_tup, f_ix_scr, f_ix_str, Int.reduceToNat, List.getD_cons_zero, List.getD_cons_succ, q_forN, Int.toNat_natCast, f_in_sign, f_neg_int, f_is_non, f_isNot_non, isNon_non, isNon_tup, isNon_int, isNon_str, isNon_lst, isNon_dic, isNon_bl, isNon_obj, isB_tuple_tup, isB_list_lst, isB_str_tup, isB_str_lst, isB_str_non, isB_tuple_non, u__law_coded, b__law_coded, n3]
theorem c_number (k : Nat) (n : Int) (h : -(10 ^ 30) < n ∧ n < 10 ^ 30) : Ψ (k + 1) ._law_coded [.str w_number, .int n] = pure (.str (strI n)) := by
  have n3 : [119, 111, 114, 100] = w_word := rfl
  have n4 : [110, 117, 109, 98, 101, 114] = w_number := rfl
  have hne : ¬ w_number = w_word := by decide
  have e : fStr [.int n] = pure (.str (strI n)) := gd_true (log_ok n h)
  simp (disch := (first | with_reducible assumption | omega | ((try simp only [q_sl, List.length_append, List.length_map, List.length_cons, List.length_nil, and_true, true_and]); first | omega | decide))) only [bnd_pure, q_runF, fin_nx, fin_rt, q_var0, q_vars, q_C, q_bin, q_chain, chainK_bl, q_tru, truK_bl, truK_int, truK_lst, truK_tup, truK_non, truK_str, q_test, tstK_bl, q_and, q_or, q_not, q_andV, q_orV, q_notV, q_ifE, q_un, q_nil, q_cons, q_tup, q_lst, q_callF, q_call, q_meth, methK_obj, methO_some, q_isB, q_items, itemsK_str, itemsK_lst, itemsK_tup, q_range1, rangeK_int, q_nop, q_seq, seqK_nx, seqK_rt, seqK_bk, seqK_ct, q_if, q_ret, q_retN, q_drop, q_set, q_setOwn, q_for, q_for_nil, forK_nx, forK_ct, forK_bk, forK_rt, gd_true, lf_some, f_add_int, f_add_str, f_add_lst, f_add_tup, f_sub_int, f_mul_r, f_mul_l, f_mod, f_div, f_eq_str, f_eq_int, f_eq_bl, f_ne_str, f_ne_int, f_ne_bl, f_lt, f_le, f_gt, f_ge, f_in_sign, f_notIn_sign, f_is_bl, f_len_str, f_len_lst, f_len_tup, f_len_scr, f_len_dic, f_int_bl, f_int_int, List.length_cons, List.length_nil, List.length_replicate, List.length_set, List.set_cons_zero, List.set_cons_succ, List.getElem?_cons_zero, List.getElem?_cons_succ, Nat.reduceAdd, Nat.reduceLT, Nat.zero_lt_succ, Nat.lt_add_one, if_true, if_false, Bool.not_true, Bool.not_false, Bool.false_eq_true, reduceIte, decide_true, decide_false, reduceCtorEq, List.cons.injEq, Nat.reduceEqDiff, and_true, true_and, and_false, false_and, isB_str_str, isB_str_int, isB_str_bl, isB_int_int, isB_bool_int, isB_bool_bl, isB_int_bl, isB_int_str, isB_bool_str, f_join_nil, f_join_signs, f_all_map, f_any_map, f_lstrip, f_cut_str, f_cut_lst, f_cut_tup, q_while, q_bm, isTy_str, isTy_lst, isTy_dic, q_part, partK_int, q_noPart, q_cut, q_range2, range2K_int, q_get2, get2K_dic, key_str, key_int, q_dict, q_pairs_nil, pairK_some, q_pairs_cons, q_app, appK_own, q_frz, frzK_own, frzK_val, frzK_no, q_aug, augK_val, f_ix_lst, f_ix_tup, f_ix_scr, f_ix_str, Int.reduceToNat, List.getD_cons_zero, List.getD_cons_succ, q_forN, Int.toNat_natCast, f_in_sign, f_neg_int, f_is_non, f_isNot_non, isNon_non, isNon_tup, isNon_int, isNon_str, isNon_lst, isNon_dic, isNon_bl, isNon_obj, isB_tuple_tup, isB_list_lst, isB_str_tup, isB_str_lst, isB_str_non, isB_tuple_non, u__law_coded, b__law_coded, n3, n4, hne, e]
theorem c_line (k : Nat) (t : Tx) (h : t.length ≤ 400) : Ψ (k + 1) ._law_coded [.str w_line, .str t] = pure (.str (enL t)) := by
  have hd : mergeD [] [(.inr [126], .str [126, 126]), (.inr [10], .str [126, 110])] = mkD 126 psL := rfl
  simp (disch := (first | with_reducible assumption | omega | ((try simp only [q_sl, List.length_append, List.length_map, List.length_cons, List.length_nil, and_true, true_and]); first | omega | decide))) only [bnd_pure, q_runF, fin_nx, fin_rt, q_var0, q_vars, q_C, q_bin, q_chain, chainK_bl, q_tru, truK_bl, truK_int, truK_lst, truK_tup, truK_non, truK_str, q_test, tstK_bl, q_and, q_or, q_not, q_andV, q_orV, q_notV, q_ifE, q_un, q_nil, q_cons, q_tup, q_lst, q_callF, q_call, q_meth, methK_obj, methO_some, q_isB, q_items, itemsK_str, itemsK_lst, itemsK_tup, q_range1, rangeK_int, q_nop, q_seq, seqK_nx, seqK_rt, seqK_bk, seqK_ct, q_if, q_ret, q_retN, q_drop, q_set, q_setOwn, q_for, q_for_nil, forK_nx, forK_ct, forK_bk, forK_rt, gd_true, lf_some, f_add_int, f_add_str, f_add_lst, f_add_tup, f_sub_int, f_mul_r, f_mul_l, f_mod, f_div, f_eq_str, f_eq_int, f_eq_bl, f_ne_str, f_ne_int, f_ne_bl, f_lt, f_le, f_gt, f_ge, f_in_sign, f_notIn_sign, f_is_bl, f_len_str, f_len_lst, f_len_tup, f_len_scr, f_len_dic, f_int_bl, f_int_int, List.length_cons, List.length_nil, List.length_replicate, List.length_set, List.set_cons_zero, List.set_cons_succ, List.getElem?_cons_zero, List.getElem?_cons_succ, Nat.reduceAdd, Nat.reduceLT, Nat.zero_lt_succ, Nat.lt_add_one, if_true, if_false, Bool.not_true, Bool.not_false, Bool.false_eq_true, reduceIte, decide_true, decide_false, reduceCtorEq, List.cons.injEq, Nat.reduceEqDiff, and_true, true_and, and_false, false_and, isB_str_str, isB_str_int, isB_str_bl, isB_int_int, isB_bool_int, isB_bool_bl, isB_int_bl, isB_int_str, isB_bool_str, f_join_nil, f_join_signs, f_all_map, f_any_map, f_lstrip, f_cut_str, f_cut_lst, f_cut_tup, q_while, q_bm, isTy_str, isTy_lst, isTy_dic, q_part, partK_int, q_noPart, q_cut, q_range2, range2K_int, q_get2, get2K_dic, key_str, key_int, q_dict, q_pairs_nil, pairK_some, q_pairs_cons, q_app, appK_own, q_frz, frzK_own, frzK_val, frzK_no, q_aug, augK_val, f_ix_lst, f_ix_tup, f_ix_scr, f_ix_str, Int.reduceToNat, List.getD_cons_zero, List.getD_cons_succ, q_forN, Int.toNat_natCast, f_in_sign, f_neg_int, f_is_non, f_isNot_non, isNon_non, isNon_tup, isNon_int, isNon_str, isNon_lst, isNon_dic, isNon_bl, isNon_obj, isB_tuple_tup, isB_list_lst, isB_str_tup, isB_str_lst, isB_str_non, isB_tuple_non, u__law_coded, b__law_coded, w_line, hd, q_comp, wipeE]
  rw [comp_enc 126 psL _ t h]
  simp (disch := (first | with_reducible assumption | omega | ((try simp only [q_sl, List.length_append, List.length_map, List.length_cons, List.length_nil, and_true, true_and]); first | omega | decide))) only [bnd_pure, q_runF, fin_nx, fin_rt, q_var0, q_vars, q_C, q_bin, q_chain, chainK_bl, q_tru, truK_bl, truK_int, truK_lst, truK_tup, truK_non, truK_str, q_test, tstK_bl, q_and, q_or, q_not, q_andV, q_orV, q_notV, q_ifE, q_un, q_nil, q_cons, q_tup, q_lst, q_callF, q_call, q_meth, methK_obj, methO_some, q_isB, q_items, itemsK_str, itemsK_lst, itemsK_tup, q_range1, rangeK_int, q_nop, q_seq, seqK_nx, seqK_rt, seqK_bk, seqK_ct, q_if, q_ret, q_retN, q_drop, q_set, q_setOwn, q_for, q_for_nil, forK_nx, forK_ct, forK_bk, forK_rt, gd_true, lf_some, f_add_int, f_add_str, f_add_lst, f_add_tup, f_sub_int, f_mul_r, f_mul_l, f_mod, f_div, f_eq_str, f_eq_int, f_eq_bl, f_ne_str, f_ne_int, f_ne_bl, f_lt, f_le, f_gt, f_ge, f_in_sign, f_notIn_sign, f_is_bl, f_len_str, f_len_lst, f_len_tup, f_len_scr, f_len_dic, f_int_bl, f_int_int, List.length_cons, List.length_nil, List.length_replicate, List.length_set, List.set_cons_zero, List.set_cons_succ, List.getElem?_cons_zero, List.getElem?_cons_succ, Nat.reduceAdd, Nat.reduceLT, Nat.zero_lt_succ, Nat.lt_add_one, if_true, if_false, Bool.not_true, Bool.not_false, Bool.false_eq_true, reduceIte, decide_true, decide_false, reduceCtorEq, List.cons.injEq, Nat.reduceEqDiff, and_true, true_and, and_false, false_and, isB_str_str, isB_str_int, isB_str_bl, isB_int_int, isB_bool_int, isB_bool_bl, isB_int_bl, isB_int_str, isB_bool_str, f_join_nil, f_join_signs, f_all_map, f_any_map, f_lstrip, f_cut_str, f_cut_lst, f_cut_tup, q_while, q_bm, isTy_str, isTy_lst, isTy_dic, q_part, partK_int, q_noPart, q_cut, q_range2, range2K_int, q_get2, get2K_dic, key_str, key_int, q_dict, q_pairs_nil, pairK_some, q_pairs_cons, q_app, appK_own, q_frz, frzK_own, frzK_val, frzK_no, q_aug, augK_val, f_ix_lst, f_ix_tup, f_ix_scr, f_ix_str, Int.reduceToNat, List.getD_cons_zero, List.getD_cons_succ, q_forN, Int.toNat_natCast, f_in_sign, f_neg_int, f_is_non, f_isNot_non, isNon_non, isNon_tup, isNon_int, isNon_str, isNon_lst, isNon_dic, isNon_bl, isNon_obj, isB_tuple_tup, isB_list_lst, isB_str_tup, isB_str_lst, isB_str_non, isB_tuple_non, join_enc]
  rfl
theorem c_plain (k : Nat) (t : Tx) (h : t.length ≤ 400) : Ψ (k + 1) ._law_coded [.str w_plain, .str t] = pure (.str (enP t)) := by
  have hd : mergeD [] [(.inr [126], .str [126, 126]), (.inr [60], .str [126, 108]), (.inr [62], .str [126, 103]), (.inr [38], .str [126, 97]), (.inr [124], .str [126, 98]), (.inr [10], .str [126, 110])] = mkD 126 psP := rfl
  simp (disch := (first | with_reducible assumption | omega | ((try simp only [q_sl, List.length_append, List.length_map, List.length_cons, List.length_nil, and_true, true_and]); first | omega | decide))) only [bnd_pure, q_runF, fin_nx, fin_rt, q_var0, q_vars, q_C, q_bin, q_chain, chainK_bl, q_tru, truK_bl, truK_int, truK_lst, truK_tup, truK_non, truK_str, q_test, tstK_bl, q_and, q_or, q_not, q_andV, q_orV, q_notV, q_ifE, q_un, q_nil, q_cons, q_tup, q_lst, q_callF, q_call, q_meth, methK_obj, methO_some, q_isB, q_items, itemsK_str, itemsK_lst, itemsK_tup, q_range1, rangeK_int, q_nop, q_seq, seqK_nx, seqK_rt, seqK_bk, seqK_ct, q_if, q_ret, q_retN, q_drop, q_set, q_setOwn, q_for, q_for_nil, forK_nx, forK_ct, forK_bk, forK_rt, gd_true, lf_some, f_add_int, f_add_str, f_add_lst, f_add_tup, f_sub_int, f_mul_r, f_mul_l, f_mod, f_div, f_eq_str, f_eq_int, f_eq_bl, f_ne_str, f_ne_int, f_ne_bl, f_lt, f_le, f_gt, f_ge, f_in_sign, f_notIn_sign, f_is_bl, f_len_str, f_len_lst, f_len_tup, f_len_scr, f_len_dic, f_int_bl, f_int_int, List.length_cons, List.length_nil, List.length_replicate, List.length_set, List.set_cons_zero, List.set_cons_succ, List.getElem?_cons_zero, List.getElem?_cons_succ, Nat.reduceAdd, Nat.reduceLT, Nat.zero_lt_succ, Nat.lt_add_one, if_true, if_false, Bool.not_true, Bool.not_false, Bool.false_eq_true, reduceIte, decide_true, decide_false, reduceCtorEq, List.cons.injEq, Nat.reduceEqDiff, and_true, true_and, and_false, false_and, isB_str_str, isB_str_int, isB_str_bl, isB_int_int, isB_bool_int, isB_bool_bl, isB_int_bl, isB_int_str, isB_bool_str, f_join_nil, f_join_signs, f_all_map, f_any_map, f_lstrip, f_cut_str, f_cut_lst, f_cut_tup, q_while, q_bm, isTy_str, isTy_lst, isTy_dic, q_part, partK_int, q_noPart, q_cut, q_range2, range2K_int, q_get2, get2K_dic, key_str, key_int, q_dict, q_pairs_nil, pairK_some, q_pairs_cons, q_app, appK_own, q_frz, frzK_own, frzK_val, frzK_no, q_aug, augK_val, f_ix_lst, f_ix_tup, f_ix_scr, f_ix_str, Int.reduceToNat, List.getD_cons_zero, List.getD_cons_succ, q_forN, Int.toNat_natCast, f_in_sign, f_neg_int, f_is_non, f_isNot_non, isNon_non, isNon_tup, isNon_int, isNon_str, isNon_lst, isNon_dic, isNon_bl, isNon_obj, isB_tuple_tup, isB_list_lst, isB_str_tup, isB_str_lst, isB_str_non, isB_tuple_non, u__law_coded, b__law_coded, w_plain, hd, q_comp, wipeE]
  rw [comp_enc 126 psP _ t h]
  simp (disch := (first | with_reducible assumption | omega | ((try simp only [q_sl, List.length_append, List.length_map, List.length_cons, List.length_nil, and_true, true_and]); first | omega | decide))) only [bnd_pure, q_runF, fin_nx, fin_rt, q_var0, q_vars, q_C, q_bin, q_chain, chainK_bl, q_tru, truK_bl, truK_int, truK_lst, truK_tup, truK_non, truK_str, q_test, tstK_bl, q_and, q_or, q_not, q_andV, q_orV, q_notV, q_ifE, q_un, q_nil, q_cons, q_tup, q_lst, q_callF, q_call, q_meth, methK_obj, methO_some, q_isB, q_items, itemsK_str, itemsK_lst, itemsK_tup, q_range1, rangeK_int, q_nop, q_seq, seqK_nx, seqK_rt, seqK_bk, seqK_ct, q_if, q_ret, q_retN, q_drop, q_set, q_setOwn, q_for, q_for_nil, forK_nx, forK_ct, forK_bk, forK_rt, gd_true, lf_some, f_add_int, f_add_str, f_add_lst, f_add_tup, f_sub_int, f_mul_r, f_mul_l, f_mod, f_div, f_eq_str, f_eq_int, f_eq_bl, f_ne_str, f_ne_int, f_ne_bl, f_lt, f_le, f_gt, f_ge, f_in_sign, f_notIn_sign, f_is_bl, f_len_str, f_len_lst, f_len_tup, f_len_scr, f_len_dic, f_int_bl, f_int_int, List.length_cons, List.length_nil, List.length_replicate, List.length_set, List.set_cons_zero, List.set_cons_succ, List.getElem?_cons_zero, List.getElem?_cons_succ, Nat.reduceAdd, Nat.reduceLT, Nat.zero_lt_succ, Nat.lt_add_one, if_true, if_false, Bool.not_true, Bool.not_false, Bool.false_eq_true, reduceIte, decide_true, decide_false, reduceCtorEq, List.cons.injEq, Nat.reduceEqDiff, and_true, true_and, and_false, false_and, isB_str_str, isB_str_int, isB_str_bl, isB_int_int, isB_bool_int, isB_bool_bl, isB_int_bl, isB_int_str, isB_bool_str, f_join_nil, f_join_signs, f_all_map, f_any_map, f_lstrip, f_cut_str, f_cut_lst, f_cut_tup, q_while, q_bm, isTy_str, isTy_lst, isTy_dic, q_part, partK_int, q_noPart, q_cut, q_range2, range2K_int, q_get2, get2K_dic, key_str, key_int, q_dict, q_pairs_nil, pairK_some, q_pairs_cons, q_app, appK_own, q_frz, frzK_own, frzK_val, frzK_no, q_aug, augK_val, f_ix_lst, f_ix_tup, f_ix_scr, f_ix_str, Int.reduceToNat, List.getD_cons_zero, List.getD_cons_succ, q_forN, Int.toNat_natCast, f_in_sign, f_neg_int, f_is_non, f_isNot_non, isNon_non, isNon_tup, isNon_int, isNon_str, isNon_lst, isNon_dic, isNon_bl, isNon_obj, isB_tuple_tup, isB_list_lst, isB_str_tup, isB_str_lst, isB_str_non, isB_tuple_non, join_enc]
  rfl
theorem c_quoted (k : Nat) (t : Tx) (h : t.length ≤ 400) : Ψ (k + 1) ._law_coded [.str w_quoted, .str t] = pure (.str (34 :: (enQ t ++ [34]))) := by
  have hd : mergeD [] [(.inr [94], .str [94, 94]), (.inr [34], .str [94, 113]), (.inr [10], .str [94, 110])] = mkD 94 psQ := rfl
  have hl := enc_len 94 psQ t
  simp (disch := (first | with_reducible assumption | omega | ((try simp only [q_sl, List.length_append, List.length_map, List.length_cons, List.length_nil, and_true, true_and]); first | omega | decide))) only [bnd_pure, q_runF, fin_nx, fin_rt, q_var0, q_vars, q_C, q_bin, q_chain, chainK_bl, q_tru, truK_bl, truK_int, truK_lst, truK_tup, truK_non, truK_str, q_test, tstK_bl, q_and, q_or, q_not, q_andV, q_orV, q_notV, q_ifE, q_un, q_nil, q_cons, q_tup, q_lst, q_callF, q_call, q_meth, methK_obj, methO_some, q_isB, q_items, itemsK_str, itemsK_lst, itemsK_tup, q_range1, rangeK_int, q_nop, q_seq, seqK_nx, seqK_rt, seqK_bk, seqK_ct, q_if, q_ret, q_retN, q_drop, q_set, q_setOwn, q_for, q_for_nil, forK_nx, forK_ct, forK_bk, forK_rt, gd_true, lf_some, f_add_int, f_add_str, f_add_lst, f_add_tup, f_sub_int, f_mul_r, f_mul_l, f_mod, f_div, f_eq_str, f_eq_int, f_eq_bl, f_ne_str, f_ne_int, f_ne_bl, f_lt, f_le, f_gt, f_ge, f_in_sign, f_notIn_sign, f_is_bl, f_len_str, f_len_lst, f_len_tup, f_len_scr, f_len_dic, f_int_bl, f_int_int, List.length_cons, List.length_nil, List.length_replicate, List.length_set, List.set_cons_zero, List.set_cons_succ, List.getElem?_cons_zero, List.getElem?_cons_succ, Nat.reduceAdd, Nat.reduceLT, Nat.zero_lt_succ, Nat.lt_add_one, if_true, if_false, Bool.not_true, Bool.not_false, Bool.false_eq_true, reduceIte, decide_true, decide_false, reduceCtorEq, List.cons.injEq, Nat.reduceEqDiff, and_true, true_and, and_false, false_and, isB_str_str, isB_str_int, isB_str_bl, isB_int_int, isB_bool_int, isB_bool_bl, isB_int_bl, isB_int_str, isB_bool_str, f_join_nil, f_join_signs, f_all_map, f_any_map, f_lstrip, f_cut_str, f_cut_lst, f_cut_tup, q_while, q_bm, isTy_str, isTy_lst, isTy_dic, q_part, partK_int, q_noPart, q_cut, q_range2, range2K_int, q_get2, get2K_dic, key_str, key_int, q_dict, q_pairs_nil, pairK_some, q_pairs_cons, q_app, appK_own, q_frz, frzK_own, frzK_val, frzK_no, q_aug, augK_val, f_ix_lst, f_ix_tup, f_ix_scr, f_ix_str, Int.reduceToNat, List.getD_cons_zero, List.getD_cons_succ, q_forN, Int.toNat_natCast, f_in_sign, f_neg_int, f_is_non, f_isNot_non, isNon_non, isNon_tup, isNon_int, isNon_str, isNon_lst, isNon_dic, isNon_bl, isNon_obj, isB_tuple_tup, isB_list_lst, isB_str_tup, isB_str_lst, isB_str_non, isB_tuple_non, u__law_coded, b__law_coded, w_quoted, hd, q_comp, wipeE]
  rw [comp_enc 94 psQ _ t h]
  simp (disch := (first | with_reducible assumption | omega | ((try simp only [q_sl, List.length_append, List.length_map, List.length_cons, List.length_nil, and_true, true_and]); first | omega | decide))) only [bnd_pure, q_runF, fin_nx, fin_rt, q_var0, q_vars, q_C, q_bin, q_chain, chainK_bl, q_tru, truK_bl, truK_int, truK_lst, truK_tup, truK_non, truK_str, q_test, tstK_bl, q_and, q_or, q_not, q_andV, q_orV, q_notV, q_ifE, q_un, q_nil, q_cons, q_tup, q_lst, q_callF, q_call, q_meth, methK_obj, methO_some, q_isB, q_items, itemsK_str, itemsK_lst, itemsK_tup, q_range1, rangeK_int, q_nop, q_seq, seqK_nx, seqK_rt, seqK_bk, seqK_ct, q_if, q_ret, q_retN, q_drop, q_set, q_setOwn, q_for, q_for_nil, forK_nx, forK_ct, forK_bk, forK_rt, gd_true, lf_some, f_add_int, f_add_str, f_add_lst, f_add_tup, f_sub_int, f_mul_r, f_mul_l, f_mod, f_div, f_eq_str, f_eq_int, f_eq_bl, f_ne_str, f_ne_int, f_ne_bl, f_lt, f_le, f_gt, f_ge, f_in_sign, f_notIn_sign, f_is_bl, f_len_str, f_len_lst, f_len_tup, f_len_scr, f_len_dic, f_int_bl, f_int_int, List.length_cons, List.length_nil, List.length_replicate, List.length_set, List.set_cons_zero, List.set_cons_succ, List.getElem?_cons_zero, List.getElem?_cons_succ, Nat.reduceAdd, Nat.reduceLT, Nat.zero_lt_succ, Nat.lt_add_one, if_true, if_false, Bool.not_true, Bool.not_false, Bool.false_eq_true, reduceIte, decide_true, decide_false, reduceCtorEq, List.cons.injEq, Nat.reduceEqDiff, and_true, true_and, and_false, false_and, isB_str_str, isB_str_int, isB_str_bl, isB_int_int, isB_bool_int, isB_bool_bl, isB_int_bl, isB_int_str, isB_bool_str, f_join_nil, f_join_signs, f_all_map, f_any_map, f_lstrip, f_cut_str, f_cut_lst, f_cut_tup, q_while, q_bm, isTy_str, isTy_lst, isTy_dic, q_part, partK_int, q_noPart, q_cut, q_range2, range2K_int, q_get2, get2K_dic, key_str, key_int, q_dict, q_pairs_nil, pairK_some, q_pairs_cons, q_app, appK_own, q_frz, frzK_own, frzK_val, frzK_no, q_aug, augK_val, f_ix_lst, f_ix_tup, f_ix_scr, f_ix_str, Int.reduceToNat, List.getD_cons_zero, List.getD_cons_succ, q_forN, Int.toNat_natCast, f_in_sign, f_neg_int, f_is_non, f_isNot_non, isNon_non, isNon_tup, isNon_int, isNon_str, isNon_lst, isNon_dic, isNon_bl, isNon_obj, isB_tuple_tup, isB_list_lst, isB_str_tup, isB_str_lst, isB_str_non, isB_tuple_non, join_enc]
  rfl
end K02.Ma
end
section
set_option linter.all false
set_option maxRecDepth 100000
namespace K02.Ma
open PySem L2 DL
variable {Ψ : Nat → Fid → List D → M D} [IsΦ Ψ]
/-- what stands behind: nothing, or a sign that ends -/
def Ends (e b : Tx) : Prop := b = [] ∨ ∃ c r, b = c :: r ∧ c ∈ e
theorem tw_app {p : Nat → Bool} {b : Tx} (hb : b = [] ∨ ∃ c r, b = c :: r ∧ p c = false) : ∀ {x : Tx}, (∀ c ∈ x, p c = true) → (x ++ b).takeWhile p = x
  | [], _ => by
    rcases hb with rfl | ⟨c, r, rfl, h⟩
    · rfl
    · show (c :: r).takeWhile p = []
      rw [List.takeWhile_cons_of_neg (by rw [h]; simp)]
  | a :: x, hx => by
    show (a :: (x ++ b)).takeWhile p = a :: x
    rw [List.takeWhile_cons_of_pos (hx a (by simp)), tw_app hb fun c hc => hx c (List.mem_cons_of_mem a hc)]
theorem ends_p {e b : Tx} (h : Ends e b) : b = [] ∨ ∃ c r, b = c :: r ∧ (!decide (c ∈ e)) = false := by
  rcases h with h | ⟨c, r, h1, h2⟩
  · exact .inl h
  · exact .inr ⟨c, r, h1, by simp [h2]⟩
theorem drop_ahead (a x b : Tx) : (a ++ x ++ b).drop a.length = x ++ b := by
  rw [List.append_assoc, List.drop_left]
theorem spanT_coded {e a x b : Tx} (hb : Ends e b) (hx : ∀ c ∈ x, c ∉ e) : spanT e (a ++ x ++ b) a.length = x := by
  unfold spanT
  rw [drop_ahead]
  exact tw_app (ends_p hb) fun c hc => by simp [hx c hc]
theorem enc_free {mk : Nat} {ps : List (Nat × Nat)} {t e : Tx} (h : ∀ c ∈ t, encS mk ps c = [c] → c ∉ e) (hm : mk ∉ e) (hps : ∀ q ∈ ps, q.2 ∉ e) : ∀ c ∈ t.flatMap (encS mk ps), c ∉ e := by
  intro c hc
  obtain ⟨d, hd, hcd⟩ := List.mem_flatMap.mp hc
  by_cases hb : encS mk ps d = [d]
  · rw [hb] at hcd
    have : c = d := by simpa using hcd
    rw [this]
    exact h d hd hb
  · unfold encS at hcd hb
    cases z : ps.find? (fun q => decide (q.1 = d)) with
    | none => rw [z] at hb; exact absurd rfl hb
    | some q =>
      rw [z] at hcd
      have hq := List.mem_of_find?_eq_some z
      simp only [List.mem_cons, List.not_mem_nil, or_false] at hcd
      rcases hcd with rfl | rfl
      · exact hm
      · exact hps q hq
theorem due_word (a t b : Tx) (h : 1 ≤ t.length ∧ t.length ≤ 40) (ha : ∀ c ∈ t, c ∈ c_AL) (hb : Ends e_w b) : dueD a.length (spanT e_w (a ++ t ++ b) a.length) (mW (spanT e_w (a ++ t ++ b) a.length)) = .tup [.str t, .int (((a.length + t.length : Nat)) : Int)] := by
  rw [spanT_coded hb fun c hc => not_in_filter (ha c hc), show mW t = some (.str t) from if_pos h]
  rfl
theorem mT_enc {mk : Nat} {ps : List (Nat × Nat)} (hcd : Cd mk ps) {t : Tx} (h : t.length ≤ 400) : mT mk ps (t.flatMap (encS mk ps)) = some (.str t) := by
  unfold mT
  rw [ldec_enc hcd]
  simp [h]
theorem due_plain (a t b : Tx) (h : t.length ≤ 400) (hb : Ends c_PLAIN_ENDS b) : dueD a.length (spanT c_PLAIN_ENDS (a ++ enP t ++ b) a.length) (mT 126 psP (spanT c_PLAIN_ENDS (a ++ enP t ++ b) a.length)) = .tup [.str t, .int (((a.length + (enP t).length : Nat)) : Int)] := by
  rw [spanT_coded (x := enP t) hb (enc_free (fun c _ hc he => by
    have q : ∀ c ∈ c_PLAIN_ENDS, encS 126 psP c ≠ [c] := by decide
    exact q c he hc) (by decide) (by decide)), show mT 126 psP (enP t) = some (.str t) from mT_enc cdP h]
  rfl
theorem due_line (a t b : Tx) (h : t.length ≤ 400) (hb : Ends [10] b) : dueD a.length (spanT [10] (a ++ enL t ++ b) a.length) (mT 126 psL (spanT [10] (a ++ enL t ++ b) a.length)) = .tup [.str t, .int (((a.length + (enL t).length : Nat)) : Int)] := by
  rw [spanT_coded (x := enL t) hb (enc_free (fun c _ hc he => by
    have q : ∀ c ∈ ([10] : Tx), encS 126 psL c ≠ [c] := by decide
    exact q c he hc) (by decide) (by decide)), show mT 126 psL (enL t) = some (.str t) from mT_enc cdL h]
  rfl
theorem due_quoted (a t b : Tx) (h : t.length ≤ 400) : dueQ (a ++ (34 :: (enQ t ++ [34])) ++ b) a.length = .tup [.str t, .int (((a.length + (34 :: (enQ t ++ [34])).length : Nat)) : Int)] := by
  have hf : ∀ c ∈ enQ t, c ∉ ([34] : Tx) := enc_free (fun c _ hc he => by
    have q : ∀ c ∈ ([34] : Tx), encS 94 psQ c ≠ [c] := by decide
    exact q c he hc) (by decide) (by decide)
  have hs : stQ (34 :: (enQ t ++ [34]) ++ b) = some (34 :: (enQ t ++ [34])) := by
    have e1 : 34 :: (enQ t ++ [34]) ++ b = 34 :: (enQ t ++ (34 :: b)) := by simp
    rw [e1]
    unfold stQ
    have e2 : (enQ t ++ (34 :: b)).takeWhile (fun c => !decide (c = 34)) = enQ t := tw_app (.inr ⟨34, b, rfl, by simp⟩) fun c hc => by
      have := hf c hc
      simpa using this
    rw [if_pos ⟨rfl, by simp⟩]
    show some (34 :: ((enQ t ++ (34 :: b)).takeWhile _ ++ [34])) = _
    rw [e2]
  unfold dueQ
  rw [drop_ahead, hs]
  show dueD a.length _ (mT 94 psQ (34 :: (enQ t ++ [34])).tail.dropLast) = _
  rw [inner_of, show mT 94 psQ (enQ t) = some (.str t) from mT_enc cdQ h]
  rfl
theorem due_number (a b : Tx) (n : Int) (hn : -(10 ^ 30) < n ∧ n < 10 ^ 30) (hb : Ends e_n b) : dueD a.length (stN pF ((a ++ strI n ++ b).drop a.length)) (mN (stN pF ((a ++ strI n ++ b).drop a.length))) = .tup [.int n, .int (((a.length + (strI n).length : Nat)) : Int)] := by
  have hpb : b = [] ∨ ∃ c r, b = c :: r ∧ pF c = false := by
    rcases hb with h | ⟨c, r, h1, h2⟩
    · exact .inl h
    · refine .inr ⟨c, r, h1, ?_⟩
      unfold e_n at h2
      simp only [List.mem_filter] at h2
      have := h2.2
      unfold pF
      simpa using this
  have hst : stN pF (strI n ++ b) = strI n := by
    rcases strI_signs n with ⟨d, e, ne, hd⟩ | ⟨d, e, ne, hd⟩
    · rw [e]
      have hp : ∀ c ∈ d, pF c = true := fun c hc => decide_eq_true (fig (hd c hc))
      unfold stN
      rw [if_neg (by
        cases d with
        | nil => exact absurd rfl ne
        | cons x r =>
          have := hd x (by simp)
          show ¬ [x] = [45]
          intro z
          have : x = 45 := by simpa using z
          omega)]
      exact tw_app hpb hp
    · rw [e]
      have hp : ∀ c ∈ d, pF c = true := fun c hc => decide_eq_true (fig (hd c hc))
      show stN pF (45 :: (d ++ b)) = _
      show 45 :: (d ++ b).takeWhile pF = _
      rw [tw_app hpb hp]
  have hlen := strI_len (n := n) (k := 30) (by decide) (by omega)
  rw [drop_ahead, hst]
  have hst0 : stN pF (strI n) = strI n := by
    have := stN_pre pF (strI n ++ b)
    rcases strI_signs n with ⟨d, e, ne, hd⟩ | ⟨d, e, ne, hd⟩
    · rw [e]
      have hp : ∀ c ∈ d, pF c = true := fun c hc => decide_eq_true (fig (hd c hc))
      unfold stN
      rw [if_neg (by
        cases d with
        | nil => exact absurd rfl ne
        | cons x r =>
          have := hd x (by simp)
          show ¬ [x] = [45]
          intro z
          have : x = 45 := by simpa using z
          omega)]
      have := tw_app (p := pF) (b := []) (.inl rfl) hp
      rwa [List.append_nil] at this
    · rw [e]
      have hp : ∀ c ∈ d, pF c = true := fun c hc => decide_eq_true (fig (hd c hc))
      show 45 :: d.takeWhile pF = _
      have := tw_app (p := pF) (b := []) (.inl rfl) hp
      rw [List.append_nil] at this
      rw [this]
  have hfl : figs (strI n) ≠ [] ∧ (figs (strI n)).length ≤ 30 := by
    rcases n with m | m
    · have e : strI (Int.ofNat m) = TL.numL m := strI_nat m
      have hp : (TL.numL m).take 1 ≠ [45] := by
        intro z
        have h45 : 45 ∈ TL.numL m := List.mem_of_mem_take (by rw [z]; exact List.mem_singleton.mpr rfl)
        have := TL.numL_digits m 45 h45
        omega
      rw [e, figs_pos hp]
      exact ⟨TL.numL_ne m, TL.numL_len (by decide) (by
        have : (Int.ofNat m) < 10 ^ 30 := hn.2
        have h2 : ((m : Nat) : Int) < 10 ^ 30 := this
        omega)⟩
    · have e : strI (Int.negSucc m) = 45 :: TL.numL (m + 1) := strI_neg m
      rw [e, figs_neg]
      exact ⟨TL.numL_ne _, TL.numL_len (by decide) (by
        have : -(10 ^ 30) < Int.negSucc m := hn.1
        omega)⟩
  have hc := canon (x := strI n) (by rw [hst0]; exact hfl.1)
  rw [hst0, numV_strI] at hc
  have hm : mN (strI n) = some (.int n) := by
    unfold mN
    rw [if_pos ⟨⟨by
      cases q : figs (strI n) with
      | nil => exact absurd q hfl.1
      | cons => simp, hfl.2⟩, hc.mp rfl⟩, numV_strI]
  rw [hm]
  rfl
end K02.Ma
end
section
set_option linter.all false
set_option maxRecDepth 100000
namespace K02.Ma
open PySem L2 DL
variable {Ψ : Nat → Fid → List D → M D} [IsΦ Ψ]
theorem f_ix_strs (l : List Tx) (i : Int) (h : 0 ≤ i ∧ i < (l.length : Int)) : ∃ x ∈ l, fIx (.lst (l.map .str)) (.int i) = pure (.str x) := by
  refine ⟨l.getD i.toNat [], ?_, ?_⟩
  · have : i.toNat < l.length := by omega
    simp [List.getD, this]
  · rw [f_ix_lst _ i (by rw [List.length_map]; exact h)]
    have : i.toNat < l.length := by omega
    simp [List.getD, this]
def c_MORE : Tx := c_SIGNS ++ [126, 126, 94, 94, 34, 45, 45, 48, 48]
theorem s_bent (k : Nat) (T : Tx) (c : Int) (hT : T.length ≤ 20000 ∧ ∀ c ∈ T, c ∈ c_SIGNS) (hc : 0 ≤ c ∧ c < 2147483647) : ∃ T', Good T' ∧ Ψ (k + 2) ._law_bent [.str T, .int c] = pure (.str T') := by
  have hl := hT.1
  have e1 : ((c_MORE.length : Nat) : Int) = 104 := by decide
  have hm : c_MORE.length ≤ 16777216 := by decide
  have hs : ∀ c ∈ c_MORE, c ∈ c_SIGNS := by decide
  have hsg : c_MORE.getD (c / 64 % 104).toNat 0 ∈ c_SIGNS := hs _ (mem_at (by rw [e1]; omega))
  have em : c_SIGNS ++ [126, 126, 94, 94, 34, 45, 45, 48, 48] = c_MORE := rfl
  have hj1 := Int.emod_nonneg (c / 8192) (show (T.length : Int) + 1 ≠ 0 by omega)
  have hj2 := Int.emod_lt_of_pos (c / 8192) (show 0 < (T.length : Int) + 1 by omega)
  generalize hj : c / 8192 % ((T.length : Int) + 1) = j at hj1 hj2
  have c1 := cut_to T j hj1
  have c2 := cut_from T j hj1
  have c3 := cut_from T (j + 1) (by omega)
  generalize hsig : c_MORE.getD (c / 64 % 104).toNat 0 = sg at hsg
  obtain ⟨x, hx, e⟩ := f_ix_strs [T.take j.toNat ++ [sg] ++ T.drop j.toNat, T.take j.toNat ++ T.drop (j + 1).toNat, T.take j.toNat ++ [sg] ++ T.drop (j + 1).toNat, T] (c % 4) (by simp; omega)
  have lt1 : (T.take j.toNat).length ≤ 20000 := by rw [List.length_take]; omega
  have lt2 : (T.drop j.toNat).length ≤ 20000 := by rw [List.length_drop]; omega
  have lt3 : (T.drop (j + 1).toNat).length ≤ 20000 := by rw [List.length_drop]; omega
  have m1 : ∀ c ∈ T.take j.toNat, c ∈ c_SIGNS := fun c hc => hT.2 c (List.mem_of_mem_take hc)
  have m2 : ∀ c ∈ T.drop j.toNat, c ∈ c_SIGNS := fun c hc => hT.2 c (List.mem_of_mem_drop hc)
  have m3 : ∀ c ∈ T.drop (j + 1).toNat, c ∈ c_SIGNS := fun c hc => hT.2 c (List.mem_of_mem_drop hc)
  refine ⟨x, ?_, ?_⟩
  · simp only [List.mem_cons, List.not_mem_nil, or_false] at hx
    rcases hx with rfl | rfl | rfl | rfl
    · refine ⟨by simp only [List.length_append, List.length_cons, List.length_nil]; omega, fun c hc => ?_⟩
      simp only [List.mem_append, List.mem_singleton] at hc
      rcases hc with (h | h) | h
      · exact m1 c h
      · rw [h]; exact hsg
      · exact m2 c h
    · refine ⟨by simp only [List.length_append]; omega, fun c hc => ?_⟩
      rcases List.mem_append.mp hc with h | h
      · exact m1 c h
      · exact m3 c h
    · refine ⟨by simp only [List.length_append, List.length_cons, List.length_nil]; omega, fun c hc => ?_⟩
      simp only [List.mem_append, List.mem_singleton] at hc
      rcases hc with (h | h) | h
      · exact m1 c h
      · rw [h]; exact hsg
      · exact m3 c h
    · exact ⟨by omega, hT.2⟩
  · have e : fIx (.lst [.str (T.take j.toNat ++ [sg] ++ T.drop j.toNat), .str (T.take j.toNat ++ T.drop (j + 1).toNat), .str (T.take j.toNat ++ [sg] ++ T.drop (j + 1).toNat), .str T]) (.int (c % 4)) = pure (.str x) := e
    simp (disch := (first | with_reducible assumption | omega | ((try simp only [q_sl, List.length_append, List.length_map, List.length_cons, List.length_nil, and_true, true_and]); first | omega | decide))) only [bnd_pure, q_runF, fin_nx, fin_rt, q_var0, q_vars, q_C, q_bin, q_chain, chainK_bl, q_tru, truK_bl, truK_int, truK_lst, truK_tup, truK_non, truK_str, q_test, tstK_bl, q_and, q_or, q_not, q_andV, q_orV, q_notV, q_ifE, q_un, q_nil, q_cons, q_tup, q_lst, q_callF, q_call, q_meth, methK_obj, methO_some, q_isB, q_items, itemsK_str, itemsK_lst, itemsK_tup, q_range1, rangeK_int, q_nop, q_seq, seqK_nx, seqK_rt, seqK_bk, seqK_ct, q_if, q_ret, q_retN, q_drop, q_set, q_setOwn, q_for, q_for_nil, forK_nx, forK_ct, forK_bk, forK_rt, gd_true, lf_some, f_add_int, f_add_str, f_add_lst, f_add_tup, f_sub_int, f_mul_r, f_mul_l, f_mod, f_div, f_eq_str, f_eq_int, f_eq_bl, f_ne_str, f_ne_int, f_ne_bl, f_lt, f_le, f_gt, f_ge, f_in_sign, f_notIn_sign, f_is_bl, f_len_str, f_len_lst, f_len_tup, f_len_scr, f_len_dic, f_int_bl, f_int_int, List.length_cons, List.length_nil, List.length_replicate, List.length_set, List.set_cons_zero, List.set_cons_succ, List.getElem?_cons_zero, List.getElem?_cons_succ, Nat.reduceAdd, Nat.reduceLT, Nat.zero_lt_succ, Nat.lt_add_one, if_true, if_false, Bool.not_true, Bool.not_false, Bool.false_eq_true, reduceIte, decide_true, decide_false, reduceCtorEq, List.cons.injEq, Nat.reduceEqDiff, and_true, true_and, and_false, false_and, isB_str_str, isB_str_int, isB_str_bl, isB_int_int, isB_bool_int, isB_bool_bl, isB_int_bl, isB_int_str, isB_bool_str, f_join_nil, f_join_signs, f_all_map, f_any_map, f_lstrip, f_cut_str, f_cut_lst, f_cut_tup, q_while, q_bm, isTy_str, isTy_lst, isTy_dic, q_part, partK_int, q_noPart, q_cut, q_range2, range2K_int, q_get2, get2K_dic, key_str, key_int, q_dict, q_pairs_nil, pairK_some, q_pairs_cons, q_app, appK_own, q_frz, frzK_own, frzK_val, frzK_no, q_aug, augK_val, f_ix_lst, f_ix_tup, f_ix_scr, f_ix_str, Int.reduceToNat, List.getD_cons_zero, List.getD_cons_succ, q_forN, Int.toNat_natCast, f_in_sign, f_neg_int, f_is_non, f_isNot_non, isNon_non, isNon_tup, isNon_int, isNon_str, isNon_lst, isNon_dic, isNon_bl, isNon_obj, isB_tuple_tup, isB_list_lst, isB_str_tup, isB_str_lst, isB_str_non, isB_tuple_non, u__law_bent, b__law_bent, s_law_signs, em, e1, hsig, hj, c1, c2, c3, e]
end K02.Ma
end
section
set_option linter.all false
set_option maxRecDepth 100000
namespace K02.Ma
open PySem L2 DL
variable {Ψ : Nat → Fid → List D → M D} [IsΦ Ψ]
theorem row (k : Nat) (ns : List Int) (kk : Int) (hk : 0 ≤ kk ∧ kk < 5) (w : Tx) (cn : Nat) (e : Tx) (s3 s4 s5 s6 s7 s8 s9 s10 s11 s12 s13 : Sl)
    (hw : fIx words (.int kk) = pure (.str w)) (hway : Ψ (k + 2) .way_of [.str w] = pure (.obj cn)) (he : Ψ (k + 2) ._law_ends [.str w] = pure (.str e)) (hes : ∀ c ∈ e, c ∈ c_SIGNS) (hel : 1 ≤ e.length ∧ e.length ≤ 100)
    (hval : ∀ c, 0 ≤ c ∧ c < 2147483647 → ∃ v x, Ψ (k + 2) ._law_value_by [.str w, .int c] = pure v ∧ Ψ (k + 2) ._law_coded [.str w, v] = pure (.str x) ∧ (x.length ≤ 5000 ∧ ∀ c ∈ x, c ∈ c_SIGNS) ∧ okV v ∧
      ∀ a b : Tx, Good (a ++ x ++ b) → Ends e b → methO 3 (pure [.str (a ++ x ++ b), .int (a.length : Int)]) cn (tbl_read (Ψ (k + 2)) cn) = pure (.tup [v, .int (((a.length + x.length : Nat)) : Int)]))
    (hmul : ∀ (T : Tx) (i : Nat), Good T → i ≤ T.length → ∃ r, methO 3 (pure [.str T, .int (i : Int)]) cn (tbl_read (Ψ (k + 2)) cn) = pure r ∧ Ψ (k + 2) ._law_due [.str w, .str T, .int (i : Int)] = pure r ∧ Ψ (k + 2) ._law_same [r, r] = pure (.bl true)) :
    ∃ s3' s4' s5' s6' s7' s8' s9' s10' s11' s12' s13', l_law_1 (Ψ (k + 2)) [.val (.scr ns), .val words, .val (.int kk), s3, s4, s5, s6, s7, s8, s9, s10, s11, s12, s13] = pure (.nx [.val (.scr ns), .val words, .val (.int kk), s3', s4', s5', s6', s7', s8', s9', s10', s11', s12', s13']) := by
  obtain ⟨n0, h0⟩ := s_cell_at (Ψ := Ψ) (k + 1) ns (4 * kk) (by omega)
  obtain ⟨n1, h1⟩ := s_cell_at (Ψ := Ψ) (k + 1) ns (4 * kk + 1) (by omega)
  obtain ⟨n2, h2⟩ := s_cell_at (Ψ := Ψ) (k + 1) ns (4 * kk + 2) (by omega)
  obtain ⟨n3, h3⟩ := s_cell_at (Ψ := Ψ) (k + 1) ns (4 * kk + 3) (by omega)
  have hcell := mixF_ok n0 kk
  have m0 := s_mixed (Ψ := Ψ) (k + 1) n0 kk (by omega)
  have m1 := s_mixed (Ψ := Ψ) (k + 1) n1 5 (by decide)
  have m2 := s_mixed (Ψ := Ψ) (k + 1) n2 9 (by decide)
  generalize mixF n0 kk = cell at hcell m0
  obtain ⟨v, x, hv, hx, hxs, hok, hread⟩ := hval _ (mixF_ok n1 5)
  obtain ⟨ah, hal, has, ea⟩ := s_text_m (Ψ := Ψ) k cell 20 hcell (by decide)
  obtain ⟨bh, hbl, hbs, eb⟩ := s_text_m (Ψ := Ψ) k (cell / 7) 20 (by omega) (by decide)
  have hi : fIx (.str e) (.int (cell / 3 % (e.length : Int))) = pure (.str [e.getD (cell / 3 % (e.length : Int)).toNat 0]) := f_ix_str e _ ⟨Int.emod_nonneg _ (by omega), Int.emod_lt_of_pos _ (by omega)⟩ (by omega)
  have hmem : e.getD (cell / 3 % (e.length : Int)).toNat 0 ∈ e := mem_at ⟨Int.emod_nonneg _ (by omega), Int.emod_lt_of_pos _ (by omega)⟩
  generalize e.getD (cell / 3 % (e.length : Int)).toNat 0 = ch at hi hmem
  obtain ⟨b, hb, hbi⟩ := f_ix_strs [[], [ch] ++ bh] (cell % 2) (by simp; omega)
  have hbi : fIx (.lst [.str [], .str ([ch] ++ bh)]) (.int (cell % 2)) = pure (.str b) := hbi
  have hends : Ends e b := by
    simp only [List.mem_cons, List.not_mem_nil, or_false] at hb
    rcases hb with rfl | rfl
    · exact .inl rfl
    · exact .inr ⟨ch, bh, rfl, hmem⟩
  have hbg : b.length ≤ 500 ∧ ∀ c ∈ b, c ∈ c_SIGNS := by
    simp only [List.mem_cons, List.not_mem_nil, or_false] at hb
    rcases hb with rfl | rfl
    · exact ⟨by simp, by simp⟩
    · refine ⟨by simp only [List.length_append, List.length_cons, List.length_nil]; omega, fun c hc => ?_⟩
      rcases List.mem_append.mp hc with h | h
      · rw [List.mem_singleton.mp h]; exact hes _ hmem
      · exact hbs c h
  have hTl : (ah ++ x ++ b).length ≤ 20000 := by simp only [List.length_append]; omega
  have hTs : ∀ c ∈ ah ++ x ++ b, c ∈ c_SIGNS := by
    intro c hc
    simp only [List.mem_append] at hc
    rcases hc with (h | h) | h
    · exact has c h
    · exact hxs.2 c h
    · exact hbg.2 c h
  have hr := hread ah b ⟨by omega, hTs⟩ hends
  have hsame := s_same_some (Ψ := Ψ) k v (((ah.length + x.length : Nat)) : Int) hok
  have hlen : (ah.length : Int) + (x.length : Int) = ((ah.length + x.length : Nat) : Int) := by omega
  obtain ⟨T', hT', et⟩ := s_bent (Ψ := Ψ) k (ah ++ x ++ b) (mixF n2 9) ⟨hTl, hTs⟩ (mixF_ok _ _)
  have hTl' := hT'.1
  obtain ⟨at0, hat, eat⟩ := f_ix_ints [(ah.length : Int), n3 % ((T'.length : Int) + 1)] (cell / 2 % 2) (by simp; omega)
  have eat : fIx (.lst [.int (ah.length : Int), .int (n3 % ((T'.length : Int) + 1))]) (.int (cell / 2 % 2)) = pure (.int at0) := eat
  have hp1 := Int.emod_nonneg n3 (show (T'.length : Int) + 1 ≠ 0 by omega)
  have hat0 : 0 ≤ at0 := by
    simp only [List.mem_cons, List.not_mem_nil, or_false] at hat
    omega
  have emin : fMin [.int at0, .int (T'.length : Int)] = pure (.int (if (T'.length : Int) < at0 then (T'.length : Int) else at0)) := rfl
  obtain ⟨i, hi1, hi2⟩ : ∃ i : Nat, (if (T'.length : Int) < at0 then (T'.length : Int) else at0) = (i : Int) ∧ i ≤ T'.length := by
    split
    · exact ⟨T'.length, rfl, Nat.le_refl _⟩
    · exact ⟨at0.toNat, by omega, by omega⟩
  rw [hi1] at emin
  obtain ⟨r, er, ed, es⟩ := hmul T' i hT' hi2
  have r2 : rangeL 0 2 = [.int 0, .int 1] := by rfl
  have hj : (T'.length : Int) + 1 > 0 := by omega
  refine ⟨.val (.obj cn), .val (.int cell), .val v, .val (.str ah), .val (.str e), .val (.str b), .val (.str x), .val (.int 1), .val (.tup [v, .int (((ah.length + x.length : Nat)) : Int)]), .val (.str T'), .val (.int (i : Int)), ?_⟩
  simp (disch := (first | with_reducible assumption | omega | ((try simp only [q_sl, List.length_append, List.length_map, List.length_cons, List.length_nil, and_true, true_and]); first | omega | decide))) only [bnd_pure, q_runF, fin_nx, fin_rt, q_var0, q_vars, q_C, q_bin, q_chain, chainK_bl, q_tru, truK_bl, truK_int, truK_lst, truK_tup, truK_non, truK_str, q_test, tstK_bl, q_and, q_or, q_not, q_andV, q_orV, q_notV, q_ifE, q_un, q_nil, q_cons, q_tup, q_lst, q_callF, q_call, q_meth, methK_obj, methO_some, q_isB, q_items, itemsK_str, itemsK_lst, itemsK_tup, q_range1, rangeK_int, q_nop, q_seq, seqK_nx, seqK_rt, seqK_bk, seqK_ct, q_if, q_ret, q_retN, q_drop, q_set, q_setOwn, q_for, q_for_nil, forK_nx, forK_ct, forK_bk, forK_rt, gd_true, lf_some, f_add_int, f_add_str, f_add_lst, f_add_tup, f_sub_int, f_mul_r, f_mul_l, f_mod, f_div, f_eq_str, f_eq_int, f_eq_bl, f_ne_str, f_ne_int, f_ne_bl, f_lt, f_le, f_gt, f_ge, f_in_sign, f_notIn_sign, f_is_bl, f_len_str, f_len_lst, f_len_tup, f_len_scr, f_len_dic, f_int_bl, f_int_int, List.length_cons, List.length_nil, List.length_replicate, List.length_set, List.set_cons_zero, List.set_cons_succ, List.getElem?_cons_zero, List.getElem?_cons_succ, Nat.reduceAdd, Nat.reduceLT, Nat.zero_lt_succ, Nat.lt_add_one, if_true, if_false, Bool.not_true, Bool.not_false, Bool.false_eq_true, reduceIte, decide_true, decide_false, reduceCtorEq, List.cons.injEq, Nat.reduceEqDiff, and_true, true_and, and_false, false_and, isB_str_str, isB_str_int, isB_str_bl, isB_int_int, isB_bool_int, isB_bool_bl, isB_int_bl, isB_int_str, isB_bool_str, f_join_nil, f_join_signs, f_all_map, f_any_map, f_lstrip, f_cut_str, f_cut_lst, f_cut_tup, q_while, q_bm, isTy_str, isTy_lst, isTy_dic, q_part, partK_int, q_noPart, q_cut, q_range2, range2K_int, q_get2, get2K_dic, key_str, key_int, q_dict, q_pairs_nil, pairK_some, q_pairs_cons, q_app, appK_own, q_frz, frzK_own, frzK_val, frzK_no, q_aug, augK_val, f_ix_lst, f_ix_tup, f_ix_scr, f_ix_str, Int.reduceToNat, List.getD_cons_zero, List.getD_cons_succ, q_forN, Int.toNat_natCast, f_in_sign, f_neg_int, f_is_non, f_isNot_non, isNon_non, isNon_tup, isNon_int, isNon_str, isNon_lst, isNon_dic, isNon_bl, isNon_obj, isB_tuple_tup, isB_list_lst, isB_str_tup, isB_str_lst, isB_str_non, isB_tuple_non, l_law_1, l_law_0, hw, hway, h0, h1, h2, h3, m0, m1, m2, hv, hx, ea, eb, he, hi, hbi, hr, hsame, hlen, et, eat, emin, er, ed, es, r2]
end K02.Ma
end
section
set_option linter.all false
set_option maxRecDepth 100000
namespace K02.Ma
open PySem L2 DL
variable {Ψ : Nat → Fid → List D → M D} [IsΦ Ψ]
def RowOk (Ψk : Fid → List D → M D) (ns : List Int) (kk : Int) : Prop := ∀ s3 s4 s5 s6 s7 s8 s9 s10 s11 s12 s13 : Sl, ∃ s3' s4' s5' s6' s7' s8' s9' s10' s11' s12' s13', l_law_1 Ψk [.val (.scr ns), .val words, .val (.int kk), s3, s4, s5, s6, s7, s8, s9, s10, s11, s12, s13] = pure (.nx [.val (.scr ns), .val words, .val (.int kk), s3', s4', s5', s6', s7', s8', s9', s10', s11', s12', s13'])
theorem fine_str {t : Tx} (h : ∀ c ∈ t, c ∈ c_SIGNS) : okV (.str t) := by
  refine ⟨?_, .inl ⟨t, rfl⟩⟩
  show (t.all fun c => decide (c < 0x110000)) = true
  rw [List.all_eq_true]
  intro c hc
  have q2 : ∀ c ∈ c_SIGNS, c < 0x110000 := by decide
  exact decide_eq_true (q2 c (h c hc))
theorem same_of (k i : Nat) (st : Tx) (m : Option D) (h : ∀ v, m = some v → okV v) : Ψ (k + 6) ._law_same [dueD i st m, dueD i st m] = pure (.bl true) := s_same (k + 4) i st m h
theorem enc_signs {mk : Nat} {ps : List (Nat × Nat)} (hm : mk ∈ c_SIGNS) (hps : ∀ q ∈ ps, q.2 ∈ c_SIGNS) {t : Tx} (h : ∀ c ∈ t, c ∈ c_SIGNS) : ∀ c ∈ t.flatMap (encS mk ps), c ∈ c_SIGNS := by
  intro c hc
  obtain ⟨d, hd, hcd⟩ := List.mem_flatMap.mp hc
  unfold encS at hcd
  cases z : ps.find? (fun q => decide (q.1 = d)) with
  | none => rw [z] at hcd; rw [List.mem_singleton.mp hcd]; exact h d hd
  | some q =>
    rw [z] at hcd
    simp only [List.mem_cons, List.not_mem_nil, or_false] at hcd
    rcases hcd with rfl | rfl
    · exact hm
    · exact hps q (List.mem_of_find?_eq_some z)
theorem val_text (k : Nat) (w : Tx) (c : Int) (h : 0 ≤ c ∧ c < 2147483647) (h1 : w ≠ w_word) (h2 : w ≠ w_number) : ∃ t : Tx, t.length ≤ 400 ∧ (∀ x ∈ t, x ∈ c_SIGNS) ∧ Ψ (k + 3) ._law_value_by [.str w, .int c] = pure (.str t) := by
  obtain ⟨t, hl, ht, e⟩ := s_text_m (Ψ := Ψ) k c 400 h (by decide)
  have n3 : [119, 111, 114, 100] = w_word := rfl
  have n4 : [110, 117, 109, 98, 101, 114] = w_number := rfl
  exact ⟨t, hl.2, ht, by simp (disch := (first | with_reducible assumption | omega | ((try simp only [q_sl, List.length_append, List.length_map, List.length_cons, List.length_nil, and_true, true_and]); first | omega | decide))) only [bnd_pure, q_runF, fin_nx, fin_rt, q_var0, q_vars, q_C, q_bin, q_chain, chainK_bl, q_tru, truK_bl, truK_int, truK_lst, truK_tup, truK_non, truK_str, q_test, tstK_bl, q_and, q_or, q_not, q_andV, q_orV, q_notV, q_ifE, q_un, q_nil, q_cons, q_tup, q_lst, q_callF, q_call, q_meth, methK_obj, methO_some, q_isB, q_items, itemsK_str, itemsK_lst, itemsK_tup, q_range1, rangeK_int, q_nop, q_seq, seqK_nx, seqK_rt, seqK_bk, seqK_ct, q_if, q_ret, q_retN, q_drop, q_set, q_setOwn, q_for, q_for_nil, forK_nx, forK_ct, forK_bk, forK_rt, gd_true, lf_some, f_add_int, f_add_str, f_add_lst, f_add_tup, f_sub_int, f_mul_r, f_mul_l, f_mod, f_div, f_eq_str, f_eq_int, f_eq_bl, f_ne_str, f_ne_int, f_ne_bl, f_lt, f_le, f_gt, f_ge, f_in_sign, f_notIn_sign, f_is_bl, f_len_str, f_len_lst, f_len_tup, f_len_scr, f_len_dic, f_int_bl, f_int_int, List.length_cons, List.length_nil, List.length_replicate, List.length_set, List.set_cons_zero, List.set_cons_succ, List.getElem?_cons_zero, List.getElem?_cons_succ, Nat.reduceAdd, Nat.reduceLT, Nat.zero_lt_succ, Nat.lt_add_one, if_true, if_false, Bool.not_true, Bool.not_false, Bool.false_eq_true, reduceIte, decide_true, decide_false, reduceCtorEq, List.cons.injEq, Nat.reduceEqDiff, and_true, true_and, and_false, false_and, isB_str_str, isB_str_int, isB_str_bl, isB_int_int, isB_bool_int, isB_bool_bl, isB_int_bl, isB_int_str, isB_bool_str, f_join_nil, f_join_signs, f_all_map, f_any_map, f_lstrip, f_cut_str, f_cut_lst, f_cut_tup, q_while, q_bm, isTy_str, isTy_lst, isTy_dic, q_part, partK_int, q_noPart, q_cut, q_range2, range2K_int, q_get2, get2K_dic, key_str, key_int, q_dict, q_pairs_nil, pairK_some, q_pairs_cons, q_app, appK_own, q_frz, frzK_own, frzK_val, frzK_no, q_aug, augK_val, f_ix_lst, f_ix_tup, f_ix_scr, f_ix_str, Int.reduceToNat, List.getD_cons_zero, List.getD_cons_succ, q_forN, Int.toNat_natCast, f_in_sign, f_neg_int, f_is_non, f_isNot_non, isNon_non, isNon_tup, isNon_int, isNon_str, isNon_lst, isNon_dic, isNon_bl, isNon_obj, isB_tuple_tup, isB_list_lst, isB_str_tup, isB_str_lst, isB_str_non, isB_tuple_non, u__law_value_by, b__law_value_by, n3, n4, h1, h2, e]⟩
theorem ahead_le (a x b : Tx) : a.length ≤ (a ++ x ++ b).length := by simp only [List.length_append]; omega
theorem row_plain (k : Nat) (ns : List Int) : RowOk (Ψ (k + 6)) ns 3 := by
  intro s3 s4 s5 s6 s7 s8 s9 s10 s11 s12 s13
  refine row (k + 4) ns 3 (by decide) w_plain 7 c_PLAIN_ENDS s3 s4 s5 s6 s7 s8 s9 s10 s11 s12 s13 rfl (way_p _) (s_law_ends_plain _) (by decide) (by decide) (fun c hc => ?_) (fun T i hT hi => ?_)
  · obtain ⟨t, hl, ht, e⟩ := val_text (Ψ := Ψ) (k + 3) w_plain c hc (by decide) (by decide)
    refine ⟨.str t, enP t, e, c_plain _ t hl, ⟨?_, enc_signs (by decide) (by decide) ht⟩, fine_str ht, fun a b hg hb => ?_⟩
    · have := enc_len 126 psP t
      exact Nat.le_trans this (by omega)
    · have := (mul_plain (Ψ := Ψ) k _ a.length hg (ahead_le a (enP t) b)).1
      rw [due_plain a t b hl hb] at this
      simp (disch := (first | with_reducible assumption | omega | ((try simp only [q_sl, List.length_append, List.length_map, List.length_cons, List.length_nil, and_true, true_and]); first | omega | decide))) only [bnd_pure, q_runF, fin_nx, fin_rt, q_var0, q_vars, q_C, q_bin, q_chain, chainK_bl, q_tru, truK_bl, truK_int, truK_lst, truK_tup, truK_non, truK_str, q_test, tstK_bl, q_and, q_or, q_not, q_andV, q_orV, q_notV, q_ifE, q_un, q_nil, q_cons, q_tup, q_lst, q_callF, q_call, q_meth, methK_obj, methO_some, q_isB, q_items, itemsK_str, itemsK_lst, itemsK_tup, q_range1, rangeK_int, q_nop, q_seq, seqK_nx, seqK_rt, seqK_bk, seqK_ct, q_if, q_ret, q_retN, q_drop, q_set, q_setOwn, q_for, q_for_nil, forK_nx, forK_ct, forK_bk, forK_rt, gd_true, lf_some, f_add_int, f_add_str, f_add_lst, f_add_tup, f_sub_int, f_mul_r, f_mul_l, f_mod, f_div, f_eq_str, f_eq_int, f_eq_bl, f_ne_str, f_ne_int, f_ne_bl, f_lt, f_le, f_gt, f_ge, f_in_sign, f_notIn_sign, f_is_bl, f_len_str, f_len_lst, f_len_tup, f_len_scr, f_len_dic, f_int_bl, f_int_int, List.length_cons, List.length_nil, List.length_replicate, List.length_set, List.set_cons_zero, List.set_cons_succ, List.getElem?_cons_zero, List.getElem?_cons_succ, Nat.reduceAdd, Nat.reduceLT, Nat.zero_lt_succ, Nat.lt_add_one, if_true, if_false, Bool.not_true, Bool.not_false, Bool.false_eq_true, reduceIte, decide_true, decide_false, reduceCtorEq, List.cons.injEq, Nat.reduceEqDiff, and_true, true_and, and_false, false_and, isB_str_str, isB_str_int, isB_str_bl, isB_int_int, isB_bool_int, isB_bool_bl, isB_int_bl, isB_int_str, isB_bool_str, f_join_nil, f_join_signs, f_all_map, f_any_map, f_lstrip, f_cut_str, f_cut_lst, f_cut_tup, q_while, q_bm, isTy_str, isTy_lst, isTy_dic, q_part, partK_int, q_noPart, q_cut, q_range2, range2K_int, q_get2, get2K_dic, key_str, key_int, q_dict, q_pairs_nil, pairK_some, q_pairs_cons, q_app, appK_own, q_frz, frzK_own, frzK_val, frzK_no, q_aug, augK_val, f_ix_lst, f_ix_tup, f_ix_scr, f_ix_str, Int.reduceToNat, List.getD_cons_zero, List.getD_cons_succ, q_forN, Int.toNat_natCast, f_in_sign, f_neg_int, f_is_non, f_isNot_non, isNon_non, isNon_tup, isNon_int, isNon_str, isNon_lst, isNon_dic, isNon_bl, isNon_obj, isB_tuple_tup, isB_list_lst, isB_str_tup, isB_str_lst, isB_str_non, isB_tuple_non, tbl_read, this]
  · have hm := mul_plain (Ψ := Ψ) k T i hT hi
    refine ⟨_, by simp (disch := (first | with_reducible assumption | omega | ((try simp only [q_sl, List.length_append, List.length_map, List.length_cons, List.length_nil, and_true, true_and]); first | omega | decide))) only [bnd_pure, q_runF, fin_nx, fin_rt, q_var0, q_vars, q_C, q_bin, q_chain, chainK_bl, q_tru, truK_bl, truK_int, truK_lst, truK_tup, truK_non, truK_str, q_test, tstK_bl, q_and, q_or, q_not, q_andV, q_orV, q_notV, q_ifE, q_un, q_nil, q_cons, q_tup, q_lst, q_callF, q_call, q_meth, methK_obj, methO_some, q_isB, q_items, itemsK_str, itemsK_lst, itemsK_tup, q_range1, rangeK_int, q_nop, q_seq, seqK_nx, seqK_rt, seqK_bk, seqK_ct, q_if, q_ret, q_retN, q_drop, q_set, q_setOwn, q_for, q_for_nil, forK_nx, forK_ct, forK_bk, forK_rt, gd_true, lf_some, f_add_int, f_add_str, f_add_lst, f_add_tup, f_sub_int, f_mul_r, f_mul_l, f_mod, f_div, f_eq_str, f_eq_int, f_eq_bl, f_ne_str, f_ne_int, f_ne_bl, f_lt, f_le, f_gt, f_ge, f_in_sign, f_notIn_sign, f_is_bl, f_len_str, f_len_lst, f_len_tup, f_len_scr, f_len_dic, f_int_bl, f_int_int, List.length_cons, List.length_nil, List.length_replicate, List.length_set, List.set_cons_zero, List.set_cons_succ, List.getElem?_cons_zero, List.getElem?_cons_succ, Nat.reduceAdd, Nat.reduceLT, Nat.zero_lt_succ, Nat.lt_add_one, if_true, if_false, Bool.not_true, Bool.not_false, Bool.false_eq_true, reduceIte, decide_true, decide_false, reduceCtorEq, List.cons.injEq, Nat.reduceEqDiff, and_true, true_and, and_false, false_and, isB_str_str, isB_str_int, isB_str_bl, isB_int_int, isB_bool_int, isB_bool_bl, isB_int_bl, isB_int_str, isB_bool_str, f_join_nil, f_join_signs, f_all_map, f_any_map, f_lstrip, f_cut_str, f_cut_lst, f_cut_tup, q_while, q_bm, isTy_str, isTy_lst, isTy_dic, q_part, partK_int, q_noPart, q_cut, q_range2, range2K_int, q_get2, get2K_dic, key_str, key_int, q_dict, q_pairs_nil, pairK_some, q_pairs_cons, q_app, appK_own, q_frz, frzK_own, frzK_val, frzK_no, q_aug, augK_val, f_ix_lst, f_ix_tup, f_ix_scr, f_ix_str, Int.reduceToNat, List.getD_cons_zero, List.getD_cons_succ, q_forN, Int.toNat_natCast, f_in_sign, f_neg_int, f_is_non, f_isNot_non, isNon_non, isNon_tup, isNon_int, isNon_str, isNon_lst, isNon_dic, isNon_bl, isNon_obj, isB_tuple_tup, isB_list_lst, isB_str_tup, isB_str_lst, isB_str_non, isB_tuple_non, tbl_read, hm.1], hm.2, same_of k i _ _ (mT_ok cdP (fun c hc => hT.2 c (spanT_mem hc).1) psP_s)⟩
theorem row_line (k : Nat) (ns : List Int) : RowOk (Ψ (k + 6)) ns 4 := by
  intro s3 s4 s5 s6 s7 s8 s9 s10 s11 s12 s13
  refine row (k + 4) ns 4 (by decide) w_line 8 [10] s3 s4 s5 s6 s7 s8 s9 s10 s11 s12 s13 rfl (way_l _) (s_law_ends_line _) (by decide) (by decide) (fun c hc => ?_) (fun T i hT hi => ?_)
  · obtain ⟨t, hl, ht, e⟩ := val_text (Ψ := Ψ) (k + 3) w_line c hc (by decide) (by decide)
    refine ⟨.str t, enL t, e, c_line _ t hl, ⟨?_, enc_signs (by decide) (by decide) ht⟩, fine_str ht, fun a b hg hb => ?_⟩
    · have := enc_len 126 psL t
      exact Nat.le_trans this (by omega)
    · have := (mul_line (Ψ := Ψ) k _ a.length hg (ahead_le a (enL t) b)).1
      rw [due_line a t b hl hb] at this
      simp (disch := (first | with_reducible assumption | omega | ((try simp only [q_sl, List.length_append, List.length_map, List.length_cons, List.length_nil, and_true, true_and]); first | omega | decide))) only [bnd_pure, q_runF, fin_nx, fin_rt, q_var0, q_vars, q_C, q_bin, q_chain, chainK_bl, q_tru, truK_bl, truK_int, truK_lst, truK_tup, truK_non, truK_str, q_test, tstK_bl, q_and, q_or, q_not, q_andV, q_orV, q_notV, q_ifE, q_un, q_nil, q_cons, q_tup, q_lst, q_callF, q_call, q_meth, methK_obj, methO_some, q_isB, q_items, itemsK_str, itemsK_lst, itemsK_tup, q_range1, rangeK_int, q_nop, q_seq, seqK_nx, seqK_rt, seqK_bk, seqK_ct, q_if, q_ret, q_retN, q_drop, q_set, q_setOwn, q_for, q_for_nil, forK_nx, forK_ct, forK_bk, forK_rt, gd_true, lf_some, f_add_int, f_add_str, f_add_lst, f_add_tup, f_sub_int, f_mul_r, f_mul_l, f_mod, f_div, f_eq_str, f_eq_int, f_eq_bl, f_ne_str, f_ne_int, f_ne_bl, f_lt, f_le, f_gt, f_ge, f_in_sign, f_notIn_sign, f_is_bl, f_len_str, f_len_lst, f_len_tup, f_len_scr, f_len_dic, f_int_bl, f_int_int, List.length_cons, List.length_nil, List.length_replicate, List.length_set, List.set_cons_zero, List.set_cons_succ, List.getElem?_cons_zero, List.getElem?_cons_succ, Nat.reduceAdd, Nat.reduceLT, Nat.zero_lt_succ, Nat.lt_add_one, if_true, if_false, Bool.not_true, Bool.not_false, Bool.false_eq_true, reduceIte, decide_true, decide_false, reduceCtorEq, List.cons.injEq, Nat.reduceEqDiff, and_true, true_and, and_false, false_and, isB_str_str, isB_str_int, isB_str_bl, isB_int_int, isB_bool_int, isB_bool_bl, isB_int_bl, isB_int_str, isB_bool_str, f_join_nil, f_join_signs, f_all_map, f_any_map, f_lstrip, f_cut_str, f_cut_lst, f_cut_tup, q_while, q_bm, isTy_str, isTy_lst, isTy_dic, q_part, partK_int, q_noPart, q_cut, q_range2, range2K_int, q_get2, get2K_dic, key_str, key_int, q_dict, q_pairs_nil, pairK_some, q_pairs_cons, q_app, appK_own, q_frz, frzK_own, frzK_val, frzK_no, q_aug, augK_val, f_ix_lst, f_ix_tup, f_ix_scr, f_ix_str, Int.reduceToNat, List.getD_cons_zero, List.getD_cons_succ, q_forN, Int.toNat_natCast, f_in_sign, f_neg_int, f_is_non, f_isNot_non, isNon_non, isNon_tup, isNon_int, isNon_str, isNon_lst, isNon_dic, isNon_bl, isNon_obj, isB_tuple_tup, isB_list_lst, isB_str_tup, isB_str_lst, isB_str_non, isB_tuple_non, tbl_read, this]
  · have hm := mul_line (Ψ := Ψ) k T i hT hi
    refine ⟨_, by simp (disch := (first | with_reducible assumption | omega | ((try simp only [q_sl, List.length_append, List.length_map, List.length_cons, List.length_nil, and_true, true_and]); first | omega | decide))) only [bnd_pure, q_runF, fin_nx, fin_rt, q_var0, q_vars, q_C, q_bin, q_chain, chainK_bl, q_tru, truK_bl, truK_int, truK_lst, truK_tup, truK_non, truK_str, q_test, tstK_bl, q_and, q_or, q_not, q_andV, q_orV, q_notV, q_ifE, q_un, q_nil, q_cons, q_tup, q_lst, q_callF, q_call, q_meth, methK_obj, methO_some, q_isB, q_items, itemsK_str, itemsK_lst, itemsK_tup, q_range1, rangeK_int, q_nop, q_seq, seqK_nx, seqK_rt, seqK_bk, seqK_ct, q_if, q_ret, q_retN, q_drop, q_set, q_setOwn, q_for, q_for_nil, forK_nx, forK_ct, forK_bk, forK_rt, gd_true, lf_some, f_add_int, f_add_str, f_add_lst, f_add_tup, f_sub_int, f_mul_r, f_mul_l, f_mod, f_div, f_eq_str, f_eq_int, f_eq_bl, f_ne_str, f_ne_int, f_ne_bl, f_lt, f_le, f_gt, f_ge, f_in_sign, f_notIn_sign, f_is_bl, f_len_str, f_len_lst, f_len_tup, f_len_scr, f_len_dic, f_int_bl, f_int_int, List.length_cons, List.length_nil, List.length_replicate, List.length_set, List.set_cons_zero, List.set_cons_succ, List.getElem?_cons_zero, List.getElem?_cons_succ, Nat.reduceAdd, Nat.reduceLT, Nat.zero_lt_succ, Nat.lt_add_one, if_true, if_false, Bool.not_true, Bool.not_false, Bool.false_eq_true, reduceIte, decide_true, decide_false, reduceCtorEq, List.cons.injEq, Nat.reduceEqDiff, and_true, true_and, and_false, false_and, isB_str_str, isB_str_int, isB_str_bl, isB_int_int, isB_bool_int, isB_bool_bl, isB_int_bl, isB_int_str, isB_bool_str, f_join_nil, f_join_signs, f_all_map, f_any_map, f_lstrip, f_cut_str, f_cut_lst, f_cut_tup, q_while, q_bm, isTy_str, isTy_lst, isTy_dic, q_part, partK_int, q_noPart, q_cut, q_range2, range2K_int, q_get2, get2K_dic, key_str, key_int, q_dict, q_pairs_nil, pairK_some, q_pairs_cons, q_app, appK_own, q_frz, frzK_own, frzK_val, frzK_no, q_aug, augK_val, f_ix_lst, f_ix_tup, f_ix_scr, f_ix_str, Int.reduceToNat, List.getD_cons_zero, List.getD_cons_succ, q_forN, Int.toNat_natCast, f_in_sign, f_neg_int, f_is_non, f_isNot_non, isNon_non, isNon_tup, isNon_int, isNon_str, isNon_lst, isNon_dic, isNon_bl, isNon_obj, isB_tuple_tup, isB_list_lst, isB_str_tup, isB_str_lst, isB_str_non, isB_tuple_non, tbl_read, hm.1], hm.2, same_of k i _ _ (mT_ok cdL (fun c hc => hT.2 c (spanT_mem hc).1) psL_s)⟩
end K02.Ma
end
section
set_option linter.all false
set_option maxRecDepth 100000
namespace K02.Ma
open PySem L2 DL
variable {Ψ : Nat → Fid → List D → M D} [IsΦ Ψ]
theorem mW_ok {st : Tx} (h : ∀ c ∈ st, c ∈ c_SIGNS) : ∀ v, mW st = some v → okV v := by
  intro v hv
  unfold mW at hv
  split at hv
  · cases hv
    exact fine_str h
  · cases hv
theorem mN_ok {st : Tx} : ∀ v, mN st = some v → okV v := by
  intro v hv
  unfold mN at hv
  split at hv
  · cases hv
    exact ⟨rfl, .inr ⟨_, rfl⟩⟩
  · cases hv
theorem row_word (k : Nat) (ns : List Int) : RowOk (Ψ (k + 6)) ns 0 := by
  intro s3 s4 s5 s6 s7 s8 s9 s10 s11 s12 s13
  refine row (k + 4) ns 0 (by decide) w_word 4 e_w s3 s4 s5 s6 s7 s8 s9 s10 s11 s12 s13 rfl (way_w _) (le_w _) (by decide +kernel) (by decide +kernel) (fun c hc => ?_) (fun T i hT hi => ?_)
  · obtain ⟨t, hl, ht, e⟩ := s_word_by (Ψ := Ψ) (k + 3) c hc
    have n3 : [119, 111, 114, 100] = w_word := rfl
    have q : ∀ c ∈ c_AL, c ∈ c_SIGNS := by decide +kernel
    refine ⟨.str t, t, by simp (disch := (first | with_reducible assumption | omega | ((try simp only [q_sl, List.length_append, List.length_map, List.length_cons, List.length_nil, and_true, true_and]); first | omega | decide))) only [bnd_pure, q_runF, fin_nx, fin_rt, q_var0, q_vars, q_C, q_bin, q_chain, chainK_bl, q_tru, truK_bl, truK_int, truK_lst, truK_tup, truK_non, truK_str, q_test, tstK_bl, q_and, q_or, q_not, q_andV, q_orV, q_notV, q_ifE, q_un, q_nil, q_cons, q_tup, q_lst, q_callF, q_call, q_meth, methK_obj, methO_some, q_isB, q_items, itemsK_str, itemsK_lst, itemsK_tup, q_range1, rangeK_int, q_nop, q_seq, seqK_nx, seqK_rt, seqK_bk, seqK_ct, q_if, q_ret, q_retN, q_drop, q_set, q_setOwn, q_for, q_for_nil, forK_nx, forK_ct, forK_bk, forK_rt, gd_true, lf_some, f_add_int, f_add_str, f_add_lst, f_add_tup, f_sub_int, f_mul_r, f_mul_l, f_mod, f_div, f_eq_str, f_eq_int, f_eq_bl, f_ne_str, f_ne_int, f_ne_bl, f_lt, f_le, f_gt, f_ge, f_in_sign, f_notIn_sign, f_is_bl, f_len_str, f_len_lst, f_len_tup, f_len_scr, f_len_dic, f_int_bl, f_int_int, List.length_cons, List.length_nil, List.length_replicate, List.length_set, List.set_cons_zero, List.set_cons_succ, List.getElem?_cons_zero, List.getElem?_cons_succ, Nat.reduceAdd, Nat.reduceLT, Nat.zero_lt_succ, Nat.lt_add_one, if_true, if_false, Bool.not_true, Bool.not_false, Bool.false_eq_true, reduceIte, decide_true, decide_false, reduceCtorEq, List.cons.injEq, Nat.reduceEqDiff, and_true, true_and, and_false, false_and, isB_str_str, isB_str_int, isB_str_bl, isB_int_int, isB_bool_int, isB_bool_bl, isB_int_bl, isB_int_str, isB_bool_str, f_join_nil, f_join_signs, f_all_map, f_any_map, f_lstrip, f_cut_str, f_cut_lst, f_cut_tup, q_while, q_bm, isTy_str, isTy_lst, isTy_dic, q_part, partK_int, q_noPart, q_cut, q_range2, range2K_int, q_get2, get2K_dic, key_str, key_int, q_dict, q_pairs_nil, pairK_some, q_pairs_cons, q_app, appK_own, q_frz, frzK_own, frzK_val, frzK_no, q_aug, augK_val, f_ix_lst, f_ix_tup, f_ix_scr, f_ix_str, Int.reduceToNat, List.getD_cons_zero, List.getD_cons_succ, q_forN, Int.toNat_natCast, f_in_sign, f_neg_int, f_is_non, f_isNot_non, isNon_non, isNon_tup, isNon_int, isNon_str, isNon_lst, isNon_dic, isNon_bl, isNon_obj, isB_tuple_tup, isB_list_lst, isB_str_tup, isB_str_lst, isB_str_non, isB_tuple_non, u__law_value_by, b__law_value_by, n3, e], c_word _ t, ⟨by omega, fun c h => q c (ht c h)⟩, fine_str fun c h => q c (ht c h), fun a b hg hb => ?_⟩
    have := (mul_word (Ψ := Ψ) k _ a.length hg (ahead_le a t b)).1
    rw [due_word a t b hl ht hb] at this
    simp (disch := (first | with_reducible assumption | omega | ((try simp only [q_sl, List.length_append, List.length_map, List.length_cons, List.length_nil, and_true, true_and]); first | omega | decide))) only [bnd_pure, q_runF, fin_nx, fin_rt, q_var0, q_vars, q_C, q_bin, q_chain, chainK_bl, q_tru, truK_bl, truK_int, truK_lst, truK_tup, truK_non, truK_str, q_test, tstK_bl, q_and, q_or, q_not, q_andV, q_orV, q_notV, q_ifE, q_un, q_nil, q_cons, q_tup, q_lst, q_callF, q_call, q_meth, methK_obj, methO_some, q_isB, q_items, itemsK_str, itemsK_lst, itemsK_tup, q_range1, rangeK_int, q_nop, q_seq, seqK_nx, seqK_rt, seqK_bk, seqK_ct, q_if, q_ret, q_retN, q_drop, q_set, q_setOwn, q_for, q_for_nil, forK_nx, forK_ct, forK_bk, forK_rt, gd_true, lf_some, f_add_int, f_add_str, f_add_lst, f_add_tup, f_sub_int, f_mul_r, f_mul_l, f_mod, f_div, f_eq_str, f_eq_int, f_eq_bl, f_ne_str, f_ne_int, f_ne_bl, f_lt, f_le, f_gt, f_ge, f_in_sign, f_notIn_sign, f_is_bl, f_len_str, f_len_lst, f_len_tup, f_len_scr, f_len_dic, f_int_bl, f_int_int, List.length_cons, List.length_nil, List.length_replicate, List.length_set, List.set_cons_zero, List.set_cons_succ, List.getElem?_cons_zero, List.getElem?_cons_succ, Nat.reduceAdd, Nat.reduceLT, Nat.zero_lt_succ, Nat.lt_add_one, if_true, if_false, Bool.not_true, Bool.not_false, Bool.false_eq_true, reduceIte, decide_true, decide_false, reduceCtorEq, List.cons.injEq, Nat.reduceEqDiff, and_true, true_and, and_false, false_and, isB_str_str, isB_str_int, isB_str_bl, isB_int_int, isB_bool_int, isB_bool_bl, isB_int_bl, isB_int_str, isB_bool_str, f_join_nil, f_join_signs, f_all_map, f_any_map, f_lstrip, f_cut_str, f_cut_lst, f_cut_tup, q_while, q_bm, isTy_str, isTy_lst, isTy_dic, q_part, partK_int, q_noPart, q_cut, q_range2, range2K_int, q_get2, get2K_dic, key_str, key_int, q_dict, q_pairs_nil, pairK_some, q_pairs_cons, q_app, appK_own, q_frz, frzK_own, frzK_val, frzK_no, q_aug, augK_val, f_ix_lst, f_ix_tup, f_ix_scr, f_ix_str, Int.reduceToNat, List.getD_cons_zero, List.getD_cons_succ, q_forN, Int.toNat_natCast, f_in_sign, f_neg_int, f_is_non, f_isNot_non, isNon_non, isNon_tup, isNon_int, isNon_str, isNon_lst, isNon_dic, isNon_bl, isNon_obj, isB_tuple_tup, isB_list_lst, isB_str_tup, isB_str_lst, isB_str_non, isB_tuple_non, tbl_read, this]
  · have hm := mul_word (Ψ := Ψ) k T i hT hi
    refine ⟨_, by simp (disch := (first | with_reducible assumption | omega | ((try simp only [q_sl, List.length_append, List.length_map, List.length_cons, List.length_nil, and_true, true_and]); first | omega | decide))) only [bnd_pure, q_runF, fin_nx, fin_rt, q_var0, q_vars, q_C, q_bin, q_chain, chainK_bl, q_tru, truK_bl, truK_int, truK_lst, truK_tup, truK_non, truK_str, q_test, tstK_bl, q_and, q_or, q_not, q_andV, q_orV, q_notV, q_ifE, q_un, q_nil, q_cons, q_tup, q_lst, q_callF, q_call, q_meth, methK_obj, methO_some, q_isB, q_items, itemsK_str, itemsK_lst, itemsK_tup, q_range1, rangeK_int, q_nop, q_seq, seqK_nx, seqK_rt, seqK_bk, seqK_ct, q_if, q_ret, q_retN, q_drop, q_set, q_setOwn, q_for, q_for_nil, forK_nx, forK_ct, forK_bk, forK_rt, gd_true, lf_some, f_add_int, f_add_str, f_add_lst, f_add_tup, f_sub_int, f_mul_r, f_mul_l, f_mod, f_div, f_eq_str, f_eq_int, f_eq_bl, f_ne_str, f_ne_int, f_ne_bl, f_lt, f_le, f_gt, f_ge, f_in_sign, f_notIn_sign, f_is_bl, f_len_str, f_len_lst, f_len_tup, f_len_scr, f_len_dic, f_int_bl, f_int_int, List.length_cons, List.length_nil, List.length_replicate, List.length_set, List.set_cons_zero, List.set_cons_succ, List.getElem?_cons_zero, List.getElem?_cons_succ, Nat.reduceAdd, Nat.reduceLT, Nat.zero_lt_succ, Nat.lt_add_one, if_true, if_false, Bool.not_true, Bool.not_false, Bool.false_eq_true, reduceIte, decide_true, decide_false, reduceCtorEq, List.cons.injEq, Nat.reduceEqDiff, and_true, true_and, and_false, false_and, isB_str_str, isB_str_int, isB_str_bl, isB_int_int, isB_bool_int, isB_bool_bl, isB_int_bl, isB_int_str, isB_bool_str, f_join_nil, f_join_signs, f_all_map, f_any_map, f_lstrip, f_cut_str, f_cut_lst, f_cut_tup, q_while, q_bm, isTy_str, isTy_lst, isTy_dic, q_part, partK_int, q_noPart, q_cut, q_range2, range2K_int, q_get2, get2K_dic, key_str, key_int, q_dict, q_pairs_nil, pairK_some, q_pairs_cons, q_app, appK_own, q_frz, frzK_own, frzK_val, frzK_no, q_aug, augK_val, f_ix_lst, f_ix_tup, f_ix_scr, f_ix_str, Int.reduceToNat, List.getD_cons_zero, List.getD_cons_succ, q_forN, Int.toNat_natCast, f_in_sign, f_neg_int, f_is_non, f_isNot_non, isNon_non, isNon_tup, isNon_int, isNon_str, isNon_lst, isNon_dic, isNon_bl, isNon_obj, isB_tuple_tup, isB_list_lst, isB_str_tup, isB_str_lst, isB_str_non, isB_tuple_non, tbl_read, hm.1], hm.2, same_of k i _ _ (mW_ok fun c hc => hT.2 c (spanT_mem hc).1)⟩
theorem row_number (k : Nat) (ns : List Int) : RowOk (Ψ (k + 6)) ns 1 := by
  intro s3 s4 s5 s6 s7 s8 s9 s10 s11 s12 s13
  refine row (k + 4) ns 1 (by decide) w_number 5 e_n s3 s4 s5 s6 s7 s8 s9 s10 s11 s12 s13 rfl (way_n _) (le_n _) (by decide +kernel) (by decide +kernel) (fun c hc => ?_) (fun T i hT hi => ?_)
  · obtain ⟨n, hn, e⟩ := s_number_by (Ψ := Ψ) (k + 4) c hc
    have n3 : [119, 111, 114, 100] = w_word := rfl
    have n4 : [110, 117, 109, 98, 101, 114] = w_number := rfl
    have hne : ¬ w_number = w_word := by decide
    have hs : ∀ c ∈ strI n, c ∈ c_SIGNS := by
      have q : ∀ c ∈ c_FIGURES, c ∈ c_SIGNS := by decide +kernel
      intro c hc
      rcases strI_signs n with ⟨d, e, ne, hd⟩ | ⟨d, e, ne, hd⟩
      · rw [e] at hc
        exact q c (fig (hd c hc))
      · rw [e] at hc
        rcases List.mem_cons.mp hc with rfl | hc
        · decide
        · exact q c (fig (hd c hc))
    refine ⟨.int n, strI n, by simp (disch := (first | with_reducible assumption | omega | ((try simp only [q_sl, List.length_append, List.length_map, List.length_cons, List.length_nil, and_true, true_and]); first | omega | decide))) only [bnd_pure, q_runF, fin_nx, fin_rt, q_var0, q_vars, q_C, q_bin, q_chain, chainK_bl, q_tru, truK_bl, truK_int, truK_lst, truK_tup, truK_non, truK_str, q_test, tstK_bl, q_and, q_or, q_not, q_andV, q_orV, q_notV, q_ifE, q_un, q_nil, q_cons, q_tup, q_lst, q_callF, q_call, q_meth, methK_obj, methO_some, q_isB, q_items, itemsK_str, itemsK_lst, itemsK_tup, q_range1, rangeK_int, q_nop, q_seq, seqK_nx, seqK_rt, seqK_bk, seqK_ct, q_if, q_ret, q_retN, q_drop, q_set, q_setOwn, q_for, q_for_nil, forK_nx, forK_ct, forK_bk, forK_rt, gd_true, lf_some, f_add_int, f_add_str, f_add_lst, f_add_tup, f_sub_int, f_mul_r, f_mul_l, f_mod, f_div, f_eq_str, f_eq_int, f_eq_bl, f_ne_str, f_ne_int, f_ne_bl, f_lt, f_le, f_gt, f_ge, f_in_sign, f_notIn_sign, f_is_bl, f_len_str, f_len_lst, f_len_tup, f_len_scr, f_len_dic, f_int_bl, f_int_int, List.length_cons, List.length_nil, List.length_replicate, List.length_set, List.set_cons_zero, List.set_cons_succ, List.getElem?_cons_zero, List.getElem?_cons_succ, Nat.reduceAdd, Nat.reduceLT, Nat.zero_lt_succ, Nat.lt_add_one, if_true, if_false, Bool.not_true, Bool.not_false, Bool.false_eq_true, reduceIte, decide_true, decide_false, reduceCtorEq, List.cons.injEq, Nat.reduceEqDiff, and_true, true_and, and_false, false_and, isB_str_str, isB_str_int, isB_str_bl, isB_int_int, isB_bool_int, isB_bool_bl, isB_int_bl, isB_int_str, isB_bool_str, f_join_nil, f_join_signs, f_all_map, f_any_map, f_lstrip, f_cut_str, f_cut_lst, f_cut_tup, q_while, q_bm, isTy_str, isTy_lst, isTy_dic, q_part, partK_int, q_noPart, q_cut, q_range2, range2K_int, q_get2, get2K_dic, key_str, key_int, q_dict, q_pairs_nil, pairK_some, q_pairs_cons, q_app, appK_own, q_frz, frzK_own, frzK_val, frzK_no, q_aug, augK_val, f_ix_lst, f_ix_tup, f_ix_scr, f_ix_str, Int.reduceToNat, List.getD_cons_zero, List.getD_cons_succ, q_forN, Int.toNat_natCast, f_in_sign, f_neg_int, f_is_non, f_isNot_non, isNon_non, isNon_tup, isNon_int, isNon_str, isNon_lst, isNon_dic, isNon_bl, isNon_obj, isB_tuple_tup, isB_list_lst, isB_str_tup, isB_str_lst, isB_str_non, isB_tuple_non, u__law_value_by, b__law_value_by, n3, n4, hne, e], c_number _ n hn, ⟨Nat.le_trans (strI_len (k := 30) (by decide) (by omega)) (by decide), hs⟩, ⟨rfl, .inr ⟨n, rfl⟩⟩, fun a b hg hb => ?_⟩
    have := (mul_number (Ψ := Ψ) k _ a.length hg (ahead_le a (strI n) b)).1
    rw [due_number a b n hn hb] at this
    simp (disch := (first | with_reducible assumption | omega | ((try simp only [q_sl, List.length_append, List.length_map, List.length_cons, List.length_nil, and_true, true_and]); first | omega | decide))) only [bnd_pure, q_runF, fin_nx, fin_rt, q_var0, q_vars, q_C, q_bin, q_chain, chainK_bl, q_tru, truK_bl, truK_int, truK_lst, truK_tup, truK_non, truK_str, q_test, tstK_bl, q_and, q_or, q_not, q_andV, q_orV, q_notV, q_ifE, q_un, q_nil, q_cons, q_tup, q_lst, q_callF, q_call, q_meth, methK_obj, methO_some, q_isB, q_items, itemsK_str, itemsK_lst, itemsK_tup, q_range1, rangeK_int, q_nop, q_seq, seqK_nx, seqK_rt, seqK_bk, seqK_ct, q_if, q_ret, q_retN, q_drop, q_set, q_setOwn, q_for, q_for_nil, forK_nx, forK_ct, forK_bk, forK_rt, gd_true, lf_some, f_add_int, f_add_str, f_add_lst, f_add_tup, f_sub_int, f_mul_r, f_mul_l, f_mod, f_div, f_eq_str, f_eq_int, f_eq_bl, f_ne_str, f_ne_int, f_ne_bl, f_lt, f_le, f_gt, f_ge, f_in_sign, f_notIn_sign, f_is_bl, f_len_str, f_len_lst, f_len_tup, f_len_scr, f_len_dic, f_int_bl, f_int_int, List.length_cons, List.length_nil, List.length_replicate, List.length_set, List.set_cons_zero, List.set_cons_succ, List.getElem?_cons_zero, List.getElem?_cons_succ, Nat.reduceAdd, Nat.reduceLT, Nat.zero_lt_succ, Nat.lt_add_one, if_true, if_false, Bool.not_true, Bool.not_false, Bool.false_eq_true, reduceIte, decide_true, decide_false, reduceCtorEq, List.cons.injEq, Nat.reduceEqDiff, and_true, true_and, and_false, false_and, isB_str_str, isB_str_int, isB_str_bl, isB_int_int, isB_bool_int, isB_bool_bl, isB_int_bl, isB_int_str, isB_bool_str, f_join_nil, f_join_signs, f_all_map, f_any_map, f_lstrip, f_cut_str, f_cut_lst, f_cut_tup, q_while, q_bm, isTy_str, isTy_lst, isTy_dic, q_part, partK_int, q_noPart, q_cut, q_range2, range2K_int, q_get2, get2K_dic, key_str, key_int, q_dict, q_pairs_nil, pairK_some, q_pairs_cons, q_app, appK_own, q_frz, frzK_own, frzK_val, frzK_no, q_aug, augK_val, f_ix_lst, f_ix_tup, f_ix_scr, f_ix_str, Int.reduceToNat, List.getD_cons_zero, List.getD_cons_succ, q_forN, Int.toNat_natCast, f_in_sign, f_neg_int, f_is_non, f_isNot_non, isNon_non, isNon_tup, isNon_int, isNon_str, isNon_lst, isNon_dic, isNon_bl, isNon_obj, isB_tuple_tup, isB_list_lst, isB_str_tup, isB_str_lst, isB_str_non, isB_tuple_non, tbl_read, this]
  · have hm := mul_number (Ψ := Ψ) k T i hT hi
    refine ⟨_, by simp (disch := (first | with_reducible assumption | omega | ((try simp only [q_sl, List.length_append, List.length_map, List.length_cons, List.length_nil, and_true, true_and]); first | omega | decide))) only [bnd_pure, q_runF, fin_nx, fin_rt, q_var0, q_vars, q_C, q_bin, q_chain, chainK_bl, q_tru, truK_bl, truK_int, truK_lst, truK_tup, truK_non, truK_str, q_test, tstK_bl, q_and, q_or, q_not, q_andV, q_orV, q_notV, q_ifE, q_un, q_nil, q_cons, q_tup, q_lst, q_callF, q_call, q_meth, methK_obj, methO_some, q_isB, q_items, itemsK_str, itemsK_lst, itemsK_tup, q_range1, rangeK_int, q_nop, q_seq, seqK_nx, seqK_rt, seqK_bk, seqK_ct, q_if, q_ret, q_retN, q_drop, q_set, q_setOwn, q_for, q_for_nil, forK_nx, forK_ct, forK_bk, forK_rt, gd_true, lf_some, f_add_int, f_add_str, f_add_lst, f_add_tup, f_sub_int, f_mul_r, f_mul_l, f_mod, f_div, f_eq_str, f_eq_int, f_eq_bl, f_ne_str, f_ne_int, f_ne_bl, f_lt, f_le, f_gt, f_ge, f_in_sign, f_notIn_sign, f_is_bl, f_len_str, f_len_lst, f_len_tup, f_len_scr, f_len_dic, f_int_bl, f_int_int, List.length_cons, List.length_nil, List.length_replicate, List.length_set, List.set_cons_zero, List.set_cons_succ, List.getElem?_cons_zero, List.getElem?_cons_succ, Nat.reduceAdd, Nat.reduceLT, Nat.zero_lt_succ, Nat.lt_add_one, if_true, if_false, Bool.not_true, Bool.not_false, Bool.false_eq_true, reduceIte, decide_true, decide_false, reduceCtorEq, List.cons.injEq, Nat.reduceEqDiff, and_true, true_and, and_false, false_and, isB_str_str, isB_str_int, isB_str_bl, isB_int_int, isB_bool_int, isB_bool_bl, isB_int_bl, isB_int_str, isB_bool_str, f_join_nil, f_join_signs, f_all_map, f_any_map, f_lstrip, f_cut_str, f_cut_lst, f_cut_tup, q_while, q_bm, isTy_str, isTy_lst, isTy_dic, q_part, partK_int, q_noPart, q_cut, q_range2, range2K_int, q_get2, get2K_dic, key_str, key_int, q_dict, q_pairs_nil, pairK_some, q_pairs_cons, q_app, appK_own, q_frz, frzK_own, frzK_val, frzK_no, q_aug, augK_val, f_ix_lst, f_ix_tup, f_ix_scr, f_ix_str, Int.reduceToNat, List.getD_cons_zero, List.getD_cons_succ, q_forN, Int.toNat_natCast, f_in_sign, f_neg_int, f_is_non, f_isNot_non, isNon_non, isNon_tup, isNon_int, isNon_str, isNon_lst, isNon_dic, isNon_bl, isNon_obj, isB_tuple_tup, isB_list_lst, isB_str_tup, isB_str_lst, isB_str_non, isB_tuple_non, tbl_read, hm.1], hm.2, same_of k i _ _ mN_ok⟩
theorem row_quoted (k : Nat) (ns : List Int) : RowOk (Ψ (k + 6)) ns 2 := by
  intro s3 s4 s5 s6 s7 s8 s9 s10 s11 s12 s13
  refine row (k + 4) ns 2 (by decide) w_quoted 6 (c_SIGNS.filter fun c => !decide (c ∈ ([] : Tx))) s3 s4 s5 s6 s7 s8 s9 s10 s11 s12 s13 rfl (way_q _) (s_law_ends _ w_quoted (by decide) (by decide) [] (by rfl)) (by decide +kernel) (by decide +kernel) (fun c hc => ?_) (fun T i hT hi => ?_)
  · obtain ⟨t, hl, ht, e⟩ := val_text (Ψ := Ψ) (k + 3) w_quoted c hc (by decide) (by decide)
    have hen := enc_signs (mk := 94) (ps := psQ) (by decide) (by decide) ht
    refine ⟨.str t, 34 :: (enQ t ++ [34]), e, c_quoted _ t hl, ⟨?_, ?_⟩, fine_str ht, fun a b hg hb => ?_⟩
    · have : (enQ t).length ≤ 2 * t.length := enc_len 94 psQ t
      simp only [List.length_cons, List.length_append, List.length_nil]
      omega
    · intro c hc
      rcases List.mem_cons.mp hc with rfl | hc
      · decide
      · rcases List.mem_append.mp hc with h | h
        · exact hen c h
        · rw [List.mem_singleton.mp h]; decide
    · have := (mul_quoted (Ψ := Ψ) k _ a.length hg (ahead_le a (34 :: (enQ t ++ [34])) b)).1
      rw [due_quoted a t b hl] at this
      simp (disch := (first | with_reducible assumption | omega | ((try simp only [q_sl, List.length_append, List.length_map, List.length_cons, List.length_nil, and_true, true_and]); first | omega | decide))) only [bnd_pure, q_runF, fin_nx, fin_rt, q_var0, q_vars, q_C, q_bin, q_chain, chainK_bl, q_tru, truK_bl, truK_int, truK_lst, truK_tup, truK_non, truK_str, q_test, tstK_bl, q_and, q_or, q_not, q_andV, q_orV, q_notV, q_ifE, q_un, q_nil, q_cons, q_tup, q_lst, q_callF, q_call, q_meth, methK_obj, methO_some, q_isB, q_items, itemsK_str, itemsK_lst, itemsK_tup, q_range1, rangeK_int, q_nop, q_seq, seqK_nx, seqK_rt, seqK_bk, seqK_ct, q_if, q_ret, q_retN, q_drop, q_set, q_setOwn, q_for, q_for_nil, forK_nx, forK_ct, forK_bk, forK_rt, gd_true, lf_some, f_add_int, f_add_str, f_add_lst, f_add_tup, f_sub_int, f_mul_r, f_mul_l, f_mod, f_div, f_eq_str, f_eq_int, f_eq_bl, f_ne_str, f_ne_int, f_ne_bl, f_lt, f_le, f_gt, f_ge, f_in_sign, f_notIn_sign, f_is_bl, f_len_str, f_len_lst, f_len_tup, f_len_scr, f_len_dic, f_int_bl, f_int_int, List.length_cons, List.length_nil, List.length_replicate, List.length_set, List.set_cons_zero, List.set_cons_succ, List.getElem?_cons_zero, List.getElem?_cons_succ, Nat.reduceAdd, Nat.reduceLT, Nat.zero_lt_succ, Nat.lt_add_one, if_true, if_false, Bool.not_true, Bool.not_false, Bool.false_eq_true, reduceIte, decide_true, decide_false, reduceCtorEq, List.cons.injEq, Nat.reduceEqDiff, and_true, true_and, and_false, false_and, isB_str_str, isB_str_int, isB_str_bl, isB_int_int, isB_bool_int, isB_bool_bl, isB_int_bl, isB_int_str, isB_bool_str, f_join_nil, f_join_signs, f_all_map, f_any_map, f_lstrip, f_cut_str, f_cut_lst, f_cut_tup, q_while, q_bm, isTy_str, isTy_lst, isTy_dic, q_part, partK_int, q_noPart, q_cut, q_range2, range2K_int, q_get2, get2K_dic, key_str, key_int, q_dict, q_pairs_nil, pairK_some, q_pairs_cons, q_app, appK_own, q_frz, frzK_own, frzK_val, frzK_no, q_aug, augK_val, f_ix_lst, f_ix_tup, f_ix_scr, f_ix_str, Int.reduceToNat, List.getD_cons_zero, List.getD_cons_succ, q_forN, Int.toNat_natCast, f_in_sign, f_neg_int, f_is_non, f_isNot_non, isNon_non, isNon_tup, isNon_int, isNon_str, isNon_lst, isNon_dic, isNon_bl, isNon_obj, isB_tuple_tup, isB_list_lst, isB_str_tup, isB_str_lst, isB_str_non, isB_tuple_non, tbl_read, this]
  · have hm := mul_quoted (Ψ := Ψ) k T i hT hi
    refine ⟨_, by simp (disch := (first | with_reducible assumption | omega | ((try simp only [q_sl, List.length_append, List.length_map, List.length_cons, List.length_nil, and_true, true_and]); first | omega | decide))) only [bnd_pure, q_runF, fin_nx, fin_rt, q_var0, q_vars, q_C, q_bin, q_chain, chainK_bl, q_tru, truK_bl, truK_int, truK_lst, truK_tup, truK_non, truK_str, q_test, tstK_bl, q_and, q_or, q_not, q_andV, q_orV, q_notV, q_ifE, q_un, q_nil, q_cons, q_tup, q_lst, q_callF, q_call, q_meth, methK_obj, methO_some, q_isB, q_items, itemsK_str, itemsK_lst, itemsK_tup, q_range1, rangeK_int, q_nop, q_seq, seqK_nx, seqK_rt, seqK_bk, seqK_ct, q_if, q_ret, q_retN, q_drop, q_set, q_setOwn, q_for, q_for_nil, forK_nx, forK_ct, forK_bk, forK_rt, gd_true, lf_some, f_add_int, f_add_str, f_add_lst, f_add_tup, f_sub_int, f_mul_r, f_mul_l, f_mod, f_div, f_eq_str, f_eq_int, f_eq_bl, f_ne_str, f_ne_int, f_ne_bl, f_lt, f_le, f_gt, f_ge, f_in_sign, f_notIn_sign, f_is_bl, f_len_str, f_len_lst, f_len_tup, f_len_scr, f_len_dic, f_int_bl, f_int_int, List.length_cons, List.length_nil, List.length_replicate, List.length_set, List.set_cons_zero, List.set_cons_succ, List.getElem?_cons_zero, List.getElem?_cons_succ, Nat.reduceAdd, Nat.reduceLT, Nat.zero_lt_succ, Nat.lt_add_one, if_true, if_false, Bool.not_true, Bool.not_false, Bool.false_eq_true, reduceIte, decide_true, decide_false, reduceCtorEq, List.cons.injEq, Nat.reduceEqDiff, and_true, true_and, and_false, false_and, isB_str_str, isB_str_int, isB_str_bl, isB_int_int, isB_bool_int, isB_bool_bl, isB_int_bl, isB_int_str, isB_bool_str, f_join_nil, f_join_signs, f_all_map, f_any_map, f_lstrip, f_cut_str, f_cut_lst, f_cut_tup, q_while, q_bm, isTy_str, isTy_lst, isTy_dic, q_part, partK_int, q_noPart, q_cut, q_range2, range2K_int, q_get2, get2K_dic, key_str, key_int, q_dict, q_pairs_nil, pairK_some, q_pairs_cons, q_app, appK_own, q_frz, frzK_own, frzK_val, frzK_no, q_aug, augK_val, f_ix_lst, f_ix_tup, f_ix_scr, f_ix_str, Int.reduceToNat, List.getD_cons_zero, List.getD_cons_succ, q_forN, Int.toNat_natCast, f_in_sign, f_neg_int, f_is_non, f_isNot_non, isNon_non, isNon_tup, isNon_int, isNon_str, isNon_lst, isNon_dic, isNon_bl, isNon_obj, isB_tuple_tup, isB_list_lst, isB_str_tup, isB_str_lst, isB_str_non, isB_tuple_non, tbl_read, hm.1], hm.2, ?_⟩
    unfold dueQ
    cases q : stQ (T.drop i) with
    | none => exact s_same_none (k + 5)
    | some st =>
      obtain ⟨inn, rfl, hin, _⟩ := stQ_some q
      show Ψ (k + 6) ._law_same [dueD i (34 :: (inn ++ [34])) (mT 94 psQ (34 :: (inn ++ [34])).tail.dropLast), dueD i (34 :: (inn ++ [34])) (mT 94 psQ (34 :: (inn ++ [34])).tail.dropLast)] = _
      rw [inner_of]
      exact same_of k i _ _ (mT_ok cdQ (fun c hc => hT.2 c (List.mem_of_mem_drop (hin c hc).2)) psQ_s)
theorem law_holds (k : Nat) (ns : List Int) : runF N_law (b_law (Ψ (k + 6))) [.scr ns] = pure (.bl true) := by
  have r5 : rangeL 0 5 = [.int 0, .int 1, .int 2, .int 3, .int 4] := by rfl
  have he : env0 N_law [.scr ns] = [.val (.scr ns), .no, .no, .no, .no, .no, .no, .no, .no, .no, .no, .no, .no, .no] := rfl
  have n3 : [119, 111, 114, 100] = w_word := rfl
  have n4 : [110, 117, 109, 98, 101, 114] = w_number := rfl
  have n5 : [113, 117, 111, 116, 101, 100] = w_quoted := rfl
  have n1 : [112, 108, 97, 105, 110] = w_plain := rfl
  have n2 : [108, 105, 110, 101] = w_line := rfl
  have nw : D.lst [.str w_word, .str w_number, .str w_quoted, .str w_plain, .str w_line] = words := rfl
  obtain ⟨a3, a4, a5, a6, a7, a8, a9, a10, a11, a12, a13, h0⟩ := row_word (Ψ := Ψ) k ns .no .no .no .no .no .no .no .no .no .no .no
  obtain ⟨b3, b4, b5, b6, b7, b8, b9, b10, b11, b12, b13, h1⟩ := row_number (Ψ := Ψ) k ns a3 a4 a5 a6 a7 a8 a9 a10 a11 a12 a13
  obtain ⟨c3, c4, c5, c6, c7, c8, c9, c10, c11, c12, c13, h2⟩ := row_quoted (Ψ := Ψ) k ns b3 b4 b5 b6 b7 b8 b9 b10 b11 b12 b13
  obtain ⟨d3, d4, d5, d6, d7, d8, d9, d10, d11, d12, d13, h3⟩ := row_plain (Ψ := Ψ) k ns c3 c4 c5 c6 c7 c8 c9 c10 c11 c12 c13
  obtain ⟨e3, e4, e5, e6, e7, e8, e9, e10, e11, e12, e13, h4⟩ := row_line (Ψ := Ψ) k ns d3 d4 d5 d6 d7 d8 d9 d10 d11 d12 d13
  simp (disch := (first | with_reducible assumption | omega | ((try simp only [q_sl, List.length_append, List.length_map, List.length_cons, List.length_nil, and_true, true_and]); first | omega | decide))) only [bnd_pure, q_runF, fin_nx, fin_rt, q_var0, q_vars, q_C, q_bin, q_chain, chainK_bl, q_tru, truK_bl, truK_int, truK_lst, truK_tup, truK_non, truK_str, q_test, tstK_bl, q_and, q_or, q_not, q_andV, q_orV, q_notV, q_ifE, q_un, q_nil, q_cons, q_tup, q_lst, q_callF, q_call, q_meth, methK_obj, methO_some, q_isB, q_items, itemsK_str, itemsK_lst, itemsK_tup, q_range1, rangeK_int, q_nop, q_seq, seqK_nx, seqK_rt, seqK_bk, seqK_ct, q_if, q_ret, q_retN, q_drop, q_set, q_setOwn, q_for, q_for_nil, forK_nx, forK_ct, forK_bk, forK_rt, gd_true, lf_some, f_add_int, f_add_str, f_add_lst, f_add_tup, f_sub_int, f_mul_r, f_mul_l, f_mod, f_div, f_eq_str, f_eq_int, f_eq_bl, f_ne_str, f_ne_int, f_ne_bl, f_lt, f_le, f_gt, f_ge, f_in_sign, f_notIn_sign, f_is_bl, f_len_str, f_len_lst, f_len_tup, f_len_scr, f_len_dic, f_int_bl, f_int_int, List.length_cons, List.length_nil, List.length_replicate, List.length_set, List.set_cons_zero, List.set_cons_succ, List.getElem?_cons_zero, List.getElem?_cons_succ, Nat.reduceAdd, Nat.reduceLT, Nat.zero_lt_succ, Nat.lt_add_one, if_true, if_false, Bool.not_true, Bool.not_false, Bool.false_eq_true, reduceIte, decide_true, decide_false, reduceCtorEq, List.cons.injEq, Nat.reduceEqDiff, and_true, true_and, and_false, false_and, isB_str_str, isB_str_int, isB_str_bl, isB_int_int, isB_bool_int, isB_bool_bl, isB_int_bl, isB_int_str, isB_bool_str, f_join_nil, f_join_signs, f_all_map, f_any_map, f_lstrip, f_cut_str, f_cut_lst, f_cut_tup, q_while, q_bm, isTy_str, isTy_lst, isTy_dic, q_part, partK_int, q_noPart, q_cut, q_range2, range2K_int, q_get2, get2K_dic, key_str, key_int, q_dict, q_pairs_nil, pairK_some, q_pairs_cons, q_app, appK_own, q_frz, frzK_own, frzK_val, frzK_no, q_aug, augK_val, f_ix_lst, f_ix_tup, f_ix_scr, f_ix_str, Int.reduceToNat, List.getD_cons_zero, List.getD_cons_succ, q_forN, Int.toNat_natCast, f_in_sign, f_neg_int, f_is_non, f_isNot_non, isNon_non, isNon_tup, isNon_int, isNon_str, isNon_lst, isNon_dic, isNon_bl, isNon_obj, isB_tuple_tup, isB_list_lst, isB_str_tup, isB_str_lst, isB_str_non, isB_tuple_non, he, b_law, n1, n2, n3, n4, n5, nw, r5, h0, h1, h2, h3, h4]
theorem law_true (ns : List Int) (h : ns.length ≤ 63) : ∃ s, runF N_law (b_law (Φ 11)) [.scr ns] [] = .ok (.bl true) s :=
  ⟨[], by rw [law_holds (Ψ := Φ) 5 ns]; rfl⟩
end K02.Ma
end
section
set_option Elab.async false
set_option linter.all false
set_option maxRecDepth 100000
set_option maxHeartbeats 0
/-! K02: the head: what the top leaves, read off one run of it. Printed by gen.py. -/
namespace K02
open PySem PySem.Spec PyProof.Rows L2 DL
def fa : List He.Fa := [.glo "BadWay",
  .glo "Line",
  .glo "Number",
  .glo "Plain",
  .glo "Quoted",
  .glo "Word",
  .glo "_law_bent",
  .glo "_law_cell_at",
  .glo "_law_coded",
  .glo "_law_due",
  .glo "_law_ends",
  .glo "_law_meant",
  .glo "_law_mixed",
  .glo "_law_number_by",
  .glo "_law_same",
  .glo "_law_signs",
  .glo "_law_stretch",
  .glo "_law_text_by",
  .glo "_law_value_by",
  .glo "_law_whole",
  .glo "_law_word_by",
  .glo "is_number",
  .glo "is_text",
  .glo "is_whole",
  .glo "law",
  .glo "unmarked",
  .glo "way_of",
  .glo "without",
  .free "all",
  .free "bool",
  .free "int",
  .free "isinstance",
  .free "len",
  .free "min",
  .free "range",
  .free "str",
  .free "tuple",
  .str "FIGURES" (tS c_FIGURES),
  .str "GREAT" (tS c_GREAT),
  .str "LETTERS" (tS c_LETTERS),
  .int "MOST_LETTERS" 40,
  .int "MOST_SIGNS" 400,
  .str "PLAIN_ENDS" (tS c_PLAIN_ENDS),
  .str "SIGNS" (tS c_SIGNS),
  .cls "Word",
  .cls "Number",
  .cls "Quoted",
  .cls "Plain",
  .cls "Line",
  .exc "BadWay"]
def fns : List He.DefD := [dd .is_text, dd .without, dd .is_whole, dd .is_number, dd .unmarked, dd .way_of, dd ._law_cell_at, dd ._law_signs, dd ._law_mixed, dd ._law_whole, dd ._law_text_by, dd ._law_word_by, dd ._law_number_by, dd ._law_value_by, dd ._law_coded, dd ._law_ends, dd ._law_stretch, dd ._law_meant, dd ._law_due, dd ._law_same, dd ._law_bent, dd .law, dd .Way_fits, dd .Way_marked, dd .Way_behind, dd .Way_meant, dd .Way_read, dd .Way_ends, dd .Word_fits, dd .Word_ends, dd .Number_fits, dd .Number_marked, dd .Number_behind, dd .Number_meant, dd .Number_ends, dd .Quoted_marked, dd .Quoted_behind, dd .Quoted_meant, dd .Quoted_ends, dd .Plain_marked, dd .Plain_meant, dd .Plain_ends, dd .Line_marked, dd .Line_meant, dd .Line_ends]
def exs (K : PySem.W.Frag) : List Bool := [PySem.W.makesIn K (He.ga K "Word"),
  He.eqO (PySem.W.findIn K (.ref (He.ga K "Word")) "__init__") (some (some (.builtin "object.__init__"))),
  decide (PySem.W.mroIn K (He.ga K "Word") (.type "object") = some true),
  PySem.W.keepIn K (.ref (He.ga K "Word")),
  He.eqO (PySem.W.findIn K (.ref (He.ga K "Word")) "behind") (some (some (.ref (He.fAd K (inf .Way_behind).at_)))),
  PySem.W.isFn K (.ref (He.fAd K (inf .Way_behind).at_)),
  PySem.W.keepIn K (.ref (He.fAd K (inf .Way_behind).at_)),
  He.eqO (PySem.W.findIn K (.ref (He.ga K "Word")) "ends") (some (some (.ref (He.fAd K (inf .Word_ends).at_)))),
  PySem.W.isFn K (.ref (He.fAd K (inf .Word_ends).at_)),
  PySem.W.keepIn K (.ref (He.fAd K (inf .Word_ends).at_)),
  He.eqO (PySem.W.findIn K (.ref (He.ga K "Word")) "fits") (some (some (.ref (He.fAd K (inf .Word_fits).at_)))),
  PySem.W.isFn K (.ref (He.fAd K (inf .Word_fits).at_)),
  PySem.W.keepIn K (.ref (He.fAd K (inf .Word_fits).at_)),
  He.eqO (PySem.W.findIn K (.ref (He.ga K "Word")) "marked") (some (some (.ref (He.fAd K (inf .Way_marked).at_)))),
  PySem.W.isFn K (.ref (He.fAd K (inf .Way_marked).at_)),
  PySem.W.keepIn K (.ref (He.fAd K (inf .Way_marked).at_)),
  He.eqO (PySem.W.findIn K (.ref (He.ga K "Word")) "meant") (some (some (.ref (He.fAd K (inf .Way_meant).at_)))),
  PySem.W.isFn K (.ref (He.fAd K (inf .Way_meant).at_)),
  PySem.W.keepIn K (.ref (He.fAd K (inf .Way_meant).at_)),
  He.eqO (PySem.W.findIn K (.ref (He.ga K "Word")) "read") (some (some (.ref (He.fAd K (inf .Way_read).at_)))),
  PySem.W.isFn K (.ref (He.fAd K (inf .Way_read).at_)),
  PySem.W.keepIn K (.ref (He.fAd K (inf .Way_read).at_)),
  PySem.W.makesIn K (He.ga K "Number"),
  He.eqO (PySem.W.findIn K (.ref (He.ga K "Number")) "__init__") (some (some (.builtin "object.__init__"))),
  decide (PySem.W.mroIn K (He.ga K "Number") (.type "object") = some true),
  PySem.W.keepIn K (.ref (He.ga K "Number")),
  He.eqO (PySem.W.findIn K (.ref (He.ga K "Number")) "behind") (some (some (.ref (He.fAd K (inf .Number_behind).at_)))),
  PySem.W.isFn K (.ref (He.fAd K (inf .Number_behind).at_)),
  PySem.W.keepIn K (.ref (He.fAd K (inf .Number_behind).at_)),
  He.eqO (PySem.W.findIn K (.ref (He.ga K "Number")) "ends") (some (some (.ref (He.fAd K (inf .Number_ends).at_)))),
  PySem.W.isFn K (.ref (He.fAd K (inf .Number_ends).at_)),
  PySem.W.keepIn K (.ref (He.fAd K (inf .Number_ends).at_)),
  He.eqO (PySem.W.findIn K (.ref (He.ga K "Number")) "fits") (some (some (.ref (He.fAd K (inf .Number_fits).at_)))),
  PySem.W.isFn K (.ref (He.fAd K (inf .Number_fits).at_)),
  PySem.W.keepIn K (.ref (He.fAd K (inf .Number_fits).at_)),
  He.eqO (PySem.W.findIn K (.ref (He.ga K "Number")) "marked") (some (some (.ref (He.fAd K (inf .Number_marked).at_)))),
  PySem.W.isFn K (.ref (He.fAd K (inf .Number_marked).at_)),
  PySem.W.keepIn K (.ref (He.fAd K (inf .Number_marked).at_)),
  He.eqO (PySem.W.findIn K (.ref (He.ga K "Number")) "meant") (some (some (.ref (He.fAd K (inf .Number_meant).at_)))),
  PySem.W.isFn K (.ref (He.fAd K (inf .Number_meant).at_)),
  PySem.W.keepIn K (.ref (He.fAd K (inf .Number_meant).at_)),
  He.eqO (PySem.W.findIn K (.ref (He.ga K "Number")) "read") (some (some (.ref (He.fAd K (inf .Way_read).at_)))),
  PySem.W.isFn K (.ref (He.fAd K (inf .Way_read).at_)),
  PySem.W.keepIn K (.ref (He.fAd K (inf .Way_read).at_)),
  PySem.W.makesIn K (He.ga K "Quoted"),
  He.eqO (PySem.W.findIn K (.ref (He.ga K "Quoted")) "__init__") (some (some (.builtin "object.__init__"))),
  decide (PySem.W.mroIn K (He.ga K "Quoted") (.type "object") = some true),
  PySem.W.keepIn K (.ref (He.ga K "Quoted")),
  He.eqO (PySem.W.findIn K (.ref (He.ga K "Quoted")) "behind") (some (some (.ref (He.fAd K (inf .Quoted_behind).at_)))),
  PySem.W.isFn K (.ref (He.fAd K (inf .Quoted_behind).at_)),
  PySem.W.keepIn K (.ref (He.fAd K (inf .Quoted_behind).at_)),
  He.eqO (PySem.W.findIn K (.ref (He.ga K "Quoted")) "ends") (some (some (.ref (He.fAd K (inf .Quoted_ends).at_)))),
  PySem.W.isFn K (.ref (He.fAd K (inf .Quoted_ends).at_)),
  PySem.W.keepIn K (.ref (He.fAd K (inf .Quoted_ends).at_)),
  He.eqO (PySem.W.findIn K (.ref (He.ga K "Quoted")) "fits") (some (some (.ref (He.fAd K (inf .Way_fits).at_)))),
  PySem.W.isFn K (.ref (He.fAd K (inf .Way_fits).at_)),
  PySem.W.keepIn K (.ref (He.fAd K (inf .Way_fits).at_)),
  He.eqO (PySem.W.findIn K (.ref (He.ga K "Quoted")) "marked") (some (some (.ref (He.fAd K (inf .Quoted_marked).at_)))),
  PySem.W.isFn K (.ref (He.fAd K (inf .Quoted_marked).at_)),
  PySem.W.keepIn K (.ref (He.fAd K (inf .Quoted_marked).at_)),
  He.eqO (PySem.W.findIn K (.ref (He.ga K "Quoted")) "meant") (some (some (.ref (He.fAd K (inf .Quoted_meant).at_)))),
  PySem.W.isFn K (.ref (He.fAd K (inf .Quoted_meant).at_)),
  PySem.W.keepIn K (.ref (He.fAd K (inf .Quoted_meant).at_)),
  He.eqO (PySem.W.findIn K (.ref (He.ga K "Quoted")) "read") (some (some (.ref (He.fAd K (inf .Way_read).at_)))),
  PySem.W.isFn K (.ref (He.fAd K (inf .Way_read).at_)),
  PySem.W.keepIn K (.ref (He.fAd K (inf .Way_read).at_)),
  PySem.W.makesIn K (He.ga K "Plain"),
  He.eqO (PySem.W.findIn K (.ref (He.ga K "Plain")) "__init__") (some (some (.builtin "object.__init__"))),
  decide (PySem.W.mroIn K (He.ga K "Plain") (.type "object") = some true),
  PySem.W.keepIn K (.ref (He.ga K "Plain")),
  He.eqO (PySem.W.findIn K (.ref (He.ga K "Plain")) "behind") (some (some (.ref (He.fAd K (inf .Way_behind).at_)))),
  PySem.W.isFn K (.ref (He.fAd K (inf .Way_behind).at_)),
  PySem.W.keepIn K (.ref (He.fAd K (inf .Way_behind).at_)),
  He.eqO (PySem.W.findIn K (.ref (He.ga K "Plain")) "ends") (some (some (.ref (He.fAd K (inf .Plain_ends).at_)))),
  PySem.W.isFn K (.ref (He.fAd K (inf .Plain_ends).at_)),
  PySem.W.keepIn K (.ref (He.fAd K (inf .Plain_ends).at_)),
  He.eqO (PySem.W.findIn K (.ref (He.ga K "Plain")) "fits") (some (some (.ref (He.fAd K (inf .Way_fits).at_)))),
  PySem.W.isFn K (.ref (He.fAd K (inf .Way_fits).at_)),
  PySem.W.keepIn K (.ref (He.fAd K (inf .Way_fits).at_)),
  He.eqO (PySem.W.findIn K (.ref (He.ga K "Plain")) "marked") (some (some (.ref (He.fAd K (inf .Plain_marked).at_)))),
  PySem.W.isFn K (.ref (He.fAd K (inf .Plain_marked).at_)),
  PySem.W.keepIn K (.ref (He.fAd K (inf .Plain_marked).at_)),
  He.eqO (PySem.W.findIn K (.ref (He.ga K "Plain")) "meant") (some (some (.ref (He.fAd K (inf .Plain_meant).at_)))),
  PySem.W.isFn K (.ref (He.fAd K (inf .Plain_meant).at_)),
  PySem.W.keepIn K (.ref (He.fAd K (inf .Plain_meant).at_)),
  He.eqO (PySem.W.findIn K (.ref (He.ga K "Plain")) "read") (some (some (.ref (He.fAd K (inf .Way_read).at_)))),
  PySem.W.isFn K (.ref (He.fAd K (inf .Way_read).at_)),
  PySem.W.keepIn K (.ref (He.fAd K (inf .Way_read).at_)),
  PySem.W.makesIn K (He.ga K "Line"),
  He.eqO (PySem.W.findIn K (.ref (He.ga K "Line")) "__init__") (some (some (.builtin "object.__init__"))),
  decide (PySem.W.mroIn K (He.ga K "Line") (.type "object") = some true),
  PySem.W.keepIn K (.ref (He.ga K "Line")),
  He.eqO (PySem.W.findIn K (.ref (He.ga K "Line")) "behind") (some (some (.ref (He.fAd K (inf .Way_behind).at_)))),
  PySem.W.isFn K (.ref (He.fAd K (inf .Way_behind).at_)),
  PySem.W.keepIn K (.ref (He.fAd K (inf .Way_behind).at_)),
  He.eqO (PySem.W.findIn K (.ref (He.ga K "Line")) "ends") (some (some (.ref (He.fAd K (inf .Line_ends).at_)))),
  PySem.W.isFn K (.ref (He.fAd K (inf .Line_ends).at_)),
  PySem.W.keepIn K (.ref (He.fAd K (inf .Line_ends).at_)),
  He.eqO (PySem.W.findIn K (.ref (He.ga K "Line")) "fits") (some (some (.ref (He.fAd K (inf .Way_fits).at_)))),
  PySem.W.isFn K (.ref (He.fAd K (inf .Way_fits).at_)),
  PySem.W.keepIn K (.ref (He.fAd K (inf .Way_fits).at_)),
  He.eqO (PySem.W.findIn K (.ref (He.ga K "Line")) "marked") (some (some (.ref (He.fAd K (inf .Line_marked).at_)))),
  PySem.W.isFn K (.ref (He.fAd K (inf .Line_marked).at_)),
  PySem.W.keepIn K (.ref (He.fAd K (inf .Line_marked).at_)),
  He.eqO (PySem.W.findIn K (.ref (He.ga K "Line")) "meant") (some (some (.ref (He.fAd K (inf .Line_meant).at_)))),
  PySem.W.isFn K (.ref (He.fAd K (inf .Line_meant).at_)),
  PySem.W.keepIn K (.ref (He.fAd K (inf .Line_meant).at_)),
  He.eqO (PySem.W.findIn K (.ref (He.ga K "Line")) "read") (some (some (.ref (He.fAd K (inf .Way_read).at_)))),
  PySem.W.isFn K (.ref (He.fAd K (inf .Way_read).at_)),
  PySem.W.keepIn K (.ref (He.fAd K (inf .Way_read).at_))]
def ex (K : PySem.W.Frag) : Bool := (exs K).all id
abbrev R : PySem.W.OpenRow := PySem.W.OpenLaw.row PySem.Challenge.rw_formsmith_k02_read_as_it_was_coded
abbrev hk : PySem.W.Hook := He.hookX 5 fa fns [] [] ex
def ob (s : PySem.W.SharedT) : He.AlX := He.obsX 5 fa fns [] [] ex (HandSHeadRun.getT s)
theorem ob_eq (s : PySem.W.SharedT) : ob s = hk.obs s.abs := He.obsX_eq (HandSHeadRun.getT_eq s)
def loose0 : List Str := ["_wall", "FormError", "BadWay", "BadValue", "LETTERS", "GREAT", "FIGURES", "SIGNS", "is_text", "without", "is_whole", "MOST_SIGNS", "is_number", "MOST_LETTERS", "PLAIN_ENDS", "Way", "Word", "Number", "Quoted", "Plain", "Line", "unmarked", "way_of", "_law_cell_at", "_law_signs", "_law_mixed", "_law_whole", "_law_text_by", "_law_word_by", "_law_number_by"]
def loose1 : List Str := ["_law_value_by", "_law_coded", "_law_ends", "_law_stretch", "_law_meant", "_law_due", "_law_same", "_law_bent"]
def loose : List Str := loose0 ++ loose1
theorem run (w : World) : HandSHeadRun.RunEq R (PySem.W.view R.prog [43]) hk ob 4500 loose w := by
  intro os
  kernel_rfl
theorem exb_of {K : PySem.W.Frag} (h : ex K = true) (i : Nat) {b : Bool} (e : (exs K)[i]? = some b := by rfl) : b = true := by
  have := List.all_eq_true.mp h b (List.mem_of_getElem? e)
  exact this
theorem fx_of {w : World} {K : PySem.W.Frag} {h : Heap} {mg : Str → Option Value} (X : K.In h) (G : h.Ns mainGlobals mg) (c : He.SaysX fa fns [] [] ex w h K) : Fx K mg := by
  have cd : He.SaysD fa fns K := congrArg Prod.fst c.t
  have exb := fun (i : Nat) {b : Bool} (e : (exs K)[i]? = some b) => exb_of c.more i e
  refine { d := ?_, g_BadWay := ?_, g_Line := ?_, g_Number := ?_, g_Plain := ?_, g_Quoted := ?_, g_Word := ?_, g__law_bent := ?_, g__law_cell_at := ?_, g__law_coded := ?_, g__law_due := ?_, g__law_ends := ?_, g__law_meant := ?_, g__law_mixed := ?_, g__law_number_by := ?_, g__law_same := ?_, g__law_signs := ?_, g__law_stretch := ?_, g__law_text_by := ?_, g__law_value_by := ?_, g__law_whole := ?_, g__law_word_by := ?_, g_is_number := ?_, g_is_text := ?_, g_is_whole := ?_, g_law := ?_, g_unmarked := ?_, g_way_of := ?_, g_without := ?_, n_all := ?_, n_bool := ?_, n_int := ?_, n_isinstance := ?_, n_len := ?_, n_min := ?_, n_range := ?_, n_str := ?_, n_tuple := ?_, ks_FIGURES := ?_, ks_GREAT := ?_, ks_LETTERS := ?_, ki_MOST_LETTERS := ?_, ki_MOST_SIGNS := ?_, ks_PLAIN_ENDS := ?_, ks_SIGNS := ?_, k_Word := ?_, cl_Word := ?_, m_Word_behind := ?_, m_Word_ends := ?_, m_Word_fits := ?_, m_Word_marked := ?_, m_Word_meant := ?_, m_Word_read := ?_, k_Number := ?_, cl_Number := ?_, m_Number_behind := ?_, m_Number_ends := ?_, m_Number_fits := ?_, m_Number_marked := ?_, m_Number_meant := ?_, m_Number_read := ?_, k_Quoted := ?_, cl_Quoted := ?_, m_Quoted_behind := ?_, m_Quoted_ends := ?_, m_Quoted_fits := ?_, m_Quoted_marked := ?_, m_Quoted_meant := ?_, m_Quoted_read := ?_, k_Plain := ?_, cl_Plain := ?_, m_Plain_behind := ?_, m_Plain_ends := ?_, m_Plain_fits := ?_, m_Plain_marked := ?_, m_Plain_meant := ?_, m_Plain_read := ?_, k_Line := ?_, cl_Line := ?_, m_Line_behind := ?_, m_Line_ends := ?_, m_Line_fits := ?_, m_Line_marked := ?_, m_Line_meant := ?_, m_Line_read := ?_, e_BadWay := ?_ }
  · intro f
    cases f
    · exact cd.defs (d := dd .is_text) (by simp [fns])
    · exact cd.defs (d := dd .without) (by simp [fns])
    · exact cd.defs (d := dd .is_whole) (by simp [fns])
    · exact cd.defs (d := dd .is_number) (by simp [fns])
    · exact cd.defs (d := dd .unmarked) (by simp [fns])
    · exact cd.defs (d := dd .way_of) (by simp [fns])
    · exact cd.defs (d := dd ._law_cell_at) (by simp [fns])
    · exact cd.defs (d := dd ._law_signs) (by simp [fns])
    · exact cd.defs (d := dd ._law_mixed) (by simp [fns])
    · exact cd.defs (d := dd ._law_whole) (by simp [fns])
    · exact cd.defs (d := dd ._law_text_by) (by simp [fns])
    · exact cd.defs (d := dd ._law_word_by) (by simp [fns])
    · exact cd.defs (d := dd ._law_number_by) (by simp [fns])
    · exact cd.defs (d := dd ._law_value_by) (by simp [fns])
    · exact cd.defs (d := dd ._law_coded) (by simp [fns])
    · exact cd.defs (d := dd ._law_ends) (by simp [fns])
    · exact cd.defs (d := dd ._law_stretch) (by simp [fns])
    · exact cd.defs (d := dd ._law_meant) (by simp [fns])
    · exact cd.defs (d := dd ._law_due) (by simp [fns])
    · exact cd.defs (d := dd ._law_same) (by simp [fns])
    · exact cd.defs (d := dd ._law_bent) (by simp [fns])
    · exact cd.defs (d := dd .law) (by simp [fns])
    · exact cd.defs (d := dd .Way_fits) (by simp [fns])
    · exact cd.defs (d := dd .Way_marked) (by simp [fns])
    · exact cd.defs (d := dd .Way_behind) (by simp [fns])
    · exact cd.defs (d := dd .Way_meant) (by simp [fns])
    · exact cd.defs (d := dd .Way_read) (by simp [fns])
    · exact cd.defs (d := dd .Way_ends) (by simp [fns])
    · exact cd.defs (d := dd .Word_fits) (by simp [fns])
    · exact cd.defs (d := dd .Word_ends) (by simp [fns])
    · exact cd.defs (d := dd .Number_fits) (by simp [fns])
    · exact cd.defs (d := dd .Number_marked) (by simp [fns])
    · exact cd.defs (d := dd .Number_behind) (by simp [fns])
    · exact cd.defs (d := dd .Number_meant) (by simp [fns])
    · exact cd.defs (d := dd .Number_ends) (by simp [fns])
    · exact cd.defs (d := dd .Quoted_marked) (by simp [fns])
    · exact cd.defs (d := dd .Quoted_behind) (by simp [fns])
    · exact cd.defs (d := dd .Quoted_meant) (by simp [fns])
    · exact cd.defs (d := dd .Quoted_ends) (by simp [fns])
    · exact cd.defs (d := dd .Plain_marked) (by simp [fns])
    · exact cd.defs (d := dd .Plain_meant) (by simp [fns])
    · exact cd.defs (d := dd .Plain_ends) (by simp [fns])
    · exact cd.defs (d := dd .Line_marked) (by simp [fns])
    · exact cd.defs (d := dd .Line_meant) (by simp [fns])
    · exact cd.defs (d := dd .Line_ends) (by simp [fns])
  · exact He.glo_ok X G (cd.fact 0 rfl)
  · exact He.glo_ok X G (cd.fact 1 rfl)
  · exact He.glo_ok X G (cd.fact 2 rfl)
  · exact He.glo_ok X G (cd.fact 3 rfl)
  · exact He.glo_ok X G (cd.fact 4 rfl)
  · exact He.glo_ok X G (cd.fact 5 rfl)
  · exact He.glo_ok X G (cd.fact 6 rfl)
  · exact He.glo_ok X G (cd.fact 7 rfl)
  · exact He.glo_ok X G (cd.fact 8 rfl)
  · exact He.glo_ok X G (cd.fact 9 rfl)
  · exact He.glo_ok X G (cd.fact 10 rfl)
  · exact He.glo_ok X G (cd.fact 11 rfl)
  · exact He.glo_ok X G (cd.fact 12 rfl)
  · exact He.glo_ok X G (cd.fact 13 rfl)
  · exact He.glo_ok X G (cd.fact 14 rfl)
  · exact He.glo_ok X G (cd.fact 15 rfl)
  · exact He.glo_ok X G (cd.fact 16 rfl)
  · exact He.glo_ok X G (cd.fact 17 rfl)
  · exact He.glo_ok X G (cd.fact 18 rfl)
  · exact He.glo_ok X G (cd.fact 19 rfl)
  · exact He.glo_ok X G (cd.fact 20 rfl)
  · exact He.glo_ok X G (cd.fact 21 rfl)
  · exact He.glo_ok X G (cd.fact 22 rfl)
  · exact He.glo_ok X G (cd.fact 23 rfl)
  · exact He.glo_ok X G (cd.fact 24 rfl)
  · exact He.glo_ok X G (cd.fact 25 rfl)
  · exact He.glo_ok X G (cd.fact 26 rfl)
  · exact He.glo_ok X G (cd.fact 27 rfl)
  · exact He.free_ok X G (cd.fact 28 rfl)
  · exact He.free_ok X G (cd.fact 29 rfl)
  · exact He.free_ok X G (cd.fact 30 rfl)
  · exact He.free_ok X G (cd.fact 31 rfl)
  · exact He.free_ok X G (cd.fact 32 rfl)
  · exact He.free_ok X G (cd.fact 33 rfl)
  · exact He.free_ok X G (cd.fact 34 rfl)
  · exact He.free_ok X G (cd.fact 35 rfl)
  · exact He.free_ok X G (cd.fact 36 rfl)
  · exact by
      obtain ⟨t, e⟩ := He.str_ok X G (cd.fact 37 rfl)
      exact ⟨t, e⟩
  · exact by
      obtain ⟨t, e⟩ := He.str_ok X G (cd.fact 38 rfl)
      exact ⟨t, e⟩
  · exact by
      obtain ⟨t, e⟩ := He.str_ok X G (cd.fact 39 rfl)
      exact ⟨t, e⟩
  · exact He.int_ok X G (cd.fact 40 rfl)
  · exact He.int_ok X G (cd.fact 41 rfl)
  · exact by
      obtain ⟨t, e⟩ := He.str_ok X G (cd.fact 42 rfl)
      exact ⟨t, e⟩
  · exact by
      obtain ⟨t, e⟩ := He.str_ok X G (cd.fact 43 rfl)
      exact ⟨t, e⟩
  · exact ⟨(exb 0 rfl), He.eqO_ok ((exb 1 rfl)), of_decide_eq_true ((exb 2 rfl)), (exb 3 rfl)⟩
  · exact He.cls_ok (cd.fact 44 rfl)
  · exact ⟨He.eqO_ok ((exb 4 rfl)), (exb 5 rfl), (exb 6 rfl)⟩
  · exact ⟨He.eqO_ok ((exb 7 rfl)), (exb 8 rfl), (exb 9 rfl)⟩
  · exact ⟨He.eqO_ok ((exb 10 rfl)), (exb 11 rfl), (exb 12 rfl)⟩
  · exact ⟨He.eqO_ok ((exb 13 rfl)), (exb 14 rfl), (exb 15 rfl)⟩
  · exact ⟨He.eqO_ok ((exb 16 rfl)), (exb 17 rfl), (exb 18 rfl)⟩
  · exact ⟨He.eqO_ok ((exb 19 rfl)), (exb 20 rfl), (exb 21 rfl)⟩
  · exact ⟨(exb 22 rfl), He.eqO_ok ((exb 23 rfl)), of_decide_eq_true ((exb 24 rfl)), (exb 25 rfl)⟩
  · exact He.cls_ok (cd.fact 45 rfl)
  · exact ⟨He.eqO_ok ((exb 26 rfl)), (exb 27 rfl), (exb 28 rfl)⟩
  · exact ⟨He.eqO_ok ((exb 29 rfl)), (exb 30 rfl), (exb 31 rfl)⟩
  · exact ⟨He.eqO_ok ((exb 32 rfl)), (exb 33 rfl), (exb 34 rfl)⟩
  · exact ⟨He.eqO_ok ((exb 35 rfl)), (exb 36 rfl), (exb 37 rfl)⟩
  · exact ⟨He.eqO_ok ((exb 38 rfl)), (exb 39 rfl), (exb 40 rfl)⟩
  · exact ⟨He.eqO_ok ((exb 41 rfl)), (exb 42 rfl), (exb 43 rfl)⟩
  · exact ⟨(exb 44 rfl), He.eqO_ok ((exb 45 rfl)), of_decide_eq_true ((exb 46 rfl)), (exb 47 rfl)⟩
  · exact He.cls_ok (cd.fact 46 rfl)
  · exact ⟨He.eqO_ok ((exb 48 rfl)), (exb 49 rfl), (exb 50 rfl)⟩
  · exact ⟨He.eqO_ok ((exb 51 rfl)), (exb 52 rfl), (exb 53 rfl)⟩
  · exact ⟨He.eqO_ok ((exb 54 rfl)), (exb 55 rfl), (exb 56 rfl)⟩
  · exact ⟨He.eqO_ok ((exb 57 rfl)), (exb 58 rfl), (exb 59 rfl)⟩
  · exact ⟨He.eqO_ok ((exb 60 rfl)), (exb 61 rfl), (exb 62 rfl)⟩
  · exact ⟨He.eqO_ok ((exb 63 rfl)), (exb 64 rfl), (exb 65 rfl)⟩
  · exact ⟨(exb 66 rfl), He.eqO_ok ((exb 67 rfl)), of_decide_eq_true ((exb 68 rfl)), (exb 69 rfl)⟩
  · exact He.cls_ok (cd.fact 47 rfl)
  · exact ⟨He.eqO_ok ((exb 70 rfl)), (exb 71 rfl), (exb 72 rfl)⟩
  · exact ⟨He.eqO_ok ((exb 73 rfl)), (exb 74 rfl), (exb 75 rfl)⟩
  · exact ⟨He.eqO_ok ((exb 76 rfl)), (exb 77 rfl), (exb 78 rfl)⟩
  · exact ⟨He.eqO_ok ((exb 79 rfl)), (exb 80 rfl), (exb 81 rfl)⟩
  · exact ⟨He.eqO_ok ((exb 82 rfl)), (exb 83 rfl), (exb 84 rfl)⟩
  · exact ⟨He.eqO_ok ((exb 85 rfl)), (exb 86 rfl), (exb 87 rfl)⟩
  · exact ⟨(exb 88 rfl), He.eqO_ok ((exb 89 rfl)), of_decide_eq_true ((exb 90 rfl)), (exb 91 rfl)⟩
  · exact He.cls_ok (cd.fact 48 rfl)
  · exact ⟨He.eqO_ok ((exb 92 rfl)), (exb 93 rfl), (exb 94 rfl)⟩
  · exact ⟨He.eqO_ok ((exb 95 rfl)), (exb 96 rfl), (exb 97 rfl)⟩
  · exact ⟨He.eqO_ok ((exb 98 rfl)), (exb 99 rfl), (exb 100 rfl)⟩
  · exact ⟨He.eqO_ok ((exb 101 rfl)), (exb 102 rfl), (exb 103 rfl)⟩
  · exact ⟨He.eqO_ok ((exb 104 rfl)), (exb 105 rfl), (exb 106 rfl)⟩
  · exact ⟨He.eqO_ok ((exb 107 rfl)), (exb 108 rfl), (exb 109 rfl)⟩
  · exact He.exc_ok (cd.fact 49 rfl)
end K02
end
set_option Elab.async false
set_option linter.all false
set_option maxRecDepth 100000
set_option maxHeartbeats 0
open PySem PySem.W PySem.Calls PyProof.Rows L2 DL
theorem PySem.Challenge.cw_formsmith_k02_read_as_it_was_coded_holds : PySem.Challenge.rw_formsmith_k02_read_as_it_was_coded.Holds := by
  w_on; o_law
  refine HandSHeadRun.head_any (r := OpenLaw.row PySem.Challenge.rw_formsmith_k02_read_as_it_was_coded) (q := view (OpenLaw.row PySem.Challenge.rw_formsmith_k02_read_as_it_was_coded).prog [43]) (H := K02.hk) (ob := K02.ob) (M := 4500) (loose := K02.loose) (d := HandSHeadRun.topDef (OpenLaw.row PySem.Challenge.rw_formsmith_k02_read_as_it_was_coded).prog 43) (kwd := []) K02.ob_eq
    (by kernel_rfl) (fun s => by kernel_rfl) K02.run (by kernel_rfl) (by kernel_rfl) (by kernel_rfl) (by rfl) (by first | assumption | decide +kernel) (by decide +kernel) ⟨rfl, rfl, rfl, rfl, rfl, by decide +kernel⟩ ?hw ?hc
  case hw => w_witness2
  case hc =>
    refine LamX.walk_ofTsE (l := PySem.Challenge.rw_formsmith_k02_read_as_it_was_coded) (n := 63) (k := 12) (x := "_law_script") (CX := fun w => L2.CX (PySem.Challenge.rw_formsmith_k02_read_as_it_was_coded).prog w) rfl (by decide) (by kernel_rfl) ⟨rfl, by decide, by decide⟩ ?F (fun _ _ _ _ _ z => by
      obtain ⟨_, _, _, _, _, _, _, _, _, _, _, _, z⟩ := z
      exact z)
    intro w mg fa h Y G hmg0
    obtain ⟨K, KX, c⟩ := Y
    have hmg : mg ("law" : PySem.Str) = some (.ref fa) := by
      have e : (HandSHeadRun.topDef (OpenLaw.row PySem.Challenge.rw_formsmith_k02_read_as_it_was_coded).prog 43).name = ("law" : PySem.Str) := by kernel_rfl
      rw [← e]
      exact hmg0
    have C := K02.fx_of KX G c
    have ea : fa = He.ga K "law" := by
      have := hmg.symm.trans C.g_law
      cases this
      rfl
    subst ea
    refine ⟨K, KX, ?_⟩
    obtain ⟨fd, F⟩ := C.d .law
    have b1 := FunD.bindsA (ps := ["_law_script"]) F fun _ _ _ _ _ _ us hl => match us, hl with | [_], _ => rfl
    refine ⟨fd, [], spD (K02.LK K) 1 (runF K02.N_law (K02.b_law (K02.Φ 11))), (fun _ z => nomatch z), (fun _ z => nomatch z), (fun _ z => nomatch z), (fun s v => b1 s [v] rfl), ?_, fun base hB hG _ => ?_⟩
    · intro H a ns hl _ _ hS
      obtain ⟨s, e⟩ := K02.Ma.law_true ns hl
      exact law_sp rfl hS e
    · exact K02.ok_law C (K02.env_ok (P := (PySem.Challenge.rw_formsmith_k02_read_as_it_was_coded).prog) (w := w) (base := base) C 11) F
