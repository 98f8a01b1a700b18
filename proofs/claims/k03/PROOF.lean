import PyProof.Rows.All
import Wide.All
import OpenK.AllK
import Wide.FinOn
import KE.KStateDown
import Lean
import HandS.Base
import HandS.Call
import HandS.Ends
import HandS.Words
import HandS.ForMost
import HandS.Walk
import HandS.IsInst
import HandS.Replace
import HandS.ReplaceList
import HandS.TupAny
import HandS.ReplaceLit
import HandS.NoneIn
import HandS.Defaults
import HandS.Head0
import HandS.Head1
import HandS.Head2
import HandS.HeadEnd
import HandS.HeadHook1
import HandS.HeadHook2
import HandS.More
import HandS.WordsExc
import HandS.Set
import HandS.SetFor
import HandS.SortInts
import PySem.Challenge.RW_rowshell_k03_patterns_within
set_option Elab.async false
set_option linter.all false
set_option maxRecDepth 100000
set_option maxHeartbeats 0
/-! L3a: data trees over the hand layer's heap: what stands for what, and what an expression, a statement, a def is worth as a function of data. -/
namespace L3
open PySem PySem.Spec PyProof.Rows L2

abbrev DKey := Sum Int (List Nat)
def S (s : List Nat) : Str := ⟨s.toArray⟩
def dkey : DKey → Key
  | .inl i => .inl i
  | .inr s => .inr (S s)

inductive D where
  | non | bl (b : Bool) | int (i : Int) | str (s : List Nat)
  | lst (xs : List D) | tup (xs : List D) | dic (kvs : List (DKey × D))
  | obj (n : Nat) | sta (a : Addr)

inductive SV where
  | d (x : D) | own (xs : List D) | ownd (kvs : List (DKey × D))

def SV.isOwn : SV → Bool
  | .d _ => false
  | _ => true

inductive SO where
  | lst (xs : List D)

abbrev Env3 := List (Option SV)
abbrev Store := List SO

/-! ### what stands for what -/
def staT (K : PySem.W.Frag) (a : Addr) (xs : List V) : Prop :=
  ∃ (o : Obj) (its : Array Value) (n : Nat), K.lookup a = some o ∧ o.cls = .type "tuple" ∧ o.data = .seq its n ∧ its.size ≤ sizeLine ∧ Vals xs its.toList
def ST (A : Addr → Prop) (K : PySem.W.Frag) (H : Hp) (a : Addr) (xs : List V) : Prop := (A a ∧ Rd H a (.tup xs)) ∨ staT K a xs
theorem ST.sq {A : Addr → Prop} {K : PySem.W.Frag} {H : Hp} {a : Addr} {xs : List V} (h : ST A K H a xs) : SqT K H a xs := by
  rcases h with h | h
  · exact .inl h.2
  · exact .inr h

inductive Rep (A : Addr → Prop) (α : List Addr) (K : PySem.W.Frag) (H : Hp) : V → D → Prop
  | non : Rep A α K H .non .non
  | bl (b : Bool) : Rep A α K H (.bl b) (.bl b)
  | int (i : Int) : Rep A α K H (.int i) (.int i)
  | str (s : List Nat) : Rep A α K H (.str (S s)) (.str s)
  | lst {a : Addr} {xs : List V} {ds : List D} (hA : A a) (h : Rd H a (.lst xs)) (hl : xs.length = ds.length) (hi : ∀ (i : Nat) v d, xs[i]? = some v → ds[i]? = some d → Rep A α K H v d) : Rep A α K H (.ref a) (.lst ds)
  | tup {a : Addr} {xs : List V} {ds : List D} (h : ST A K H a xs) (hl : xs.length = ds.length) (hi : ∀ (i : Nat) v d, xs[i]? = some v → ds[i]? = some d → Rep A α K H v d) : Rep A α K H (.ref a) (.tup ds)
  | dic {a : Addr} {kvs : List (Key × V)} {ds : List (DKey × D)} (hA : A a) (h : Rd H a (.dK kvs)) (hk : kvs.map (·.1) = ds.map (fun p => dkey p.1)) (hi : ∀ (i : Nat) p q, kvs[i]? = some p → ds[i]? = some q → Rep A α K H p.2 q.2) : Rep A α K H (.ref a) (.dic ds)
  | obj {n : Nat} {a : Addr} (h : α[n]? = some a) : Rep A α K H (.ref a) (.obj n)
  | sta (a : Addr) : Rep A α K H (.ref a) (.sta a)

def RepAll (A : Addr → Prop) (α : List Addr) (K : PySem.W.Frag) (H : Hp) (vs : List V) (ds : List D) : Prop :=
  vs.length = ds.length ∧ ∀ (i : Nat) v d, vs[i]? = some v → ds[i]? = some d → Rep A α K H v d

section
variable {A A' : Addr → Prop} {α α' : List Addr} {K : PySem.W.Frag} {H H' : Hp}
theorem prefix_get {α α' : List Addr} {n : Nat} {a : Addr} (p : α <+: α') (h : α[n]? = some a) : α'[n]? = some a := by
  obtain ⟨t, rfl⟩ := p
  rw [List.getElem?_append_left (List.getElem?_eq_some_iff.mp h).1]
  exact h
theorem Rd.stay {a : Addr} {u : HO} (hh : ∀ o, H a = some o → H' a = some o) (h : Rd H a u) : Rd H' a u := by
  rcases h with h | ⟨o, h⟩
  · exact .inl (hh _ h)
  · exact .inr ⟨o, hh _ h⟩
/-- what stands for data stays: objects that are let in keep what they hold -/
theorem Rep.mono {v : V} {d : D} (h : Rep A α K H v d) (hA : ∀ a o, A a → H a = some o → A' a ∧ H' a = some o) (p : α <+: α') : Rep A' α' K H' v d := by
  have rd : ∀ {a : Addr} {u : HO}, A a → Rd H a u → A' a ∧ Rd H' a u := fun {a u} ha hr => by
    rcases hr with hr | ⟨o, hr⟩
    · exact ⟨(hA a _ ha hr).1, .inl (hA a _ ha hr).2⟩
    · exact ⟨(hA a _ ha hr).1, .inr ⟨o, (hA a _ ha hr).2⟩⟩
  induction h with
  | non => exact .non
  | bl b => exact .bl b
  | int i => exact .int i
  | str s => exact .str s
  | lst ha h hl _ ih => exact .lst (rd ha h).1 (rd ha h).2 hl ih
  | tup h hl _ ih =>
    refine .tup ?_ hl ih
    rcases h with h | h
    · exact .inl (rd h.1 h.2)
    · exact .inr h
  | dic ha h hk _ ih =>
    exact .dic (rd ha h).1 (rd ha h).2 hk ih
  | obj h => exact .obj (prefix_get p h)
  | sta a => exact .sta a
theorem RepAll.mono {vs : List V} {ds : List D} (h : RepAll A α K H vs ds) (hA : ∀ a o, A a → H a = some o → A' a ∧ H' a = some o) (p : α <+: α') : RepAll A' α' K H' vs ds :=
  ⟨h.1, fun i v d e1 e2 => (h.2 i v d e1 e2).mono hA p⟩
theorem RepAll.nil : RepAll A α K H [] [] := ⟨rfl, fun i v d e => by simp at e⟩
theorem RepAll.cons {v : V} {d : D} {vs : List V} {ds : List D} (h : Rep A α K H v d) (t : RepAll A α K H vs ds) : RepAll A α K H (v :: vs) (d :: ds) :=
  ⟨by rw [List.length_cons, List.length_cons, t.1], fun i x e h1 h2 => by
    cases i with
    | zero => simp at h1 h2; subst h1 h2; exact h
    | succ i => exact t.2 i x e (by simpa using h1) (by simpa using h2)⟩
theorem RepAll.uncons {vs : List V} {d : D} {ds : List D} (h : RepAll A α K H vs (d :: ds)) : ∃ v r, vs = v :: r ∧ Rep A α K H v d ∧ RepAll A α K H r ds := by
  obtain ⟨hl, hi⟩ := h
  cases vs with
  | nil => simp at hl
  | cons v r => exact ⟨v, r, rfl, hi 0 v d rfl rfl, ⟨by simpa using hl, fun i x e h1 h2 => hi (i + 1) x e (by simpa using h1) (by simpa using h2)⟩⟩
theorem RepAll.unnil {vs : List V} (h : RepAll A α K H vs []) : vs = [] := by
  have := h.1
  cases vs with
  | nil => rfl
  | cons v r => simp at this
theorem RepAll.append {vs ws : List V} {ds es : List D} (h : RepAll A α K H vs ds) (t : RepAll A α K H ws es) : RepAll A α K H (vs ++ ws) (ds ++ es) := by
  refine ⟨by rw [List.length_append, List.length_append, h.1, t.1], fun i v d h1 h2 => ?_⟩
  by_cases hi : i < vs.length
  · rw [List.getElem?_append_left hi] at h1
    rw [List.getElem?_append_left (by rw [← h.1]; exact hi)] at h2
    exact h.2 i v d h1 h2
  · rw [List.getElem?_append_right (by omega)] at h1
    rw [List.getElem?_append_right (by rw [← h.1]; omega), ← h.1] at h2
    exact t.2 _ v d h1 h2
theorem RepAll.get {vs : List V} {ds : List D} {i : Nat} {d : D} (h : RepAll A α K H vs ds) (e : ds[i]? = some d) : ∃ v, vs[i]? = some v ∧ Rep A α K H v d := by
  have hi := (List.getElem?_eq_some_iff.mp e).1
  refine ⟨vs[i]'(by rw [h.1]; exact hi), List.getElem?_eq_getElem _, h.2 i _ d (List.getElem?_eq_getElem _) e⟩
theorem RepAll.one {v : V} {d : D} (h : Rep A α K H v d) : RepAll A α K H [v] [d] := RepAll.cons h RepAll.nil
theorem RepAll.take {vs : List V} {ds : List D} (n : Nat) (h : RepAll A α K H vs ds) : RepAll A α K H (vs.take n) (ds.take n) :=
  ⟨by simp [h.1], fun i v d h1 h2 => by
    rw [List.getElem?_take] at h1 h2
    split at h1
    · rw [if_pos (by assumption)] at h2; exact h.2 i v d h1 h2
    · cases h1⟩
theorem RepAll.drop {vs : List V} {ds : List D} (n : Nat) (h : RepAll A α K H vs ds) : RepAll A α K H (vs.drop n) (ds.drop n) :=
  ⟨by simp [h.1], fun i v d h1 h2 => by
    rw [List.getElem?_drop] at h1 h2; exact h.2 _ v d h1 h2⟩
end

/-! ### the frame -/
def Al (B : Addr → Prop) (α : List Addr) (ow : Nat → Option Addr) (a : Addr) : Prop := a ∉ α ∧ ¬ B a ∧ ∀ i, ow i ≠ some a
def Ext (α : List Addr) (H : Hp) (α' : List Addr) (H' : Hp) : Prop := (∀ a o, H a = some o → a ∉ α → H' a = some o) ∧ α <+: α' ∧ ∀ a ∈ α', a ∈ α ∨ H a = none
def no : Nat → Option Addr := fun _ => none
def SOk (A : Addr → Prop) (α : List Addr) (K : PySem.W.Frag) (H : Hp) (a : Addr) : SO → Prop
  | .lst xs => ∃ vs, H a = some (.lst vs) ∧ RepAll A α K H vs xs
structure GOk (A : Addr → Prop) (α : List Addr) (g : Store) (K : PySem.W.Frag) (H : Hp) : Prop where
  len : α.length = g.length
  nd : α.Nodup
  so : ∀ (n : Nat) a o, α[n]? = some a → g[n]? = some o → SOk A α K H a o
structure Gh where
  B : Addr → Prop
  H0 : Hp
  α0 : List Addr
def SlotOk (A : Addr → Prop) (α : List Addr) (K : PySem.W.Frag) (H : Hp) (ow : Option Addr) (v : Option (Option V)) : SV → Prop
  | .d x => ∃ y, v = some (some y) ∧ Rep A α K H y x
  | .own xs => ∃ a vs, ow = some a ∧ v = some (some (.ref a)) ∧ H a = some (.lst vs) ∧ RepAll A α K H vs xs
  | .ownd ds => ∃ a kvs, ow = some a ∧ v = some (some (.ref a)) ∧ H a = some (.dK kvs) ∧ kvs.map (·.1) = ds.map (fun p => dkey p.1) ∧ RepAll A α K H (kvs.map (·.2)) (ds.map (·.2))
structure Sat (K : PySem.W.Frag) (G : Gh) (α : List Addr) (ow : Nat → Option Addr) (σ : L2.St) (H : Hp) (ρ : Env3) (g : Store) : Prop where
  ext : Ext G.α0 G.H0 α H
  blk : ∀ a, G.B a → (∃ o, H a = some o) ∧ a ∉ α
  len : σ.length = ρ.length
  gok : GOk (Al G.B α ow) α g K H
  own : ∀ i a, ow i = some a → G.H0 a = none ∧ a ∉ α ∧ ¬ G.B a ∧ (∃ o, H a = some o) ∧ ∃ x, ρ[i]? = some (some x) ∧ x.isOwn = true
  oinj : ∀ i j a, ow i = some a → ow j = some a → i = j
  slot : ∀ (i : Nat) x, ρ[i]? = some (some x) → SlotOk (Al G.B α ow) α K H (ow i) σ[i]? x

section
variable {α α1 α2 : List Addr} {H H1 H2 : Hp}
theorem Ext.refl : Ext α H α H := ⟨fun _ _ h _ => h, List.prefix_refl _, fun _ h => .inl h⟩
theorem Ext.trans (a : Ext α H α1 H1) (b : Ext α1 H1 α2 H2) : Ext α H α2 H2 := by
  refine ⟨fun x o h hn => b.1 x o (a.1 x o h hn) fun hx => ?_, a.2.1.trans b.2.1, fun x hx => ?_⟩
  · rcases a.2.2 x hx with z | z
    · exact hn z
    · rw [h] at z; cases z
  · rcases b.2.2 x hx with z | z
    · exact a.2.2 x z
    · by_cases hn : x ∈ α
      · exact .inl hn
      · cases q : H x with
        | none => exact .inr rfl
        | some o => rw [a.1 x o q hn] at z; cases z
theorem Ext.new {p : Addr} {o : HO} (h : H p = none) : Ext α H α (upd H p o) :=
  ⟨fun a u e _ => by rw [upd_ne (ne_of_none e h)]; exact e, List.prefix_refl _, fun _ h => .inl h⟩
theorem Ext.fresh {p : Addr} (e : Ext α H α1 H1) (hp : H1 p = none) (hn : p ∉ α1) : H p = none := by
  cases q : H p with
  | none => rfl
  | some o => rw [e.1 p o q fun z => hn (by obtain ⟨t, rfl⟩ := e.2.1; exact List.mem_append_left _ z)] at hp; cases hp
end
section
variable {K : PySem.W.Frag} {G : Gh} {α α' : List Addr} {ow : Nat → Option Addr} {σ : L2.St} {H H' : Hp} {ρ : Env3} {g g' : Store} {v : V} {d : D} {vs : List V} {ds : List D}
theorem Ext.al {B : Addr → Prop} (e : Ext α H α' H') : ∀ a o, Al B α ow a → H a = some o → Al B α' ow a ∧ H' a = some o := fun a o ha ho =>
  ⟨⟨fun hx => (e.2.2 a hx).elim ha.1 (fun z => by rw [ho] at z; cases z), ha.2.1, ha.2.2⟩, e.1 a o ho ha.1⟩
theorem Rep.ext {B : Addr → Prop} (h : Rep (Al B α ow) α K H v d) (e : Ext α H α' H') : Rep (Al B α' ow) α' K H' v d := h.mono e.al e.2.1
theorem RepAll.ext {B : Addr → Prop} (h : RepAll (Al B α ow) α K H vs ds) (e : Ext α H α' H') : RepAll (Al B α' ow) α' K H' vs ds := h.mono e.al e.2.1
/-- the state behind an expression -/
theorem Sat.step (s : Sat K G α ow σ H ρ g) (e : Ext α H α' H') (gk : GOk (Al G.B α' ow) α' g' K H') : Sat K G α' ow σ H' ρ g' := by
  have nn : ∀ {a : Addr} {o : HO}, H a = some o → a ∉ α → a ∉ α' := fun {a o} ho hn z => by
    rcases e.2.2 a z with z | z
    · exact hn z
    · rw [ho] at z; cases z
  refine ⟨s.ext.trans e, fun a h => ?_, s.len, gk, fun i a h => ?_, s.oinj, fun i x hx => ?_⟩
  · obtain ⟨⟨o, h1⟩, h2⟩ := s.blk a h
    exact ⟨⟨o, e.1 a o h1 h2⟩, nn h1 h2⟩
  · obtain ⟨h1, h2, h4, ⟨o, h3⟩, h5⟩ := s.own i a h
    exact ⟨h1, nn h3 h2, h4, ⟨o, e.1 a o h3 h2⟩, h5⟩
  · have q := s.slot i x hx
    cases x with
    | d x => obtain ⟨y, h1, h2⟩ := q; exact ⟨y, h1, h2.ext e⟩
    | own xs =>
      obtain ⟨a, vs, h1, h2, h3, h4⟩ := q
      exact ⟨a, vs, h1, h2, e.1 a _ h3 (s.own i a h1).2.1, h4.ext e⟩
    | ownd ds =>
      obtain ⟨a, vs, h1, h2, h3, h4, h5⟩ := q
      exact ⟨a, vs, h1, h2, e.1 a _ h3 (s.own i a h1).2.1, h4, h5.ext e⟩
theorem SOk.ext {B : Addr → Prop} {a : Addr} {o : SO} (h : SOk (Al B α ow) α K H a o) (e : Ext α H α' H') (he : ∀ o, H a = some o → H' a = some o) : SOk (Al B α' ow) α' K H' a o := by
  cases o with
  | lst xs => obtain ⟨vs, h1, h2⟩ := h; exact ⟨vs, he _ h1, h2.ext e⟩
theorem SOk.there {A : Addr → Prop} {a : Addr} {o : SO} (h : SOk A α K H a o) : ∃ u, H a = some u := by
  cases o with
  | lst xs => obtain ⟨vs, h1, h2⟩ := h; exact ⟨_, h1⟩
theorem GOk.tracked {A : Addr → Prop} (s : GOk A α g K H) {a : Addr} (h : a ∈ α) : ∃ o, H a = some o := by
  obtain ⟨n, hn, e⟩ := List.getElem_of_mem h
  have h2 : α[n]? = some a := by rw [List.getElem?_eq_getElem hn, e]
  exact (s.so n a _ h2 (List.getElem?_eq_getElem (by rw [← s.len]; exact hn))).there
theorem GOk.new {B : Addr → Prop} (s : GOk (Al B α ow) α g K H) {p : Addr} {o : HO} (h : H p = none) : GOk (Al B α ow) α g K (upd H p o) :=
  ⟨s.len, s.nd, fun n a u h1 h2 => (s.so n a u h1 h2).ext (Ext.new h) fun o e => by rw [upd_ne (ne_of_none e h)]; exact e⟩
/-- a new object -/
theorem Sat.new (s : Sat K G α ow σ H ρ g) {p : Addr} {o : HO} (h : H p = none) : Sat K G α ow σ (upd H p o) ρ g := s.step (Ext.new h) (s.gok.new h)
/-- a new object may stand for data -/
theorem Sat.al (s : Sat K G α ow σ H ρ g) {p : Addr} (h : H p = none) : Al G.B α ow p := by
  refine ⟨fun hp => ?_, fun hb => ?_, fun i hi => ?_⟩
  · obtain ⟨o, e⟩ := s.gok.tracked hp
    rw [h] at e; cases e
  · obtain ⟨⟨o, h1⟩, h2⟩ := s.blk p hb
    rw [h1] at h; cases h
  · obtain ⟨_, _, _, ⟨o, h3⟩, _⟩ := s.own i p hi
    rw [h] at h3; cases h3
/-- a new list, a new tuple -/
theorem Sat.newL (s : Sat K G α ow σ H ρ g) {p : Addr} (h : H p = none) (r : RepAll (Al G.B α ow) α K H vs ds) : Rep (Al G.B α ow) α K (upd H p (.lst vs)) (.ref p) (.lst ds) := by
  have r' := r.ext (Ext.new (α := α) (o := .lst vs) h)
  exact .lst (s.al h) (.inl upd_same) r'.1 r'.2
theorem Sat.newT (s : Sat K G α ow σ H ρ g) {p : Addr} (h : H p = none) (r : RepAll (Al G.B α ow) α K H vs ds) : Rep (Al G.B α ow) α K (upd H p (.tup vs)) (.ref p) (.tup ds) := by
  have r' := r.ext (Ext.new (α := α) (o := .tup vs) h)
  exact .tup (.inl ⟨s.al h, .inl upd_same⟩) r'.1 r'.2

end
/-! ### borrowed: data, or a list or dict that a slot owns -/
inductive BRep (B : Addr → Prop) (α : List Addr) (ow : Nat → Option Addr) (K : PySem.W.Frag) (H : Hp) : V → D → Prop
  | of {v : V} {d : D} (h : Rep (Al B α ow) α K H v d) : BRep B α ow K H v d
  | own {i : Nat} {a : Addr} {vs : List V} {xs : List D} (h : ow i = some a) (hn : a ∉ α) (ho : H a = some (.lst vs)) (r : RepAll (Al B α ow) α K H vs xs) : BRep B α ow K H (.ref a) (.lst xs)
  | ownd {i : Nat} {a : Addr} {kvs : List (Key × V)} {ds : List (DKey × D)} (h : ow i = some a) (hn : a ∉ α) (ho : H a = some (.dK kvs)) (hk : kvs.map (·.1) = ds.map (fun p => dkey p.1)) (r : RepAll (Al B α ow) α K H (kvs.map (·.2)) (ds.map (·.2))) : BRep B α ow K H (.ref a) (.dic ds)
section
variable {K : PySem.W.Frag} {G : Gh} {α α' : List Addr} {ow : Nat → Option Addr} {σ : L2.St} {H H' : Hp} {ρ : Env3} {g g' : Store} {v : V} {d : D} {vs : List V} {ds : List D}
theorem BRep.ext {B : Addr → Prop} (h : BRep B α ow K H v d) (e : Ext α H α' H') : BRep B α' ow K H' v d := by
  have nn : ∀ {a : Addr} {o : HO}, H a = some o → a ∉ α → a ∉ α' := fun {a o} ho hn z => by
    rcases e.2.2 a z with z | z
    · exact hn z
    · rw [ho] at z; cases z
  cases h with
  | of h => exact .of (h.ext e)
  | own h hn ho r => exact .own h (nn ho hn) (e.1 _ _ ho hn) (r.ext e)
  | ownd h hn ho hk r => exact .ownd h (nn ho hn) (e.1 _ _ ho hn) hk (r.ext e)
def BRepAll (B : Addr → Prop) (α : List Addr) (ow : Nat → Option Addr) (K : PySem.W.Frag) (H : Hp) (vs : List V) (ds : List D) : Prop :=
  vs.length = ds.length ∧ ∀ (i : Nat) v d, vs[i]? = some v → ds[i]? = some d → BRep B α ow K H v d
section
variable {B : Addr → Prop}
theorem BRepAll.ext (h : BRepAll B α ow K H vs ds) (e : Ext α H α' H') : BRepAll B α' ow K H' vs ds := ⟨h.1, fun i v d h1 h2 => (h.2 i v d h1 h2).ext e⟩
theorem BRepAll.nil : BRepAll B α ow K H [] [] := ⟨rfl, fun i v d e => by simp at e⟩
theorem BRepAll.cons (h : BRep B α ow K H v d) (t : BRepAll B α ow K H vs ds) : BRepAll B α ow K H (v :: vs) (d :: ds) :=
  ⟨by rw [List.length_cons, List.length_cons, t.1], fun i x e h1 h2 => by
    cases i with
    | zero => simp at h1 h2; subst h1 h2; exact h
    | succ i => exact t.2 i x e (by simpa using h1) (by simpa using h2)⟩
theorem BRepAll.uncons (h : BRepAll B α ow K H vs (d :: ds)) : ∃ v r, vs = v :: r ∧ BRep B α ow K H v d ∧ BRepAll B α ow K H r ds := by
  obtain ⟨hl, hi⟩ := h
  cases vs with
  | nil => simp at hl
  | cons v r => exact ⟨v, r, rfl, hi 0 v d rfl rfl, ⟨by simpa using hl, fun i x e h1 h2 => hi (i + 1) x e (by simpa using h1) (by simpa using h2)⟩⟩
theorem BRepAll.unnil (h : BRepAll B α ow K H vs []) : vs = [] := by
  have := h.1
  cases vs with
  | nil => rfl
  | cons v r => simp at this
theorem BRepAll.of (h : RepAll (Al B α ow) α K H vs ds) : BRepAll B α ow K H vs ds := ⟨h.1, fun i v d h1 h2 => .of (h.2 i v d h1 h2)⟩
/-- reading it -/
theorem BRep.lst {xs : List D} (h : BRep B α ow K H v (.lst xs)) : ∃ a vs, v = .ref a ∧ Rd H a (.lst vs) ∧ RepAll (Al B α ow) α K H vs xs := by
  cases h with
  | of h => cases h with | lst hA h hl hi => exact ⟨_, _, rfl, h, hl, hi⟩
  | own h hn ho r => exact ⟨_, _, rfl, .inl ho, r⟩
theorem BRep.tup {xs : List D} (h : BRep B α ow K H v (.tup xs)) : ∃ a vs, v = .ref a ∧ SqT K H a vs ∧ RepAll (Al B α ow) α K H vs xs := by
  cases h with
  | of h => cases h with | tup h hl hi => exact ⟨_, _, rfl, h.sq, hl, hi⟩
theorem BRep.dic {ds : List (DKey × D)} (h : BRep B α ow K H v (.dic ds)) : ∃ a kvs, v = .ref a ∧ Rd H a (.dK kvs) ∧ kvs.map (·.1) = ds.map (fun p => dkey p.1) ∧ RepAll (Al B α ow) α K H (kvs.map (·.2)) (ds.map (·.2)) := by
  cases h with
  | of h =>
    cases h with
    | dic hA h hk hi =>
      refine ⟨_, _, rfl, h, hk, by rw [List.length_map, List.length_map]; simpa using congrArg List.length hk, fun i v d h1 h2 => ?_⟩
      rw [List.getElem?_map, Option.map_eq_some_iff] at h1 h2
      obtain ⟨p, h1, rfl⟩ := h1
      obtain ⟨q, h2, rfl⟩ := h2
      exact hi i p q h1 h2
  | ownd h hn ho hk r => exact ⟨_, _, rfl, .inl ho, hk, r⟩
theorem BRep.int {i : Int} (h : BRep B α ow K H v (.int i)) : v = .int i := by cases h with | of h => cases h; rfl
theorem BRep.bl {b : Bool} (h : BRep B α ow K H v (.bl b)) : v = .bl b := by cases h with | of h => cases h; rfl
theorem BRep.str {s : List Nat} (h : BRep B α ow K H v (.str s)) : v = .str (S s) := by cases h with | of h => cases h; rfl
theorem BRep.non (h : BRep B α ow K H v .non) : v = .non := by cases h with | of h => cases h; rfl
end
end
end L3

/-! L3b: what an expression, a test, a list of arguments is worth. -/
namespace L3
open PySem PySem.Spec PyProof.Rows L2

abbrev M (β : Type) := Env3 → Store → Option (β × Store)
abbrev DE := M D
abbrev DA := M (List D)
abbrev DT := M Bool
def BIG : Nat := 100000
theorem big_line : BIG ≤ sizeLine := by decide

/-- what is wanted of a value that needs no new store -/
def Wants (K : PySem.W.Frag) (G : Gh) (α : List Addr) (ow : Nat → Option Addr) (σ : L2.St) (H : Hp) (ρ : Env3) (g : Store) (d : D) (Q : VK) : Prop :=
  ∀ v H', Ext α H α H' → Sat K G α ow σ H' ρ g → Rep (Al G.B α ow) α K H' v d → Q v H'
/-- .. of one that may change the store -/
def WantsG (K : PySem.W.Frag) (G : Gh) (α : List Addr) (ow : Nat → Option Addr) (σ : L2.St) (H : Hp) (ρ : Env3) (g' : Store) (d : D) (Q : VK) : Prop :=
  ∀ v H' α', Ext α H α' H' → Sat K G α' ow σ H' ρ g' → Rep (Al G.B α' ow) α' K H' v d → Q v H'
def WantsB (K : PySem.W.Frag) (G : Gh) (α : List Addr) (ow : Nat → Option Addr) (σ : L2.St) (H : Hp) (ρ : Env3) (g' : Store) (d : D) (Q : VK) : Prop :=
  ∀ v H' α', Ext α H α' H' → Sat K G α' ow σ H' ρ g' → BRep G.B α' ow K H' v d → Q v H'
def WantsT (K : PySem.W.Frag) (G : Gh) (α : List Addr) (ow : Nat → Option Addr) (σ : L2.St) (H : Hp) (ρ : Env3) (g' : Store) (b : Bool) (Q : Bool → Hp → Prop) : Prop :=
  ∀ H' α', Ext α H α' H' → Sat K G α' ow σ H' ρ g' → Q b H'
def WantsA (K : PySem.W.Frag) (G : Gh) (α : List Addr) (ow : Nat → Option Addr) (σ : L2.St) (H : Hp) (ρ : Env3) (g' : Store) (ds : List D) (Q : List V → Hp → Prop) : Prop :=
  ∀ vs H' α', Ext α H α' H' → Sat K G α' ow σ H' ρ g' → BRepAll G.B α' ow K H' vs ds → Q vs H'
def WantsR (K : PySem.W.Frag) (G : Gh) (α : List Addr) (ow : Nat → Option Addr) (σ : L2.St) (H : Hp) (ρ : Env3) (g' : Store) (ds : List D) (Q : List V → Hp → Prop) : Prop :=
  ∀ vs H' α', Ext α H α' H' → Sat K G α' ow σ H' ρ g' → RepAll (Al G.B α' ow) α' K H' vs ds → Q vs H'

def EC (X : Cx) (e : Expr) (f : DE) : Prop := ∃ t, PE X e t ∧ ∀ G α ow σ H ρ g d g' Q, Sat X.K G α ow σ H ρ g → f ρ g = some (d, g') → WantsG X.K G α ow σ H ρ g' d Q → t σ H Q
def EB (X : Cx) (e : Expr) (f : DE) : Prop := ∃ t, PE X e t ∧ ∀ G α ow σ H ρ g d g' Q, Sat X.K G α ow σ H ρ g → f ρ g = some (d, g') → WantsB X.K G α ow σ H ρ g' d Q → t σ H Q
def TC (X : Cx) (e : Expr) (f : DT) : Prop := ∃ t, PT X e t ∧ ∀ G α ow σ H ρ g b g' Q, Sat X.K G α ow σ H ρ g → f ρ g = some (b, g') → WantsT X.K G α ow σ H ρ g' b Q → t σ H Q
def TW (X : Cx) (e : Expr) (f : DT) : Prop := ∃ t, PW X e t ∧ ∀ G α ow σ H ρ g b g' Q, Sat X.K G α ow σ H ρ g → f ρ g = some (b, g') → WantsT X.K G α ow σ H ρ g' b Q → t σ H Q
def AB (X : Cx) (es : List Expr) (f : DA) : Prop := ∃ t, PA X es t ∧ ∀ G α ow σ H ρ g ds g' Q, Sat X.K G α ow σ H ρ g → f ρ g = some (ds, g') → WantsA X.K G α ow σ H ρ g' ds Q → t σ H Q
def AC (X : Cx) (es : List Expr) (f : DA) : Prop := (∀ ρ g ds g', f ρ g = some (ds, g') → ds.length = es.length) ∧ ∃ t, PA X es t ∧ ∀ G α ow σ H ρ g ds g' Q, Sat X.K G α ow σ H ρ g → f ρ g = some (ds, g') → WantsR X.K G α ow σ H ρ g' ds Q → t σ H Q

/-! ### the functions -/
def eVar (i : Nat) : DE := fun ρ g => match ρ[i]? with
  | some (some (.d x)) => some (x, g)
  | _ => none
def eVarB (i : Nat) : DE := fun ρ g => match ρ[i]? with
  | some (some (.d x)) => some (x, g)
  | some (some (.own xs)) => some (.lst xs, g)
  | some (some (.ownd ds)) => some (.dic ds, g)
  | _ => none
def eC (d : D) : DE := fun _ g => some (d, g)
def bindM {β γ : Type} (m : M β) (k : β → M γ) : M γ := fun ρ g => match m ρ g with
  | some (x, g1) => k x ρ g1
  | none => none
def liftM {β : Type} (o : Option β) : M β := fun _ g => match o with
  | some x => some (x, g)
  | none => none
def eOp (op : D → D → Option D) (a b : DE) : DE := bindM a fun x => bindM b fun y => liftM (op x y)
def eUn (op : D → Option D) (a : DE) : DE := bindM a fun x => liftM (op x)
def aNil : DA := fun _ g => some ([], g)
def aCons (a : DE) (r : DA) : DA := bindM a fun x => bindM r fun xs => liftM (some (x :: xs))
def eFn (φ : List D → Option D) (a : DA) : DE := bindM a fun xs => liftM (φ xs)
def eApp (φ : List D → Store → Option (D × Store)) (a : DA) : DE := bindM a fun xs => fun _ g => φ xs g
def tOf (a : DE) : DT := bindM a fun x => liftM (match x with | .bl b => some b | _ => none)
def tAndD (a b : DT) : DT := bindM a fun c => if c then b else fun _ g => some (false, g)
def tOrD (a b : DT) : DT := bindM a fun c => if c then (fun _ g => some (true, g)) else b
def tNotD (a : DT) : DT := bindM a fun c => liftM (some (!c))
def eAndD (a b : DE) : DE := bindM a fun x => match x with
  | .bl true => b
  | .bl false => eC (.bl false)
  | _ => fun _ _ => none
def eOrD (a b : DE) : DE := bindM a fun x => match x with
  | .bl false => b
  | .bl true => eC (.bl true)
  | _ => fun _ _ => none
def eIfD (c : DT) (a b : DE) : DE := bindM c fun k => if k then a else b
def flat : D → Bool
  | .non => true | .bl _ => true | .int _ => true | .str _ => true | .sta _ => true | _ => false
def eFlat (a : DE) : DE := bindM a fun x => liftM (if flat x then some x else none)

theorem bindM_some {β γ : Type} {m : M β} {k : β → M γ} {ρ : Env3} {g : Store} {z : γ} {g' : Store} (h : bindM m k ρ g = some (z, g')) : ∃ x g1, m ρ g = some (x, g1) ∧ k x ρ g1 = some (z, g') := by
  unfold bindM at h
  split at h
  · rename_i x g1 e; exact ⟨x, g1, e, h⟩
  · cases h
theorem liftM_some {β : Type} {o : Option β} {ρ : Env3} {g : Store} {z : β} {g' : Store} (h : liftM o ρ g = some (z, g')) : o = some z ∧ g = g' := by
  unfold liftM at h
  split at h
  · cases h; exact ⟨rfl, rfl⟩
  · cases h

section
variable {X : Cx} {e a b c : Expr} {f fa fb fc : DE}
theorem EC.bo (h : EC X e f) : EB X e f := by
  obtain ⟨t, ht, hq⟩ := h
  exact ⟨t, ht, fun G α ow σ H ρ g d g' Q s e w => hq G α ow σ H ρ g d g' Q s e fun v H' α' x s' r => w v H' α' x s' (.of r)⟩
theorem EB.flat (h : EB X e f) : EC X e (eFlat f) := by
  obtain ⟨t, ht, hq⟩ := h
  refine ⟨t, ht, fun G α ow σ H ρ g d g' Q s e w => ?_⟩
  obtain ⟨x, g1, e1, e2⟩ := bindM_some e
  obtain ⟨e3, rfl⟩ := liftM_some e2
  split at e3
  · rename_i hf
    cases e3
    refine hq G α ow σ H ρ g _ g1 Q s e1 fun v H' α' x s' r => w v H' α' x s' ?_
    cases r with
    | of r => exact r
    | own => cases hf
    | ownd => cases hf
  · cases e3

/-! ### names, constants -/
theorem Sat.var {K : PySem.W.Frag} {G : Gh} {α : List Addr} {ow : Nat → Option Addr} {σ : L2.St} {H : Hp} {ρ : Env3} {g : Store} (s : Sat K G α ow σ H ρ g) {i : Nat} {x : SV} (h : ρ[i]? = some (some x)) : SlotOk (Al G.B α ow) α K H (ow i) σ[i]? x := s.slot i x h
theorem ec_var (i : Nat) {x : Str} {pos : Pos} (hN : X.N[i]? = some x := by rfl) (hv : Vis X.env.scope x := by first | exact Or.inl rfl | exact Or.inr (Or.inl rfl) | exact Or.inr (Or.inr rfl)) (hd : (x == ("__debug__" : Str)) = false := by decide) (hcd : (x == ("__classdict__" : Str)) = false := by decide) :
    EC X (.Name x pos) (eVar i) := by
  refine ⟨tVar i, pe_var hN hv hd hcd, fun G α ow σ H ρ g d g' Q s e w => ?_⟩
  unfold eVar at e
  split at e
  · rename_i y hy
    cases e
    obtain ⟨v, h1, h2⟩ := s.slot i _ hy
    exact ⟨v, h1, w v H α Ext.refl s h2⟩
  · cases e
theorem eb_var (i : Nat) {x : Str} {pos : Pos} (hN : X.N[i]? = some x := by rfl) (hv : Vis X.env.scope x := by first | exact Or.inl rfl | exact Or.inr (Or.inl rfl) | exact Or.inr (Or.inr rfl)) (hd : (x == ("__debug__" : Str)) = false := by decide) (hcd : (x == ("__classdict__" : Str)) = false := by decide) :
    EB X (.Name x pos) (eVarB i) := by
  refine ⟨tVar i, pe_var hN hv hd hcd, fun G α ow σ H ρ g d g' Q s e w => ?_⟩
  unfold eVarB at e
  split at e
  · rename_i y hy
    cases e
    obtain ⟨v, h1, h2⟩ := s.slot i _ hy
    exact ⟨v, h1, w v H α Ext.refl s (.of h2)⟩
  · rename_i xs hy
    cases e
    obtain ⟨a, vs, h1, h2, h3, h4⟩ := s.slot i _ hy
    exact ⟨_, h2, w _ H α Ext.refl s (.own h1 (s.own i a h1).2.1 h3 h4)⟩
  · rename_i xs hy
    cases e
    obtain ⟨a, vs, h1, h2, h3, h4, h5⟩ := s.slot i _ hy
    exact ⟨_, h2, w _ H α Ext.refl s (.ownd h1 (s.own i a h1).2.1 h3 h4 h5)⟩
  · cases e
theorem ec_imm {v : V} {d : D} (h : PE X e (tC v)) (r : ∀ A α K H, Rep A α K H v d) : EC X e (eC d) :=
  ⟨_, h, fun G α ow σ H ρ g d' g' Q s e w => by cases e; exact w v H α Ext.refl s (r _ _ _ _)⟩
theorem ec_int {i : Int} {j pos} : EC X (.Constant (.int i) j pos) (eC (.int i)) := ec_imm pe_int fun _ _ _ _ => .int i
theorem ec_bl {i : Bool} {j pos} : EC X (.Constant (.bool i) j pos) (eC (.bl i)) := ec_imm pe_bl fun _ _ _ _ => .bl i
theorem ec_non {j pos} : EC X (.Constant .none j pos) (eC .non) := ec_imm pe_non fun _ _ _ _ => .non
theorem ec_str {x : Str} {s : List Nat} {j pos} (h : x = S s := by rfl) : EC X (.Constant (.str x) j pos) (eC (.str s)) := by
  subst h
  exact ec_imm pe_str fun _ _ _ _ => .str s
/-- a module's constant -/
theorem ec_gint {x : Str} {i : Int} {t : Tok} {pos : Pos} (hm : X.mg x = some (.int i t)) (hg : Gl X x := by rfl) (hd : (x == ("__debug__" : Str)) = false := by decide) : EC X (.Name x pos) (eC (.int i)) :=
  ec_imm (pe_glob (v := .int i) hg hm ⟨t, rfl⟩ hd) fun _ _ _ _ => .int i
theorem ec_gstr {x : Str} {z : List Nat} {t : Tok} {pos : Pos} (hm : X.mg x = some (.str (S z) t)) (hg : Gl X x := by rfl) (hd : (x == ("__debug__" : Str)) = false := by decide) : EC X (.Name x pos) (eC (.str z)) :=
  ec_imm (pe_glob (v := .str (S z)) hg hm ⟨t, rfl⟩ hd) fun _ _ _ _ => .str z

/-! ### operators -/
def OpD (X : Cx) (f : Value → Value → Sem Value) (op : D → D → Option D) : Prop := ∃ r, OpR X f r ∧ ∀ G α ow σ H ρ g x y dx dy d Q, Sat X.K G α ow σ H ρ g → BRep G.B α ow X.K H x dx → BRep G.B α ow X.K H y dy →
  op dx dy = some d → Wants X.K G α ow σ H ρ g d Q → r x y H Q
theorem eb_bin {ta tb : TE} (ha : ∀ G α ow σ H ρ g d g' Q, Sat X.K G α ow σ H ρ g → fa ρ g = some (d, g') → WantsB X.K G α ow σ H ρ g' d Q → ta σ H Q) (hb : ∀ G α ow σ H ρ g d g' Q, Sat X.K G α ow σ H ρ g → fb ρ g = some (d, g') → WantsB X.K G α ow σ H ρ g' d Q → tb σ H Q)
    {G α ow σ H ρ g op d g'} (s : Sat X.K G α ow σ H ρ g) (he : eOp op fa fb ρ g = some (d, g')) {R : V → V → Hp → Prop}
    (w : ∀ x y dx dy H' α', Ext α H α' H' → Sat X.K G α' ow σ H' ρ g' → BRep G.B α' ow X.K H' x dx → BRep G.B α' ow X.K H' y dy → op dx dy = some d → R x y H') : ta σ H fun x H1 => tb σ H1 fun y H2 => R x y H2 := by
  obtain ⟨dx, g1, e1, he⟩ := bindM_some he
  obtain ⟨dy, g2, e2, he⟩ := bindM_some he
  obtain ⟨e3, rfl⟩ := liftM_some he
  refine ha G α ow σ H ρ g dx g1 _ s e1 fun x H1 α1 x1 s1 r1 => ?_
  refine hb G α1 ow σ H1 ρ g1 dy g2 _ s1 e2 fun y H2 α2 x2 s2 r2 => ?_
  exact w x y dx dy H2 α2 (x1.trans x2) s2 (r1.ext x2) r2 e3
theorem ec_op {op : Operator} {o : D → D → Option D} {pos : Pos} (ho : OpD X (binaryOp op) o) (ha : EB X a fa) (hb : EB X b fb) : EC X (.BinOp a op b pos) (eOp o fa fb) := by
  obtain ⟨r, hr, hq⟩ := ho
  obtain ⟨ta, pa, ha⟩ := ha
  obtain ⟨tb, pb, hb⟩ := hb
  refine ⟨_, pe_op hr pa pb, fun G α ow σ H ρ g d g' Q s e w => ?_⟩
  exact eb_bin ha hb s e fun x y dx dy H' α' x1 s1 r1 r2 e2 => hq G α' ow σ H' ρ g' x y dx dy d Q s1 r1 r2 e2 fun v H2 x2 s2 r => w v H2 α' (x1.trans x2) s2 r
theorem ec_cmp {op : CmpOp} {o : D → D → Option D} {pos : Pos} (ho : OpD X (compareOp op) o) (ha : EB X a fa) (hb : EB X b fb) (hm : behindInMarks op b = false := by first | exact nomark _ | rfl) : EC X (.Compare a [op] [b] pos) (eOp o fa fb) := by
  obtain ⟨r, hr, hq⟩ := ho
  obtain ⟨ta, pa, ha⟩ := ha
  obtain ⟨tb, pb, hb⟩ := hb
  refine ⟨_, pe_cmpR hr pa pb hm, fun G α ow σ H ρ g d g' Q s e w => ?_⟩
  exact eb_bin ha hb s e fun x y dx dy H' α' x1 s1 r1 r2 e2 => hq G α' ow σ H' ρ g' x y dx dy d Q s1 r1 r2 e2 fun v H2 x2 s2 r => w v H2 α' (x1.trans x2) s2 r
theorem tc_cmp {op : CmpOp} {o : D → D → Option D} {pos : Pos} (ho : OpD X (compareOp op) o) (ha : EB X a fa) (hb : EB X b fb) (hm : behindInMarks op b = false := by first | exact nomark _ | rfl) : TC X (.Compare a [op] [b] pos) (tOf (eOp o fa fb)) := by
  obtain ⟨r, hr, hq⟩ := ho
  obtain ⟨ta, pa, ha⟩ := ha
  obtain ⟨tb, pb, hb⟩ := hb
  refine ⟨_, pt_cmpR hr pa pb hm, fun G α ow σ H ρ g k g' Q s e w => ?_⟩
  obtain ⟨d, g1, e1, e2⟩ := bindM_some e
  obtain ⟨e3, rfl⟩ := liftM_some e2
  split at e3
  · cases e3
    exact eb_bin ha hb s e1 fun x y dx dy H' α' x1 s1 r1 r2 e2 => hq G α' ow σ H' ρ g1 x y dx dy _ _ s1 r1 r2 e2 fun v H2 x2 s2 r => by
      cases r
      exact ⟨_, rfl, w H2 α' (x1.trans x2) s2⟩
  · cases e3
/-- an expression whose value is a bool, as a test -/
theorem tc_val (h : EC X e f) (he : ∀ whole, isTrue e X.env whole = (do let v ← whole; standAt e.pos; holding [v] (truthy v)) := by intro _; rfl) : TC X e (tOf f) := by
  obtain ⟨t, pt, hq⟩ := h
  refine ⟨_, pt_val pt he, fun G α ow σ H ρ g k g' Q s e w => ?_⟩
  obtain ⟨d, g1, e1, e2⟩ := bindM_some e
  obtain ⟨e3, rfl⟩ := liftM_some e2
  split at e3
  · cases e3
    exact hq G α ow σ H ρ g _ g1 _ s e1 fun v H2 α2 x2 s2 r => by
      cases r
      exact ⟨_, rfl, w H2 α2 x2 s2⟩
  · cases e3
/-! ### and, or, not -/
section
variable {ta tb : DT} {rest : List Expr} {pos : Pos}
theorem TW.tc (h : TW X e ta) : TC X e ta := by
  obtain ⟨t, pt, hq⟩ := h
  exact ⟨t, pt.pt, hq⟩
theorem tw_and1 (ha : TC X a ta) : TW X (.BoolOp .And [a] pos) ta := by
  obtain ⟨t, pt, hq⟩ := ha
  exact ⟨t, pw_and1 pt, hq⟩
theorem tw_or1 (ha : TC X a ta) : TW X (.BoolOp .Or [a] pos) ta := by
  obtain ⟨t, pt, hq⟩ := ha
  exact ⟨t, pw_or1 pt, hq⟩
theorem tw_and (ha : TC X a ta) (hb : TW X (.BoolOp .And (b :: rest) pos) tb) : TW X (.BoolOp .And (a :: b :: rest) pos) (tAndD ta tb) := by
  obtain ⟨t, pt, hq⟩ := ha
  obtain ⟨t2, pt2, hq2⟩ := hb
  refine ⟨_, pw_and pt pt2, fun G α ow σ H ρ g k g' Q s e w => ?_⟩
  obtain ⟨c, g1, e1, e2⟩ := bindM_some e
  refine hq G α ow σ H ρ g c g1 _ s e1 fun H1 α1 x1 s1 => ?_
  cases c with
  | true => rw [if_pos rfl] at e2 ⊢; exact hq2 G α1 ow σ H1 ρ g1 k g' Q s1 e2 fun H2 α2 x2 s2 => w H2 α2 (x1.trans x2) s2
  | false => rw [if_neg (by decide)] at e2 ⊢; cases e2; exact w H1 α1 x1 s1
theorem tw_or (ha : TC X a ta) (hb : TW X (.BoolOp .Or (b :: rest) pos) tb) : TW X (.BoolOp .Or (a :: b :: rest) pos) (tOrD ta tb) := by
  obtain ⟨t, pt, hq⟩ := ha
  obtain ⟨t2, pt2, hq2⟩ := hb
  refine ⟨_, pw_or pt pt2, fun G α ow σ H ρ g k g' Q s e w => ?_⟩
  obtain ⟨c, g1, e1, e2⟩ := bindM_some e
  refine hq G α ow σ H ρ g c g1 _ s e1 fun H1 α1 x1 s1 => ?_
  cases c with
  | false => rw [if_neg (by decide)] at e2 ⊢; exact hq2 G α1 ow σ H1 ρ g1 k g' Q s1 e2 fun H2 α2 x2 s2 => w H2 α2 (x1.trans x2) s2
  | true => rw [if_pos rfl] at e2 ⊢; cases e2; exact w H1 α1 x1 s1
theorem tc_not (ha : TC X a ta) : TC X (.UnaryOp .Not a pos) (tNotD ta) := by
  obtain ⟨t, pt, hq⟩ := ha
  refine ⟨_, pt_not pt, fun G α ow σ H ρ g k g' Q s e w => ?_⟩
  obtain ⟨c, g1, e1, e2⟩ := bindM_some e
  obtain ⟨e3, rfl⟩ := liftM_some e2
  cases e3
  exact hq G α ow σ H ρ g c g1 _ s e1 w
theorem ec_one {op} (h : EC X a f) : EC X (.BoolOp op [a] pos) f := by
  obtain ⟨t, pt, hq⟩ := h
  exact ⟨t, pe_one pt, hq⟩
theorem ec_and (ha : EC X a fa) (hb : EC X (.BoolOp .And (b :: rest) pos) fb) : EC X (.BoolOp .And (a :: b :: rest) pos) (eAndD fa fb) := by
  obtain ⟨t, pt, hq⟩ := ha
  obtain ⟨t2, pt2, hq2⟩ := hb
  refine ⟨_, pe_and pt pt2, fun G α ow σ H ρ g k g' Q s e w => ?_⟩
  obtain ⟨c, g1, e1, e2⟩ := bindM_some e
  refine hq G α ow σ H ρ g c g1 _ s e1 fun v H1 α1 x1 s1 r => ?_
  split at e2
  · cases r; exact ⟨_, rfl, by rw [if_pos rfl]; exact hq2 G α1 ow σ H1 ρ g1 k g' Q s1 e2 fun v H2 α2 x2 s2 => w v H2 α2 (x1.trans x2) s2⟩
  · cases r; cases e2; exact ⟨_, rfl, by rw [if_neg (by decide)]; exact w _ H1 α1 x1 s1 (.bl _)⟩
  · cases e2
theorem ec_or (ha : EC X a fa) (hb : EC X (.BoolOp .Or (b :: rest) pos) fb) : EC X (.BoolOp .Or (a :: b :: rest) pos) (eOrD fa fb) := by
  obtain ⟨t, pt, hq⟩ := ha
  obtain ⟨t2, pt2, hq2⟩ := hb
  refine ⟨_, pe_or pt pt2, fun G α ow σ H ρ g k g' Q s e w => ?_⟩
  obtain ⟨c, g1, e1, e2⟩ := bindM_some e
  refine hq G α ow σ H ρ g c g1 _ s e1 fun v H1 α1 x1 s1 r => ?_
  split at e2
  · cases r; exact ⟨_, rfl, by rw [if_neg (by decide)]; exact hq2 G α1 ow σ H1 ρ g1 k g' Q s1 e2 fun v H2 α2 x2 s2 => w v H2 α2 (x1.trans x2) s2⟩
  · cases r; cases e2; exact ⟨_, rfl, by rw [if_pos rfl]; exact w _ H1 α1 x1 s1 (.bl _)⟩
  · cases e2
def dNot : D → Option D
  | .bl b => some (.bl (!b))
  | _ => none
theorem ec_not (ha : EC X a fa) : EC X (.UnaryOp .Not a pos) (eUn dNot fa) := by
  obtain ⟨t, pt, hq⟩ := ha
  refine ⟨_, pe_not pt, fun G α ow σ H ρ g k g' Q s e w => ?_⟩
  obtain ⟨c, g1, e1, e2⟩ := bindM_some e
  obtain ⟨e3, rfl⟩ := liftM_some e2
  refine hq G α ow σ H ρ g c g1 _ s e1 fun v H1 α1 x1 s1 r => ?_
  unfold dNot at e3
  split at e3
  · cases r; cases e3; exact ⟨_, rfl, w _ H1 α1 x1 s1 (.bl _)⟩
  · cases e3
theorem ec_if (hc : TC X c ta) (ha : EC X a fa) (hb : EC X b fb) : EC X (.IfExp c a b pos) (eIfD ta fa fb) := by
  obtain ⟨t, pt, hq⟩ := hc
  obtain ⟨t1, pt1, hq1⟩ := ha
  obtain ⟨t2, pt2, hq2⟩ := hb
  refine ⟨_, pe_ifExp pt pt1 pt2, fun G α ow σ H ρ g k g' Q s e w => ?_⟩
  obtain ⟨c, g1, e1, e2⟩ := bindM_some e
  refine hq G α ow σ H ρ g c g1 _ s e1 fun H1 α1 x1 s1 => ?_
  cases c with
  | true => rw [if_pos rfl] at e2 ⊢; exact hq1 G α1 ow σ H1 ρ g1 k g' Q s1 e2 fun v H2 α2 x2 s2 => w v H2 α2 (x1.trans x2) s2
  | false => rw [if_neg (by decide)] at e2 ⊢; exact hq2 G α1 ow σ H1 ρ g1 k g' Q s1 e2 fun v H2 α2 x2 s2 => w v H2 α2 (x1.trans x2) s2
end

/-! ### arguments, displays -/
section
variable {es : List Expr} {fs : DA} {pos : Pos}
theorem ab_nil : AB X [] aNil := ⟨_, pa_nil, fun G α ow σ H ρ g ds g' Q s e w => by cases e; exact w [] H α Ext.refl s BRepAll.nil⟩
theorem ac_nil : AC X [] aNil := ⟨fun ρ g ds g' e => by cases e; rfl, _, pa_nil, fun G α ow σ H ρ g ds g' Q s e w => by cases e; exact w [] H α Ext.refl s RepAll.nil⟩
theorem ab_cons (ha : EB X e f) (hr : AB X es fs) (hs : starEach (e :: es) X.env = (false, eval e X.env) :: starEach es X.env := by rfl) : AB X (e :: es) (aCons f fs) := by
  obtain ⟨t, pt, hq⟩ := ha
  obtain ⟨t1, pt1, hq1⟩ := hr
  refine ⟨_, pa_cons pt pt1 hs, fun G α ow σ H ρ g ds g' Q s e w => ?_⟩
  obtain ⟨x, g1, e1, e2⟩ := bindM_some e
  obtain ⟨xs, g2, e4, e3⟩ := bindM_some e2
  obtain ⟨e3, rfl⟩ := liftM_some e3
  cases e3
  refine hq G α ow σ H ρ g x g1 _ s e1 fun v H1 α1 x1 s1 r1 => ?_
  refine hq1 G α1 ow σ H1 ρ g1 xs g2 _ s1 e4 fun vs H2 α2 x2 s2 r2 => ?_
  exact w _ H2 α2 (x1.trans x2) s2 (.cons (r1.ext x2) r2)
theorem ac_cons (ha : EC X e f) (hr : AC X es fs) (hs : starEach (e :: es) X.env = (false, eval e X.env) :: starEach es X.env := by rfl) : AC X (e :: es) (aCons f fs) := by
  obtain ⟨t, pt, hq⟩ := ha
  obtain ⟨l1, t1, pt1, hq1⟩ := hr
  refine ⟨fun ρ g ds g' e => ?_, _, pa_cons pt pt1 hs, fun G α ow σ H ρ g ds g' Q s e w => ?_⟩
  · obtain ⟨x, g1, e1, e2⟩ := bindM_some e
    obtain ⟨xs, g2, e4, e3⟩ := bindM_some e2
    obtain ⟨e3, rfl⟩ := liftM_some e3
    cases e3
    rw [List.length_cons, List.length_cons, l1 _ _ _ _ e4]
  obtain ⟨x, g1, e1, e2⟩ := bindM_some e
  obtain ⟨xs, g2, e4, e3⟩ := bindM_some e2
  obtain ⟨e3, rfl⟩ := liftM_some e3
  cases e3
  refine hq G α ow σ H ρ g x g1 _ s e1 fun v H1 α1 x1 s1 r1 => ?_
  refine hq1 G α1 ow σ H1 ρ g1 xs g2 _ s1 e4 fun vs H2 α2 x2 s2 r2 => ?_
  exact w _ H2 α2 (x1.trans x2) s2 (.cons (r1.ext x2) r2)
def dTup (xs : List D) : Option D := if xs.length ≤ BIG then some (.tup xs) else none
def dLst (xs : List D) : Option (List D) := if xs.length ≤ BIG then some xs else none
theorem ec_tup {x1} (h : AC X es fs) : EC X (.Tuple es x1 pos) (eFn dTup fs) := by
  obtain ⟨_, t, pt, hq⟩ := h
  refine ⟨_, pe_tup pt, fun G α ow σ H ρ g ds g' Q s e w => ?_⟩
  obtain ⟨xs, g1, e1, e2⟩ := bindM_some e
  obtain ⟨e3, rfl⟩ := liftM_some e2
  unfold dTup at e3
  split at e3
  · rename_i hl
    cases e3
    refine hq G α ow σ H ρ g xs g1 _ s e1 fun vs H1 α1 x1 s1 r1 => ⟨by rw [r1.1]; exact Nat.le_trans hl big_line, fun p hp => ?_⟩
    exact w _ _ α1 (x1.trans (Ext.new hp)) (s1.new hp) (s1.newT hp r1)
  · cases e3

/-! ### new lists: values that a slot may own -/
def WantsF (K : PySem.W.Frag) (G : Gh) (α : List Addr) (ow : Nat → Option Addr) (σ : L2.St) (H : Hp) (ρ : Env3) (g' : Store) (ds : List D) (Q : VK) : Prop :=
  ∀ p vs H' α', Ext α H α' H' → Sat K G α' ow σ H' ρ g' → H' p = none → RepAll (Al G.B α' ow) α' K H' vs ds → ∀ H2, H2 = upd H' p (.lst vs) → Q (.ref p) H2
/-- a new list -/
def EF (X : Cx) (e : Expr) (f : DA) : Prop := ∃ t, PE X e t ∧ ∀ G α ow σ H ρ g ds g' Q, Sat X.K G α ow σ H ρ g → f ρ g = some (ds, g') → WantsF X.K G α ow σ H ρ g' ds Q → t σ H Q
def eL (f : DA) : DE := bindM f fun xs => liftM (some (.lst xs))
theorem EF.ec {fs : DA} (h : EF X e fs) : EC X e (eL fs) := by
  obtain ⟨t, pt, hq⟩ := h
  refine ⟨t, pt, fun G α ow σ H ρ g d g' Q s e w => ?_⟩
  obtain ⟨xs, g1, e1, e2⟩ := bindM_some e
  obtain ⟨e3, rfl⟩ := liftM_some e2
  cases e3
  refine hq G α ow σ H ρ g xs g1 _ s e1 fun p vs H1 α1 x1 s1 hp r H2 e => ?_
  subst e
  exact w _ _ α1 (x1.trans (Ext.new hp)) (s1.new hp) (s1.newL hp r)
def aFn (φ : List D → Option (List D)) (a : DA) : DA := bindM a fun xs => liftM (φ xs)
theorem ef_lst (h : AC X es fs) : EF X (.List es pos) (aFn dLst fs) := by
  obtain ⟨_, t, pt, hq⟩ := h
  refine ⟨_, pe_lst pt, fun G α ow σ H ρ g ds g' Q s e w => ?_⟩
  obtain ⟨xs, g1, e1, e2⟩ := bindM_some e
  obtain ⟨e3, rfl⟩ := liftM_some e2
  unfold dLst at e3
  split at e3
  · rename_i hl
    cases e3
    refine hq G α ow σ H ρ g ds g1 _ s e1 fun vs H1 α1 x1 s1 r1 => ⟨by rw [r1.1]; exact Nat.le_trans hl big_line, fun p hp => ?_⟩
    exact w p vs H1 α1 x1 s1 hp r1 _ rfl
  · cases e3
end
end
end L3

/-! L3c: statements, blocks, loops, comprehensions, defs. -/
namespace L3
open PySem PySem.Spec PyProof.Rows L2

inductive Out where
  | nx (ρ : Env3) | rt (d : D) | bk (ρ : Env3) | ct (ρ : Env3)
abbrev DS := Env3 → Store → Option (Out × Store)

/-- what is let in stays -/
def Fz (B : Addr → Prop) (α : List Addr) (ow : Nat → Option Addr) (H : Hp) (α' : List Addr) (ow' : Nat → Option Addr) (H' : Hp) : Prop :=
  (∀ a o, Al B α ow a → H a = some o → Al B α' ow' a ∧ H' a = some o) ∧ α <+: α'
theorem Fz.refl {B : Addr → Prop} {α : List Addr} {ow : Nat → Option Addr} {H : Hp} : Fz B α ow H α ow H := ⟨fun _ _ h e => ⟨h, e⟩, List.prefix_refl _⟩
theorem Fz.trans {B : Addr → Prop} {α α1 α2 : List Addr} {ow ow1 ow2 : Nat → Option Addr} {H H1 H2 : Hp} (a : Fz B α ow H α1 ow1 H1) (b : Fz B α1 ow1 H1 α2 ow2 H2) : Fz B α ow H α2 ow2 H2 :=
  ⟨fun x o h e => b.1 x o (a.1 x o h e).1 (a.1 x o h e).2, a.2.trans b.2⟩
theorem Ext.fz {B : Addr → Prop} {α α1 : List Addr} {ow : Nat → Option Addr} {H H1 : Hp} (e : Ext α H α1 H1) : Fz B α ow H α1 ow H1 := ⟨e.al, e.2.1⟩
theorem Rep.fz {B : Addr → Prop} {α α1 : List Addr} {ow ow1 : Nat → Option Addr} {H H1 : Hp} {K : PySem.W.Frag} {v : V} {d : D} (h : Rep (Al B α ow) α K H v d) (e : Fz B α ow H α1 ow1 H1) : Rep (Al B α1 ow1) α1 K H1 v d := h.mono e.1 e.2
theorem RepAll.fz {B : Addr → Prop} {α α1 : List Addr} {ow ow1 : Nat → Option Addr} {H H1 : Hp} {K : PySem.W.Frag} {v : List V} {d : List D} (h : RepAll (Al B α ow) α K H v d) (e : Fz B α ow H α1 ow1 H1) : RepAll (Al B α1 ow1) α1 K H1 v d := h.mono e.1 e.2

def WantsN (K : PySem.W.Frag) (G : Gh) (α : List Addr) (ow : Nat → Option Addr) (H : Hp) (ρ' : Env3) (g' : Store) (R : L2.St → Hp → Prop) : Prop :=
  ∀ σ' H' α' ow', Sat K G α' ow' σ' H' ρ' g' → Fz G.B α ow H α' ow' H' → R σ' H'
def Post (K : PySem.W.Frag) (G : Gh) (α : List Addr) (ow : Nat → Option Addr) (H : Hp) (out : Out) (g' : Store) (Dn : Ends) : Prop := match out with
  | .nx ρ' => WantsN K G α ow H ρ' g' Dn.nx
  | .bk ρ' => WantsN K G α ow H ρ' g' Dn.bk
  | .ct ρ' => WantsN K G α ow H ρ' g' Dn.ct
  | .rt d => ∀ v H' α', Ext G.α0 G.H0 α' H' → (∀ a, G.B a → (∃ o, H' a = some o) ∧ a ∉ α') → GOk (Al G.B α' no) α' g' K H' → Rep (Al G.B α' no) α' K H' v d → Dn.rt v H'
def SC (X : Cx) (st : Stmt) (f : DS) : Prop := ∃ t, PS X st t ∧ ∀ G α ow σ H ρ g out g' Dn, Sat X.K G α ow σ H ρ g → f ρ g = some (out, g') → Post X.K G α ow H out g' Dn → t Dn σ H
def BC (X : Cx) (sts : List Stmt) (f : DS) : Prop := ∃ t, PSs X sts t ∧ ∀ G α ow σ H ρ g out g' Dn, Sat X.K G α ow σ H ρ g → f ρ g = some (out, g') → Post X.K G α ow H out g' Dn → t Dn σ H
theorem Post.fz {K : PySem.W.Frag} {G : Gh} {α α1 : List Addr} {ow ow1 : Nat → Option Addr} {H H1 : Hp} {out : Out} {g' : Store} {Dn : Ends} (e : Fz G.B α ow H α1 ow1 H1) (p : Post K G α ow H out g' Dn) : Post K G α1 ow1 H1 out g' Dn := by
  cases out with
  | nx ρ' => exact fun σ' H' α' ow' s f => p σ' H' α' ow' s (e.trans f)
  | bk ρ' => exact fun σ' H' α' ow' s f => p σ' H' α' ow' s (e.trans f)
  | ct ρ' => exact fun σ' H' α' ow' s f => p σ' H' α' ow' s (e.trans f)
  | rt d => exact p

/-! ### the functions -/
def sNext : DS := fun ρ g => some (.nx ρ, g)
def sSeq (a b : DS) : DS := fun ρ g => match a ρ g with
  | some (.nx ρ1, g1) => b ρ1 g1
  | r => r
def sSet (i : Nat) (f : DE) : DS := fun ρ g => match f ρ g with
  | some (d, g1) => some (.nx (ρ.set i (some (.d d))), g1)
  | none => none
def sOwn (i : Nat) (f : DA) : DS := fun ρ g => match f ρ g with
  | some (ds, g1) => if i < ρ.length then some (.nx (ρ.set i (some (.own ds))), g1) else none
  | none => none
def sRet (f : DE) : DS := fun ρ g => match f ρ g with
  | some (d, g1) => some (.rt d, g1)
  | none => none
def sIf (c : DT) (a b : DS) : DS := fun ρ g => match c ρ g with
  | some (true, g1) => a ρ g1
  | some (false, g1) => b ρ g1
  | none => none
def sDrop (f : DE) : DS := fun ρ g => match f ρ g with
  | some (_, g1) => some (.nx ρ, g1)
  | none => none
def sFreeze (i : Nat) (f : DS) : DS := fun ρ g => match ρ[i]? with
  | some (some (.own xs)) => f (ρ.set i (some (.d (.lst xs)))) g
  | some (some (.ownd ds)) => f (ρ.set i (some (.d (.dic ds)))) g
  | _ => f ρ g
def sApp (i : Nat) (f : DE) : DS := fun ρ g => match ρ[i]? with
  | some (some (.own xs)) => match f ρ g with
    | some (d, g1) => if xs.length < BIG then some (.nx (ρ.set i (some (.own (xs ++ [d])))), g1) else none
    | none => none
  | _ => none
def sets (ρ : Env3) : List (Nat × D) → Env3
  | [] => ρ
  | (i, d) :: r => sets (ρ.set i (some (.d d))) r
def setsV (σ : L2.St) : List (Nat × V) → L2.St
  | [] => σ
  | (i, d) :: r => setsV (σ.set i (some d)) r
def forD (tg : D → Option (List (Nat × D))) (body : DS) : List D → DS
  | [], ρ, g => some (.nx ρ, g)
  | d :: ds, ρ, g => match tg d with
    | none => none
    | some as => match body (sets ρ as) g with
      | some (.nx ρ1, g1) => forD tg body ds ρ1 g1
      | some (.ct ρ1, g1) => forD tg body ds ρ1 g1
      | some (.bk ρ1, g1) => some (.nx ρ1, g1)
      | some (.rt d, g1) => some (.rt d, g1)
      | none => none
def sFor (it : DA) (tg : D → Option (List (Nat × D))) (body : DS) : DS := fun ρ g => match it ρ g with
  | some (ds, g1) => forD tg body ds ρ g1
  | none => none
def whileD (c : DT) (body : DS) : Nat → DS
  | 0, _, _ => none
  | n + 1, ρ, g => match c ρ g with
    | some (true, g1) => match body ρ g1 with
      | some (.nx ρ1, g2) => whileD c body n ρ1 g2
      | some (.ct ρ1, g2) => whileD c body n ρ1 g2
      | some (.bk ρ1, g2) => some (.nx ρ1, g2)
      | some (.rt d, g2) => some (.rt d, g2)
      | none => none
    | some (false, g1) => some (.nx ρ, g1)
    | none => none
def tgName (i : Nat) : D → Option (List (Nat × D)) := fun d => some [(i, d)]
def tgTup (ts : List D → Option (List (Nat × D))) : D → Option (List (Nat × D))
  | .tup xs => ts xs
  | _ => none
def tgsNil : List D → Option (List (Nat × D))
  | [] => some []
  | _ => none
def tgsCons (t : D → Option (List (Nat × D))) (ts : List D → Option (List (Nat × D))) : List D → Option (List (Nat × D))
  | x :: xs => match t x, ts xs with
    | some a, some b => some (a ++ b)
    | _, _ => none
  | [] => none
def sUnp (f : DE) (tg : D → Option (List (Nat × D))) : DS := fun ρ g => match f ρ g with
  | some (d, g1) => match tg d with
    | some as => some (.nx (sets ρ as), g1)
    | none => none
  | none => none

/-! ### what a store into a slot does -/
def off (ow : Nat → Option Addr) (i : Nat) : Nat → Option Addr := fun j => if j = i then none else ow j
def put (ow : Nat → Option Addr) (i : Nat) (p : Addr) : Nat → Option Addr := fun j => if j = i then some p else ow j
section
variable {K : PySem.W.Frag} {G : Gh} {α α' : List Addr} {ow : Nat → Option Addr} {σ : L2.St} {H H' : Hp} {ρ : Env3} {g g' : Store} {v : V} {d : D} {vs : List V} {ds : List D} {i : Nat}
theorem al_off {B : Addr → Prop} {a : Addr} (h : Al B α ow a) : Al B α (off ow i) a := ⟨h.1, h.2.1, fun j => by
  unfold off
  split
  · exact fun z => by cases z
  · exact h.2.2 j⟩
theorem al_no {B : Addr → Prop} {a : Addr} (h : Al B α ow a) : Al B α no a := ⟨h.1, h.2.1, fun j z => by cases z⟩
theorem Fz.off {B : Addr → Prop} : Fz B α ow H α (off ow i) H := ⟨fun a o h e => ⟨al_off h, e⟩, List.prefix_refl _⟩
theorem GOk.mono {A A' : Addr → Prop} (s : GOk A α g K H) (hA : ∀ a o, A a → H a = some o → A' a ∧ H' a = some o) (hs : ∀ a o, a ∈ α → H a = some o → H' a = some o) : GOk A' α g K H' :=
  ⟨s.len, s.nd, fun n a u h1 h2 => by
    have q := s.so n a u h1 h2
    cases u with
    | lst xs => obtain ⟨vs, q1, q2⟩ := q; exact ⟨vs, hs a _ (List.mem_of_getElem? h1) q1, q2.mono hA (List.prefix_refl _)⟩⟩
theorem SlotOk.mono {A A' : Addr → Prop} {o : Option Addr} {w : Option (Option V)} {x : SV} (h : SlotOk A α K H o w x) (hA : ∀ a u, A a → H a = some u → A' a ∧ H' a = some u) (ho : ∀ a u, o = some a → H a = some u → H' a = some u) : SlotOk A' α K H' o w x := by
  cases x with
  | d x => obtain ⟨y, h1, h2⟩ := h; exact ⟨y, h1, h2.mono hA (List.prefix_refl _)⟩
  | own xs => obtain ⟨a, vs, h1, h2, h3, h4⟩ := h; exact ⟨a, vs, h1, h2, ho a _ h1 h3, h4.mono hA (List.prefix_refl _)⟩
  | ownd xs => obtain ⟨a, vs, h1, h2, h3, h4, h5⟩ := h; exact ⟨a, vs, h1, h2, ho a _ h1 h3, h4, h5.mono hA (List.prefix_refl _)⟩
theorem Sat.set (s : Sat K G α ow σ H ρ g) (r : Rep (Al G.B α ow) α K H v d) : Sat K G α (off ow i) (σ.set i (some v)) H (ρ.set i (some (.d d))) g := by
  have hA : ∀ a (o : HO), Al G.B α ow a → H a = some o → Al G.B α (off ow i) a ∧ H a = some o := fun a o h e => ⟨al_off h, e⟩
  have ho : ∀ {j a}, off ow i j = some a → ow j = some a ∧ j ≠ i := fun {j a} h => by
    unfold off at h
    split at h
    · cases h
    · exact ⟨h, by assumption⟩
  refine ⟨s.ext, s.blk, by rw [List.length_set, List.length_set, s.len], s.gok.mono hA fun _ _ _ e => e, fun j a h => (by
    obtain ⟨q1, q2, q3, q4, q5⟩ := s.own j a (ho h).1
    exact ⟨q1, q2, q3, q4, by rw [List.getElem?_set_ne (Ne.symm (ho h).2)]; exact q5⟩), fun j k a h1 h2 => s.oinj j k a (ho h1).1 (ho h2).1, fun j x hx => ?_⟩
  by_cases hj : j = i
  · subst hj
    by_cases hl : j < ρ.length
    · rw [List.getElem?_set_self hl] at hx
      cases hx
      exact ⟨v, by rw [List.getElem?_set_self (by rw [s.len]; exact hl)], r.mono hA (List.prefix_refl _)⟩
    · rw [List.getElem?_eq_none (by rw [List.length_set]; omega)] at hx
      cases hx
  · rw [List.getElem?_set_ne (Ne.symm hj)] at hx
    rw [List.getElem?_set_ne (Ne.symm hj)]
    have q := s.slot j x hx
    have e : off ow i j = ow j := by unfold off; rw [if_neg hj]
    rw [e]
    exact q.mono hA fun _ _ _ e => e
theorem Sat.ret (s : Sat K G α ow σ H ρ g) : GOk (Al G.B α no) α g K H := s.gok.mono (fun a o h e => ⟨al_no h, e⟩) fun _ _ _ e => e
theorem Sat.brep (s : Sat K G α ow σ H ρ g) (r : BRep G.B α ow K H v d) : Rep (Al G.B α no) α K H v d := by
  have hA : ∀ a (o : HO), Al G.B α ow a → H a = some o → Al G.B α no a ∧ H a = some o := fun a o h e => ⟨al_no h, e⟩
  cases r with
  | of r => exact r.mono hA (List.prefix_refl _)
  | own h hn ho r =>
    have r' := r.mono hA (List.prefix_refl _)
    exact .lst ⟨hn, (s.own _ _ h).2.2.1, fun j z => by cases z⟩ (.inl ho) r'.1 r'.2
  | ownd h hn ho hk r =>
    have r' := r.mono hA (List.prefix_refl _)
    refine .dic ⟨hn, (s.own _ _ h).2.2.1, fun j z => by cases z⟩ (.inl ho) hk fun i p q h1 h2 => r'.2 i _ _ (by rw [List.getElem?_map, h1]; rfl) (by rw [List.getElem?_map, h2]; rfl)
/-- a slot owns a new list -/
theorem Sat.own1 (s : Sat K G α ow σ H ρ g) {p : Addr} (hi : i < ρ.length) (hp : H p = none) (r : RepAll (Al G.B α ow) α K H vs ds) :
    Sat K G α (put ow i p) (σ.set i (some (.ref p))) (upd H p (.lst vs)) (ρ.set i (some (.own ds))) g ∧ Fz G.B α ow H α (put ow i p) (upd H p (.lst vs)) := by
  have ne : ∀ {a : Addr} {o : HO}, H a = some o → a ≠ p := fun e => ne_of_none e hp
  have hA : ∀ a (o : HO), Al G.B α ow a → H a = some o → Al G.B α (put ow i p) a ∧ upd H p (.lst vs) a = some o := fun a o h e => by
    refine ⟨⟨h.1, h.2.1, fun j => ?_⟩, by rw [upd_ne (ne e)]; exact e⟩
    unfold put
    split
    · exact fun z => ne e (Option.some.inj z).symm
    · exact h.2.2 j
  have al := s.al hp
  refine ⟨⟨s.ext.trans (Ext.new hp), fun a h => ?_, by rw [List.length_set, List.length_set, s.len], s.gok.mono hA fun a o _ e => by rw [upd_ne (ne e)]; exact e, fun j a h => ?_, fun j k a h1 h2 => ?_, fun j x hx => ?_⟩, hA, List.prefix_refl _⟩
  · obtain ⟨⟨o, h1⟩, h2⟩ := s.blk a h
    exact ⟨⟨o, by rw [upd_ne (ne h1)]; exact h1⟩, h2⟩
  · unfold put at h
    split at h
    · cases h
      rename_i hj
      exact ⟨s.ext.fresh hp al.1, al.1, al.2.1, ⟨_, upd_same⟩, .own ds, by rw [hj, List.getElem?_set_self hi], rfl⟩
    · rename_i hj
      obtain ⟨h1, h2, h3, ⟨o, h4⟩, h5⟩ := s.own j a h
      exact ⟨h1, h2, h3, ⟨o, by rw [upd_ne (ne h4)]; exact h4⟩, by rw [List.getElem?_set_ne (Ne.symm hj)]; exact h5⟩
  · unfold put at h1 h2
    split at h1
    · split at h2
      · omega
      · cases h1
        exact absurd h2 (al.2.2 k)
    · split at h2
      · cases h2
        exact absurd h1 (al.2.2 j)
      · exact s.oinj j k a h1 h2
  · by_cases hj : j = i
    · subst hj
      by_cases hl : j < ρ.length
      · rw [List.getElem?_set_self hl] at hx
        cases hx
        exact ⟨p, vs, by unfold put; rw [if_pos rfl], by rw [List.getElem?_set_self (by rw [s.len]; exact hl)], upd_same, r.mono hA (List.prefix_refl _)⟩
      · rw [List.getElem?_eq_none (by rw [List.length_set]; omega)] at hx
        cases hx
    · rw [List.getElem?_set_ne (Ne.symm hj)] at hx
      rw [List.getElem?_set_ne (Ne.symm hj)]
      have q := s.slot j x hx
      have e : put ow i p j = ow j := by unfold put; rw [if_neg hj]
      rw [e]
      exact q.mono hA fun a u _ e => by rw [upd_ne (ne e)]; exact e
/-- the list that a slot owns is changed -/
theorem Sat.mut (s : Sat K G α ow σ H ρ g) {a : Addr} {xs : List D} (ho : ow i = some a) (hi : i < ρ.length) (hv : σ[i]? = some (some (.ref a))) (r : RepAll (Al G.B α ow) α K H vs ds) :
    Sat K G α ow σ (upd H a (.lst vs)) (ρ.set i (some (.own ds))) g ∧ Fz G.B α ow H α ow (upd H a (.lst vs)) := by
  obtain ⟨o1, o2, o3, ⟨o, o4⟩, o5⟩ := s.own i a ho
  have hA : ∀ b (o : HO), Al G.B α ow b → H b = some o → Al G.B α ow b ∧ upd H a (.lst vs) b = some o := fun b o h e => ⟨h, by
    rw [upd_ne fun z => h.2.2 i (by rw [z]; exact ho)]; exact e⟩
  have tr : ∀ {b : Addr}, (∃ o, H b = some o) → ∃ o, upd H a (.lst vs) b = some o := fun {b} ⟨o, h⟩ => by
    by_cases e : b = a
    · rw [e]; exact ⟨_, upd_same⟩
    · exact ⟨o, by rw [upd_ne e]; exact h⟩
  refine ⟨⟨⟨fun b o h hn => ?_, s.ext.2.1, s.ext.2.2⟩, fun b h => ⟨tr (s.blk b h).1, (s.blk b h).2⟩, by rw [List.length_set, s.len], s.gok.mono hA fun b o hb e => by rw [upd_ne fun z => o2 (by rw [← z]; exact hb)]; exact e, fun j b h => ?_, s.oinj, fun j x hx => ?_⟩, hA, List.prefix_refl _⟩
  · rw [upd_ne fun z => by rw [z, o1] at h; cases h]
    exact s.ext.1 b o h hn
  · obtain ⟨h1, h2, h3, h4, h5⟩ := s.own j b h
    refine ⟨h1, h2, h3, tr h4, ?_⟩
    by_cases hj : j = i
    · subst hj
      exact ⟨.own ds, by rw [List.getElem?_set_self hi], rfl⟩
    · rw [List.getElem?_set_ne (Ne.symm hj)]
      exact h5
  · by_cases hj : j = i
    · subst hj
      rw [List.getElem?_set_self hi] at hx
      cases hx
      exact ⟨a, vs, ho, hv, upd_same, r.mono hA (List.prefix_refl _)⟩
    · rw [List.getElem?_set_ne (Ne.symm hj)] at hx
      have q := s.slot j x hx
      exact q.mono hA fun b u hb e => by
        rw [upd_ne fun z => hj (s.oinj j i a (by rw [← z]; exact hb) ho)]
        exact e
/-- a slot's list becomes data -/
theorem Sat.freeze (s : Sat K G α ow σ H ρ g) {xs : List D} (h : ρ[i]? = some (some (.own xs))) : Sat K G α (off ow i) σ H (ρ.set i (some (.d (.lst xs)))) g := by
  obtain ⟨a, vs, h1, h2, h3, h4⟩ := s.slot i _ h
  obtain ⟨o1, o2, o3, o4⟩ := s.own i a h1
  have hA : ∀ a (o : HO), Al G.B α ow a → H a = some o → Al G.B α (off ow i) a ∧ H a = some o := fun a o h e => ⟨al_off h, e⟩
  have ho : ∀ {j a}, off ow i j = some a → ow j = some a ∧ j ≠ i := fun {j a} h => by
    unfold off at h
    split at h
    · cases h
    · exact ⟨h, by assumption⟩
  have hi : i < ρ.length := (List.getElem?_eq_some_iff.mp h).1
  refine ⟨s.ext, s.blk, by rw [List.length_set, s.len], s.gok.mono hA fun _ _ _ e => e, fun j a h => (by
    obtain ⟨q1, q2, q3, q4, q5⟩ := s.own j a (ho h).1
    exact ⟨q1, q2, q3, q4, by rw [List.getElem?_set_ne (Ne.symm (ho h).2)]; exact q5⟩), fun j k a h1 h2 => s.oinj j k a (ho h1).1 (ho h2).1, fun j x hx => ?_⟩
  by_cases hj : j = i
  · subst hj
    rw [List.getElem?_set_self hi] at hx
    cases hx
    have r' := h4.mono hA (List.prefix_refl _)
    refine ⟨_, h2, .lst ⟨o2, o3, fun k z => ?_⟩ (.inl h3) r'.1 r'.2⟩
    exact (ho z).2 (s.oinj k j a (ho z).1 h1)
  · rw [List.getElem?_set_ne (Ne.symm hj)] at hx
    have q := s.slot j x hx
    have e : off ow i j = ow j := by unfold off; rw [if_neg hj]
    rw [e]
    exact q.mono hA fun _ _ _ e => e
theorem Sat.freezed (s : Sat K G α ow σ H ρ g) {xs : List (DKey × D)} (h : ρ[i]? = some (some (.ownd xs))) : Sat K G α (off ow i) σ H (ρ.set i (some (.d (.dic xs)))) g := by
  obtain ⟨a, kvs, h1, h2, h3, hk, h4⟩ := s.slot i _ h
  obtain ⟨o1, o2, o3, o4⟩ := s.own i a h1
  have hA : ∀ a (o : HO), Al G.B α ow a → H a = some o → Al G.B α (off ow i) a ∧ H a = some o := fun a o h e => ⟨al_off h, e⟩
  have ho : ∀ {j a}, off ow i j = some a → ow j = some a ∧ j ≠ i := fun {j a} h => by
    unfold off at h
    split at h
    · cases h
    · exact ⟨h, by assumption⟩
  have hi : i < ρ.length := (List.getElem?_eq_some_iff.mp h).1
  refine ⟨s.ext, s.blk, by rw [List.length_set, s.len], s.gok.mono hA fun _ _ _ e => e, fun j a h => (by
    obtain ⟨q1, q2, q3, q4, q5⟩ := s.own j a (ho h).1
    exact ⟨q1, q2, q3, q4, by rw [List.getElem?_set_ne (Ne.symm (ho h).2)]; exact q5⟩), fun j k a h1 h2 => s.oinj j k a (ho h1).1 (ho h2).1, fun j x hx => ?_⟩
  by_cases hj : j = i
  · subst hj
    rw [List.getElem?_set_self hi] at hx
    cases hx
    have r' := h4.mono hA (List.prefix_refl _)
    refine ⟨_, h2, .dic ⟨o2, o3, fun k z => ?_⟩ (.inl h3) hk fun i p q h1 h2 => r'.2 i _ _ (by rw [List.getElem?_map, h1]; rfl) (by rw [List.getElem?_map, h2]; rfl)⟩
    exact (ho z).2 (s.oinj k j a (ho z).1 h1)
  · rw [List.getElem?_set_ne (Ne.symm hj)] at hx
    have q := s.slot j x hx
    have e : off ow i j = ow j := by unfold off; rw [if_neg hj]
    rw [e]
    exact q.mono hA fun _ _ _ e => e
end

/-! ### statements -/
section
variable {X : Cx} {st : Stmt} {sts : List Stmt} {e c : Expr} {fe : DE} {fa : DA} {fc : DT} {f f1 f2 : DS} {pos : Pos}
theorem bc_nil : BC X [] sNext := ⟨_, pss_nil, fun G α ow σ H ρ g out g' Dn s e p => by cases e; exact p σ H α ow s Fz.refl⟩
theorem bc_cons (h1 : SC X st f1) (h2 : BC X sts f2) : BC X (st :: sts) (sSeq f1 f2) := by
  obtain ⟨t1, p1, q1⟩ := h1
  obtain ⟨t2, p2, q2⟩ := h2
  refine ⟨_, pss_cons p1 p2, fun G α ow σ H ρ g out g' Dn s e p => ?_⟩
  unfold sSeq at e
  split at e
  · rename_i ρ1 g1 e1
    exact q1 G α ow σ H ρ g _ g1 { Dn with nx := t2 Dn } s e1 fun σ' H' α' ow' s' z => q2 G α' ow' σ' H' ρ1 g1 out g' Dn s' e (p.fz z)
  · rename_i hn
    refine q1 G α ow σ H ρ g out g' { Dn with nx := t2 Dn } s e ?_
    cases out with
    | nx ρ' => exact absurd e (hn ρ' g')
    | bk ρ' => exact p
    | ct ρ' => exact p
    | rt d => exact p
theorem bc_one (h1 : SC X st f1) : BC X [st] f1 := by
  obtain ⟨t1, p1, q1⟩ := h1
  exact ⟨_, pss_one p1, q1⟩
theorem bc_freeze (i : Nat) (h : BC X sts f) : BC X sts (sFreeze i f) := by
  obtain ⟨t, p, q⟩ := h
  refine ⟨t, p, fun G α ow σ H ρ g out g' Dn s e w => ?_⟩
  unfold sFreeze at e
  split at e
  · rename_i xs hx
    exact q G α (off ow i) σ H _ g out g' Dn (s.freeze hx) e (w.fz Fz.off)
  · rename_i xs hx
    exact q G α (off ow i) σ H _ g out g' Dn (s.freezed hx) e (w.fz Fz.off)
  · exact q G α ow σ H ρ g out g' Dn s e w
theorem sc_pass : SC X (.Pass pos) sNext := ⟨_, ps_pass, fun G α ow σ H ρ g out g' Dn s e p => by cases e; exact p σ H α ow s Fz.refl⟩
theorem sc_break : SC X (.Break pos) (fun ρ g => some (.bk ρ, g)) := ⟨_, ps_break, fun G α ow σ H ρ g out g' Dn s e p => by cases e; exact p σ H α ow s Fz.refl⟩
theorem sc_continue : SC X (.Continue pos) (fun ρ g => some (.ct ρ, g)) := ⟨_, ps_continue, fun G α ow σ H ρ g out g' Dn s e p => by cases e; exact p σ H α ow s Fz.refl⟩
theorem sc_ret (h : EB X e fe) : SC X (.Return (some e) pos) (sRet fe) := by
  obtain ⟨t, pt, hq⟩ := h
  refine ⟨_, ps_ret pt, fun G α ow σ H ρ g out g' Dn s e p => ?_⟩
  unfold sRet at e
  split at e
  · rename_i d g1 e1
    cases e
    exact hq G α ow σ H ρ g d g' _ s e1 fun v H' α' x s' r => p v H' α' s'.ext s'.blk s'.ret (s'.brep r)
  · cases e
theorem sc_retN : SC X (.Return none pos) (sRet (eC .non)) := by
  refine ⟨_, ps_retN, fun G α ow σ H ρ g out g' Dn s e p => ?_⟩
  cases e
  exact p .non H α s.ext s.blk s.ret .non
theorem sc_set {i : Nat} {x : Str} {pos' : Pos} (hN : X.N.Nodup) (he : EC X e fe) (hi : X.N[i]? = some x := by rfl) (hx : Loc X.env.scope x := by first | exact Or.inl rfl | exact Or.inr rfl) (hs : swapsWith e (some (.Name x pos')) pos.line X.env = pure false := by rfl)
    (hf : X.fn x = true ∨ X.env.scope.names.lookup x = some .local := by first | exact .inl rfl | exact .inr rfl | assumption) : SC X (.Assign [.Name x pos'] e pos) (sSet i fe) := by
  obtain ⟨t, pt, hq⟩ := he
  refine ⟨_, ps_set hN hi hx pt hs hf, fun G α ow σ H ρ g out g' Dn s e p => ?_⟩
  unfold sSet at e
  split at e
  · rename_i d g1 e1
    cases e
    exact hq G α ow σ H ρ g d g' _ s e1 fun v H' α' x s' r => p _ _ _ _ (s'.set r) (x.fz.trans Fz.off)
  · cases e
theorem sc_own {i : Nat} {x : Str} {pos' : Pos} (hN : X.N.Nodup) (he : EF X e fa) (hi : X.N[i]? = some x := by rfl) (hx : Loc X.env.scope x := by first | exact Or.inl rfl | exact Or.inr rfl) (hs : swapsWith e (some (.Name x pos')) pos.line X.env = pure false := by rfl)
    (hf : X.fn x = true ∨ X.env.scope.names.lookup x = some .local := by first | exact .inl rfl | exact .inr rfl | assumption) : SC X (.Assign [.Name x pos'] e pos) (sOwn i fa) := by
  obtain ⟨t, pt, hq⟩ := he
  refine ⟨_, ps_set hN hi hx pt hs hf, fun G α ow σ H ρ g out g' Dn s e p => ?_⟩
  unfold sOwn at e
  split at e
  · rename_i ds g1 e1
    split at e
    · rename_i hi
      cases e
      refine hq G α ow σ H ρ g ds g' _ s e1 fun q vs H' α' x s' hp r H2 e2 => ?_
      subst e2
      exact p _ _ _ _ (s'.own1 hi hp r).1 (x.fz.trans (s'.own1 hi hp r).2)
    · cases e
  · cases e
theorem sc_if {a b : List Stmt} (hc : TC X c fc) (ha : BC X a f1) (hb : BC X b f2) : SC X (.If c a b pos) (sIf fc f1 f2) := by
  obtain ⟨t, pt, hq⟩ := hc
  obtain ⟨t1, p1, q1⟩ := ha
  obtain ⟨t2, p2, q2⟩ := hb
  refine ⟨_, ps_if pt p1 p2, fun G α ow σ H ρ g out g' Dn s e p => ?_⟩
  unfold sIf at e
  split at e
  · rename_i g1 e1
    exact hq G α ow σ H ρ g true g1 _ s e1 fun H1 α1 x1 s1 => by
      rw [if_pos rfl]
      exact q1 G α1 ow σ H1 ρ g1 out g' Dn s1 e (p.fz x1.fz)
  · rename_i g1 e1
    exact hq G α ow σ H ρ g false g1 _ s e1 fun H1 α1 x1 s1 => by
      rw [if_neg (by decide)]
      exact q2 G α1 ow σ H1 ρ g1 out g' Dn s1 e (p.fz x1.fz)
  · cases e
theorem sc_drop (he : EB X e fe) (hs : swapsWith e none pos.line X.env = pure false := by rfl) : SC X (.Expr e pos) (sDrop fe) := by
  obtain ⟨t, pt, hq⟩ := he
  refine ⟨_, ps_expr pt hs, fun G α ow σ H ρ g out g' Dn s e p => ?_⟩
  unfold sDrop at e
  split at e
  · rename_i d g1 e1
    cases e
    exact hq G α ow σ H ρ g d g' _ s e1 fun v H' α' x s' r => p _ _ _ _ s' x.fz
  · cases e
/-- xs.append(e), xs a slot's own list -/
theorem sc_app {i : Nat} {x : Str} {p1 p2 p3 : Pos} (he : EC X e fe) (hN : X.N[i]? = some x := by rfl) (hv : Vis X.env.scope x := by first | exact Or.inl rfl | exact Or.inr (Or.inl rfl) | exact Or.inr (Or.inr rfl)) (hd : (x == ("__debug__" : Str)) = false := by decide) (hcd : (x == ("__classdict__" : Str)) = false := by decide)
    (hs1 : starEach [e] X.env = (false, eval e X.env) :: starEach [] X.env := by rfl)
    (hbase : attributeBase (.Name x p1) "append" X.env (eval (.Name x p1) X.env) = eval (.Name x p1) X.env := by rfl)
    (hfew : ((backTo p3 (starEach [e] X.env)).all (fun x => !x.1) && (backToKw p3 (keywordEach [] X.env)).all (fun x => x.1.isSome)
      && decide ([e].length + ([] : List Keyword).length + (if ([] : List Keyword).isEmpty then 0 else 1) < 30)) = true := by rfl)
    (hline : (p2.endLine == p3.line) = true := by rfl) (hplain : (backTo p3 (starEach [] X.env)).any (·.1) = false := by rfl)
    (hs : swapsWith (.Call (.Attribute (.Name x p1) "append" p2) [e] [] p3) none pos.line X.env = pure false := by rfl) :
    SC X (.Expr (.Call (.Attribute (.Name x p1) "append" p2) [e] [] p3) pos) (sApp i fe) := by
  obtain ⟨t, pt, hq⟩ := he
  refine ⟨_, ps_expr (pe_bm PySem.F.plainAttrs_list PySem.F.slot_list_append PySem.F.type_list_append mt_append (pe_var hN hv hd hcd) (pa_cons pt pa_nil hs1) hbase hfew hline hs1 hplain) hs, fun G α ow σ H ρ g out g' Dn s e p => ?_⟩
  unfold sApp at e
  split at e
  · rename_i xs hx
    split at e
    · rename_i d g1 e1
      split at e
      · rename_i hl
        cases e
        obtain ⟨a, vs, h1, h2, h3, h4⟩ := s.slot i _ hx
        refine ⟨_, h2, .inl ⟨rfl, vs, .inl (.inl h3)⟩, ?_⟩
        refine hq G α ow σ H ρ g d g' _ s e1 fun v H1 α1 x1 s1 r1 => ?_
        have h3' := x1.1 a _ h3 (s.own i a h1).2.1
        have r2 := (h4.ext x1).append (RepAll.one r1)
        refine ⟨a, vs, v, rfl, rfl, h3', by rw [h4.1]; exact Nat.lt_of_lt_of_le hl big_line, ?_⟩
        have m := s1.mut (xs := xs) h1 (List.getElem?_eq_some_iff.mp hx).1 h2 r2
        exact p _ _ _ _ m.1 (x1.fz.trans m.2)
      · cases e
    · cases e
  · cases e
end
end L3

/-! L3d: targets, what is walked, loops, comprehensions, defs. -/
namespace L3
open PySem PySem.Spec PyProof.Rows L2

/-! ### targets -/
def RepSets (A : Addr → Prop) (α : List Addr) (K : PySem.W.Frag) (H : Hp) (ws : List (Nat × V)) (as : List (Nat × D)) : Prop :=
  ws.map (·.1) = as.map (·.1) ∧ RepAll A α K H (ws.map (·.2)) (as.map (·.2))
theorem RepSets.append {A : Addr → Prop} {α : List Addr} {K : PySem.W.Frag} {H : Hp} {w1 w2 : List (Nat × V)} {a1 a2 : List (Nat × D)} (h1 : RepSets A α K H w1 a1) (h2 : RepSets A α K H w2 a2) : RepSets A α K H (w1 ++ w2) (a1 ++ a2) :=
  ⟨by rw [List.map_append, List.map_append, h1.1, h2.1], by rw [List.map_append, List.map_append]; exact h1.2.append h2.2⟩
theorem setsV_append (σ : L2.St) : ∀ w1 w2 : List (Nat × V), setsV σ (w1 ++ w2) = setsV (setsV σ w1) w2 := by
  intro w1
  induction w1 generalizing σ with
  | nil => intro w2; rfl
  | cons p r ih => intro w2; exact ih _ w2
def GC (X : Cx) (tg : Expr) (p : D → Option (List (Nat × D))) : Prop := ∃ t, PG X tg t ∧ ∀ A α σ H v d as Q, Rep A α X.K H v d → p d = some as → (∀ ws, RepSets A α X.K H ws as → Q (setsV σ ws) H) → t v σ H Q
def GCs (X : Cx) (es : List Expr) (p : List D → Option (List (Nat × D))) : Prop := (∀ ds as, p ds = some as → ds.length = (assignEach es X.env).length) ∧ ∃ t, PGs X es t ∧ ∀ A α σ H vs ds as Q, RepAll A α X.K H vs ds → p ds = some as → (∀ ws, RepSets A α X.K H ws as → Q (setsV σ ws) H) → t vs σ H Q
section
variable {X : Cx} {e : Expr} {es : List Expr} {pos : Pos}
theorem gc_name (i : Nat) {x : Str} (hN : X.N.Nodup) (hi : X.N[i]? = some x := by rfl) (hx : Loc X.env.scope x := by first | exact Or.inl rfl | exact Or.inr rfl) (hf : X.fn x = true ∨ X.env.scope.names.lookup x = some .local := by first | exact .inl rfl | exact .inr rfl | assumption) : GC X (.Name x pos) (tgName i) :=
  ⟨_, pg_name hN hi hx hf, fun A α σ H v d as Q r e w => by
    cases e
    exact w [(i, v)] ⟨rfl, RepAll.one r⟩⟩
theorem gcs_nil : GCs X [] tgsNil := by
  refine ⟨fun ds as e => ?_, _, pgs_nil, fun A α σ H vs ds as Q r e w => ?_⟩
  · cases ds with
    | nil => rfl
    | cons x r => cases e
  · cases ds with
    | nil => cases e; exact ⟨r.unnil, w [] ⟨rfl, RepAll.nil⟩⟩
    | cons x r => cases e
theorem tgsCons_some {t : D → Option (List (Nat × D))} {ts : List D → Option (List (Nat × D))} {ds : List D} {as : List (Nat × D)} (h : tgsCons t ts ds = some as) : ∃ x xs a b, ds = x :: xs ∧ t x = some a ∧ ts xs = some b ∧ as = a ++ b := by
  unfold tgsCons at h
  split at h
  · rename_i x xs
    split at h
    · rename_i a b h1 h2
      cases h
      exact ⟨x, xs, a, b, rfl, h1, h2, rfl⟩
    · cases h
  · cases h
theorem gcs_cons {p : D → Option (List (Nat × D))} {ps : List D → Option (List (Nat × D))} (h1 : GC X e p) (h2 : GCs X es ps) (hs : (assignEach (e :: es) X.env).map (·.2) = assign e X.env :: (assignEach es X.env).map (·.2) := by rfl)
    (hl : (assignEach (e :: es) X.env).length = (assignEach es X.env).length + 1 := by rfl) : GCs X (e :: es) (tgsCons p ps) := by
  obtain ⟨t1, p1, q1⟩ := h1
  obtain ⟨l2, t2, p2, q2⟩ := h2
  refine ⟨fun ds as e => ?_, _, pgs_cons p1 p2 hs, fun A α σ H vs ds as Q r e w => ?_⟩
  · obtain ⟨x, xs, a, b, rfl, e1, e2, rfl⟩ := tgsCons_some e
    rw [hl, List.length_cons, l2 _ _ e2]
  · obtain ⟨x, xs, a, b, rfl, e1, e2, rfl⟩ := tgsCons_some e
    obtain ⟨v, vr, rfl, r1, r2⟩ := r.uncons
    refine ⟨v, vr, rfl, q1 A α σ H v x a _ r1 e1 fun w1 s1 => q2 A α _ H vr xs b _ r2 e2 fun w2 s2 => ?_⟩
    rw [← setsV_append]
    exact w _ (s1.append s2)
theorem gc_tup {k : Nat} {ps : List D → Option (List (Nat × D))} (hc : X.calm = true) (h : GCs X es ps) (hst : (assignEach es X.env).findIdx? (·.1) = none := by rfl) : GC X (.Tuple es k pos) (tgTup ps) := by
  obtain ⟨l, t, pt, q⟩ := h
  refine ⟨_, pg_tup hc pt rfl hst, fun A α σ H v d as Q r e w => ?_⟩
  unfold tgTup at e
  split at e
  · cases r with
    | tup hs hl hi => exact ⟨_, _, rfl, hs.sq, by rw [hl]; exact l _ _ e, q A α σ H _ _ as Q ⟨hl, hi⟩ e w⟩
  · cases e
end
section
variable {K : PySem.W.Frag} {G : Gh} {α : List Addr} {H : Hp} {g : Store}
theorem Sat.sets : ∀ {as : List (Nat × D)} {ws : List (Nat × V)} {ow : Nat → Option Addr} {σ : L2.St} {ρ : Env3}, Sat K G α ow σ H ρ g → RepSets (Al G.B α ow) α K H ws as →
    ∃ ow', Sat K G α ow' (setsV σ ws) H (L3.sets ρ as) g ∧ Fz G.B α ow H α ow' H
  | [], ws, ow, σ, ρ, s, r => by
    have e : ws = [] := by
      cases ws with
      | nil => rfl
      | cons x r => exact absurd r.1 (by simp)
    subst e
    exact ⟨ow, s, Fz.refl⟩
  | (i, d) :: as, ws, ow, σ, ρ, s, r => by
    cases ws with
    | nil => exact absurd r.1 (by simp)
    | cons w ws =>
      obtain ⟨j, v⟩ := w
      obtain ⟨r1, r2⟩ := r
      rw [List.map_cons, List.map_cons] at r1 r2
      obtain ⟨v', vr, ev, r3, r4⟩ := r2.uncons
      have ej : j = i := (List.cons.inj r1).1
      have e1 := (List.cons.inj ev).1
      have e2 := (List.cons.inj ev).2
      subst ej e1 e2
      obtain ⟨ow', s', f'⟩ := Sat.sets (s.set (i := j) r3) ⟨(List.cons.inj r1).2, r4.fz Fz.off⟩
      exact ⟨ow', s', Fz.off.trans f'⟩
end

/-! ### what is walked -/
def FzB (B : Addr → Prop) (α : List Addr) (ow : Nat → Option Addr) (H : Hp) (B' : Addr → Prop) (α' : List Addr) (ow' : Nat → Option Addr) (H' : Hp) : Prop :=
  (∀ a o, Al B α ow a → H a = some o → Al B' α' ow' a ∧ H' a = some o) ∧ α <+: α'
def WalkD (K : PySem.W.Frag) (B : Addr → Prop) (α : List Addr) (ow : Nat → Option Addr) (H : Hp) (J : It) (ds : List D) : Prop :=
  ∀ G2 α2 ow2 σ2 H2 ρ2 g2 (i : Nat), Sat K G2 α2 ow2 σ2 H2 ρ2 g2 → FzB B α ow H G2.B α2 ow2 H2 → (ds.length ≤ i → J.stop i H2) ∧
    ∀ d, ds[i]? = some d → J.go i H2 ∧ ∀ x H3, J.yld i H2 x H3 → Ext α2 H2 α2 H3 ∧ Sat K G2 α2 ow2 σ2 H3 ρ2 g2 ∧ Rep (Al G2.B α2 ow2) α2 K H3 x d
def IC (X : Cx) (tg iter : Expr) (f : DA) : Prop := ∃ wi, PI X tg iter wi ∧ ∀ G α ow σ H ρ g ds g' (R : It → Hp → Prop), Sat X.K G α ow σ H ρ g → f ρ g = some (ds, g') →
  (∀ J H' α', Ext α H α' H' → Sat X.K G α' ow σ H' ρ g' → WalkD X.K G.B α' ow H' J ds → R J H') → wi σ H R
theorem PI.or {X : Cx} {tg iter : Expr} {w1 w2 : TI} (h1 : PI X tg iter w1) (h2 : PI X tg iter w2) : PI X tg iter (fun σ H R => w1 σ H R ∨ w2 σ H R) :=
  ⟨fun pins s σ H R I h => h.elim (h1.run pins s σ H R I) (h2.run pins s σ H R I)⟩
def items : D → Option (List D)
  | .lst xs => some xs
  | .tup xs => some xs
  | .str s => some (s.map fun c => .str [c])
  | _ => none
def aItems (f : DE) : DA := bindM f fun x => liftM (items x)
section
variable {X : Cx} {tg e : Expr} {f : DE} {fs : DA}
theorem Rd.fzb {B B' : Addr → Prop} {α α' : List Addr} {ow ow' : Nat → Option Addr} {H H' : Hp} {a : Addr} {u : HO} (z : FzB B α ow H B' α' ow' H') (hA : Al B α ow a) (h : Rd H a u) : Rd H' a u := by
  rcases h with h | ⟨o, h⟩
  · exact .inl (z.1 a _ hA h).2
  · exact .inr ⟨o, (z.1 a _ hA h).2⟩
theorem ic_seq (he : EC X e f) : IC X tg e (aItems f) := by
  obtain ⟨t, pt, q⟩ := he
  refine ⟨_, (PI.or (pi_list pt) (PI.or (pi_tup pt) (pi_str pt))), fun G α ow σ H ρ g ds g' R s e w => ?_⟩
  obtain ⟨x, g1, e1, e2⟩ := bindM_some e
  obtain ⟨e3, rfl⟩ := liftM_some e2
  unfold items at e3
  split at e3
  · cases e3
    refine .inl (q G α ow σ H ρ g _ g1 _ s e1 fun v H' α' x s' r => ?_)
    cases r with
    | lst hA h hl hi =>
      rename_i a xs
      refine ⟨a, rfl, ⟨xs, .inl h⟩, w _ H' α' x s' fun G2 α2 ow2 σ2 H2 ρ2 g2 i s2 z => ⟨fun hi => ⟨xs, .inl (Rd.fzb z hA h), by rw [hl]; exact hi⟩, fun d hd => ?_⟩⟩
      obtain ⟨v, hv, rv⟩ := RepAll.get (show RepAll _ _ _ _ xs _ from ⟨hl, hi⟩) hd
      refine ⟨⟨xs, v, .inl (Rd.fzb z hA h), hv⟩, fun y H3 hy => ?_⟩
      obtain ⟨rfl, hy⟩ := hy
      have ey : y = v := Option.some.inj ((hy xs (.inl (Rd.fzb z hA h))).symm.trans hv)
      subst ey
      exact ⟨Ext.refl, s2, rv.mono z.1 z.2⟩
  · cases e3
    refine .inr (.inl (q G α ow σ H ρ g _ g1 _ s e1 fun v H' α' x s' r => ?_))
    cases r with
    | tup h hl hi =>
      rename_i a xs
      have st : ∀ {G2 : Gh} {α2 : List Addr} {ow2 : Nat → Option Addr} {H2 : Hp}, FzB G.B α' ow H' G2.B α2 ow2 H2 → SqT X.K H2 a xs := fun {G2 α2 ow2 H2} z => by
        rcases h with h | h
        · exact .inl (Rd.fzb z h.1 h.2)
        · exact .inr h
      refine ⟨a, rfl, ⟨xs, h.sq⟩, w _ H' α' x s' fun G2 α2 ow2 σ2 H2 ρ2 g2 i s2 z => ⟨fun hi => ⟨xs, st z, by rw [hl]; exact hi⟩, fun d hd => ?_⟩⟩
      obtain ⟨v, hv, rv⟩ := RepAll.get (show RepAll _ _ _ _ xs _ from ⟨hl, hi⟩) hd
      refine ⟨⟨xs, v, st z, hv⟩, fun y H3 hy => ?_⟩
      obtain ⟨rfl, hy⟩ := hy
      have ey : y = v := Option.some.inj ((hy xs (st z)).symm.trans hv)
      subst ey
      exact ⟨Ext.refl, s2, rv.mono z.1 z.2⟩
  · rename_i z
    cases e3
    refine .inr (.inr (q G α ow σ H ρ g _ g1 _ s e1 fun v H' α' x s' r => ?_))
    cases r
    refine ⟨_, rfl, w _ H' α' x s' fun G2 α2 ow2 σ2 H2 ρ2 g2 i s2 zz => ⟨fun hi => ?_, fun d hd => ?_⟩⟩
    · rw [List.length_map] at hi
      show (S z).cps.size ≤ i
      simpa [S] using hi
    · rw [List.getElem?_map, Option.map_eq_some_iff] at hd
      obtain ⟨c, hc, rfl⟩ := hd
      have hi := (List.getElem?_eq_some_iff.mp hc).1
      refine ⟨by show i < (S z).cps.size; simpa [S] using hi, fun y H3 hy => ?_⟩
      obtain ⟨rfl, c', hc', rfl⟩ := hy
      have ec : c' = c := by
        have q : (S z).cps[i]? = some c := by simpa [S] using hc
        exact Option.some.inj (hc'.symm.trans q)
      subst ec
      exact ⟨Ext.refl, s2, .str [c']⟩
  · cases e3
def rangeD (lo : Int) (n : Nat) : List D := (List.range n).map fun (i : Nat) => .int (lo + (i : Int))
theorem walk_rangeD {K : PySem.W.Frag} {B : Addr → Prop} {α : List Addr} {ow : Nat → Option Addr} {H : Hp} (lo : Int) (n : Nat) : WalkD K B α ow H (Itr lo n) (rangeD lo n) := fun G2 α2 ow2 σ2 H2 ρ2 g2 i s2 z => by
  refine ⟨fun hi => ?_, fun d hd => ?_⟩
  · unfold rangeD at hi
    rw [List.length_map, List.length_range] at hi
    exact hi
  · unfold rangeD at hd
    rw [List.getElem?_map, Option.map_eq_some_iff] at hd
    obtain ⟨c, hc, rfl⟩ := hd
    obtain ⟨hi, ec⟩ := List.getElem?_eq_some_iff.mp hc
    rw [List.length_range] at hi
    rw [List.getElem_range] at ec
    subst ec
    refine ⟨hi, fun y H3 hy => ?_⟩
    obtain ⟨rfl, rfl⟩ := hy
    exact ⟨Ext.refl, s2, .int _⟩
def dRange1 : List D → Option (List D)
  | [.int j] => if -1000000 ≤ j ∧ j ≤ 1000000 then some (rangeD 0 j.toNat) else none
  | _ => none
def dRange2 : List D → Option (List D)
  | [.int i, .int j] => if -1000000 ≤ i ∧ i ≤ 1000000 ∧ -1000000 ≤ j ∧ j ≤ 1000000 then some (rangeD i (j - i).toNat) else none
  | _ => none
theorem BRepAll.one1 {B : Addr → Prop} {α : List Addr} {ow : Nat → Option Addr} {K : PySem.W.Frag} {H : Hp} {vs : List V} {d : D} (h : BRepAll B α ow K H vs [d]) : ∃ v, vs = [v] ∧ BRep B α ow K H v d := by
  obtain ⟨v, r, rfl, h1, h2⟩ := h.uncons
  rw [h2.unnil]
  exact ⟨v, rfl, h1⟩
theorem BRepAll.two {B : Addr → Prop} {α : List Addr} {ow : Nat → Option Addr} {K : PySem.W.Frag} {H : Hp} {vs : List V} {d d2 : D} (h : BRepAll B α ow K H vs [d, d2]) : ∃ v w, vs = [v, w] ∧ BRep B α ow K H v d ∧ BRep B α ow K H w d2 := by
  obtain ⟨v, r, rfl, h1, h2⟩ := h.uncons
  obtain ⟨w, rfl, h3⟩ := h2.one1
  exact ⟨v, w, rfl, h1, h3⟩
theorem ic_range1 {a : Expr} {p pos : Pos} (hm : X.mg "range" = none) (ha : AB X [a] fs) (hg : Gl X "range" := by rfl) (hs : starEach [a] X.env = [(false, eval a X.env)] := by rfl) : IC X tg (.Call (.Name "range" p) [a] [] pos) (aFn dRange1 fs) := by
  obtain ⟨t, pt, q⟩ := ha
  refine ⟨_, pi_range1 hg hm pt hs, fun G α ow σ H ρ g ds g' R s e w => ?_⟩
  obtain ⟨xs, g1, e1, e2⟩ := bindM_some e
  obtain ⟨e3, rfl⟩ := liftM_some e2
  refine q G α ow σ H ρ g xs g1 _ s e1 fun vs H' α' x s' r => ?_
  unfold dRange1 at e3
  split at e3
  · split at e3
    · rename_i hj
      cases e3
      obtain ⟨v, rfl, r1⟩ := BRepAll.one1 r
      rw [r1.int]
      refine ⟨_, rfl, ?_, ?_, w _ H' α' x s' (walk_rangeD 0 _)⟩
      · exact Int.le_trans (by decide) hj.1
      · exact Int.lt_of_le_of_lt hj.2 (by decide)
    · cases e3
  · cases e3
theorem ic_range2 {a b : Expr} {p pos : Pos} (hm : X.mg "range" = none) (ha : AB X [a, b] fs) (hg : Gl X "range" := by rfl) (hs : starEach [a, b] X.env = [(false, eval a X.env), (false, eval b X.env)] := by rfl) (hs2 : starEach [b] X.env = [(false, eval b X.env)] := by rfl) : IC X tg (.Call (.Name "range" p) [a, b] [] pos) (aFn dRange2 fs) := by
  obtain ⟨t, pt, q⟩ := ha
  refine ⟨_, pi_range2 hg hm pt hs hs2, fun G α ow σ H ρ g ds g' R s e w => ?_⟩
  obtain ⟨xs, g1, e1, e2⟩ := bindM_some e
  obtain ⟨e3, rfl⟩ := liftM_some e2
  refine q G α ow σ H ρ g xs g1 _ s e1 fun vs H' α' x s' r => ?_
  unfold dRange2 at e3
  split at e3
  · split at e3
    · rename_i hj
      cases e3
      obtain ⟨v, v2, rfl, r1, r2⟩ := BRepAll.two r
      rw [r1.int, r2.int]
      refine ⟨_, _, rfl, ⟨Int.le_trans (by decide) hj.1, Int.lt_of_le_of_lt hj.2.1 (by decide), Int.le_trans (by decide) hj.2.2.1, Int.lt_of_le_of_lt hj.2.2.2 (by decide)⟩, w _ H' α' x s' (walk_rangeD _ _)⟩
    · cases e3
  · cases e3
end

/-! ### loops -/
section
variable {X : Cx} {tg iter c : Expr} {body : List Stmt} {it : DA} {p : D → Option (List (Nat × D))} {fb : DS} {fc : DT} {pos : Pos}
theorem sc_for (hi : IC X tg iter it) (hg : GC X tg p) (hb : BC X body fb) (hp : PassesOwn (model X.prog X.w) X.A X.env X.xe := by exact PassesOwn.never) (hc : X.calm = true := by rfl) (hs : ∀ x, foldedSetIterable iter X.env x = pure x := by intro _; rfl) :
    SC X (.For tg iter body [] pos) (sFor it p fb) := by
  obtain ⟨wi, pwi, qi⟩ := hi
  obtain ⟨tg', pg, qg⟩ := hg
  obtain ⟨tb, pb, qb⟩ := hb
  refine ⟨_, ps_for hp hc pwi pg pb hs, fun G α ow σ H ρ g out g' Dn s e w => ?_⟩
  unfold sFor at e
  split at e
  · rename_i ds g1 e1
    refine qi G α ow σ H ρ g ds g1 _ s e1 fun J H1 α1 x1 s1 wk => ?_
    have w1 : Post X.K G α1 ow H1 out g' Dn := w.fz x1.fz
    refine ⟨fun i m σ2 H2 => m = ds.length - i ∧ i ≤ ds.length ∧ ∃ α2 ow2 ρ2 g2, Sat X.K G α2 ow2 σ2 H2 ρ2 g2 ∧ Fz G.B α1 ow H1 α2 ow2 H2 ∧ forD p fb (ds.drop i) ρ2 g2 = some (out, g'),
      ⟨_, rfl, Nat.zero_le _, α1, ow, ρ, g1, s1, Fz.refl, e⟩, ?_⟩
    rintro i m σ2 H2 ⟨rfl, hi, α2, ow2, ρ2, g2, s2, z2, e2⟩
    have wk2 := wk G α2 ow2 σ2 H2 ρ2 g2 i s2 z2
    by_cases hlt : i < ds.length
    · have ed : ds[i]? = some ds[i] := List.getElem?_eq_getElem hlt
      obtain ⟨go, yl⟩ := wk2.2 _ ed
      rw [List.drop_eq_getElem_cons hlt] at e2
      refine .inr ⟨go, fun σ3 H3 => ∃ α3 ow3 ρ3 g3, Sat X.K G α3 ow3 σ3 H3 ρ3 g3 ∧ Fz G.B α1 ow H1 α3 ow3 H3 ∧ forD p fb (ds.drop (i + 1)) ρ3 g3 = some (out, g'), fun σ3 H3 ⟨α3, ow3, ρ3, g3, s3, z3, e3⟩ => ⟨ds.length - (i + 1), by omega, rfl, hlt, α3, ow3, ρ3, g3, s3, z3, e3⟩, fun x H3 hy => ?_⟩
      obtain ⟨x3, s3, r3⟩ := yl x H3 hy
      unfold forD at e2
      split at e2
      · cases e2
      · rename_i as has
        refine qg _ _ σ2 H3 x _ as _ r3 has fun ws rs => ?_
        obtain ⟨ow4, s4, z4⟩ := s3.sets rs
        have z34 : Fz G.B α1 ow H1 α2 ow4 H3 := (z2.trans x3.fz).trans z4
        split at e2
        · rename_i ρ5 g5 e5
          exact qb G α2 ow4 _ H3 _ g2 _ g5 _ s4 e5 fun σ' H' α' ow' s' z' => ⟨α', ow', ρ5, g5, s', z34.trans z', e2⟩
        · rename_i ρ5 g5 e5
          exact qb G α2 ow4 _ H3 _ g2 _ g5 _ s4 e5 fun σ' H' α' ow' s' z' => ⟨α', ow', ρ5, g5, s', z34.trans z', e2⟩
        · rename_i ρ5 g5 e5
          cases e2
          exact qb G α2 ow4 _ H3 _ g2 _ _ _ s4 e5 fun σ' H' α' ow' s' z' => w1 σ' H' α' ow' s' (z34.trans z')
        · rename_i d5 g5 e5
          cases e2
          exact qb G α2 ow4 _ H3 _ g2 _ _ _ s4 e5 w1
        · cases e2
    · have ei : i = ds.length := by omega
      subst ei
      rw [List.drop_length] at e2
      cases e2
      exact .inl ⟨wk2.1 (Nat.le_refl _), w1 σ2 H2 α2 ow2 s2 z2⟩
  · cases e
theorem sc_while (n : Nat) (hc : TC X c fc) (hb : BC X body fb) (hp : PassesOwn (model X.prog X.w) X.A X.env X.xe := by exact PassesOwn.never) : SC X (.While c body [] pos) (whileD fc fb n) := by
  obtain ⟨tc, pc, qc⟩ := hc
  obtain ⟨tb, pb, qb⟩ := hb
  refine ⟨_, ps_while hp pc pb, fun G α ow σ H ρ g out g' Dn s e w => ?_⟩
  refine ⟨fun m σ2 H2 => ∃ α2 ow2 ρ2 g2, Sat X.K G α2 ow2 σ2 H2 ρ2 g2 ∧ Fz G.B α ow H α2 ow2 H2 ∧ whileD fc fb m ρ2 g2 = some (out, g'), ⟨n, α, ow, ρ, g, s, Fz.refl, e⟩, ?_⟩
  rintro m σ2 H2 ⟨α2, ow2, ρ2, g2, s2, z2, e2⟩
  cases m with
  | zero => cases e2
  | succ m =>
    unfold whileD at e2
    split at e2
    · rename_i g3 e3
      refine qc G α2 ow2 σ2 H2 ρ2 g2 true g3 _ s2 e3 fun H3 α3 x3 s3 => ?_
      rw [if_pos rfl]
      have z3 : Fz G.B α ow H α3 ow2 H3 := z2.trans x3.fz
      refine ⟨fun σ4 H4 => ∃ α4 ow4 ρ4 g4, Sat X.K G α4 ow4 σ4 H4 ρ4 g4 ∧ Fz G.B α ow H α4 ow4 H4 ∧ whileD fc fb m ρ4 g4 = some (out, g'), fun σ4 H4 ⟨α4, ow4, ρ4, g4, s4, z4, e4⟩ => ⟨m, Nat.lt_succ_self m, α4, ow4, ρ4, g4, s4, z4, e4⟩, ?_⟩
      split at e2
      · rename_i ρ5 g5 e5
        exact qb G α3 ow2 σ2 H3 ρ2 g3 _ g5 _ s3 e5 fun σ' H' α' ow' s' z' => ⟨α', ow', ρ5, g5, s', z3.trans z', e2⟩
      · rename_i ρ5 g5 e5
        exact qb G α3 ow2 σ2 H3 ρ2 g3 _ g5 _ s3 e5 fun σ' H' α' ow' s' z' => ⟨α', ow', ρ5, g5, s', z3.trans z', e2⟩
      · rename_i ρ5 g5 e5
        cases e2
        exact qb G α3 ow2 σ2 H3 ρ2 g3 _ _ _ s3 e5 fun σ' H' α' ow' s' z' => w σ' H' α' ow' s' (z3.trans z')
      · rename_i d5 g5 e5
        cases e2
        exact qb G α3 ow2 σ2 H3 ρ2 g3 _ _ _ s3 e5 w
      · cases e2
    · rename_i g3 e3
      cases e2
      refine qc G α2 ow2 σ2 H2 ρ2 g2 false _ _ s2 e3 fun H3 α3 x3 s3 => ?_
      rw [if_neg (by decide)]
      exact w σ2 H3 α3 ow2 s3 (z2.trans x3.fz)
    · cases e2
theorem sc_unp {e : Expr} {fe : DE} (he : EC X e fe) (hg : GC X tg p) (hs : swapsWithSole [tg] e pos.line X.env = pure false := by rfl) (hw : swappedStores [tg] e X.env = pure none := by rfl)
    (h1 : (assignEach [tg] X.env).map (·.2) = [assign tg X.env] := by rfl) : SC X (.Assign [tg] e pos) (sUnp fe p) := by
  obtain ⟨t, pt, hq⟩ := he
  obtain ⟨tg', pg, qg⟩ := hg
  refine ⟨_, ps_asg pt pg hs hw h1, fun G α ow σ H ρ g out g' Dn s e w => ?_⟩
  unfold sUnp at e
  split at e
  · rename_i d g1 e1
    split at e
    · rename_i as has
      cases e
      refine hq G α ow σ H ρ g d g' _ s e1 fun v H1 α1 x1 s1 r1 => ?_
      refine qg _ _ σ H1 v d as _ r1 has fun ws rs => ?_
      obtain ⟨ow2, s2, z2⟩ := s1.sets rs
      exact w _ _ _ _ s2 (x1.fz.trans z2)
    · cases e
  · cases e
end

/-! ### a def -/
def spD (K : PySem.W.Frag) (n : Nat) (φ : List D → Store → Option (D × Store)) : Sp := fun vs H Q _ => ∃ (B : Addr → Prop) (α : List Addr) (g : Store) (ds : List D) (d : D) (g' : Store), vs.length = n ∧ (∀ a, B a → (∃ o, H a = some o) ∧ a ∉ α) ∧
  GOk (Al B α no) α g K H ∧ RepAll (Al B α no) α K H vs ds ∧ φ ds g = some (d, g') ∧ ∀ v H' α', Ext α H α' H' → GOk (Al B α' no) α' g' K H' → Rep (Al B α' no) α' K H' v d → Q v H'
def start3 (n : Nat) (ds : List D) : Env3 := ds.map (fun d => some (.d d)) ++ List.replicate (n - ds.length) none
def runD (n : Nat) (f : DS) (ds : List D) (g : Store) : Option (D × Store) := match f (start3 n ds) g with
  | some (.rt d, g') => some (d, g')
  | some (.nx _, g') => some (.non, g')
  | _ => none
theorem start_sat {K : PySem.W.Frag} {N : List Str} {B : Addr → Prop} {α : List Addr} {g : Store} {H : Hp} {vs : List V} {ds : List D} (hb : ∀ a, B a → (∃ o, H a = some o) ∧ a ∉ α) (gk : GOk (Al B α no) α g K H) (r : RepAll (Al B α no) α K H vs ds) :
    Sat K ⟨B, H, α⟩ α no (L2.start N vs) H (start3 N.length ds) g := by
  refine ⟨Ext.refl, hb, ?_, gk, fun i a z => (by cases z), fun i j a z => (by cases z), fun i x hx => ?_⟩
  · unfold L2.start start3
    rw [List.length_append, List.length_append, List.length_map, List.length_map, List.length_replicate, List.length_replicate, r.1]
  · unfold start3 at hx
    unfold L2.start
    by_cases hi : i < ds.length
    · rw [List.getElem?_append_left (by simpa using hi), List.getElem?_map, Option.map_eq_some_iff] at hx
      obtain ⟨d, hd, e⟩ := hx
      cases e
      obtain ⟨v, hv, rv⟩ := r.get hd
      refine ⟨v, ?_, rv⟩
      rw [List.getElem?_append_left (by rw [List.length_map, r.1]; exact hi), List.getElem?_map, hv]
      rfl
    · rw [List.getElem?_append_right (by simpa using hi), List.getElem?_replicate] at hx
      split at hx <;> cases hx
theorem fn_ok {P : Program} {w : World} {K : PySem.W.Frag} {mg : Str → Option Value} {base : Heap} {x qual : Str} {st : Stmt} {f : Addr} {fd : FuncData} {N ps : List Str} {k : Nat} {fB : DS} (F : Fun K x qual st f fd) (Sc : FnScope N ps (defScope st))
    (hb : ∀ (cdv : Value) (A : Around) (outer : List Env) (s : Shared) (H : Hp) (E : XK), Room k (A.deeper (envOfC qual (defScope st) s.heap.objs.size f cdv)) → BC (cxOf CX0 P w K mg base N qual (defScope st) f cdv A outer s H E).nox (defBody st) fB) :
    FnOk P w K mg base CX0 (k + 1) f fd ps (spD K ps.length (runD N.length fB)) := by
  refine F.ok Sc (fun vs H Q E h => ?_) (fun cdv A outer s H vs Q E hr h => ?_)
  · obtain ⟨_, _, _, _, _, _, h, _⟩ := h
    exact h
  · obtain ⟨B, α, g, ds, d, g', hl, hB, gk, r, e, q⟩ := h
    obtain ⟨t, pt, qt⟩ := hb cdv A outer s H E hr
    refine ⟨t, pt, ?_⟩
    have s0 := start_sat (N := N) hB gk r
    unfold runD at e
    split at e
    · rename_i d' g1 e1
      cases e
      exact qt _ α no _ H _ g _ _ _ s0 e1 fun v H' α' x _ gk' r' => q v H' α' x gk' r'
    · rename_i ρ1 g1 e1
      cases e
      exact qt _ α no _ H _ g _ _ _ s0 e1 fun σ' H' α' ow' s' z => q .non H' α' s'.ext s'.ret .non
    · cases e
theorem ec_call {X : Cx} {k : Nat} {f : Addr} {fd : FuncData} {ps : List Str} {n : Nat} {φ : List D → Store → Option (D × Store)} {x : Str} {e : Expr} {es : List Expr} {fs : DA} {p pos : Pos}
    (F : FnOk X.prog X.w X.K X.mg X.base CX0 k f fd ps (spD X.K n φ)) (hr : Room k X.A) (hm : X.mg x = some (.ref f)) (hk : PySem.W.keepIn X.K (.ref f) = true) (hb : Binds X.K fd ps []) (ha : AC X (e :: es) fs)
    (hg : Gl X x := by rfl) (hdb : (x == ("__debug__" : Str)) = false := by decide) (he : starEach (e :: es) X.env = (false, eval e X.env) :: starEach es X.env := by rfl) (hpl : (backTo pos (starEach es X.env)).any (·.1) = false := by rfl) (hl : (e :: es).length = n := by rfl) :
    EC X (.Call (.Name x p) (e :: es) [] pos) (eApp φ fs) := by
  obtain ⟨hal, t, pt, q⟩ := ha
  refine ⟨_, pe_call F hr hg hm hk hb .nil pass0 pt hdb he hpl, fun G α ow σ H ρ g d g' Q s e w => ?_⟩
  obtain ⟨xs, g1, e1, e2⟩ := bindM_some e
  refine q G α ow σ H ρ g xs g1 _ s e1 fun vs H1 α1 x1 s1 r1 => ?_
  have hA : ∀ a (o : HO), Al G.B α1 ow a → H1 a = some o → Al (fun a => G.B a ∨ ∃ i, ow i = some a) α1 no a ∧ H1 a = some o := fun a o h e => ⟨⟨h.1, fun z => z.elim h.2.1 fun ⟨i, hi⟩ => h.2.2 i hi, fun i z => by cases z⟩, e⟩
  rw [List.append_nil]
  refine ⟨fun a => G.B a ∨ ∃ i, ow i = some a, α1, g1, xs, d, g', by rw [r1.1, hal _ _ _ _ e1]; exact hl, fun a h => ?_, s1.gok.mono hA fun _ _ _ e => e, r1.mono hA (List.prefix_refl _), e2, fun v H2 α2 x2 gk2 r2 => ?_⟩
  · rcases h with h | ⟨i, h⟩
    · exact s1.blk a h
    · obtain ⟨_, h2, _, h4, _⟩ := s1.own i a h
      exact ⟨h4, h2⟩
  · have hA2 : ∀ a (o : HO), Al (fun a => G.B a ∨ ∃ i, ow i = some a) α2 no a → H2 a = some o → Al G.B α2 ow a ∧ H2 a = some o := fun a o h e => ⟨⟨h.1, fun z => h.2.1 (.inl z), fun i z => h.2.1 (.inr ⟨i, z⟩)⟩, e⟩
    exact w v H2 α2 (x1.trans x2) (s1.step x2 (gk2.mono hA2 fun _ _ _ e => e)) (r2.mono hA2 (List.prefix_refl _))
end L3

/-! L3e: list comprehensions. -/
namespace L3
open PySem PySem.Spec PyProof.Rows L2

def wipe3 (ρ : Env3) : List Nat → Env3
  | [] => ρ
  | v :: vs => (wipe3 ρ vs).set v none
def noOwn (ρ : Env3) (vs : List Nat) : Bool := vs.all fun i => match ρ[i]? with
  | some (some x) => !x.isOwn
  | _ => true
def lcD (tg : D → Option (List (Nat × D))) (c : DT) (e : DE) : List D → DA
  | [], _, g => some ([], g)
  | d :: ds, ρ, g => match tg d with
    | none => none
    | some as => match c (sets ρ as) g with
      | some (true, g1) => match e (sets ρ as) g1 with
        | some (y, g2) => match lcD tg c e ds ρ g2 with
          | some (ys, g3) => some (y :: ys, g3)
          | none => none
        | none => none
      | some (false, g1) => lcD tg c e ds ρ g1
      | none => none
def aLc (it : DA) (vs : List Nat) (tg : D → Option (List (Nat × D))) (c : DT) (e : DE) : DA := fun ρ g => match it ρ g with
  | some (ds, g1) => if ds.length ≤ BIG ∧ noOwn ρ vs = true then lcD tg c e ds (wipe3 ρ vs) g1 else none
  | none => none
def tYesD : DT := fun _ g => some (true, g)
def TgIn (p : D → Option (List (Nat × D))) (vs : List Nat) : Prop := ∀ d as, p d = some as → ∀ i ∈ as.map (·.1), i ∈ vs
def TgsIn (p : List D → Option (List (Nat × D))) (vs : List Nat) : Prop := ∀ d as, p d = some as → ∀ i ∈ as.map (·.1), i ∈ vs
theorem tgin_name {i : Nat} {vs : List Nat} (h : vs.contains i = true := by rfl) : TgIn (tgName i) vs := fun d as e j hj => by
  cases e
  have : j = i := by simpa using hj
  subst this
  simpa using h
theorem tgin_tup {ps : List D → Option (List (Nat × D))} {vs : List Nat} (h : TgsIn ps vs) : TgIn (tgTup ps) vs := fun d as e => by
  unfold tgTup at e
  split at e
  · exact h _ _ e
  · cases e
theorem tgsin_nil {vs : List Nat} : TgsIn tgsNil vs := fun d as e j hj => by
  cases d with
  | nil => cases e; simp at hj
  | cons x r => cases e
theorem tgsin_cons {p : D → Option (List (Nat × D))} {ps : List D → Option (List (Nat × D))} {vs : List Nat} (h1 : TgIn p vs) (h2 : TgsIn ps vs) : TgsIn (tgsCons p ps) vs := fun d as e j hj => by
  obtain ⟨x, xs, a, b, rfl, e1, e2, rfl⟩ := tgsCons_some e
  rw [List.map_append, List.mem_append] at hj
  exact hj.elim (h1 _ _ e1 j) (h2 _ _ e2 j)
def TCs (X : Cx) (ifs : List Expr) (f : DT) : Prop := ∃ t, PTs X ifs t ∧ ∀ G α ow σ H ρ g b g' Q, Sat X.K G α ow σ H ρ g → f ρ g = some (b, g') → WantsT X.K G α ow σ H ρ g' b Q → t σ H Q
theorem tcs_nil {X : Cx} : TCs X [] tYesD := ⟨_, pts_nil, fun G α ow σ H ρ g b g' Q s e w => by cases e; exact w H α Ext.refl s⟩
theorem tcs_one {X : Cx} {c : Expr} {f : DT} (h : TC X c f) : TCs X [c] f := by
  obtain ⟨t, p, q⟩ := h
  exact ⟨t, pts_one p, q⟩

theorem wipe_set_in {σ : L2.St} {i : Nat} {v : Option V} : ∀ {vs : List Nat}, i ∈ vs → wipe (σ.set i v) vs = wipe σ vs := by
  intro vs
  induction vs with
  | nil => intro h; cases h
  | cons u r ih =>
    intro h
    show (wipe (σ.set i v) r).set u none = (wipe σ r).set u none
    by_cases hr : i ∈ r
    · rw [ih hr]
    · have e : i = u := by
        rcases List.mem_cons.mp h with z | z
        · exact z
        · exact absurd z hr
      subst e
      have key : ∀ (r : List Nat) (σ : L2.St), i ∉ r → wipe (σ.set i v) r = (wipe σ r).set i v := by
        intro r
        induction r with
        | nil => intro σ _; rfl
        | cons u r ih2 =>
          intro σ hn
          show (wipe (σ.set i v) r).set u none = ((wipe σ r).set u none).set i v
          rw [ih2 σ fun z => hn (List.mem_cons_of_mem _ z), List.set_comm _ _ (fun e => hn (by rw [e]; exact List.mem_cons_self))]
      rw [key r σ hr, List.set_set]
theorem wipe_wipe (σ : L2.St) : ∀ vs : List Nat, wipe (wipe σ vs) vs = wipe σ vs := by
  have gen : ∀ (us vs : List Nat), (∀ i ∈ us, i ∈ vs) → wipe (wipe σ us) vs = wipe σ vs := by
    intro us
    induction us with
    | nil => intro vs _; rfl
    | cons u r ih =>
      intro vs h
      show wipe ((wipe σ r).set u none) vs = wipe σ vs
      rw [wipe_set_in (h u List.mem_cons_self), ih vs fun i hi => h i (List.mem_cons_of_mem _ hi)]
  intro vs
  exact gen vs vs fun _ h => h
theorem wipe_sets {vs : List Nat} : ∀ {ws : List (Nat × V)} {σ : L2.St}, (∀ i ∈ ws.map (·.1), i ∈ vs) → wipe (setsV σ ws) vs = wipe σ vs := by
  intro ws
  induction ws with
  | nil => intro σ _; rfl
  | cons w r ih =>
    intro σ h
    obtain ⟨i, v⟩ := w
    show wipe (setsV (σ.set i (some v)) r) vs = _
    rw [ih fun j hj => h j (by rw [List.map_cons]; exact List.mem_cons_of_mem _ hj), wipe_set_in (h i (by simp))]
theorem wipe3_len (ρ : Env3) : ∀ vs : List Nat, (wipe3 ρ vs).length = ρ.length
  | [] => rfl
  | v :: vs => by
    show ((wipe3 ρ vs).set v none).length = _
    rw [List.length_set, wipe3_len ρ vs]
theorem wipe3_some {ρ : Env3} {i : Nat} {x : SV} : ∀ {vs : List Nat}, (wipe3 ρ vs)[i]? = some (some x) → ρ[i]? = some (some x) ∧ i ∉ vs
  | [], h => ⟨h, by simp⟩
  | v :: vs, h => by
    have h : ((wipe3 ρ vs).set v none)[i]? = some (some x) := h
    by_cases hi : v = i
    · subst hi
      by_cases hv : v < (wipe3 ρ vs).length
      · rw [List.getElem?_set_self hv] at h; cases h
      · rw [List.getElem?_eq_none (by simpa using hv)] at h; cases h
    · rw [List.getElem?_set_ne hi] at h
      obtain ⟨h1, h2⟩ := wipe3_some h
      exact ⟨h1, by simp only [List.mem_cons, not_or]; exact ⟨fun e => hi e.symm, h2⟩⟩
theorem wipe3_out {ρ : Env3} {i : Nat} : ∀ {vs : List Nat}, i ∉ vs → (wipe3 ρ vs)[i]? = ρ[i]?
  | [], _ => rfl
  | v :: vs, h => by
    show ((wipe3 ρ vs).set v none)[i]? = _
    rw [List.getElem?_set_ne (fun e => h (by rw [e]; exact List.mem_cons_self)), wipe3_out fun z => h (List.mem_cons_of_mem _ z)]
section
variable {K : PySem.W.Frag} {G : Gh} {α : List Addr} {ow : Nat → Option Addr} {σ : L2.St} {H : Hp} {ρ : Env3} {g : Store}
theorem noOwn_ow (s : Sat K G α ow σ H ρ g) {vs : List Nat} (h : noOwn ρ vs = true) {i : Nat} (hi : i ∈ vs) : ow i = none := by
  cases e : ow i with
  | none => rfl
  | some a =>
    obtain ⟨_, _, _, _, x, hx, ho⟩ := s.own i a e
    have q := List.all_eq_true.mp h i hi
    rw [hx] at q
    simp [ho] at q
theorem Sat.wipe (s : Sat K G α ow σ H ρ g) {vs : List Nat} (h : noOwn ρ vs = true) : Sat K G α ow (L2.wipe σ vs) H (wipe3 ρ vs) g := by
  refine ⟨s.ext, s.blk, by rw [wipe_length, wipe3_len, s.len], s.gok, fun i a hi => ?_, s.oinj, fun i x hx => ?_⟩
  · obtain ⟨q1, q2, q3, q4, q5⟩ := s.own i a hi
    refine ⟨q1, q2, q3, q4, ?_⟩
    rw [wipe3_out fun z => by rw [noOwn_ow s h z] at hi; cases hi]
    exact q5
  · obtain ⟨h1, h2⟩ := wipe3_some hx
    rw [wipe_out h2]
    exact s.slot i x h1
/-- inside a comprehension: the growing list is shut out -/
theorem Sat.shut (s : Sat K G α ow σ H ρ g) {p : Addr} (hp : H p = none) (vs : List V) : Sat K ⟨fun a => G.B a ∨ a = p, G.H0, G.α0⟩ α ow σ (upd H p (.lst vs)) ρ g := by
  have ne : ∀ {a : Addr} {o : HO}, H a = some o → a ≠ p := fun e => ne_of_none e hp
  have hA : ∀ a (o : HO), Al G.B α ow a → H a = some o → Al (fun a => G.B a ∨ a = p) α ow a ∧ upd H p (.lst vs) a = some o := fun a o h e => ⟨⟨h.1, fun z => z.elim h.2.1 (ne e), h.2.2⟩, by rw [upd_ne (ne e)]; exact e⟩
  have al := s.al hp
  refine ⟨s.ext.trans (Ext.new hp), fun a h => ?_, s.len, s.gok.mono hA fun a o _ e => by rw [upd_ne (ne e)]; exact e, fun j a h => ?_, s.oinj, fun j x hx => ?_⟩
  · rcases h with h | h
    · obtain ⟨⟨o, h1⟩, h2⟩ := s.blk a h
      exact ⟨⟨o, by rw [upd_ne (ne h1)]; exact h1⟩, h2⟩
    · rw [h]
      exact ⟨⟨_, upd_same⟩, al.1⟩
  · obtain ⟨h1, h2, h3, ⟨o, h4⟩, h5⟩ := s.own j a h
    exact ⟨h1, h2, fun z => z.elim h3 (ne h4), ⟨o, by rw [upd_ne (ne h4)]; exact h4⟩, h5⟩
  · exact (s.slot j x hx).mono hA fun a u _ e => by rw [upd_ne (ne e)]; exact e
/-- the growing list changes -/
theorem Sat.shutMut {p : Addr} (s : Sat K ⟨fun a => G.B a ∨ a = p, G.H0, G.α0⟩ α ow σ H ρ g) (h0 : G.H0 p = none) (vs : List V) : Sat K ⟨fun a => G.B a ∨ a = p, G.H0, G.α0⟩ α ow σ (upd H p (.lst vs)) ρ g := by
  have hA : ∀ a (o : HO), Al (fun a => G.B a ∨ a = p) α ow a → H a = some o → Al (fun a => G.B a ∨ a = p) α ow a ∧ upd H p (.lst vs) a = some o := fun a o h e => ⟨h, by rw [upd_ne fun z => h.2.1 (.inr z)]; exact e⟩
  have tr : ∀ {b : Addr}, (∃ o, H b = some o) → ∃ o, upd H p (.lst vs) b = some o := fun {b} ⟨o, h⟩ => by
    by_cases e : b = p
    · rw [e]; exact ⟨_, upd_same⟩
    · exact ⟨o, by rw [upd_ne e]; exact h⟩
  have pn : p ∉ α := (s.blk p (.inr rfl)).2
  refine ⟨⟨fun b o h hn => ?_, s.ext.2.1, s.ext.2.2⟩, fun a h => ⟨tr (s.blk a h).1, (s.blk a h).2⟩, s.len, s.gok.mono hA fun a o ha e => by rw [upd_ne fun z => pn (by rw [← z]; exact ha)]; exact e, fun j a h => ?_, s.oinj, fun j x hx => ?_⟩
  · rw [upd_ne fun z => by rw [z] at h; rw [show (Gh.mk (fun a => G.B a ∨ a = p) G.H0 G.α0).H0 p = none from h0] at h; cases h]
    exact s.ext.1 b o h hn
  · obtain ⟨h1, h2, h3, h4, h5⟩ := s.own j a h
    exact ⟨h1, h2, h3, tr h4, h5⟩
  · exact (s.slot j x hx).mono hA fun a u ha e => by
      rw [upd_ne fun z => (s.own j a ha).2.2.1 (.inr z)]
      exact e
/-- .. and is let in: the heap without it -/
def cutH (H : Hp) (p : Addr) : Hp := fun a => if a = p then none else H a
theorem cutH_upd {p : Addr} {o : HO} (h : H p = some o) : H = upd (cutH H p) p o := by
  funext a
  unfold upd cutH
  by_cases e : a = p
  · rw [if_pos e, e, h]
  · rw [if_neg e, if_neg e]
theorem Sat.open {p : Addr} (s : Sat K ⟨fun a => G.B a ∨ a = p, G.H0, G.α0⟩ α ow σ H ρ g) (h0 : G.H0 p = none) (hb : ¬ G.B p) : Sat K G α ow σ (cutH H p) ρ g := by
  have hA : ∀ a (o : HO), Al (fun a => G.B a ∨ a = p) α ow a → H a = some o → Al G.B α ow a ∧ cutH H p a = some o := fun a o h e => ⟨⟨h.1, fun z => h.2.1 (.inl z), h.2.2⟩, by unfold cutH; rw [if_neg fun z => h.2.1 (.inr z)]; exact e⟩
  have pn : p ∉ α := (s.blk p (.inr rfl)).2
  have ke : ∀ {a : Addr} {o : HO}, a ≠ p → H a = some o → cutH H p a = some o := fun {a o} n e => by unfold cutH; rw [if_neg n]; exact e
  refine ⟨⟨fun b o h hn => ?_, s.ext.2.1, s.ext.2.2⟩, fun a h => ?_, s.len, s.gok.mono hA fun a o ha e => ke (fun z => pn (by rw [← z]; exact ha)) e, fun j a h => ?_, s.oinj, fun j x hx => ?_⟩
  · exact ke (fun z => by rw [z, h0] at h; cases h) (s.ext.1 b o h hn)
  · obtain ⟨⟨o, h1⟩, h2⟩ := s.blk a (.inl h)
    exact ⟨⟨o, ke (fun z => hb (by rw [← z]; exact h)) h1⟩, h2⟩
  · obtain ⟨h1, h2, h3, ⟨o, h4⟩, h5⟩ := s.own j a h
    exact ⟨h1, h2, fun z => h3 (.inl z), ⟨o, ke (fun z => h3 (.inr z)) h4⟩, h5⟩
  · exact (s.slot j x hx).mono hA fun a u ha e => ke (fun z => (s.own j a ha).2.2.1 (.inr z)) e
theorem Sat.setsN : ∀ {as : List (Nat × D)} {ws : List (Nat × V)} {σ : L2.St} {ρ : Env3}, Sat K G α ow σ H ρ g → RepSets (Al G.B α ow) α K H ws as → (∀ i ∈ as.map (·.1), ow i = none) →
    Sat K G α ow (setsV σ ws) H (L3.sets ρ as) g
  | [], ws, σ, ρ, s, r, _ => by
    have e : ws = [] := by
      cases ws with
      | nil => rfl
      | cons x r => exact absurd r.1 (by simp)
    subst e
    exact s
  | (i, d) :: as, ws, σ, ρ, s, r, hn => by
    cases ws with
    | nil => exact absurd r.1 (by simp)
    | cons w ws =>
      obtain ⟨j, v⟩ := w
      obtain ⟨r1, r2⟩ := r
      rw [List.map_cons, List.map_cons] at r1 r2
      obtain ⟨v', vr, ev, r3, r4⟩ := r2.uncons
      have ej : j = i := (List.cons.inj r1).1
      have e1 := (List.cons.inj ev).1
      have e2 := (List.cons.inj ev).2
      subst ej e1 e2
      have eo : off ow j = ow := by
        funext k
        unfold off
        split
        · rename_i hk
          rw [hk, hn j (by simp)]
        · rfl
      have s' := s.set (i := j) r3
      rw [eo] at s'
      show Sat K G α ow (setsV (σ.set j (some v)) ws) H (L3.sets (ρ.set j (some (.d d))) as) g
      exact Sat.setsN (as := as) (ws := ws) s' ⟨(List.cons.inj r1).2, r4⟩ fun k hk => hn k (by rw [List.map_cons]; exact List.mem_cons_of_mem _ hk)
end

theorem lcD_len {tg : D → Option (List (Nat × D))} {c : DT} {e : DE} : ∀ {ds : List D} {ρ : Env3} {g : Store} {ys : List D} {g' : Store}, lcD tg c e ds ρ g = some (ys, g') → ys.length ≤ ds.length := by
  intro ds
  induction ds with
  | nil => intro ρ g ys g' h; cases h; exact Nat.le_refl _
  | cons d ds ih =>
    intro ρ g ys g' h
    unfold lcD at h
    split at h
    · cases h
    · split at h
      · split at h
        · split at h
          · rename_i ys' g3 e3
            cases h
            rw [List.length_cons, List.length_cons]
            exact Nat.succ_le_succ (ih e3)
          · cases h
        · cases h
      · exact Nat.le_succ_of_le (ih h)
      · cases h
section
variable {X : Cx} {elt tg iter : Expr} {ifs : List Expr} {it : DA} {p : D → Option (List (Nat × D))} {fc : DT} {fe : DE} {pos : Pos} {scope : Scope} {own : List (Str × Nat)}
theorem lc_read {wi : TI} {g1 : TG} {tt : TT} {te : TE} {vs : List Nat}
    (qi : ∀ G α ow σ H ρ g ds g' (R : It → Hp → Prop), Sat X.K G α ow σ H ρ g → it ρ g = some (ds, g') → (∀ J H' α', Ext α H α' H' → Sat X.K G α' ow σ H' ρ g' → WalkD X.K G.B α' ow H' J ds → R J H') → wi σ H R)
    (qg : ∀ A α σ H v d as Q, Rep A α X.K H v d → p d = some as → (∀ ws, RepSets A α X.K H ws as → Q (setsV σ ws) H) → g1 v σ H Q)
    (qt : ∀ G α ow σ H ρ g b g' Q, Sat X.K G α ow σ H ρ g → fc ρ g = some (b, g') → WantsT X.K G α ow σ H ρ g' b Q → tt σ H Q)
    (qe : ∀ G α ow σ H ρ g d g' Q, Sat X.K G α ow σ H ρ g → fe ρ g = some (d, g') → WantsG X.K G α ow σ H ρ g' d Q → te σ H Q) (hv : TgIn p vs)
    {G α ow σ H ρ g ds g' Q} (s : Sat X.K G α ow σ H ρ g) (e : aLc it vs p fc fe ρ g = some (ds, g')) (w : WantsF X.K G α ow σ H ρ g' ds Q) : tLc wi g1 tt te vs σ H Q := by
  unfold aLc at e
  split at e
  · rename_i xs g1' e1
    split at e
    · rename_i hh
      obtain ⟨hbig, hno⟩ := hh
      refine qi G α ow σ H ρ g xs g1' _ s e1 fun J H1 α1 x1 s1 wk => fun Dp hD => ?_
      have hD0 : G.H0 Dp = none := s1.ext.fresh hD (s1.al hD).1
      have hDb : ¬ G.B Dp := (s1.al hD).2.1
      have s2 := (s1.shut hD []).wipe (vs := vs) hno
      have fz0 : ∀ a (o : HO), Al G.B α1 ow a → H1 a = some o → Al (fun a => G.B a ∨ a = Dp) α1 ow a ∧ upd H1 Dp (.lst []) a = some o := fun a o h e => ⟨⟨h.1, fun z => z.elim h.2.1 (ne_of_none e hD), h.2.2⟩, by rw [upd_ne (ne_of_none e hD)]; exact e⟩
      refine ⟨fun i m H2 => m = xs.length - i ∧ i ≤ xs.length ∧ ∃ α2 g2 acc done rest, Sat X.K ⟨fun a => G.B a ∨ a = Dp, G.H0, G.α0⟩ α2 ow (L2.wipe σ vs) H2 (wipe3 ρ vs) g2 ∧
          FzB G.B α1 ow H1 (fun a => G.B a ∨ a = Dp) α2 ow H2 ∧ Ext α1 H1 α2 H2 ∧ H2 Dp = some (.lst acc) ∧ RepAll (Al (fun a => G.B a ∨ a = Dp) α2 ow) α2 X.K H2 acc done ∧ acc.length ≤ i ∧ lcD p fc fe (xs.drop i) (wipe3 ρ vs) g2 = some (rest, g') ∧ ds = done ++ rest,
        ⟨xs.length, by simp, Nat.zero_le _, α1, g1', [], [], ds, s2, ⟨fz0, List.prefix_refl _⟩, Ext.new hD, upd_same, RepAll.nil, Nat.le_refl _, e, rfl⟩, ?_⟩
      rintro i m H2 ⟨rfl, hi, α2, g2, acc, done, rest, s2, z2, x2, hacc, racc, hal, e2, eds⟩
      have wk2 := wk _ α2 ow _ H2 _ g2 i s2 z2
      by_cases hlt : i < xs.length
      · have ed : xs[i]? = some xs[i] := List.getElem?_eq_getElem hlt
        obtain ⟨go, yl⟩ := wk2.2 _ ed
        rw [List.drop_eq_getElem_cons hlt] at e2
        refine .inr ⟨go, fun H3 => ∃ α3 g3 acc done rest, Sat X.K ⟨fun a => G.B a ∨ a = Dp, G.H0, G.α0⟩ α3 ow (L2.wipe σ vs) H3 (wipe3 ρ vs) g3 ∧
          FzB G.B α1 ow H1 (fun a => G.B a ∨ a = Dp) α3 ow H3 ∧ Ext α1 H1 α3 H3 ∧ H3 Dp = some (.lst acc) ∧ RepAll (Al (fun a => G.B a ∨ a = Dp) α3 ow) α3 X.K H3 acc done ∧ acc.length ≤ i + 1 ∧ lcD p fc fe (xs.drop (i + 1)) (wipe3 ρ vs) g3 = some (rest, g') ∧ ds = done ++ rest,
          fun H3 h3 => ⟨xs.length - (i + 1), by omega, rfl, hlt, h3⟩, fun x H3 hy => ?_⟩
        obtain ⟨x3, s3, r3⟩ := yl x H3 hy
        have nD : ∀ {α' : List Addr} {H' : Hp}, Ext α2 H3 α' H' → H' Dp = some (.lst acc) := fun {α' H'} xx => xx.1 _ _ (x3.1 _ _ hacc (s2.blk Dp (.inr rfl)).2) (s3.blk Dp (.inr rfl)).2
        unfold lcD at e2
        split at e2
        · cases e2
        · rename_i as has
          refine qg _ _ (L2.wipe σ vs) H3 x _ as _ r3 has fun ws rs => ⟨?_, ?_⟩
          · rw [wipe_sets fun j hj => hv _ _ has j (by rw [← rs.1]; exact hj), wipe_wipe]
          · have s4 := s3.setsN rs fun j hj => noOwn_ow s1 hno (hv _ _ has j hj)
            have fzx : ∀ {α' : List Addr} {H' : Hp}, Ext α2 H3 α' H' → FzB G.B α1 ow H1 (fun a => G.B a ∨ a = Dp) α' ow H' := fun {α' H'} xx => ⟨fun a o h e => by
                have q := z2.1 a o h e
                have q2 := x3.al a o q.1 q.2
                exact xx.al a o q2.1 q2.2, z2.2.trans xx.2.1⟩
            split at e2
            · rename_i g5 e5
              split at e2
              · rename_i y g6 e6
                split at e2
                · rename_i ys g7 e7
                  cases e2
                  refine qt _ α2 ow _ H3 _ g2 true g5 _ s4 e5 fun H5 α5 x5 s5 => ?_
                  rw [if_pos rfl]
                  refine qe _ α5 ow _ H5 _ g5 y g6 _ s5 e6 fun v H6 α6 x6 s6 r6 => ?_
                  have xx := x5.trans x6
                  have hD6 := nD xx
                  refine ⟨acc, hD6, Nat.lt_of_lt_of_le (Nat.lt_of_lt_of_le (Nat.lt_of_le_of_lt hal hlt) hbig) big_line, ?_⟩
                  have g6k : GOk (Al (fun a => G.B a ∨ a = Dp) α6 ow) α6 g6 X.K H6 := s6.gok
                  have s7 : Sat X.K ⟨fun a => G.B a ∨ a = Dp, G.H0, G.α0⟩ α6 ow (L2.wipe σ vs) H6 (wipe3 ρ vs) g6 := s2.step (x3.trans xx) g6k
                  have s8 := s7.shutMut hD0 (acc ++ [v])
                  have hA8 : ∀ a (o : HO), Al (fun a => G.B a ∨ a = Dp) α6 ow a → H6 a = some o → Al (fun a => G.B a ∨ a = Dp) α6 ow a ∧ upd H6 Dp (.lst (acc ++ [v])) a = some o := fun a o h e => ⟨h, by rw [upd_ne fun z => h.2.1 (.inr z)]; exact e⟩
                  refine ⟨α6, g6, acc ++ [v], done ++ [y], ys, s8, ⟨fun a o h e => hA8 a o ((fzx xx).1 a o h e).1 ((fzx xx).1 a o h e).2, (fzx xx).2⟩, ?_, upd_same, (((racc.ext x3).ext xx).append (RepAll.one r6)).mono hA8 (List.prefix_refl _), by rw [List.length_append]; exact Nat.succ_le_succ hal, e7, by rw [eds, List.append_assoc]; rfl⟩
                  have xa := (x2.trans x3).trans xx
                  exact ⟨fun a o h hn => by rw [upd_ne (ne_of_none h hD)]; exact xa.1 a o h hn, xa.2.1, xa.2.2⟩
                · cases e2
              · cases e2
            · rename_i g5 e5
              refine qt _ α2 ow _ H3 _ g2 false g5 _ s4 e5 fun H5 α5 x5 s5 => ?_
              rw [if_neg (by decide)]
              exact ⟨α5, g5, acc, done, rest, s2.step (x3.trans x5) s5.gok, fzx x5, (x2.trans x3).trans x5, nD x5, (racc.ext x3).ext x5, Nat.le_succ_of_le hal, e2, eds⟩
            · cases e2
      · have ei : i = xs.length := by omega
        subst ei
        rw [List.drop_length] at e2
        cases e2
        rw [List.append_nil] at eds
        subst eds
        refine .inl ⟨wk2.1 (Nat.le_refl _), ?_⟩
        have so := s2.open hD0 hDb
        have xc : Ext α1 H1 α2 (cutH H2 Dp) := ⟨fun a o h hn => by
          unfold cutH
          rw [if_neg (ne_of_none h hD)]
          exact x2.1 a o h hn, x2.2.1, x2.2.2⟩
        have hA : ∀ a (o : HO), Al (fun a => G.B a ∨ a = Dp) α2 ow a → H2 a = some o → Al G.B α2 ow a ∧ cutH H2 Dp a = some o := fun a o h e => ⟨⟨h.1, fun z => h.2.1 (.inl z), h.2.2⟩, by unfold cutH; rw [if_neg fun z => h.2.1 (.inr z)]; exact e⟩
        exact w Dp acc (cutH H2 Dp) α2 (x1.trans xc) (s1.step xc so.gok) (by unfold cutH; rw [if_pos rfl]) (racc.mono hA (List.prefix_refl _)) H2 (cutH_upd hacc)
    · cases e
  · cases e
def tE (K : PySem.W.Frag) (f : DE) : TE := fun σ H Q => ∃ G α ow ρ g d g', Sat K G α ow σ H ρ g ∧ f ρ g = some (d, g') ∧ WantsG K G α ow σ H ρ g' d Q
def tTs (K : PySem.W.Frag) (f : DT) : TT := fun σ H Q => ∃ G α ow ρ g d g', Sat K G α ow σ H ρ g ∧ f ρ g = some (d, g') ∧ WantsT K G α ow σ H ρ g' d Q
def tGs (K : PySem.W.Frag) (p : D → Option (List (Nat × D))) : TG := fun v σ H Q => ∃ A α d as, Rep A α K H v d ∧ p d = some as ∧ ∀ ws, RepSets A α K H ws as → Q (setsV σ ws) H
theorem EC.canon {Y : Cx} {e : Expr} {f : DE} (h : EC Y e f) : PE Y e (tE Y.K f) := by
  obtain ⟨t, p, q⟩ := h
  exact ⟨fun pins s σ H Q I ⟨G, α, ow, ρ, g, d, g', h1, h2, h3⟩ => p.run pins s σ H Q I (q G α ow σ H ρ g d g' Q h1 h2 h3)⟩
theorem TCs.canon {Y : Cx} {e : List Expr} {f : DT} (h : TCs Y e f) : PTs Y e (tTs Y.K f) := by
  obtain ⟨t, p, q⟩ := h
  exact ⟨fun pins s σ H Q I ⟨G, α, ow, ρ, g, d, g', h1, h2, h3⟩ => p.run pins s σ H Q I (q G α ow σ H ρ g d g' Q h1 h2 h3)⟩
theorem GC.canon {Y : Cx} {e : Expr} (h : GC Y e p) : PG Y e (tGs Y.K p) := by
  obtain ⟨t, pt, q⟩ := h
  exact ⟨fun pins s σ H v u Q I r ⟨A, α, d, as, h1, h2, h3⟩ => pt.run pins s σ H v u Q I r (q A α σ H v d as Q h1 h2 h3)⟩
theorem ef_lc (hN : X.N.Nodup) (own : List (Str × Nat)) (hi : IC X tg iter it) (hv : TgIn p (own.map (·.2)))
    (hg : ∀ (s : Shared) (H : Hp) (C : Addr) (cl : List (Str × Addr)) (fp : List Addr), GC (X.blk s H scope (compEnvC scope cl C X.env) fp) tg p)
    (ht : ∀ (s : Shared) (H : Hp) (C : Addr) (cl : List (Str × Addr)) (fp : List Addr), TCs (X.blk s H scope (compEnvC scope cl C X.env) fp) ifs fc)
    (he : ∀ (s : Shared) (H : Hp) (C : Addr) (cl : List (Str × Addr)) (fp : List Addr), EC (X.blk s H scope (compEnvC scope cl C X.env) fp) elt fe)
    (ok : BlkOk X.N X.env.scope scope own) (hc : X.calm = true := by rfl) (hs : ∀ x, foldedSetIterable iter X.env x = pure x := by intro _; rfl) : EF X (.ListComp elt [⟨tg, iter, ifs, 0⟩] scope pos) (aLc it (own.map (·.2)) p fc fe) := by
  obtain ⟨wi, pwi, qi⟩ := hi
  exact ⟨_, pe_lc (g := tGs X.K p) (tt := tTs X.K fc) (te := tE X.K fe) hc hN pwi ok (fun s H C cl fp => (hg s H C cl fp).canon) (fun s H C cl fp => (ht s H C cl fp).canon) (fun s H C cl fp => (he s H C cl fp).canon) hs, fun G α ow σ H ρ g ds g' Q s e w =>
    lc_read (X := X) (g1 := tGs X.K p) (tt := tTs X.K fc) (te := tE X.K fe) qi (fun A α σ H v d as Q h1 h2 h3 => ⟨A, α, d, as, h1, h2, h3⟩) (fun G α ow σ H ρ g b g' Q h1 h2 h3 => ⟨G, α, ow, ρ, g, b, g', h1, h2, h3⟩) (fun G α ow σ H ρ g b g' Q h1 h2 h3 => ⟨G, α, ow, ρ, g, b, g', h1, h2, h3⟩) hv s e w⟩
/-- y = [..] on one line -/
theorem sc_setLc {i : Nat} {y : Str} {py spos : Pos} (hN : X.N.Nodup) (own : List (Str × Nat)) (hi : IC X tg iter it) (hv : TgIn p (own.map (·.2)))
    (hg : ∀ (s : Shared) (H : Hp) (C : Addr) (cl : List (Str × Addr)) (fp : List Addr), GC (X.blk s H scope (compEnvC scope cl C X.env) fp) tg p)
    (ht : ∀ (s : Shared) (H : Hp) (C : Addr) (cl : List (Str × Addr)) (fp : List Addr), TCs (X.blk s H scope (compEnvC scope cl C X.env) fp) ifs fc)
    (he : ∀ (s : Shared) (H : Hp) (C : Addr) (cl : List (Str × Addr)) (fp : List Addr), EC (X.blk s H scope (compEnvC scope cl C X.env) fp) elt fe)
    (ok : BlkOk X.N X.env.scope scope own) (hsw : swapsWith (.ListComp elt [⟨tg, iter, ifs, 0⟩] scope pos) (some (.Name y py)) spos.line X.env = pure true)
    (hy : X.N[i]? = some y := by rfl) (hyl : X.env.scope.names.lookup y = some .local := by rfl) (hc : X.calm = true := by rfl) (hs : ∀ x, foldedSetIterable iter X.env x = pure x := by intro _; rfl) :
    SC X (.Assign [.Name y py] (.ListComp elt [⟨tg, iter, ifs, 0⟩] scope pos) spos) (sSet i (eL (aLc it (own.map (·.2)) p fc fe))) := by
  obtain ⟨wi, pwi, qi⟩ := hi
  refine ⟨_, ps_setLc (g := tGs X.K p) (tt := tTs X.K fc) (te := tE X.K fe) hc hN hy hyl hsw pwi ok (fun s H C cl fp => (hg s H C cl fp).canon) (fun s H C cl fp => (ht s H C cl fp).canon) (fun s H C cl fp => (he s H C cl fp).canon) hs, fun G α ow σ H ρ g out g' Dn s e w => ?_⟩
  unfold sSet at e
  split at e
  · rename_i d g1 e1
    cases e
    obtain ⟨xs, g2, e2, e3⟩ := bindM_some e1
    obtain ⟨e4, rfl⟩ := liftM_some e3
    cases e4
    refine lc_read (X := X) (g1 := tGs X.K p) (tt := tTs X.K fc) (te := tE X.K fe) qi (fun A α σ H v d as Q h1 h2 h3 => ⟨A, α, d, as, h1, h2, h3⟩) (fun G α ow σ H ρ g b g' Q h1 h2 h3 => ⟨G, α, ow, ρ, g, b, g', h1, h2, h3⟩) (fun G α ow σ H ρ g b g' Q h1 h2 h3 => ⟨G, α, ow, ρ, g, b, g', h1, h2, h3⟩) hv s e2 fun q vs H1 α1 x1 s1 hp r H2 eH => ?_
    subst eH
    exact w _ _ _ _ ((s1.new hp).set (s1.newL hp r)) ((x1.trans (Ext.new hp)).fz.trans Fz.off)
  · cases e
theorem sc_ownLc {i : Nat} {y : Str} {py spos : Pos} (hN : X.N.Nodup) (own : List (Str × Nat)) (hi : IC X tg iter it) (hv : TgIn p (own.map (·.2)))
    (hg : ∀ (s : Shared) (H : Hp) (C : Addr) (cl : List (Str × Addr)) (fp : List Addr), GC (X.blk s H scope (compEnvC scope cl C X.env) fp) tg p)
    (ht : ∀ (s : Shared) (H : Hp) (C : Addr) (cl : List (Str × Addr)) (fp : List Addr), TCs (X.blk s H scope (compEnvC scope cl C X.env) fp) ifs fc)
    (he : ∀ (s : Shared) (H : Hp) (C : Addr) (cl : List (Str × Addr)) (fp : List Addr), EC (X.blk s H scope (compEnvC scope cl C X.env) fp) elt fe)
    (ok : BlkOk X.N X.env.scope scope own) (hsw : swapsWith (.ListComp elt [⟨tg, iter, ifs, 0⟩] scope pos) (some (.Name y py)) spos.line X.env = pure true)
    (hy : X.N[i]? = some y := by rfl) (hyl : X.env.scope.names.lookup y = some .local := by rfl) (hc : X.calm = true := by rfl) (hs : ∀ x, foldedSetIterable iter X.env x = pure x := by intro _; rfl) :
    SC X (.Assign [.Name y py] (.ListComp elt [⟨tg, iter, ifs, 0⟩] scope pos) spos) (sOwn i (aLc it (own.map (·.2)) p fc fe)) := by
  obtain ⟨wi, pwi, qi⟩ := hi
  refine ⟨_, ps_setLc (g := tGs X.K p) (tt := tTs X.K fc) (te := tE X.K fe) hc hN hy hyl hsw pwi ok (fun s H C cl fp => (hg s H C cl fp).canon) (fun s H C cl fp => (ht s H C cl fp).canon) (fun s H C cl fp => (he s H C cl fp).canon) hs, fun G α ow σ H ρ g out g' Dn s e w => ?_⟩
  unfold sOwn at e
  split at e
  · rename_i xs g1 e1
    split at e
    · rename_i hi
      cases e
      refine lc_read (X := X) (g1 := tGs X.K p) (tt := tTs X.K fc) (te := tE X.K fe) qi (fun A α σ H v d as Q h1 h2 h3 => ⟨A, α, d, as, h1, h2, h3⟩) (fun G α ow σ H ρ g b g' Q h1 h2 h3 => ⟨G, α, ow, ρ, g, b, g', h1, h2, h3⟩) (fun G α ow σ H ρ g b g' Q h1 h2 h3 => ⟨G, α, ow, ρ, g, b, g', h1, h2, h3⟩) hv s e1 fun q vs H1 α1 x1 s1 hp r H2 eH => ?_
      subst eH
      exact w _ _ _ _ (s1.own1 hi hp r).1 (x1.fz.trans (s1.own1 hi hp r).2)
    · cases e
  · cases e
end
end L3

/-! L3f: operators, built-ins, methods. -/
namespace L3
open PySem PySem.Spec PyProof.Rows L2

/-! ### texts -/
theorem S_len (s : List Nat) : (S s).length = s.length := by simp [S, Str.length]
theorem S_list (s : List Nat) : (S s).cps.toList = s := by simp [S]
theorem S_app (s t : List Nat) : S s ++ S t = S (s ++ t) := by
  show Str.mk (s.toArray ++ t.toArray) = Str.mk (s ++ t).toArray
  simp
theorem S_inj {s t : List Nat} (h : S s = S t) : s = t := by
  have := congrArg (fun z : Str => z.cps.toList) h
  simpa [S] using this
theorem S_of (z : Str) : z = S z.cps.toList := by cases z; simp [S]

/-! ### numbers, texts, lists: + - * % // ** -/
def dAdd : D → D → Option D
  | .int a, .int b => some (.int (a + b))
  | .str a, .str b => if a.length + b.length ≤ BIG then some (.str (a ++ b)) else none
  | _, _ => none
def dSub : D → D → Option D
  | .int a, .int b => some (.int (a - b))
  | _, _ => none
def dMul : D → D → Option D
  | .int a, .int b => if (-(2 ^ 64) < a ∧ a < 2 ^ 64) ∨ (-(2 ^ 64) < b ∧ b < 2 ^ 64) then some (.int (a * b)) else none
  | .str a, .int n => if 0 ≤ n ∧ n ≤ 100000 ∧ a.length * n.toNat ≤ BIG then some (.str (List.replicate n.toNat a).flatten) else none
  | _, _ => none
def dMod : D → D → Option D
  | .int a, .int b => if 0 < b then some (.int (a % b)) else none
  | _, _ => none
def dDiv : D → D → Option D
  | .int a, .int b => if 0 < b ∧ b < 1073741824 then some (.int (a / b)) else none
  | _, _ => none
def dPow : D → D → Option D
  | .int a, .int b => if 0 ≤ b ∧ b ≤ 100 ∧ a.natAbs < 2 ^ 64 then some (.int (a ^ b.toNat)) else none
  | _, _ => none
section
variable {X : Cx}
theorem opd_add : OpD X (binaryOp .Add) dAdd := by
  refine ⟨_, op_add.or op_add_str, fun G α ow σ H ρ g x y dx dy d Q s rx ry e w => ?_⟩
  unfold dAdd at e
  split at e
  · cases e
    rw [rx.int, ry.int]
    exact .inl ⟨_, _, rfl, rfl, w _ H Ext.refl s (.int _)⟩
  · split at e
    · rename_i hl
      cases e
      rw [rx.str, ry.str]
      refine .inr ⟨_, _, rfl, rfl, by rw [S_len, S_len]; exact Nat.le_trans hl big_line, ?_⟩
      rw [S_app]
      exact w _ H Ext.refl s (.str _)
    · cases e
  · cases e
theorem opd_sub : OpD X (binaryOp .Sub) dSub := by
  refine ⟨_, op_sub, fun G α ow σ H ρ g x y dx dy d Q s rx ry e w => ?_⟩
  unfold dSub at e
  split at e
  · cases e
    rw [rx.int, ry.int]
    exact ⟨_, _, rfl, rfl, w _ H Ext.refl s (.int _)⟩
  · cases e
theorem foldl_rep (a : List Nat) : ∀ (n : Nat) (b : Array Nat), ((List.replicate n a.toArray).foldl (· ++ ·) b) = b ++ (List.replicate n a).flatten.toArray := by
  intro n
  induction n with
  | zero => intro b; simp
  | succ n ih => intro b; rw [List.replicate_succ, List.foldl_cons, ih, List.replicate_succ, List.flatten_cons]; simp
theorem mul_S (a : List Nat) (n : Int) (hn : 0 ≤ n) : Txt.mul (S a) n = S (List.replicate n.toNat a).flatten := by
  unfold Txt.mul
  split
  · have e : n.toNat = 0 := by omega
    rw [e]; rfl
  · split
    · rename_i h
      rcases (by simpa using h : n = 1 ∨ (S a).length = 0) with h | h
      · rw [h]; simp
      · rw [S_len] at h
        have e : a = [] := List.eq_nil_of_length_eq_zero h
        subst e
        simp
    · have := foldl_rep a n.toNat #[]
      show Str.mk _ = _
      unfold S
      rw [this]; simp
theorem op_mul_str : OpR X (binaryOp .Mult) (fun x y H Q => ∃ (z : Str) (n : Int), x = .str z ∧ y = .int n ∧ MulOk z n ∧ Q (.str (Txt.mul z n)) H) := by
  intro pins s σ H x y v u Q I rx ry h
  obtain ⟨z, n, rfl, rfl, hm, q⟩ := h
  obtain ⟨t, rfl⟩ := rx
  obtain ⟨t', rfl⟩ := ry
  exact SB.mul hm fun t' k => ⟨.str _, H, I.tok _, ⟨_, rfl⟩, q⟩
theorem opd_mul : OpD X (binaryOp .Mult) dMul := by
  refine ⟨_, op_mul.or op_mul_str, fun G α ow σ H ρ g x y dx dy d Q s rx ry e w => ?_⟩
  unfold dMul at e
  split at e
  · split at e
    · rename_i hc
      cases e
      rw [rx.int, ry.int]
      exact .inl ⟨_, _, rfl, rfl, hc, w _ H Ext.refl s (.int _)⟩
    · cases e
  · split at e
    · rename_i a n hc
      cases e
      rw [rx.str, ry.int]
      refine .inr ⟨_, _, rfl, rfl, ⟨?_, fun h1 h2 => ?_, fun h1 h2 => ?_⟩, ?_⟩
      · have h1 : ¬ n < -(2 ^ 63 : Int) := by omega
        have h2 : ¬ n ≥ 2 ^ 63 := by omega
        rw [decide_eq_false h1, decide_eq_false h2]; rfl
      · rw [S_len]
        have h3 : 1 ≤ n := by omega
        have h4 : a.length ≤ 100000 := by
          have h5 : 1 ≤ n.toNat := by omega
          have h6 : a.length * 1 ≤ a.length * n.toNat := Nat.mul_le_mul_left _ h5
          have h7 := hc.2.2
          unfold BIG at h7
          omega
        have h5 : (100000 : Int) ≤ (2 ^ 63 - 1) / n := by
          apply Int.le_ediv_of_mul_le (by omega)
          omega
        omega
      · rw [S_len]
        have h7 := hc.2.2
        unfold BIG at h7
        have : ¬ a.length * n.toNat > 2 ^ 24 := by omega
        simpa [Builtin.Str.tooLong, sizeLine] using this
      · rw [mul_S a n hc.1]
        exact w _ H Ext.refl s (.str _)
    · cases e
  · cases e
theorem opd_mod : OpD X (binaryOp .Mod) dMod := by
  refine ⟨_, op_mod, fun G α ow σ H ρ g x y dx dy d Q s rx ry e w => ?_⟩
  unfold dMod at e
  split at e
  · split at e
    · rename_i hc
      cases e
      rw [rx.int, ry.int]
      exact ⟨_, _, rfl, rfl, hc, w _ H Ext.refl s (.int _)⟩
    · cases e
  · cases e
theorem opd_div : OpD X (binaryOp .FloorDiv) dDiv := by
  refine ⟨_, op_fdiv, fun G α ow σ H ρ g x y dx dy d Q s rx ry e w => ?_⟩
  unfold dDiv at e
  split at e
  · split at e
    · rename_i hc
      cases e
      rw [rx.int, ry.int]
      exact ⟨_, _, rfl, rfl, hc, w _ H Ext.refl s (.int _)⟩
    · cases e
  · cases e
theorem opd_pow : OpD X (binaryOp .Pow) dPow := by
  refine ⟨_, op_pow, fun G α ow σ H ρ g x y dx dy d Q s rx ry e w => ?_⟩
  unfold dPow at e
  split at e
  · split at e
    · rename_i hc
      cases e
      rw [rx.int, ry.int]
      exact ⟨_, _, rfl, rfl, ⟨hc.1, by have := hc.2.1; omega, hc.2.2⟩, w _ H Ext.refl s (.int _)⟩
    · cases e
  · cases e
/-! ### comparisons -/
def dLt : D → D → Option D
  | .int a, .int b => some (.bl (decide (a < b)))
  | .str a, .str b => some (.bl (decide (a < b)))
  | _, _ => none
def dLe : D → D → Option D
  | .int a, .int b => some (.bl (decide (a ≤ b)))
  | .str a, .str b => some (.bl (!decide (b < a)))
  | _, _ => none
def dGt : D → D → Option D
  | .int a, .int b => some (.bl (decide (b < a)))
  | .str a, .str b => some (.bl (decide (b < a)))
  | _, _ => none
def dGe : D → D → Option D
  | .int a, .int b => some (.bl (decide (b ≤ a)))
  | .str a, .str b => some (.bl (!decide (a < b)))
  | _, _ => none
theorem opd_lt : OpD X (compareOp .Lt) dLt := by
  refine ⟨_, op_lt.or op_lt_str, fun G α ow σ H ρ g x y dx dy d Q s rx ry e w => ?_⟩
  unfold dLt at e
  split at e
  · cases e
    rw [rx.int, ry.int]
    exact .inl ⟨_, _, rfl, rfl, w _ H Ext.refl s (.bl _)⟩
  · cases e
    rw [rx.str, ry.str]
    refine .inr ⟨_, _, rfl, rfl, ?_⟩
    rw [S_list, S_list]
    exact w _ H Ext.refl s (.bl _)
  · cases e
theorem opd_le : OpD X (compareOp .LtE) dLe := by
  refine ⟨_, op_le.or op_le_str, fun G α ow σ H ρ g x y dx dy d Q s rx ry e w => ?_⟩
  unfold dLe at e
  split at e
  · cases e
    rw [rx.int, ry.int]
    exact .inl ⟨_, _, rfl, rfl, w _ H Ext.refl s (.bl _)⟩
  · cases e
    rw [rx.str, ry.str]
    refine .inr ⟨_, _, rfl, rfl, ?_⟩
    rw [S_list, S_list]
    exact w _ H Ext.refl s (.bl _)
  · cases e
theorem opd_gt : OpD X (compareOp .Gt) dGt := by
  refine ⟨_, op_gt.or op_gt_str, fun G α ow σ H ρ g x y dx dy d Q s rx ry e w => ?_⟩
  unfold dGt at e
  split at e
  · cases e
    rw [rx.int, ry.int]
    exact .inl ⟨_, _, rfl, rfl, w _ H Ext.refl s (.bl _)⟩
  · cases e
    rw [rx.str, ry.str]
    refine .inr ⟨_, _, rfl, rfl, ?_⟩
    rw [S_list, S_list]
    exact w _ H Ext.refl s (.bl _)
  · cases e
theorem opd_ge : OpD X (compareOp .GtE) dGe := by
  refine ⟨_, op_ge.or op_ge_str, fun G α ow σ H ρ g x y dx dy d Q s rx ry e w => ?_⟩
  unfold dGe at e
  split at e
  · cases e
    rw [rx.int, ry.int]
    exact .inl ⟨_, _, rfl, rfl, w _ H Ext.refl s (.bl _)⟩
  · cases e
    rw [rx.str, ry.str]
    refine .inr ⟨_, _, rfl, rfl, ?_⟩
    rw [S_list, S_list]
    exact w _ H Ext.refl s (.bl _)
  · cases e
end
end L3

/-! L3g: ==, in, is, subscripts, slices. -/
namespace L3
open PySem PySem.Spec PyProof.Rows L2

mutual
def toPy : D → Option PyData
  | .non => some .none
  | .bl b => some (.bool b)
  | .int i => some (.int i)
  | .str s => some (.str (S s))
  | .lst xs => (toPys xs).map .list
  | .tup xs => (toPys xs).map .tuple
  | .dic _ => none
  | .obj _ => none
  | .sta _ => none
def toPys : List D → Option (List PyData)
  | [] => some []
  | x :: xs => match toPy x, toPys xs with
    | some a, some b => some (a :: b)
    | _, _ => none
end
theorem toPys_len : ∀ {ds : List D} {ps : List PyData}, toPys ds = some ps → ps.length = ds.length := by
  intro ds
  induction ds with
  | nil => intro ps h; simp only [toPys, Option.some.injEq] at h; subst h; rfl
  | cons x r ih =>
    intro ps h
    simp only [toPys] at h
    split at h
    · rename_i a b h1 h2
      cases h
      simp [ih h2]
    · cases h
theorem dpAll_of {K : PySem.W.Frag} {H : Hp} : ∀ {ds : List D} {xs : List V} {ps : List PyData}, toPys ds = some ps → xs.length = ds.length → (∀ (i : Nat) v d, xs[i]? = some v → ds[i]? = some d → ∀ p, toPy d = some p → Dp K H v p) → DpAll K H xs ps := by
  intro ds
  induction ds with
  | nil =>
    intro xs ps h hl _
    simp only [toPys, Option.some.injEq] at h
    subst h
    cases xs with
    | nil => exact .nil
    | cons x r => simp at hl
  | cons d r ih =>
    intro xs ps h hl hi
    simp only [toPys] at h
    split at h
    · rename_i a b h1 h2
      cases h
      cases xs with
      | nil => simp at hl
      | cons x xr => exact .cons (hi 0 x d rfl rfl a h1) (ih h2 (by simpa using hl) fun i v d' e1 e2 => hi (i + 1) v d' (by simpa using e1) (by simpa using e2))
    · cases h
theorem Rep.dp {A : Addr → Prop} {α : List Addr} {K : PySem.W.Frag} {H : Hp} {v : V} {d : D} (h : Rep A α K H v d) : ∀ p, toPy d = some p → Dp K H v p := by
  induction h with
  | non => intro p e; simp only [toPy, Option.some.injEq] at e; subst e; exact .non
  | bl b => intro p e; simp only [toPy, Option.some.injEq] at e; subst e; exact .bl b
  | int i => intro p e; simp only [toPy, Option.some.injEq] at e; subst e; exact .int i
  | str s => intro p e; simp only [toPy, Option.some.injEq] at e; subst e; exact .str _
  | lst hA h hl _ ih =>
    intro p e
    simp only [toPy, Option.map_eq_some_iff] at e
    obtain ⟨ps, e1, rfl⟩ := e
    exact .lst (.inl h) (dpAll_of e1 hl ih)
  | tup h hl _ ih =>
    intro p e
    simp only [toPy, Option.map_eq_some_iff] at e
    obtain ⟨ps, e1, rfl⟩ := e
    exact .tup h.sq (dpAll_of e1 hl ih)
  | dic => intro p e; simp only [toPy] at e; cases e
  | obj => intro p e; simp only [toPy] at e; cases e
  | sta => intro p e; simp only [toPy] at e; cases e
theorem BRep.dp {B : Addr → Prop} {α : List Addr} {ow : Nat → Option Addr} {K : PySem.W.Frag} {H : Hp} {v : V} {d : D} (h : BRep B α ow K H v d) : ∀ p, toPy d = some p → Dp K H v p := by
  cases h with
  | of h => exact h.dp
  | own h hn ho r =>
    intro p e
    simp only [toPy, Option.map_eq_some_iff] at e
    obtain ⟨ps, e1, rfl⟩ := e
    exact .lst (.inl (.inl ho)) (dpAll_of e1 r.1 fun i v d e1 e2 => (r.2 i v d e1 e2).dp)
  | ownd => intro p e; simp only [toPy] at e; cases e

def dEqP (x y : D) : Option Bool := match toPy x, toPy y with
  | some p, some q => if SeqAt.shaped p = true ∧ SeqAt.shaped q = true then some (PyData.eqv p q) else none
  | _, _ => none
def dEqB : D → D → Option Bool
  | .int a, .int b => some (decide (a = b))
  | .str a, .str b => some (decide (a = b))
  | .bl a, .bl b => some (decide (a = b))
  | .non, .non => some true
  | .non, .str _ => some false
  | .str _, .non => some false
  | .non, .int _ => some false
  | .int _, .non => some false
  | x, y => dEqP x y
def dEq (x y : D) : Option D := (dEqB x y).map .bl
def dNe (x y : D) : Option D := (dEqB x y).map fun b => .bl (!b)
section
variable {X : Cx}
theorem dEqB_read {B : Addr → Prop} {α : List Addr} {ow : Nat → Option Addr} {K : PySem.W.Frag} {H : Hp} {x y : V} {dx dy : D} {b : Bool} (rx : BRep B α ow K H x dx) (ry : BRep B α ow K H y dy) (e : dEqB dx dy = some b) :
    (scal x y = true ∧ decide (x = y) = b) ∨ ∃ p q, Dp K H x p ∧ Dp K H y q ∧ SeqAt.shaped p = true ∧ SeqAt.shaped q = true ∧ PyData.eqv p q = b := by
  unfold dEqB at e
  split at e
  · cases e; rw [rx.int, ry.int]; exact .inl ⟨rfl, by simp⟩
  · cases e; rw [rx.str, ry.str]; exact .inl ⟨rfl, by rw [decide_eq_decide]; exact ⟨fun h => S_inj (V.str.inj h), fun h => by rw [h]⟩⟩
  · cases e; rw [rx.bl, ry.bl]; exact .inl ⟨rfl, by simp⟩
  · cases e; rw [rx.non, ry.non]; exact .inl ⟨rfl, by simp⟩
  · cases e; rw [rx.non, ry.str]; exact .inl ⟨rfl, by simp⟩
  · cases e; rw [rx.str, ry.non]; exact .inl ⟨rfl, by simp⟩
  · cases e; rw [rx.non, ry.int]; exact .inl ⟨rfl, by simp⟩
  · cases e; rw [rx.int, ry.non]; exact .inl ⟨rfl, by simp⟩
  · unfold dEqP at e
    split at e
    · rename_i p q h1 h2
      split at e
      · rename_i hs
        cases e
        exact .inr ⟨p, q, rx.dp p h1, ry.dp q h2, hs.1, hs.2, rfl⟩
      · cases e
    · cases e
theorem opd_eq (hu : X.A.units + 64 < cLine) : OpD X (compareOp .Eq) dEq := by
  refine ⟨_, op_eq.or (op_eqD hu), fun G α ow σ H ρ g x y dx dy d Q s rx ry e w => ?_⟩
  unfold dEq at e
  rw [Option.map_eq_some_iff] at e
  obtain ⟨b, e, rfl⟩ := e
  rcases dEqB_read rx ry e with ⟨h1, h2⟩ | ⟨p, q, h1, h2, h3, h4, h5⟩
  · exact .inl ⟨h1, by rw [h2]; exact w _ H Ext.refl s (.bl _)⟩
  · exact .inr ⟨p, q, h1, h2, h3, h4, by rw [h5]; exact w _ H Ext.refl s (.bl _)⟩
theorem opd_ne (hu : X.A.units + 64 < cLine) : OpD X (compareOp .NotEq) dNe := by
  refine ⟨_, op_ne.or (op_neD hu), fun G α ow σ H ρ g x y dx dy d Q s rx ry e w => ?_⟩
  unfold dNe at e
  rw [Option.map_eq_some_iff] at e
  obtain ⟨b, e, rfl⟩ := e
  rcases dEqB_read rx ry e with ⟨h1, h2⟩ | ⟨p, q, h1, h2, h3, h4, h5⟩
  · exact .inl ⟨h1, by rw [h2]; exact w _ H Ext.refl s (.bl _)⟩
  · exact .inr ⟨p, q, h1, h2, h3, h4, by rw [h5]; exact w _ H Ext.refl s (.bl _)⟩
/-! is None -/
def isNon : D → Bool
  | .non => true
  | _ => false
def dIs : D → D → Option D
  | x, .non => some (.bl (isNon x))
  | _, _ => none
def dIsNot : D → D → Option D
  | x, .non => some (.bl (!isNon x))
  | _, _ => none
theorem BRep.isNon {B : Addr → Prop} {α : List Addr} {ow : Nat → Option Addr} {K : PySem.W.Frag} {H : Hp} {x : V} {d : D} (h : BRep B α ow K H x d) : decide (x = .non) = isNon d := by
  cases h with
  | of h => cases h <;> simp [L3.isNon]
  | own => simp [L3.isNon]
  | ownd => simp [L3.isNon]
theorem opd_is : OpD X (compareOp .Is) dIs := by
  refine ⟨_, op_isN, fun G α ow σ H ρ g x y dx dy d Q s rx ry e w => ?_⟩
  unfold dIs at e
  split at e
  · cases e
    refine ⟨ry.non, ?_⟩
    rw [rx.isNon]
    exact w _ H Ext.refl s (.bl _)
  · cases e
theorem opd_isnot : OpD X (compareOp .IsNot) dIsNot := by
  refine ⟨_, op_notN, fun G α ow σ H ρ g x y dx dy d Q s rx ry e w => ?_⟩
  unfold dIsNot at e
  split at e
  · cases e
    refine ⟨ry.non, ?_⟩
    rw [rx.isNon]
    exact w _ H Ext.refl s (.bl _)
  · cases e
/-! in -/
def flatD : D → Bool
  | .non => true | .bl _ => true | .int _ => true | .str _ => true | _ => false
def eqFl : D → D → Bool
  | .non, .non => true
  | .bl a, .bl b => a == b
  | .bl a, .int b => (if a then 1 else 0) == b
  | .int a, .bl b => a == (if b then 1 else 0)
  | .int a, .int b => a == b
  | .str a, .str b => a == b
  | _, _ => false
def inD (x : D) (xs : List D) : Bool := xs.any fun y => eqFl y x
def dInB : D → D → Option Bool
  | .str [c], .str z => some (decide (c ∈ z))
  | x, .lst xs => if flatD x = true ∧ xs.all flatD = true then some (inD x xs) else none
  | x, .tup xs => if flatD x = true ∧ xs.all flatD = true then some (inD x xs) else none
  | _, _ => none
def dIn (x y : D) : Option D := (dInB x y).map .bl
def dNotIn (x y : D) : Option D := (dInB x y).map fun b => .bl (!b)
theorem Rep.flat {A : Addr → Prop} {α : List Addr} {K : PySem.W.Frag} {H : Hp} {v : V} {d : D} (h : Rep A α K H v d) (hf : flatD d = true) : flatV v = true := by
  cases h <;> first | rfl | cases hf
theorem Rep.eqFl {A A' : Addr → Prop} {α α' : List Addr} {K : PySem.W.Frag} {H : Hp} {v w : V} {d e : D} (h : Rep A α K H v d) (h2 : Rep A' α' K H w e) (hf : flatD d = true) (hg : flatD e = true) : eqV v w = L3.eqFl d e := by
  cases h <;> first | (exfalso; exact Bool.false_ne_true hf) | (cases h2 <;> first | (exfalso; exact Bool.false_ne_true hg) | rfl | (simp only [eqV, L3.eqFl]; rw [Bool.eq_iff_iff, beq_iff_eq, beq_iff_eq]; exact ⟨S_inj, fun h => by rw [h]⟩))
theorem RepAll.inV {A A' : Addr → Prop} {α α' : List Addr} {K : PySem.W.Frag} {H : Hp} {x : V} {d : D} (hx : Rep A' α' K H x d) (hf : flatD d = true) : ∀ {vs : List V} {ds : List D}, RepAll A α K H vs ds → ds.all flatD = true → vs.all flatV = true ∧ inV x vs = inD d ds
  | [], ds, r, _ => by
    have : ds = [] := List.eq_nil_of_length_eq_zero r.1.symm
    subst this
    exact ⟨rfl, rfl⟩
  | v :: vs, [], r, _ => absurd r.1 (by simp)
  | v :: vs, e :: ds, r, hg => by
    obtain ⟨v', r', ev, h1, h2⟩ := r.uncons
    cases ev
    simp only [List.all_cons, Bool.and_eq_true] at hg
    obtain ⟨i1, i2⟩ := RepAll.inV hx hf h2 hg.2
    refine ⟨by simp [h1.flat hg.1, i1], ?_⟩
    unfold L2.inV inD at *
    rw [List.any_cons, List.any_cons, i2, h1.eqFl hx hg.1 hf]
theorem flat_rep {B : Addr → Prop} {α : List Addr} {ow : Nat → Option Addr} {K : PySem.W.Frag} {H : Hp} {x : V} {d : D} (h : BRep B α ow K H x d) (hf : flatD d = true) : Rep (Al B α ow) α K H x d := by
  cases h with
  | of h => exact h
  | own => cases hf
  | ownd => cases hf
theorem dInB_read {B : Addr → Prop} {α : List Addr} {ow : Nat → Option Addr} {K : PySem.W.Frag} {H : Hp} {x y : V} {dx dy : D} {b : Bool} (rx : BRep B α ow K H x dx) (ry : BRep B α ow K H y dy) (e : dInB dx dy = some b) :
    (∃ (c : Nat) (z : Str), x = .str ⟨#[c]⟩ ∧ y = .str z ∧ decide (c ∈ z.cps.toList) = b) ∨ ∃ p xs, y = .ref p ∧ (SqL K H p xs ∨ SqT K H p xs) ∧ flatV x = true ∧ xs.all flatV = true ∧ inV x xs = b := by
  unfold dInB at e
  split at e
  · cases e
    rw [rx.str, ry.str]
    exact .inl ⟨_, _, rfl, rfl, by rw [S_list]⟩
  · split at e
    · rename_i hf
      cases e
      obtain ⟨a, vs, rfl, h1, h2⟩ := ry.lst
      have hx := flat_rep rx hf.1
      obtain ⟨i1, i2⟩ := RepAll.inV hx hf.1 h2 hf.2
      exact .inr ⟨a, vs, rfl, .inl (.inl h1), hx.flat hf.1, i1, i2⟩
    · cases e
  · split at e
    · rename_i hf
      cases e
      obtain ⟨a, vs, rfl, h1, h2⟩ := ry.tup
      have hx := flat_rep rx hf.1
      obtain ⟨i1, i2⟩ := RepAll.inV hx hf.1 h2 hf.2
      exact .inr ⟨a, vs, rfl, .inr h1, hx.flat hf.1, i1, i2⟩
    · cases e
  · cases e
theorem opd_in : OpD X (compareOp .In) dIn := by
  refine ⟨_, op_in_sign.or op_in_seq, fun G α ow σ H ρ g x y dx dy d Q s rx ry e w => ?_⟩
  unfold dIn at e
  rw [Option.map_eq_some_iff] at e
  obtain ⟨b, e, rfl⟩ := e
  rcases dInB_read rx ry e with ⟨c, z, h1, h2, h3⟩ | ⟨p, xs, h1, h2, h3, h4, h5⟩
  · exact .inl ⟨c, z, h1, h2, by rw [h3]; exact w _ H Ext.refl s (.bl _)⟩
  · exact .inr ⟨p, xs, h1, h2, h3, h4, by rw [if_neg (by decide), h5]; exact w _ H Ext.refl s (.bl _)⟩
theorem opd_notin : OpD X (compareOp .NotIn) dNotIn := by
  refine ⟨_, op_notIn_sign.or op_notIn_seq, fun G α ow σ H ρ g x y dx dy d Q s rx ry e w => ?_⟩
  unfold dNotIn at e
  rw [Option.map_eq_some_iff] at e
  obtain ⟨b, e, rfl⟩ := e
  rcases dInB_read rx ry e with ⟨c, z, h1, h2, h3⟩ | ⟨p, xs, h1, h2, h3, h4, h5⟩
  · exact .inl ⟨c, z, h1, h2, by rw [h3]; exact w _ H Ext.refl s (.bl _)⟩
  · exact .inr ⟨p, xs, h1, h2, h3, h4, by rw [if_pos rfl, h5]; exact w _ H Ext.refl s (.bl _)⟩
end
end L3

/-! L3h: subscripts, slices, chains, truth, built-in calls. -/
namespace L3
open PySem PySem.Spec PyProof.Rows L2

theorem RepAll.atI {A : Addr → Prop} {α : List Addr} {K : PySem.W.Frag} {H : Hp} {vs : List V} {ds : List D} {i : Int} {d : D} (h : RepAll A α K H vs ds) (e : atI ds i = some d) : ∃ v, atI vs i = some v ∧ Rep A α K H v d := by
  unfold L2.atI at e ⊢
  rw [h.1]
  cases q : ixN ds.length i with
  | none => rw [q] at e; cases e
  | some j =>
    rw [q] at e
    exact h.get e
def cutL {β : Type} (xs : List β) (lo hi : Option Int) : List β := (xs.drop (HT.sIx xs.length 0 lo)).take (HT.sIx xs.length xs.length hi - HT.sIx xs.length 0 lo)
theorem RepAll.cut {A : Addr → Prop} {α : List Addr} {K : PySem.W.Frag} {H : Hp} {vs : List V} {ds : List D} (lo hi : Option Int) (h : RepAll A α K H vs ds) : RepAll A α K H (cutV vs lo hi) (cutL ds lo hi) := by
  unfold cutV cutL
  rw [h.1]
  exact (h.drop _).take _
theorem cutS_S (s : List Nat) (lo hi : Option Int) : cutS (S s) lo hi = S (cutL s lo hi) := by
  unfold cutS cutL
  rw [S_list, S_len]
  rfl
def dIx : D → D → Option D
  | .lst xs, .int i => atI xs i
  | .tup xs, .int i => atI xs i
  | .str s, .int i => if s.length ≤ BIG then (atI s i).map fun c => .str [c] else none
  | _, _ => none
section
variable {X : Cx} {a b c : Expr} {fa fb fc : DE} {pos : Pos}
def IxD (X : Cx) (op : D → D → Option D) : Prop := ∃ r, IxR X r ∧ ∀ G α ow σ H ρ g x y dx dy d Q, Sat X.K G α ow σ H ρ g → BRep G.B α ow X.K H x dx → BRep G.B α ow X.K H y dy →
  op dx dy = some d → Wants X.K G α ow σ H ρ g d Q → r x y H Q
theorem ixd : IxD X dIx := by
  refine ⟨_, ix_list.or (ix_tup.or ix_str), fun G α ow σ H ρ g x y dx dy d Q s rx ry e w => ?_⟩
  unfold dIx at e
  split at e
  · obtain ⟨p, vs, rfl, h1, h2⟩ := rx.lst
    obtain ⟨v, e2, r2⟩ := h2.atI e
    rw [ry.int]
    exact .inl ⟨p, vs, _, v, rfl, rfl, .inl h1, e2, w _ H Ext.refl s r2⟩
  · obtain ⟨p, vs, rfl, h1, h2⟩ := rx.tup
    obtain ⟨v, e2, r2⟩ := h2.atI e
    rw [ry.int]
    exact .inr (.inl ⟨p, vs, _, v, rfl, rfl, h1, e2, w _ H Ext.refl s r2⟩)
  · split at e
    · rename_i hl
      rw [Option.map_eq_some_iff] at e
      obtain ⟨k, e, rfl⟩ := e
      rw [rx.str, ry.int]
      refine .inr (.inr ⟨_, _, k, rfl, rfl, by rw [S_len]; exact Nat.le_trans hl big_line, by rw [S_list]; exact e, w _ H Ext.refl s (.str [k])⟩)
    · cases e
  · cases e
theorem ec_ix {op : D → D → Option D} (ho : IxD X op) (ha : EB X a fa) (hb : EB X b fb) (hs : PlainIx b := by exact fun _ _ => rfl) : EC X (.Subscript a b pos) (eOp op fa fb) := by
  obtain ⟨r, hr, hq⟩ := ho
  obtain ⟨ta, pa, ha⟩ := ha
  obtain ⟨tb, pb, hb⟩ := hb
  refine ⟨_, pe_ix hr pa pb hs, fun G α ow σ H ρ g d g' Q s e w => ?_⟩
  exact eb_bin ha hb s e fun x y dx dy H' α' x1 s1 r1 r2 e2 => hq G α' ow σ H' ρ g' x y dx dy d Q s1 r1 r2 e2 fun v H2 x2 s2 r => w v H2 α' (x1.trans x2) s2 r

/-! ### slices -/
abbrev DO := M (Option Int)
def oNone : DO := fun _ g => some (none, g)
def oSome (f : DE) : DO := bindM f fun x => liftM (match x with | .int i => some (some i) | _ => none)
def OC (X : Cx) (e : Option Expr) (f : DO) : Prop := ∃ t, PO X e t ∧ ∀ G α ow σ H ρ g o g' Q, Sat X.K G α ow σ H ρ g → f ρ g = some (o, g') → (∀ H' α', Ext α H α' H' → Sat X.K G α' ow σ H' ρ g' → Q o H') → t σ H Q
theorem oc_none : OC X none oNone := ⟨_, po_none, fun G α ow σ H ρ g o g' Q s e w => by cases e; exact w H α Ext.refl s⟩
theorem oc_some (h : EC X a fa) : OC X (some a) (oSome fa) := by
  obtain ⟨t, pt, hq⟩ := h
  refine ⟨_, po_some pt, fun G α ow σ H ρ g o g' Q s e w => ?_⟩
  obtain ⟨x, g1, e1, e2⟩ := bindM_some e
  obtain ⟨e3, rfl⟩ := liftM_some e2
  split at e3
  · cases e3
    refine hq G α ow σ H ρ g _ g1 _ s e1 fun v H' α' x s' r => ?_
    cases r
    exact ⟨_, rfl, w H' α' x s'⟩
  · cases e3
def eSl (φ : D → Option Int → Option Int → Option D) (f : DE) (lo hi : DO) : DE := bindM f fun x => bindM lo fun l => bindM hi fun h => liftM (φ x l h)
def aSl (f : DE) (lo hi : DO) : DA := bindM f fun x => bindM lo fun l => bindM hi fun h => liftM (match x with | .lst xs => some (cutL xs l h) | _ => none)
def dSl : D → Option Int → Option Int → Option D
  | .str s, l, h => if s.length ≤ BIG then some (.str (cutL s l h)) else none
  | .lst xs, l, h => some (.lst (cutL xs l h))
  | .tup xs, l, h => some (.tup (cutL xs l h))
  | _, _, _ => none
theorem cut_whole {β : Type} {xs : List β} {lo hi : Option Int} (h : HT.sIx xs.length 0 lo = 0 ∧ HT.sIx xs.length xs.length hi = xs.length) : cutL xs lo hi = xs := by
  unfold cutL
  rw [h.1, h.2]
  simp
theorem ec_slice {lo hi : Option Expr} {fl fh : DO} {p2 : Pos} (ha : EB X a fa) (hl : OC X lo fl) (hh : OC X hi fh) : EC X (.Subscript a (.Slice lo hi none p2) pos) (eSl dSl fa fl fh) := by
  obtain ⟨t, pt, hq⟩ := ha
  obtain ⟨tl, pl, ql⟩ := hl
  obtain ⟨th, ph, qh⟩ := hh
  refine ⟨_, pe_slice (sl_str.or (sl_list.or sl_tupA)) pt pl ph, fun G α ow σ H ρ g d g' Q s e w => ?_⟩
  obtain ⟨x, g1, e1, e2⟩ := bindM_some e
  obtain ⟨l, g2, e3, e4⟩ := bindM_some e2
  obtain ⟨h, g3, e5, e6⟩ := bindM_some e4
  obtain ⟨e7, rfl⟩ := liftM_some e6
  refine hq G α ow σ H ρ g x g1 _ s e1 fun v H1 α1 x1 s1 r1 => ?_
  refine ql G α1 ow σ H1 ρ g1 l g2 _ s1 e3 fun H2 α2 x2 s2 => ?_
  refine qh G α2 ow σ H2 ρ g2 h g3 _ s2 e5 fun H3 α3 x3 s3 => ?_
  have r3 := (r1.ext x2).ext x3
  have xx := (x1.trans x2).trans x3
  unfold dSl at e7
  split at e7
  · split at e7
    · rename_i hb
      cases e7
      rw [r3.str]
      exact .inl ⟨_, rfl, by rw [S_len]; exact Nat.le_trans hb big_line, by rw [cutS_S]; exact w _ H3 α3 xx s3 (.str _)⟩
    · cases e7
  · cases e7
    obtain ⟨p, vs, rfl, h1, h2⟩ := r3.lst
    exact .inr (.inl ⟨p, vs, rfl, .inl h1, fun q hq => w _ _ α3 (xx.trans (Ext.new hq)) (s3.new hq) (s3.newL hq (h2.cut l h))⟩)
  · cases e7
    obtain ⟨p, vs, rfl, h1, h2⟩ := r3.tup
    refine .inr (.inr ⟨p, vs, rfl, h1, fun hw => ?_, fun hw q hq => w _ _ α3 (xx.trans (Ext.new hq)) (s3.new hq) (s3.newT hq (h2.cut l h))⟩)
    rw [h2.1] at hw
    rw [cut_whole hw] at w
    cases r3 with
    | of r3 => exact w _ H3 α3 xx s3 r3
  · cases e7
theorem ef_slice {lo hi : Option Expr} {fl fh : DO} {p2 : Pos} (ha : EB X a fa) (hl : OC X lo fl) (hh : OC X hi fh) : EF X (.Subscript a (.Slice lo hi none p2) pos) (aSl fa fl fh) := by
  obtain ⟨t, pt, hq⟩ := ha
  obtain ⟨tl, pl, ql⟩ := hl
  obtain ⟨th, ph, qh⟩ := hh
  refine ⟨_, pe_slice sl_list pt pl ph, fun G α ow σ H ρ g d g' Q s e w => ?_⟩
  obtain ⟨x, g1, e1, e2⟩ := bindM_some e
  obtain ⟨l, g2, e3, e4⟩ := bindM_some e2
  obtain ⟨h, g3, e5, e6⟩ := bindM_some e4
  obtain ⟨e7, rfl⟩ := liftM_some e6
  refine hq G α ow σ H ρ g x g1 _ s e1 fun v H1 α1 x1 s1 r1 => ?_
  refine ql G α1 ow σ H1 ρ g1 l g2 _ s1 e3 fun H2 α2 x2 s2 => ?_
  refine qh G α2 ow σ H2 ρ g2 h g3 _ s2 e5 fun H3 α3 x3 s3 => ?_
  have r3 := (r1.ext x2).ext x3
  have xx := (x1.trans x2).trans x3
  split at e7
  · cases e7
    obtain ⟨p, vs, rfl, h1, h2⟩ := r3.lst
    exact ⟨p, vs, rfl, .inl h1, fun q hq => w q _ H3 α3 xx s3 hq (h2.cut l h) _ rfl⟩
  · cases e7
/-! ### a < b < c -/
def eChain (o o' : D → D → Option D) (a b c : DE) : DE := bindM a fun x => bindM b fun y => bindM (liftM (o x y)) fun z => match z with
  | .bl true => bindM c fun u => liftM (o' y u)
  | .bl false => eC (.bl false)
  | _ => fun _ _ => none
theorem ec_chain {op op' : CmpOp} {o o' : D → D → Option D} (ho : OpD X (compareOp op) o) (ho' : OpD X (compareOp op') o') (ha : EB X a fa) (hb : EB X b fb) (hc : EB X c fc)
    (hm : lastMarks [op, op'] [b, c] = false := by with_unfolding_all rfl) : EC X (.Compare a [op, op'] [b, c] pos) (eChain o o' fa fb fc) := by
  obtain ⟨r, hr, hq⟩ := ho
  obtain ⟨r', hr', hq'⟩ := ho'
  obtain ⟨ta, pa, ha⟩ := ha
  obtain ⟨tb, pb, hb⟩ := hb
  obtain ⟨tc, pc, hc⟩ := hc
  refine ⟨_, pe_chain hr hr' pa pb pc hm, fun G α ow σ H ρ g d g' Q s e w => ?_⟩
  obtain ⟨x, g1, e1, e2⟩ := bindM_some e
  obtain ⟨y, g2, e3, e4⟩ := bindM_some e2
  obtain ⟨z, g3, e5, e6⟩ := bindM_some e4
  obtain ⟨e7, rfl⟩ := liftM_some e5
  refine ha G α ow σ H ρ g x g1 _ s e1 fun v H1 α1 x1 s1 r1 => ?_
  refine hb G α1 ow σ H1 ρ g1 y g2 _ s1 e3 fun u H2 α2 x2 s2 r2 => ?_
  refine hq G α2 ow σ H2 ρ g2 v u x y z _ s2 (r1.ext x2) r2 e7 fun k H3 x3 s3 r3 => ?_
  split at e6
  · cases r3
    refine ⟨_, rfl, ?_⟩
    rw [if_pos rfl]
    obtain ⟨u', g4, e8, e9⟩ := bindM_some e6
    obtain ⟨e10, rfl⟩ := liftM_some e9
    refine hc G α2 ow σ H3 ρ g2 u' g4 _ s3 e8 fun q H4 α4 x4 s4 r4 => ?_
    exact hq' G α4 ow σ H4 ρ g4 u q y u' d Q s4 ((r2.ext x3).ext x4) r4 e10 fun v5 H5 x5 s5 r5 => w v5 H5 α4 ((((x1.trans x2).trans x3).trans x4).trans x5) s5 r5
  · cases r3
    cases e6
    refine ⟨_, rfl, ?_⟩
    rw [if_neg (by decide)]
    exact w _ H3 α2 ((x1.trans x2).trans x3) s3 (.bl _)
  · cases e6
/-! ### truth of any value -/
def truD : D → Option Bool
  | .non => some false
  | .bl b => some b
  | .int i => some (i != 0)
  | .str s => if s.length ≤ BIG then some (!s.isEmpty) else none
  | .lst xs => some (!xs.isEmpty)
  | .tup xs => some (!xs.isEmpty)
  | _ => none
def tTru (f : DE) : DT := bindM f fun x => liftM (truD x)
theorem isEmpty_len {A : Addr → Prop} {α : List Addr} {K : PySem.W.Frag} {H : Hp} {vs : List V} {ds : List D} (h : RepAll A α K H vs ds) : (!ds.isEmpty) = !vs.isEmpty := by
  have := h.1
  cases vs <;> cases ds <;> simp_all
theorem truD_read {B : Addr → Prop} {α : List Addr} {ow : Nat → Option Addr} {K : PySem.W.Frag} {H : Hp} {x : V} {d : D} {k : Bool} (r : BRep B α ow K H x d) (e : truD d = some k) : TruV K x H k := by
  unfold truD at e
  split at e
  · cases e; rw [r.non]; rfl
  · cases e; rw [r.bl]; rfl
  · cases e; rw [r.int]; rfl
  · split at e
    · rename_i z hl
      cases e
      rw [r.str]
      refine ⟨by rw [S_len]; exact Nat.le_trans hl big_line, ?_⟩
      rw [S_len]
      cases z with
      | nil => rfl
      | cons c t =>
        rw [List.length_cons]
        simp only [List.isEmpty_cons, Bool.not_false]
        symm
        rw [bne_iff_ne]
        omega
    · cases e
  · cases e
    obtain ⟨p, vs, rfl, h1, h2⟩ := r.lst
    exact .inl ⟨vs, .inl h1, isEmpty_len h2⟩
  · cases e
    obtain ⟨p, vs, rfl, h1, h2⟩ := r.tup
    exact .inr (.inl ⟨vs, h1, isEmpty_len h2⟩)
  · cases e
theorem tc_tru (h : EB X a fa) (he : ∀ whole, isTrue a X.env whole = (do let v ← whole; standAt a.pos; holding [v] (truthy v)) := by intro _; rfl) : TC X a (tTru fa) := by
  obtain ⟨t, pt, hq⟩ := h
  refine ⟨_, pt_truth pt he, fun G α ow σ H ρ g k g' Q s e w => ?_⟩
  obtain ⟨d, g1, e1, e2⟩ := bindM_some e
  obtain ⟨e3, rfl⟩ := liftM_some e2
  exact hq G α ow σ H ρ g d g1 _ s e1 fun v H2 α2 x2 s2 r => ⟨k, truD_read r e3, w H2 α2 x2 s2⟩
end

/-! ### calls of built-ins -/
def CallD (X : Cx) (f : Value) (φ : List D → Option D) : Prop := ∃ r, CallR X f r ∧ ∀ G α ow σ H ρ g vs ds d Q, Sat X.K G α ow σ H ρ g → BRepAll G.B α ow X.K H vs ds → φ ds = some d → Wants X.K G α ow σ H ρ g d Q → r vs H Q
def CallF (X : Cx) (f : Value) (φ : List D → Option (List D)) : Prop := ∃ r, CallR X f r ∧ ∀ G α ow σ H ρ g vs ds d (Q : VK), Sat X.K G α ow σ H ρ g → BRepAll G.B α ow X.K H vs ds → φ ds = some d →
  (∀ p us, H p = none → RepAll (Al G.B α ow) α X.K H us d → Q (.ref p) (upd H p (.lst us))) → r vs H Q
section
variable {X : Cx} {x : Str} {p pos : Pos} {e : Expr} {es : List Expr} {fs : DA} {id T : String}
theorem ec_callB {φ : List D → Option D} (hc : CallD X (.builtin id) φ) (hm : X.mg x = none) (hv : bootBuiltins x = some (.builtin id)) (ha : AB X (e :: es) fs) (hg : Gl X x := by rfl) (hn : x ≠ "__name__" := by decide) (hdb : (x == ("__debug__" : Str)) = false := by decide)
    (he : starEach (e :: es) X.env = (false, eval e X.env) :: starEach es X.env := by rfl) (hpl : (backTo pos (starEach es X.env)).any (·.1) = false := by rfl) : EC X (.Call (.Name x p) (e :: es) [] pos) (eFn φ fs) := by
  obtain ⟨r, hr, hq⟩ := hc
  obtain ⟨t, pt, qa⟩ := ha
  refine ⟨_, pe_callB hr hg hm hv pt hn hdb he hpl, fun G α ow σ H ρ g d g' Q s e w => ?_⟩
  obtain ⟨xs, g1, e1, e2⟩ := bindM_some e
  obtain ⟨e3, rfl⟩ := liftM_some e2
  exact qa G α ow σ H ρ g xs g1 _ s e1 fun vs H1 α1 x1 s1 r1 => hq G α1 ow σ H1 ρ g1 vs xs d Q s1 r1 e3 fun v H2 x2 s2 r2 => w v H2 α1 (x1.trans x2) s2 r2
theorem ec_callT {φ : List D → Option D} (hc : CallD X (.type T) φ) (hm : X.mg x = none) (hv : bootBuiltins x = some (.type T)) (ha : AB X (e :: es) fs) (hg : Gl X x := by rfl) (hn : x ≠ "__name__" := by decide) (hdb : (x == ("__debug__" : Str)) = false := by decide)
    (he : starEach (e :: es) X.env = (false, eval e X.env) :: starEach es X.env := by rfl) (hpl : (backTo pos (starEach es X.env)).any (·.1) = false := by rfl) : EC X (.Call (.Name x p) (e :: es) [] pos) (eFn φ fs) := by
  obtain ⟨r, hr, hq⟩ := hc
  obtain ⟨t, pt, qa⟩ := ha
  refine ⟨_, pe_callTy hr hg hm hv pt hn hdb he hpl, fun G α ow σ H ρ g d g' Q s e w => ?_⟩
  obtain ⟨xs, g1, e1, e2⟩ := bindM_some e
  obtain ⟨e3, rfl⟩ := liftM_some e2
  exact qa G α ow σ H ρ g xs g1 _ s e1 fun vs H1 α1 x1 s1 r1 => hq G α1 ow σ H1 ρ g1 vs xs d Q s1 r1 e3 fun v H2 x2 s2 r2 => w v H2 α1 (x1.trans x2) s2 r2
theorem ef_callB {φ : List D → Option (List D)} (hc : CallF X (.builtin id) φ) (hm : X.mg x = none) (hv : bootBuiltins x = some (.builtin id)) (ha : AB X (e :: es) fs) (hg : Gl X x := by rfl) (hn : x ≠ "__name__" := by decide) (hdb : (x == ("__debug__" : Str)) = false := by decide)
    (he : starEach (e :: es) X.env = (false, eval e X.env) :: starEach es X.env := by rfl) (hpl : (backTo pos (starEach es X.env)).any (·.1) = false := by rfl) : EF X (.Call (.Name x p) (e :: es) [] pos) (aFn φ fs) := by
  obtain ⟨r, hr, hq⟩ := hc
  obtain ⟨t, pt, qa⟩ := ha
  refine ⟨_, pe_callB hr hg hm hv pt hn hdb he hpl, fun G α ow σ H ρ g d g' Q s e w => ?_⟩
  obtain ⟨xs, g1, e1, e2⟩ := bindM_some e
  obtain ⟨e3, rfl⟩ := liftM_some e2
  exact qa G α ow σ H ρ g xs g1 _ s e1 fun vs H1 α1 x1 s1 r1 => hq G α1 ow σ H1 ρ g1 vs xs d Q s1 r1 e3 fun q us hq r2 => w q us H1 α1 x1 s1 hq r2 _ rfl
theorem ef_callT {φ : List D → Option (List D)} (hc : CallF X (.type T) φ) (hm : X.mg x = none) (hv : bootBuiltins x = some (.type T)) (ha : AB X (e :: es) fs) (hg : Gl X x := by rfl) (hn : x ≠ "__name__" := by decide) (hdb : (x == ("__debug__" : Str)) = false := by decide)
    (he : starEach (e :: es) X.env = (false, eval e X.env) :: starEach es X.env := by rfl) (hpl : (backTo pos (starEach es X.env)).any (·.1) = false := by rfl) : EF X (.Call (.Name x p) (e :: es) [] pos) (aFn φ fs) := by
  obtain ⟨r, hr, hq⟩ := hc
  obtain ⟨t, pt, qa⟩ := ha
  refine ⟨_, pe_callTy hr hg hm hv pt hn hdb he hpl, fun G α ow σ H ρ g d g' Q s e w => ?_⟩
  obtain ⟨xs, g1, e1, e2⟩ := bindM_some e
  obtain ⟨e3, rfl⟩ := liftM_some e2
  exact qa G α ow σ H ρ g xs g1 _ s e1 fun vs H1 α1 x1 s1 r1 => hq G α1 ow σ H1 ρ g1 vs xs d Q s1 r1 e3 fun q us hq r2 => w q us H1 α1 x1 s1 hq r2 _ rfl
def dLen : List D → Option D
  | [.str s] => if s.length ≤ BIG then some (.int s.length) else none
  | [.lst xs] => some (.int xs.length)
  | [.tup xs] => some (.int xs.length)
  | _ => none
theorem OrR {f : Value} {r r' : List V → Hp → VK → Prop} (h : CallR X f r) (h' : CallR X f r') : CallR X f (fun xs H Q => r xs H Q ∨ r' xs H Q) := fun pins s σ H xs us Q I rv q => q.elim (h pins s σ H xs us Q I rv) (h' pins s σ H xs us Q I rv)
theorem cd_len : CallD X (.builtin "len") dLen := by
  refine ⟨_, call_len, fun G α ow σ H ρ g vs ds d Q s r e w => ?_⟩
  unfold dLen at e
  split at e
  · split at e
    · rename_i hl
      cases e
      obtain ⟨v, rfl, r1⟩ := BRepAll.one1 r
      rw [r1.str]
      exact ⟨_, _, rfl, ⟨by rw [S_len]; exact Nat.le_trans hl big_line, (S_len _).symm⟩, w _ H Ext.refl s (.int _)⟩
    · cases e
  · cases e
    obtain ⟨v, rfl, r1⟩ := BRepAll.one1 r
    obtain ⟨p, vs, rfl, h1, h2⟩ := r1.lst
    exact ⟨_, _, rfl, .inl ⟨vs, .inl h1, h2.1.symm⟩, w _ H Ext.refl s (.int _)⟩
  · cases e
    obtain ⟨v, rfl, r1⟩ := BRepAll.one1 r
    obtain ⟨p, vs, rfl, h1, h2⟩ := r1.tup
    exact ⟨_, _, rfl, .inr ⟨vs, h1, h2.1.symm⟩, w _ H Ext.refl s (.int _)⟩
  · cases e
/-- a list of bools -/
def bools : List D → Option (List Bool)
  | [] => some []
  | .bl b :: r => (bools r).map (b :: ·)
  | _ => none
theorem bools_rep {A : Addr → Prop} {α : List Addr} {K : PySem.W.Frag} {H : Hp} : ∀ {vs : List V} {ds : List D} {bs : List Bool}, RepAll A α K H vs ds → bools ds = some bs → vs = bs.map V.bl
  | vs, [], bs, r, e => by cases e; exact r.unnil
  | vs, d :: ds, bs, r, e => by
    obtain ⟨v, vr, rfl, h1, h2⟩ := r.uncons
    unfold bools at e
    split at e
    · cases ‹d :: ds = []›
    · rename_i b r' hd
      cases hd
      rw [Option.map_eq_some_iff] at e
      obtain ⟨bs', e, rfl⟩ := e
      cases h1
      rw [List.map_cons, ← bools_rep h2 e]
    · cases e
def dAll : List D → Option D
  | [.lst xs] => (bools xs).map fun bs => .bl (bs.all _root_.id)
  | _ => none
def dAny : List D → Option D
  | [.lst xs] => (bools xs).map fun bs => .bl (bs.any _root_.id)
  | _ => none
theorem cd_all (hc : X.calm = true) : CallD X (.builtin "all") dAll := by
  refine ⟨_, cr_all hc, fun G α ow σ H ρ g vs ds d Q s r e w => ?_⟩
  unfold dAll at e
  split at e
  · rw [Option.map_eq_some_iff] at e
    obtain ⟨bs, e, rfl⟩ := e
    obtain ⟨v, rfl, r1⟩ := BRepAll.one1 r
    obtain ⟨p, vs, rfl, h1, h2⟩ := r1.lst
    rw [bools_rep h2 e] at h1
    exact ⟨p, bs, rfl, .inl h1, w _ H Ext.refl s (.bl _)⟩
  · cases e
theorem cd_any (hc : X.calm = true) : CallD X (.builtin "any") dAny := by
  refine ⟨_, cr_any hc, fun G α ow σ H ρ g vs ds d Q s r e w => ?_⟩
  unfold dAny at e
  split at e
  · rw [Option.map_eq_some_iff] at e
    obtain ⟨bs, e, rfl⟩ := e
    obtain ⟨v, rfl, r1⟩ := BRepAll.one1 r
    obtain ⟨p, vs, rfl, h1, h2⟩ := r1.lst
    rw [bools_rep h2 e] at h1
    exact ⟨p, bs, rfl, .inl h1, w _ H Ext.refl s (.bl _)⟩
  · cases e
def dInt : List D → Option D
  | [.int i] => some (.int i)
  | [.bl b] => some (.int (if b then 1 else 0))
  | [.str s] => if s.length ≤ 640 then (PySem.intText? (S s)).map .int else none
  | _ => none
theorem cd_int : CallD X (.type "int") dInt := by
  refine ⟨_, OrR call_int1 call_int_str, fun G α ow σ H ρ g vs ds d Q s r e w => ?_⟩
  unfold dInt at e
  split at e
  · cases e
    obtain ⟨v, rfl, r1⟩ := BRepAll.one1 r
    rw [r1.int]
    exact .inl (.inl ⟨_, rfl, w _ H Ext.refl s (.int _)⟩)
  · cases e
    obtain ⟨v, rfl, r1⟩ := BRepAll.one1 r
    rw [r1.bl]
    exact .inl (.inr ⟨_, rfl, w _ H Ext.refl s (.int _)⟩)
  · split at e
    · rename_i hl
      rw [Option.map_eq_some_iff] at e
      obtain ⟨n, e, rfl⟩ := e
      obtain ⟨v, rfl, r1⟩ := BRepAll.one1 r
      rw [r1.str]
      exact .inr ⟨_, n, rfl, e, by rw [S_len]; exact hl, w _ H Ext.refl s (.int _)⟩
    · cases e
  · cases e
def strI (n : Int) : List Nat := (toString n : Str).cps.toList
def dStr : List D → Option D
  | [.int n] => if n.natAbs < 10 ^ 60 then some (.str (strI n)) else none
  | _ => none
theorem cd_str : CallD X (.type "str") dStr := by
  refine ⟨_, call_str_int, fun G α ow σ H ρ g vs ds d Q s r e w => ?_⟩
  unfold dStr at e
  split at e
  · split at e
    · rename_i n hl
      cases e
      obtain ⟨v, rfl, r1⟩ := BRepAll.one1 r
      rw [r1.int]
      refine ⟨n, rfl, ?_, ?_⟩
      · by_cases h0 : n.natAbs = 0
        · rw [h0]; decide
        · exact (Nat.log2_lt h0).mpr (Nat.lt_trans hl (Nat.lt_of_lt_of_le (show 10 ^ 60 < 2 ^ 200 by decide) (Nat.pow_le_pow_right (by decide) (by decide))))
      · have := w (.str (S (strI n))) H Ext.refl s (.str _)
        unfold strI at this
        rw [← S_of] at this
        exact this
    · cases e
  · cases e
def aList : List D → Option (List D)
  | [.lst xs] => some xs
  | [.tup xs] => some xs
  | _ => none
theorem cf_list : CallF X (.type "list") aList := by
  refine ⟨_, call_list_of, fun G α ow σ H ρ g vs ds d Q s r e w => ?_⟩
  unfold aList at e
  split at e
  · cases e
    obtain ⟨v, rfl, r1⟩ := BRepAll.one1 r
    obtain ⟨p, vs, rfl, h1, h2⟩ := r1.lst
    exact ⟨p, vs, rfl, .inl (.inl h1), fun l hl => w l vs hl h2⟩
  · cases e
    obtain ⟨v, rfl, r1⟩ := BRepAll.one1 r
    obtain ⟨p, vs, rfl, h1, h2⟩ := r1.tup
    exact ⟨p, vs, rfl, .inr h1, fun l hl => w l vs hl h2⟩
  · cases e
def dTuple : List D → Option D
  | [.lst xs] => some (.tup xs)
  | [.tup xs] => some (.tup xs)
  | _ => none
theorem cd_tuple : CallD X (.type "tuple") dTuple := by
  refine ⟨_, call_tuple_of, fun G α ow σ H ρ g vs ds d Q s r e w => ?_⟩
  unfold dTuple at e
  split at e
  · cases e
    obtain ⟨v, rfl, r1⟩ := BRepAll.one1 r
    obtain ⟨p, vs, rfl, h1, h2⟩ := r1.lst
    exact ⟨p, vs, rfl, .inl ⟨.inl h1, fun l hl => w _ _ (Ext.new hl) (s.new hl) (s.newT hl h2)⟩⟩
  · cases e
    obtain ⟨v, rfl, r1⟩ := BRepAll.one1 r
    obtain ⟨p, vs, rfl, h1, h2⟩ := r1.tup
    refine ⟨p, vs, rfl, .inr ⟨h1, ?_⟩⟩
    cases r1 with
    | of r1 => exact w _ H Ext.refl s r1
  · cases e
end
end L3

/-! L3i: methods of texts, lists joined and repeated, isinstance. -/
namespace L3
open PySem PySem.Spec PyProof.Rows L2 TL

def MtD (X : Cx) (id : String) (φ : D → List D → Option D) : Prop := ∃ r, MtR X id r ∧ ∀ G α ow σ H ρ g x vs dx ds d Q, Sat X.K G α ow σ H ρ g → BRep G.B α ow X.K H x dx → BRepAll G.B α ow X.K H vs ds → φ dx ds = some d → Wants X.K G α ow σ H ρ g d Q → r x vs H Q
def MtF (X : Cx) (id : String) (φ : D → List D → Option (List D)) : Prop := ∃ r, MtR X id r ∧ ∀ G α ow σ H ρ g x vs dx ds d (Q : VK), Sat X.K G α ow σ H ρ g → BRep G.B α ow X.K H x dx → BRepAll G.B α ow X.K H vs ds → φ dx ds = some d →
  (∀ p us, H p = none → RepAll (Al G.B α ow) α X.K H us d → Q (.ref p) (upd H p (.lst us))) → r x vs H Q
def isStr : D → Bool
  | .str _ => true
  | _ => false
def eM1 (φ : D → List D → Option D) (o a : DE) : DE := bindM o fun x => bindM a fun y => liftM (if isStr x then φ x [y] else none)
def aM1 (φ : D → List D → Option (List D)) (o a : DE) : DA := bindM o fun x => bindM a fun y => liftM (if isStr x then φ x [y] else none)
section
variable {X : Cx} {o e : Expr} {fo fe : DE} {id : String} {name : Str} {apos pos : Pos}
theorem isStr_eq {d : D} (h : isStr d = true) : ∃ s, d = .str s := by
  cases d <;> first | exact ⟨_, rfl⟩ | cases h
theorem ec_m1 {φ : D → List D → Option D} (slot : Slot "str" name id) (ty : typeOf (.builtin id) = pure (.type "method_descriptor")) (hm : MtD X id φ) (ho : EB X o fo) (he : EB X e fe)
    (hs : starEach [e] X.env = [(false, eval e X.env)] := by rfl) (hbase : attributeBase o name X.env (eval o X.env) = eval o X.env := by rfl) (hline : (apos.endLine == pos.line) = true := by rfl) :
    EC X (.Call (.Attribute o name apos) [e] [] pos) (eM1 φ fo fe) := by
  obtain ⟨r, hr, hq⟩ := hm
  obtain ⟨t, pt, qo⟩ := ho
  obtain ⟨t2, pt2, qe⟩ := he
  refine ⟨_, pe_m1 slot ty hr pt pt2 hs hbase hline, fun G α ow σ H ρ g d g' Q s e w => ?_⟩
  obtain ⟨x, g1, e1, e2⟩ := bindM_some e
  obtain ⟨y, g2, e3, e4⟩ := bindM_some e2
  obtain ⟨e5, rfl⟩ := liftM_some e4
  split at e5
  · rename_i hi
    obtain ⟨z, rfl⟩ := isStr_eq hi
    refine qo G α ow σ H ρ g _ g1 _ s e1 fun v H1 α1 x1 s1 r1 => ⟨⟨_, r1.str⟩, ?_⟩
    refine qe G α1 ow σ H1 ρ g1 y g2 _ s1 e3 fun u H2 α2 x2 s2 r2 => ?_
    exact hq G α2 ow σ H2 ρ g2 v [u] _ [y] d Q s2 (r1.ext x2) (.cons r2 .nil) e5 fun v3 H3 x3 s3 r3 => w v3 H3 α2 ((x1.trans x2).trans x3) s3 r3
  · cases e5
theorem ef_m1 {φ : D → List D → Option (List D)} (slot : Slot "str" name id) (ty : typeOf (.builtin id) = pure (.type "method_descriptor")) (hm : MtF X id φ) (ho : EB X o fo) (he : EB X e fe)
    (hs : starEach [e] X.env = [(false, eval e X.env)] := by rfl) (hbase : attributeBase o name X.env (eval o X.env) = eval o X.env := by rfl) (hline : (apos.endLine == pos.line) = true := by rfl) :
    EF X (.Call (.Attribute o name apos) [e] [] pos) (aM1 φ fo fe) := by
  obtain ⟨r, hr, hq⟩ := hm
  obtain ⟨t, pt, qo⟩ := ho
  obtain ⟨t2, pt2, qe⟩ := he
  refine ⟨_, pe_m1 slot ty hr pt pt2 hs hbase hline, fun G α ow σ H ρ g d g' Q s e w => ?_⟩
  obtain ⟨x, g1, e1, e2⟩ := bindM_some e
  obtain ⟨y, g2, e3, e4⟩ := bindM_some e2
  obtain ⟨e5, rfl⟩ := liftM_some e4
  split at e5
  · rename_i hi
    obtain ⟨z, rfl⟩ := isStr_eq hi
    refine qo G α ow σ H ρ g _ g1 _ s e1 fun v H1 α1 x1 s1 r1 => ⟨⟨_, r1.str⟩, ?_⟩
    refine qe G α1 ow σ H1 ρ g1 y g2 _ s1 e3 fun u H2 α2 x2 s2 r2 => ?_
    exact hq G α2 ow σ H2 ρ g2 v [u] _ [y] d Q s2 (r1.ext x2) (.cons r2 .nil) e5 fun p us hp r3 => w p us H2 α2 (x1.trans x2) s2 hp r3 _ rfl
  · cases e5
/-! startswith -/
def dStarts : D → List D → Option D
  | .str a, [.str b] => some (.bl (a.take b.length == b))
  | _, _ => none
theorem starts_S (a b : List Nat) : Txt.startswith (S a) (S b) = (a.take b.length == b) := by
  unfold Txt.startswith Builtin.Str.subAt
  rw [S_len, S_len]
  simp only [Nat.zero_add, S]
  rw [Bool.eq_iff_iff]
  simp only [Bool.and_eq_true, decide_eq_true_eq, beq_iff_eq]
  constructor
  · rintro ⟨h1, h2⟩
    have := congrArg Array.toList h2
    simpa using this
  · intro h
    refine ⟨?_, ?_⟩
    · have := congrArg List.length h
      rw [List.length_take] at this
      omega
    · apply Array.ext'
      simpa using h
theorem md_starts : MtD X "str.startswith" dStarts := by
  refine ⟨_, mt_startswith, fun G α ow σ H ρ g x vs dx ds d Q s rx r e w => ?_⟩
  unfold dStarts at e
  split at e
  · cases e
    obtain ⟨v, rfl, r1⟩ := BRepAll.one1 r
    rw [rx.str, r1.str]
    exact ⟨_, _, rfl, rfl, by rw [starts_S]; exact w _ H Ext.refl s (.bl _)⟩
  · cases e
/-! split by one sign -/
def splitC (c : Nat) : List Nat → List (List Nat)
  | [] => [[]]
  | x :: r => if x = c then [] :: splitC c r else match splitC c r with
    | [] => [[x]]
    | p :: ps => (x :: p) :: ps
theorem splitC_ne (c : Nat) : ∀ l, splitC c l ≠ []
  | [] => by simp [splitC]
  | x :: r => by
    unfold splitC
    split
    · simp
    · split <;> simp
theorem spl_one (c : Nat) : ∀ (l acc : List Nat), spl [c] 0 acc l = match splitC c l with
    | [] => [acc]
    | p :: ps => (acc ++ p) :: ps
  | [], acc => by simp [spl, splitC]
  | x :: r, acc => by
    unfold spl splitC TL.pre
    simp only [List.length_singleton, List.take_succ_cons, List.take_zero, beq_iff_eq, List.cons.injEq, and_true]
    by_cases h : x = c
    · rw [if_pos h, if_pos h]
      simp only [Nat.sub_self, List.append_nil]
      rw [spl_one c r []]
      cases q : splitC c r with
      | nil => exact absurd q (splitC_ne c r)
      | cons p ps => simp
    · rw [if_neg h, if_neg h, spl_one c r]
      cases q : splitC c r with
      | nil => exact absurd q (splitC_ne c r)
      | cons p ps => simp
theorem map_tl {l : List Str} {m : List (List Nat)} (h : l.map tl = m) : l = m.map S := by
  subst h
  rw [List.map_map]
  have : ∀ z : Str, (S ∘ tl) z = z := fun z => (S_of z).symm
  rw [List.map_congr_left (fun z _ => this z)]
  simp
theorem split_S (a : List Nat) (c : Nat) (hc : c < 256) : Txt.split (S a) (S [c]) = (splitC c a).map S := by
  apply map_tl
  rw [split_spl (S a) (S [c]) (by simp [tl, S]) ?_]
  · show spl [c] 0 [] (tl (S a)) = _
    rw [show tl (S a) = a from S_list a, spl_one]
    cases q : splitC c a with
    | nil => exact absurd q (splitC_ne c a)
    | cons p ps => simp
  · have : Builtin.Str.strKind (S [c]) = 1 := by
      unfold Builtin.Str.strKind
      rw [if_pos]
      simp [S, hc]
    rw [this]
    unfold Builtin.Str.strKind
    split
    · decide
    · split <;> decide
def aSplit : D → List D → Option (List D)
  | .str a, [.str [c]] => if c < 256 ∧ a.length + 2 ≤ BIG then some ((splitC c a).map .str) else none
  | _, _ => none
theorem repAll_strs {A : Addr → Prop} {α : List Addr} {K : PySem.W.Frag} {H : Hp} : ∀ l : List (List Nat), RepAll A α K H ((l.map S).map V.str) (l.map D.str)
  | [] => RepAll.nil
  | x :: r => RepAll.cons (.str x) (repAll_strs r)
theorem mf_split : MtF X "str.split" aSplit := by
  refine ⟨_, mt_split, fun G α ow σ H ρ g x vs dx ds d Q s rx r e w => ?_⟩
  unfold aSplit at e
  split at e
  · split at e
    · rename_i hc
      cases e
      obtain ⟨v, rfl, r1⟩ := BRepAll.one1 r
      rw [rx.str, r1.str]
      refine ⟨_, _, rfl, rfl, rfl, by rw [S_len]; exact Nat.le_trans hc.2 big_line, fun p hp => ?_⟩
      rw [split_S _ _ hc.1]
      exact w p _ hp (repAll_strs _)
    · cases e
  · cases e
/-! join -/
def txts : List D → Option (List (List Nat))
  | [] => some []
  | .str s :: r => (txts r).map (s :: ·)
  | _ => none
theorem txts_rep {A : Addr → Prop} {α : List Addr} {K : PySem.W.Frag} {H : Hp} : ∀ {vs : List V} {ds : List D} {bs : List (List Nat)}, RepAll A α K H vs ds → txts ds = some bs → vs = (bs.map S).map V.str
  | vs, [], bs, r, e => by cases e; exact r.unnil
  | vs, d :: ds, bs, r, e => by
    obtain ⟨v, vr, rfl, h1, h2⟩ := r.uncons
    unfold txts at e
    split at e
    · cases ‹d :: ds = []›
    · rename_i b r' hd
      cases hd
      rw [Option.map_eq_some_iff] at e
      obtain ⟨bs', e, rfl⟩ := e
      cases h1
      rw [List.map_cons, List.map_cons, ← txts_rep h2 e]
    · cases e
theorem join_S (a : List Nat) (l : List (List Nat)) : Txt.join (S a) (l.map S) = S (joinL a l) := by
  rw [join_eq, S_of (Str.join _ _)]
  congr 1
  have := tl_join (S a) (l.map S)
  rw [show tl (S a) = a from S_list a, List.map_map] at this
  rw [show (Str.join (S a) (l.map S)).cps.toList = tl (Str.join (S a) (l.map S)) from rfl, this]
  congr 1
  rw [show (tl ∘ S) = fun z => z from funext fun z => S_list z]
  simp
def joinN (a : List Nat) (l : List (List Nat)) : Nat := (l.map (·.length)).sum + l.length * a.length
def dJoinL (a : List Nat) (xs : List D) : Option D := match txts xs with
  | some l => if joinN a l ≤ BIG then some (.str (joinL a l)) else none
  | none => none
def dJoin : D → List D → Option D
  | .str a, [.lst xs] => dJoinL a xs
  | .str a, [.tup xs] => dJoinL a xs
  | _, _ => none
theorem joinN_S (a : List Nat) (l : List (List Nat)) : ((l.map S).map (·.length)).sum + (l.map S).length * (S a).length = joinN a l := by
  unfold joinN
  rw [List.map_map, List.length_map, S_len]
  rw [show ((fun x : Str => x.length) ∘ S) = fun z => z.length from funext fun z => S_len z]
theorem md_join : MtD X "str.join" dJoin := by
  refine ⟨_, mt_join, fun G α ow σ H ρ g x vs dx ds d Q s rx r e w => ?_⟩
  have main : ∀ {a : List Nat} {xs : List D} {p : Addr} {us : List V}, dJoinL a xs = some d → RepAll (Al G.B α ow) α X.K H us xs → (SqL X.K H p us ∨ SqT X.K H p us) → ∃ a' p', ∃ ys : List Str, V.str (S a) = .str a' ∧ [V.ref p] = [V.ref p'] ∧ (SqL X.K H p' (ys.map V.str) ∨ SqT X.K H p' (ys.map V.str)) ∧
      (ys.map (·.length)).sum + ys.length * a'.length ≤ 16777216 ∧ Q (.str (Txt.join a' ys)) H := fun {a xs p us} e hr hs => by
    unfold dJoinL at e
    split at e
    · rename_i l hl
      split at e
      · rename_i hb
        cases e
        rw [txts_rep hr hl] at hs
        refine ⟨S a, p, l.map S, rfl, rfl, hs, by rw [joinN_S]; unfold BIG at hb; omega, ?_⟩
        rw [join_S]
        exact w _ H Ext.refl s (.str _)
      · cases e
    · cases e
  unfold dJoin at e
  split at e
  · obtain ⟨v, rfl, r1⟩ := BRepAll.one1 r
    obtain ⟨p, us, rfl, h1, h2⟩ := r1.lst
    rw [rx.str]
    exact main e h2 (.inl (.inl h1))
  · obtain ⟨v, rfl, r1⟩ := BRepAll.one1 r
    obtain ⟨p, us, rfl, h1, h2⟩ := r1.tup
    rw [rx.str]
    exact main e h2 (.inr h1)
  · cases e
/-! index, found -/
def dIndexS : D → List D → Option D
  | .str a, [.str b] => match Builtin.Str.occurrences (S a) (S b) 0 (S a).length 1 with
    | i :: _ => some (.int (i : Nat))
    | [] => none
  | _, _ => none
theorem md_indexS : MtD X "str.index" dIndexS := by
  refine ⟨_, mt_sindex, fun G α ow σ H ρ g x vs dx ds d Q s rx r e w => ?_⟩
  unfold dIndexS at e
  split at e
  · split at e
    · rename_i i rest ho
      cases e
      obtain ⟨v, rfl, r1⟩ := BRepAll.one1 r
      rw [rx.str, r1.str]
      exact ⟨_, _, i, rest, rfl, rfl, ho, w _ H Ext.refl s (.int _)⟩
    · cases e
  · cases e
end

/-! ### list + list, list * n -/
section
variable {X : Cx} {a b : Expr} {fa fb : DE} {pos : Pos}
theorem op_catR : OpR X (binaryOp .Add) (fun x y H Q => ∃ l b xs zs, x = .ref l ∧ y = .ref b ∧ Rd H l (.lst xs) ∧ Rd H b (.lst zs) ∧ xs.length + zs.length ≤ sizeLine ∧ ∀ p, H p = none → Q (.ref p) (upd H p (.lst (xs ++ zs)))) := by
  intro pins s σ H x y v u Q I rx ry h
  obtain ⟨l, b, xs, zs, rfl, rfl, hH, hB, hz, q⟩ := h
  cases rx
  cases ry
  obtain ⟨z, its, n, r, e⟩ := hH.ok I.hok
  obtain ⟨z2, its2, n2, r2, e2⟩ := hB.ok I.hok
  have hl := r.length
  have hl2 := r2.length
  refine PySem.P.add_list e e2 ?_ (by rw [List.size_toArray, List.size_toArray]; omega)
  have ea : its.toArray ++ its2.toArray = (its ++ its2).toArray := by simp
  rw [ea]
  exact ⟨.ref _, _, I.lnew (t' := s.toks) (r.append r2) (by rw [List.length_append]; omega), rfl, q _ I.fresh⟩
def aCat (fa fb : DE) : DA := bindM fa fun x => bindM fb fun y => liftM (match x, y with
  | .lst xs, .lst ys => if xs.length + ys.length ≤ BIG then some (xs ++ ys) else none
  | _, _ => none)
theorem ef_cat (ha : EB X a fa) (hb : EB X b fb) : EF X (.BinOp a .Add b pos) (aCat fa fb) := by
  obtain ⟨ta, pa, ha⟩ := ha
  obtain ⟨tb, pb, hb⟩ := hb
  refine ⟨_, pe_op op_catR pa pb, fun G α ow σ H ρ g d g' Q s e w => ?_⟩
  obtain ⟨dx, g1, e1, he⟩ := bindM_some e
  obtain ⟨dy, g2, e2, he⟩ := bindM_some he
  obtain ⟨e3, rfl⟩ := liftM_some he
  refine ha G α ow σ H ρ g dx g1 _ s e1 fun x H1 α1 x1 s1 r1 => ?_
  refine hb G α1 ow σ H1 ρ g1 dy g2 _ s1 e2 fun y H2 α2 x2 s2 r2 => ?_
  split at e3
  · split at e3
    · rename_i hl
      cases e3
      obtain ⟨p, vs, rfl, h1, h2⟩ := (r1.ext x2).lst
      obtain ⟨q, us, rfl, h3, h4⟩ := r2.lst
      exact ⟨p, q, vs, us, rfl, rfl, h1, h3, by rw [h2.1, h4.1]; exact Nat.le_trans hl big_line, fun l hl => w l _ H2 α2 (x1.trans x2) s2 hl (h2.append h4) _ rfl⟩
    · cases e3
  · cases e3
/-! isinstance(e, T), T a built-in type's name -/
def tyName : D → Option String
  | .non => some "NoneType"
  | .bl _ => some "bool"
  | .int _ => some "int"
  | .str _ => some "str"
  | .lst _ => some "list"
  | .tup _ => some "tuple"
  | .dic _ => some "dict"
  | _ => none
def dIsi (T : String) (x : D) : Option D := match tyName x with
  | some n => (kitB n T).map .bl
  | none => none
theorem BRep.ty {B : Addr → Prop} {α : List Addr} {ow : Nat → Option Addr} {K : PySem.W.Frag} {H : Hp} {x : V} {d : D} {n : String} (h : BRep B α ow K H x d) (e : tyName d = some n) : TyX K H x (.type n) := by
  cases h with
  | of h =>
    cases h with
    | non => cases e; exact .base .non
    | bl b => cases e; exact .base (.bl b)
    | int b => cases e; exact .base (.int b)
    | str b => cases e; exact .base (.str _)
    | lst hA h hl hi =>
      cases e
      rcases h with h | ⟨o, h⟩
      · exact .base (.lst h)
      · exact .base (.frz h)
    | tup h hl hi =>
      cases e
      rcases h with ⟨_, h | ⟨o, h⟩⟩ | ⟨o, its, n, h1, h2, _⟩
      · exact .base (.tup h)
      · exact .fTuple h
      · exact .kTuple h1 h2
    | dic hA h hk hi =>
      cases e
      rcases h with h | ⟨o, h⟩
      · exact .base (.dK h)
      · exact .fDict h
    | obj h => cases e
    | sta a => cases e
  | own h hn ho r => cases e; exact .base (.lst ho)
  | ownd h hn ho hk r => cases e; exact .base (.dK ho)
theorem ec_isi {T : String} {x : Str} {p p2 : Pos} (hm : X.mg "isinstance" = none) (hmT : X.mg x = none) (hv : bootBuiltins x = some (.type T)) (ha : EB X a fa) (hg : Gl X "isinstance" := by rfl) (hgT : Gl X x := by rfl) (hn : x ≠ "__name__" := by decide) (hdb : (x == ("__debug__" : Str)) = false := by decide)
    (he : starEach [a, .Name x p2] X.env = (false, eval a X.env) :: starEach [.Name x p2] X.env := by rfl) (he2 : starEach [.Name x p2] X.env = (false, eval (.Name x p2) X.env) :: starEach [] X.env := by rfl) (hpl : (backTo pos (starEach [.Name x p2] X.env)).any (·.1) = false := by rfl) :
    EC X (.Call (.Name "isinstance" p) [a, .Name x p2] [] pos) (eUn (dIsi T) fa) := by
  obtain ⟨t, pt, hq⟩ := ha
  refine ⟨_, pe_callB call_isi hg hm (by decide +kernel) (pa_cons pt (pa_cons (pe_bltn (v := .ty T) hgT hmT hv rfl hn hdb) pa_nil he2) he) (by decide) (by decide) he hpl, fun G α ow σ H ρ g d g' Q s e w => ?_⟩
  obtain ⟨dx, g1, e1, e2⟩ := bindM_some e
  obtain ⟨e3, rfl⟩ := liftM_some e2
  refine hq G α ow σ H ρ g dx g1 _ s e1 fun v H1 α1 x1 s1 r1 => ?_
  unfold dIsi at e3
  split at e3
  · rename_i n hn'
    rw [Option.map_eq_some_iff] at e3
    obtain ⟨k, e3, rfl⟩ := e3
    exact ⟨v, .ty T, .type n, .type T, k, rfl, .ty T, r1.ty hn', kit_ty e3, w _ H1 α1 x1 s1 (.bl _)⟩
  · cases e3
end
/-! sep.join(e).replace(y, z) of written texts -/
section
variable {X : Cx} {e : Expr} {fe : DE} {c y z : List Nat}
def dReplC (y z : List Nat) : D → Option D
  | .str x => if x.length + (x.length + 1) * z.length ≤ 1000000 then some (.str (StrLaws.replL y z x)) else none
  | _ => none
theorem repl_S (x y z : List Nat) (hy : 1 ≤ y.length) : Txt.replace (S x) (S y) (S z) = S (StrLaws.replL y z x) := by
  rw [S_of (Txt.replace _ _ _)]
  congr 1
  rw [StrLaws.replace_list (by rw [S_len]; exact hy), S_list, S_list, S_list]
theorem ec_joinRepl {j0 j k : Nat} {p0 c0 c1 a1 q1 apos pos : Pos} {sc sy sz : Str} (hc : sc = S c) (hy : sy = S y) (hz : sz = S z) (hyl : 1 ≤ y.length) (he : EB X e fe) (hyz : (sy == sz) = false := by decide)
    (hs : starEach [e] X.env = [(false, eval e X.env)] := by rfl) (hbase1 : attributeBase (.Constant (.str sc) j0 p0) "join" X.env (eval (.Constant (.str sc) j0 p0) X.env) = eval (.Constant (.str sc) j0 p0) X.env := by rfl) (hline1 : (a1.endLine == q1.line) = true := by rfl)
    (hst : starEach [.Constant (.str sy) j c0, .Constant (.str sz) k c1] X.env = [(false, eval (.Constant (.str sy) j c0) X.env), (false, eval (.Constant (.str sz) k c1) X.env)] := by rfl)
    (hbase : attributeBase (.Call (.Attribute (.Constant (.str sc) j0 p0) "join" a1) [e] [] q1) "replace" X.env (eval (.Call (.Attribute (.Constant (.str sc) j0 p0) "join" a1) [e] [] q1) X.env) = eval (.Call (.Attribute (.Constant (.str sc) j0 p0) "join" a1) [e] [] q1) X.env := by rfl) (hline : (apos.endLine == pos.line) = true := by rfl) :
    EC X (.Call (.Attribute (.Call (.Attribute (.Constant (.str sc) j0 p0) "join" a1) [e] [] q1) "replace" apos) [.Constant (.str sy) j c0, .Constant (.str sz) k c1] [] pos) (eUn (dReplC y z) (eM1 dJoin (eC (.str c)) fe)) := by
  subst hc hy hz
  obtain ⟨te, pe, qe⟩ := he
  obtain ⟨r, hr, hq⟩ := md_join (X := X)
  refine ⟨CwR.tReplC (tM1 r (tC (.str (S c))) te) (S y) (S z), ⟨fun pins s σ H Q I h => ?_⟩, fun G α ow σ H ρ g d g' Q s e w => ?_⟩
  · refine PySem.Call_method2 hbase hst hline ?_
    refine PySem.Call_method1 hbase1 hs hline1 (Calls.Constant_str ?_)
    obtain ⟨⟨a, ea⟩, h⟩ := h
    refine ⟨"str", _, PySem.F.plainAttrs_str, PySem.F.slot_str_join, PySem.F.type_str_join, typeIs_str _ _ _, (fun _ e => nomatch e), ?_⟩
    refine wpAny_mono (PySem.wpAny_toks (Q := fun v s1 => EP X pins σ (fun v H1 => ∃ x, v = .str x ∧ x.length + (x.length + 1) * (S z).length ≤ 16777216 ∧ Q (.str (Txt.replace x (S y) (S z))) H1) v s1) ?_) (fun v s1 q => ?_) fun _ _ z => z.2
    · refine Calls.callWith_builtin rfl (Calls.evalArgs_plain (Calls.spliced_cons ?_))
      have I1 : Inv X pins σ H { s with toks := s.toks + 1 } := I.tok _
      exact thn (pe.run pins _ σ H _ I1 h) fun u s2 ⟨y', H2, I2, r2, q2⟩ => Calls.spliced_nil (hr pins s2 σ H2 (.str (S c)) [y'] _ [u] _ I2 ⟨_, rfl⟩ (.cons r2 .nil) q2)
    · obtain ⟨hk, v', H1, I1, r1, x, e1, hb, q⟩ := q
      subst e1
      obtain ⟨tx, e2⟩ := r1
      subst e2
      have hk : s.toks + 1 ≤ s1.toks := hk
      refine ⟨"str", _, PySem.F.plainAttrs_str, PySem.F.slot_str_replace, PySem.F.type_str_replace, typeIs_str _ _ _, (fun _ e => nomatch e), Calls.callWith_builtin rfl (Calls.evalArgs_plain (Calls.spliced_cons ?_))⟩
      refine Calls.Constant_str (Calls.spliced_cons (Calls.Constant_str (Calls.spliced_nil ?_)))
      exact PySem.SC.replace (by show s1.toks ≠ 0; omega) (by show s1.toks + 1 ≠ 0; omega) (by show s1.toks ≠ s1.toks + 1; omega) hyz hb fun t' k => ⟨.str (Txt.replace x (S y) (S z)), H1, I1.tok k, ⟨t', rfl⟩, q⟩
  · obtain ⟨dx, g1, e1, e2⟩ := bindM_some e
    obtain ⟨e3, rfl⟩ := liftM_some e2
    obtain ⟨x0, g2, f1, f2⟩ := bindM_some e1
    obtain ⟨y0, g3, f3, f4⟩ := bindM_some f2
    obtain ⟨f5, rfl⟩ := liftM_some f4
    cases f1
    rw [if_pos (show isStr (D.str c) = true from rfl)] at f5
    refine ⟨⟨_, rfl⟩, qe G α ow σ H ρ g y0 g3 _ s f3 fun u H2 α2 x2 s2 r2 => ?_⟩
    refine hq G α2 ow σ H2 ρ g3 _ [u] _ [y0] dx _ s2 (.of (.str c)) (.cons r2 .nil) f5 fun v3 H3 x3 s3 r3 => ?_
    unfold dReplC at e3
    split at e3
    · split at e3
      · rename_i hb
        cases e3
        cases r3
        refine ⟨_, rfl, by rw [S_len, S_len]; omega, ?_⟩
        rw [repl_S _ _ _ hyl]
        exact w _ H3 α2 (x2.trans x3) s3 (.str _)
      · cases e3
    · cases e3
end
end L3

/-! L3j: lists that are kept in the store and changed by place. -/
namespace L3
open PySem PySem.Spec PyProof.Rows L2 TL

section
variable {K : PySem.W.Frag} {G : Gh} {α : List Addr} {ow : Nat → Option Addr} {σ : L2.St} {H : Hp} {ρ : Env3} {g : Store}
/-- a new list becomes an object of the store -/
theorem Sat.stored (s : Sat K G α ow σ H ρ g) {p : Addr} {vs : List V} {ds : List D} (hp : H p = none) (r : RepAll (Al G.B α ow) α K H vs ds) :
    Ext α H (α ++ [p]) (upd H p (.lst vs)) ∧ GOk (Al G.B (α ++ [p]) ow) (α ++ [p]) (g ++ [.lst ds]) K (upd H p (.lst vs)) ∧ (α ++ [p])[g.length]? = some p := by
  have al := s.al hp
  have x : Ext α H (α ++ [p]) (upd H p (.lst vs)) := ⟨fun a o h hn => by rw [upd_ne (ne_of_none h hp)]; exact h, List.prefix_append _ _, fun a ha => by
    rcases List.mem_append.mp ha with h | h
    · exact .inl h
    · rw [List.mem_singleton.mp h]; exact .inr hp⟩
  refine ⟨x, ⟨by rw [List.length_append, List.length_append, s.gok.len]; rfl, ?_, fun n a o h1 h2 => ?_⟩, ?_⟩
  · rw [List.nodup_append]
    exact ⟨s.gok.nd, by simp, fun a ha b hb => by rw [List.mem_singleton.mp hb]; exact fun z => al.1 (by rw [← z]; exact ha)⟩
  · by_cases hn : n < α.length
    · rw [List.getElem?_append_left hn] at h1
      rw [List.getElem?_append_left (by rw [← s.gok.len]; exact hn)] at h2
      exact (s.gok.so n a o h1 h2).ext x fun o e => by rw [upd_ne (ne_of_none e hp)]; exact e
    · have hl : n < (α ++ [p]).length := (List.getElem?_eq_some_iff.mp h1).1
      rw [List.length_append, List.length_singleton] at hl
      have en : n = α.length := by omega
      subst en
      rw [List.getElem?_append_right (Nat.le_refl _), Nat.sub_self] at h1
      rw [s.gok.len, List.getElem?_append_right (Nat.le_refl _), Nat.sub_self] at h2
      cases h1
      cases h2
      exact ⟨vs, upd_same, r.ext x⟩
  · rw [← s.gok.len, List.getElem?_append_right (Nat.le_refl _), Nat.sub_self]
    rfl
/-- an object of the store is changed -/
theorem Sat.store (s : Sat K G α ow σ H ρ g) {n : Nat} {p : Addr} {vs : List V} {ds : List D} (hn : α[n]? = some p) (r : RepAll (Al G.B α ow) α K H vs ds) :
    Ext α H α (upd H p (.lst vs)) ∧ GOk (Al G.B α ow) α (g.set n (.lst ds)) K (upd H p (.lst vs)) := by
  have hm : p ∈ α := List.mem_of_getElem? hn
  have x : Ext α H α (upd H p (.lst vs)) := ⟨fun a o h hn => by rw [upd_ne fun z => hn (by rw [z]; exact hm)]; exact h, List.prefix_refl _, fun a ha => .inl ha⟩
  refine ⟨x, ⟨by rw [List.length_set]; exact s.gok.len, s.gok.nd, fun m a o h1 h2 => ?_⟩⟩
  have hl : n < g.length := by rw [← s.gok.len]; exact (List.getElem?_eq_some_iff.mp hn).1
  by_cases hm' : m = n
  · subst hm'
    rw [List.getElem?_set_self hl] at h2
    rw [hn] at h1
    cases h1
    cases h2
    exact ⟨vs, upd_same, r.ext x⟩
  · rw [List.getElem?_set_ne (Ne.symm hm')] at h2
    refine (s.gok.so m a o h1 h2).ext x fun o e => ?_
    rw [upd_ne fun z => hm' ?_]
    · exact e
    · obtain ⟨i1, j1⟩ := List.getElem?_eq_some_iff.mp h1
      obtain ⟨i2, j2⟩ := List.getElem?_eq_some_iff.mp hn
      exact (List.getElem_inj s.gok.nd).mp (j1.trans (z.trans j2.symm))
end
def eSt (f : DA) : DE := bindM f fun xs => fun _ g => some (.obj g.length, g ++ [.lst xs])
section
variable {X : Cx} {e a b : Expr} {fe fa fb : DE} {fs : DA} {pos : Pos}
theorem EF.st (h : EF X e fs) : EC X e (eSt fs) := by
  obtain ⟨t, pt, hq⟩ := h
  refine ⟨t, pt, fun G α ow σ H ρ g d g' Q s e w => ?_⟩
  obtain ⟨xs, g1, e1, e2⟩ := bindM_some e
  cases e2
  refine hq G α ow σ H ρ g xs g1 _ s e1 fun p vs H1 α1 x1 s1 hp r H2 eH => ?_
  subst eH
  obtain ⟨x2, gk, hg⟩ := s1.stored hp r
  exact w _ _ _ (x1.trans x2) (s1.step x2 gk) (.obj hg)
def eIxO (fo fi : DE) : DE := bindM fo fun x => bindM fi fun y => fun _ g => match x, y with
  | .obj n, .int i => match g[n]? with
    | some (.lst xs) => (atI xs i).map fun d => (d, g)
    | _ => none
  | _, _ => none
theorem BRep.obj {B : Addr → Prop} {α : List Addr} {ow : Nat → Option Addr} {K : PySem.W.Frag} {H : Hp} {x : V} {n : Nat} (h : BRep B α ow K H x (.obj n)) : ∃ a, x = .ref a ∧ α[n]? = some a := by
  cases h with
  | of h => cases h with | obj h => exact ⟨_, rfl, h⟩
theorem ec_ixO (ha : EB X a fa) (hb : EB X b fb) (hs : PlainIx b := by exact fun _ _ => rfl) : EC X (.Subscript a b pos) (eIxO fa fb) := by
  obtain ⟨ta, pa, ha⟩ := ha
  obtain ⟨tb, pb, hb⟩ := hb
  refine ⟨_, pe_ix ix_list pa pb hs, fun G α ow σ H ρ g d g' Q s e w => ?_⟩
  obtain ⟨x, g1, e1, e2⟩ := bindM_some e
  obtain ⟨y, g2, e3, e4⟩ := bindM_some e2
  refine ha G α ow σ H ρ g x g1 _ s e1 fun v H1 α1 x1 s1 r1 => ?_
  refine hb G α1 ow σ H1 ρ g1 y g2 _ s1 e3 fun u H2 α2 x2 s2 r2 => ?_
  split at e4
  · split at e4
    · rename_i hg
      rw [Option.map_eq_some_iff] at e4
      obtain ⟨z, e4, e5⟩ := e4
      cases e5
      obtain ⟨p, rfl, hp⟩ := (r1.ext x2).obj
      obtain ⟨vs, h1, h2⟩ := s2.gok.so _ p _ hp hg
      obtain ⟨k, e6, r6⟩ := h2.atI e4
      rw [r2.int]
      exact ⟨p, vs, _, k, rfl, rfl, .inl (.inl h1), e6, w _ H2 α2 (x1.trans x2) s2 r6⟩
    · cases e4
  · cases e4
def sSetO (fo fi fe : DE) : DS := fun ρ g => match fe ρ g with
  | some (d, g1) => match fo ρ g1 with
    | some (.obj n, g2) => match fi ρ g2 with
      | some (.int i, g3) => match g3[n]? with
        | some (.lst xs) => match ixN xs.length i with
          | some j => some (.nx ρ, g3.set n (.lst (xs.set j d)))
          | none => none
        | _ => none
      | _ => none
    | _ => none
  | none => none
theorem RepAll.set {A : Addr → Prop} {α : List Addr} {K : PySem.W.Frag} {H : Hp} {vs : List V} {ds : List D} {v : V} {d : D} (j : Nat) (h : RepAll A α K H vs ds) (r : Rep A α K H v d) : RepAll A α K H (vs.set j v) (ds.set j d) := by
  refine ⟨by rw [List.length_set, List.length_set, h.1], fun i x y h1 h2 => ?_⟩
  by_cases hj : i = j
  · subst hj
    have hl : i < vs.length := by simpa using (List.getElem?_eq_some_iff.mp h1).1
    rw [List.getElem?_set_self hl] at h1
    rw [List.getElem?_set_self (by rw [← h.1]; exact hl)] at h2
    cases h1
    cases h2
    exact r
  · rw [List.getElem?_set_ne (Ne.symm hj)] at h1 h2
    exact h.2 i x y h1 h2
theorem sc_setO {p2 : Pos} (he : EC X e fe) (ha : EB X a fa) (hb : EB X b fb)
    (has : ∀ v, assign (.Subscript a b p2) X.env v = (do
      let ov ← holding [v] (eval a X.env)
      let iv ← holding [v, ov] (eval b X.env)
      standAt p2
      holding [v, ov, iv] (setItem ov iv v)
      release [v, ov, iv] []) := by intro _; rfl)
    (hs : swapsWithSole [.Subscript a b p2] e pos.line X.env = pure false := by rfl) (hw : swappedStores [.Subscript a b p2] e X.env = pure none := by rfl)
    (h1 : (assignEach [.Subscript a b p2] X.env).map (·.2) = [assign (.Subscript a b p2) X.env] := by rfl) : SC X (.Assign [.Subscript a b p2] e pos) (sSetO fa fb fe) := by
  obtain ⟨te, pe, qe⟩ := he
  obtain ⟨ta, pa, qa⟩ := ha
  obtain ⟨tb, pb, qb⟩ := hb
  refine ⟨_, ps_asg pe (pg_sub pa pb set_list has) hs hw h1, fun G α ow σ H ρ g out g' Dn s e w => ?_⟩
  unfold sSetO at e
  split at e
  · rename_i d g1 e1
    split at e
    · rename_i n g2 e2
      split at e
      · rename_i i g3 e3
        split at e
        · rename_i xs hg
          split at e
          · rename_i j hj
            cases e
            refine qe G α ow σ H ρ g d g1 _ s e1 fun v H1 α1 x1 s1 r1 => ?_
            refine qa G α1 ow σ H1 ρ g1 _ g2 _ s1 e2 fun o H2 α2 x2 s2 r2 => ?_
            refine qb G α2 ow σ H2 ρ g2 _ g3 _ s2 e3 fun k H3 α3 x3 s3 r3 => ?_
            obtain ⟨p, rfl, hp⟩ := (r2.ext x3).obj
            obtain ⟨vs, q1, q2⟩ := s3.gok.so n p _ hp hg
            have r4 := (r1.ext x2).ext x3
            have q3 := q2.set j r4
            obtain ⟨x4, gk⟩ := s3.store hp q3
            rw [r3.int]
            refine ⟨p, vs, i, j, rfl, rfl, q1, by rw [q2.1]; exact hj, ?_⟩
            exact w _ _ _ _ (s3.step x4 gk) (((x1.trans x2).trans x3).trans x4).fz
          · cases e
        · cases e
      · cases e
    · cases e
  · cases e
def sUnpO (fo : DE) (ts : List D → Option (List (Nat × D))) : DS := fun ρ g => match fo ρ g with
  | some (.obj n, g1) => match g1[n]? with
    | some (.lst xs) => match ts xs with
      | some as => some (.nx (sets ρ as), g1)
      | none => none
    | _ => none
  | _ => none
theorem sc_unpO {es : List Expr} {k : Nat} {p2 : Pos} {ps : List D → Option (List (Nat × D))} (ha : EB X a fa) (hg : GCs X es ps) (hst : (assignEach es X.env).findIdx? (·.1) = none := by rfl) (hc : X.calm = true := by rfl)
    (hs : swapsWithSole [.Tuple es k p2] a pos.line X.env = pure false := by rfl) (hw : swappedStores [.Tuple es k p2] a X.env = pure none := by rfl)
    (h1 : (assignEach [.Tuple es k p2] X.env).map (·.2) = [assign (.Tuple es k p2) X.env] := by rfl) : SC X (.Assign [.Tuple es k p2] a pos) (sUnpO fa ps) := by
  obtain ⟨ta, pa, qa⟩ := ha
  obtain ⟨l, t, pt, q⟩ := hg
  refine ⟨_, ps_asg pa (pg_unl hc pt rfl hst) hs hw h1, fun G α ow σ H ρ g out g' Dn s e w => ?_⟩
  unfold sUnpO at e
  split at e
  · rename_i n g1 e1
    split at e
    · rename_i xs hg'
      split at e
      · rename_i as has
        cases e
        refine qa G α ow σ H ρ g _ g' _ s e1 fun v H1 α1 x1 s1 r1 => ?_
        obtain ⟨p, rfl, hp⟩ := r1.obj
        obtain ⟨vs, q1, q2⟩ := s1.gok.so n p _ hp hg'
        refine ⟨p, vs, rfl, .inl (.inl q1), by rw [q2.1]; exact l _ _ has, q _ _ σ H1 vs xs as _ q2 has fun ws rs => ?_⟩
        obtain ⟨ow2, s2, z2⟩ := s1.sets rs
        exact w _ _ _ _ s2 (x1.fz.trans z2)
      · cases e
    · cases e
  · cases e
def aRep (fa : DA) (fb : DE) : DA := bindM fa fun xs => bindM fb fun y => liftM (match y with
  | .int k => if 0 ≤ k ∧ k ≤ 1000000 ∧ xs.length * k.toNat ≤ BIG then some (List.replicate k.toNat xs).flatten else none
  | _ => none)
theorem RepAll.rep {A : Addr → Prop} {α : List Addr} {K : PySem.W.Frag} {H : Hp} {vs : List V} {ds : List D} (h : RepAll A α K H vs ds) : ∀ n : Nat, RepAll A α K H (List.replicate n vs).flatten (List.replicate n ds).flatten
  | 0 => RepAll.nil
  | n + 1 => by
    rw [List.replicate_succ, List.replicate_succ, List.flatten_cons, List.flatten_cons]
    exact h.append (RepAll.rep h n)
theorem ef_rep (ha : EF X a fs) (hb : EC X b fb) : EF X (.BinOp a .Mult b pos) (aRep fs fb) := by
  obtain ⟨ta, pa, ha⟩ := ha
  obtain ⟨tb, pb, hb⟩ := hb
  refine ⟨_, pe_op op_rep pa pb, fun G α ow σ H ρ g d g' Q s e w => ?_⟩
  obtain ⟨xs, g1, e1, he⟩ := bindM_some e
  obtain ⟨y, g2, e2, he⟩ := bindM_some he
  obtain ⟨e3, rfl⟩ := liftM_some he
  refine ha G α ow σ H ρ g xs g1 _ s e1 fun p vs H1 α1 x1 s1 hp r1 H2 eH => ?_
  subst eH
  have s2 := s1.new (o := .lst vs) hp
  have pn := (s1.al hp).1
  have x2 : Ext α1 H1 α1 (upd H1 p (.lst vs)) := Ext.new hp
  refine hb G α1 ow σ _ ρ g1 y g2 _ s2 e2 fun u H3 α3 x3 s3 r3 => ?_
  split at e3
  · split at e3
    · rename_i hk
      cases e3
      cases r3
      refine ⟨p, _, vs, rfl, rfl, x3.1 p _ upd_same pn, by omega, by omega, by rw [r1.1]; exact Nat.le_trans hk.2.2 big_line, fun q hq => ?_⟩
      exact w q _ H3 α3 ((x1.trans x2).trans x3) s3 hq (((r1.ext x2).ext x3).rep _) _ rfl
    · cases e3
  · cases e3
end
end L3

/-! L3k: defs by name, further rules. -/
namespace L3
open PySem PySem.Spec PyProof.Rows L2 TL

/-- a def of the text stands at its name -/
structure FunAt (K : PySem.W.Frag) (mg : Str → Option Value) (x : Str) (st : Stmt) (ps : List Str) : Prop where
  ex : ∃ fd, FunD K x x (defArgs st) (defBody st) (defScope st) [] [] (He.ga K x) fd ∧ Binds K fd ps []
  g : mg x = some (.ref (He.ga K x))
/-- a def keeps a promise -/
structure FnAt (P : Program) (w : World) (K : PySem.W.Frag) (mg : Str → Option Value) (base : Heap) (k : Nat) (x : Str) (ps : List Str) (sp : Sp) : Prop where
  ex : ∃ fd, FnOk P w K mg base CX0 k (He.ga K x) fd ps sp ∧ Binds K fd ps [] ∧ ∃ oc od osl, K.lookup (He.ga K x) = some ⟨oc, od, .func fd, osl⟩
  g : mg x = some (.ref (He.ga K x))
  kp : PySem.W.keepIn K (.ref (He.ga K x)) = true
theorem fnat {P : Program} {w : World} {K : PySem.W.Frag} {mg : Str → Option Value} {base : Heap} {x : Str} {st : Stmt} {N ps : List Str} {k : Nat} {fB : DS} (F : FunAt K mg x st ps) (Sc : FnScope N ps (defScope st))
    (hb : ∀ (cdv : Value) (A : Around) (outer : List Env) (s : Shared) (H : Hp) (E : XK), Room k (A.deeper (envOfC x (defScope st) s.heap.objs.size (He.ga K x) cdv)) → BC (cxOf CX0 P w K mg base N x (defScope st) (He.ga K x) cdv A outer s H E).nox (defBody st) fB) :
    FnAt P w K mg base (k + 1) x ps (spD K ps.length (runD N.length fB)) := by
  obtain ⟨⟨fd, Fd, b⟩, g⟩ := F
  have lk : ∃ oc od osl, K.lookup (He.ga K x) = some ⟨oc, od, .func fd, osl⟩ := by
    obtain ⟨oc, od, _, _, _, _, _, _, _, osl, _, lk, _⟩ := Fd.ex
    exact ⟨oc, od, osl, lk⟩
  refine ⟨⟨fd, ?_, b, lk⟩, g, Fd.kp⟩
  refine Fd.ok Sc (fun vs H Q E h => ?_) (fun cdv A outer s H vs Q E hr h => ?_)
  · obtain ⟨_, _, _, _, _, _, h, _⟩ := h
    exact h
  · obtain ⟨B, α, g, ds, d, g', hl, hB, gk, r, e, q⟩ := h
    obtain ⟨t, pt, qt⟩ := hb cdv A outer s H E hr
    refine ⟨t, pt.nox, ?_⟩
    have s0 := start_sat (N := N) hB gk r
    unfold runD at e
    split at e
    · rename_i d' g1 e1
      cases e
      exact qt _ α no _ H _ g _ _ _ s0 e1 fun v H' α' x _ gk' r' => q v H' α' x gk' r'
    · rename_i ρ1 g1 e1
      cases e
      exact qt _ α no _ H _ g _ _ _ s0 e1 fun σ' H' α' ow' s' z => q .non H' α' s'.ext s'.ret .non
    · cases e
section
variable {X : Cx} {a b c e : Expr} {fa fb fc fe : DE} {pos : Pos}
theorem ec_callA {k j : Nat} {ps : List Str} {n : Nat} {φ : List D → Store → Option (D × Store)} {x : Str} {es : List Expr} {fs : DA} {p : Pos}
    (F : FnAt X.prog X.w X.K X.mg X.base k x ps (spD X.K n φ)) (hr : Room j X.A) (ha : AC X (e :: es) fs) (hk : k ≤ j := by decide)
    (hg : Gl X x := by rfl) (hdb : (x == ("__debug__" : Str)) = false := by decide) (he : starEach (e :: es) X.env = (false, eval e X.env) :: starEach es X.env := by rfl) (hpl : (backTo pos (starEach es X.env)).any (·.1) = false := by rfl) (hl : (e :: es).length = n := by rfl) :
    EC X (.Call (.Name x p) (e :: es) [] pos) (eApp φ fs) := by
  obtain ⟨⟨fd, G, b, _⟩, g, kp⟩ := F
  exact ec_call G (hr.mono hk) g kp b ha hg hdb he hpl hl
def dNeg : D → Option D
  | .int i => some (.int (-i))
  | _ => none
theorem ec_neg (ha : EB X a fa) : EC X (.UnaryOp .USub a pos) (eUn dNeg fa) := by
  obtain ⟨t, pt, hq⟩ := ha
  refine ⟨_, pe_un un_neg pt, fun G α ow σ H ρ g d g' Q s e w => ?_⟩
  obtain ⟨x, g1, e1, e2⟩ := bindM_some e
  obtain ⟨e3, rfl⟩ := liftM_some e2
  refine hq G α ow σ H ρ g x g1 _ s e1 fun v H1 α1 x1 s1 r1 => ?_
  unfold dNeg at e3
  split at e3
  · cases e3
    rw [r1.int]
    exact ⟨_, rfl, w _ H1 α1 x1 s1 (.int _)⟩
  · cases e3
theorem ec_gintE {x : Str} {i : Int} (hm : ∃ t, X.mg x = some (.int i t)) (hg : Gl X x := by rfl) (hd : (x == ("__debug__" : Str)) = false := by decide) : EC X (.Name x pos) (eC (.int i)) := by
  obtain ⟨t, hm⟩ := hm
  exact ec_gint hm hg hd
theorem ec_gstrE {x : Str} {z : List Nat} (hm : ∃ t, X.mg x = some (.str (S z) t)) (hg : Gl X x := by rfl) (hd : (x == ("__debug__" : Str)) = false := by decide) : EC X (.Name x pos) (eC (.str z)) := by
  obtain ⟨t, hm⟩ := hm
  exact ec_gstr hm hg hd
theorem tc_chain {op op' : CmpOp} {o o' : D → D → Option D} (ho : OpD X (compareOp op) o) (ho' : OpD X (compareOp op') o') (ha : EB X a fa) (hb : EB X b fb) (hc : EB X c fc)
    (hm : lastMarks [op, op'] [b, c] = false := by with_unfolding_all rfl) : TC X (.Compare a [op, op'] [b, c] pos) (tOf (eChain o o' fa fb fc)) := by
  obtain ⟨r, hr, hq⟩ := ho
  obtain ⟨r', hr', hq'⟩ := ho'
  obtain ⟨ta, pa, ha⟩ := ha
  obtain ⟨tb, pb, hb⟩ := hb
  obtain ⟨tc, pc, hc⟩ := hc
  refine ⟨_, pt_chain hr hr' pa pb pc hm, fun G α ow σ H ρ g k0 g' Q s e w => ?_⟩
  obtain ⟨d, g0, e0, ek⟩ := bindM_some e
  obtain ⟨ek, rfl⟩ := liftM_some ek
  split at ek
  · cases ek
    obtain ⟨x, g1, e1, e2⟩ := bindM_some e0
    obtain ⟨y, g2, e3, e4⟩ := bindM_some e2
    obtain ⟨z, g3, e5, e6⟩ := bindM_some e4
    obtain ⟨e7, rfl⟩ := liftM_some e5
    refine ha G α ow σ H ρ g x g1 _ s e1 fun v H1 α1 x1 s1 r1 => ?_
    refine hb G α1 ow σ H1 ρ g1 y g2 _ s1 e3 fun u H2 α2 x2 s2 r2 => ?_
    refine hq G α2 ow σ H2 ρ g2 v u x y z _ s2 (r1.ext x2) r2 e7 fun k H3 x3 s3 r3 => ?_
    split at e6
    · cases r3
      refine ⟨_, rfl, ?_⟩
      rw [if_pos rfl]
      obtain ⟨u', g4, e8, e9⟩ := bindM_some e6
      obtain ⟨e10, rfl⟩ := liftM_some e9
      refine hc G α2 ow σ H3 ρ g2 u' g4 _ s3 e8 fun q H4 α4 x4 s4 r4 => ?_
      refine hq' G α4 ow σ H4 ρ g4 u q y u' _ _ s4 ((r2.ext x3).ext x4) r4 e10 fun v5 H5 x5 s5 r5 => ?_
      cases r5
      exact ⟨_, rfl, w H5 α4 ((((x1.trans x2).trans x3).trans x4).trans x5) s5⟩
    · cases r3
      cases e6
      refine ⟨_, rfl, ?_⟩
      rw [if_neg (by decide)]
      exact ⟨_, rfl, w H3 α2 ((x1.trans x2).trans x3) s3⟩
    · cases e6
  · cases ek
/-- + of ints, texts, lists, tuples -/
def dAddA : D → D → Option D
  | .lst a, .lst b => if a.length + b.length ≤ BIG then some (.lst (a ++ b)) else none
  | .tup a, .tup b => if a.length + b.length ≤ BIG then some (.tup (a ++ b)) else none
  | a, b => dAdd a b
theorem opd_addA : OpD X (binaryOp .Add) dAddA := by
  obtain ⟨r0, h0, q0⟩ := opd_add (X := X)
  refine ⟨_, h0.or (op_catR.or op_catA), fun G α ow σ H ρ g x y dx dy d Q s rx ry e w => ?_⟩
  unfold dAddA at e
  split at e
  · split at e
    · rename_i hl
      cases e
      obtain ⟨p, vs, rfl, h1, h2⟩ := rx.lst
      obtain ⟨q, us, rfl, h3, h4⟩ := ry.lst
      exact .inr (.inl ⟨p, q, vs, us, rfl, rfl, h1, h3, by rw [h2.1, h4.1]; exact Nat.le_trans hl big_line, fun l hl => w _ _ (Ext.new hl) (s.new hl) (s.newL hl (h2.append h4))⟩)
    · cases e
  · split at e
    · rename_i xs ys hl
      cases e
      obtain ⟨p, vs, rfl, h1, h2⟩ := rx.tup
      obtain ⟨q, us, rfl, h3, h4⟩ := ry.tup
      have cx : ∀ {v : V} {xs : List D}, BRep G.B α ow X.K H v (.tup xs) → Rep (Al G.B α ow) α X.K H v (.tup xs) := fun h => by cases h with | of h => exact h
      refine .inr (.inr ⟨p, q, vs, us, rfl, rfl, h1, h3, by rw [h2.1, h4.1]; exact Nat.le_trans hl big_line, fun hn => ?_, fun _ hn => ?_, fun _ _ l hl => w _ _ (Ext.new hl) (s.new hl) (s.newT hl (h2.append h4))⟩)
      · have : xs = [] := List.eq_nil_of_length_eq_zero (by rw [← h2.1, hn]; rfl)
        subst this
        exact w _ H Ext.refl s (cx ry)
      · have : ys = [] := List.eq_nil_of_length_eq_zero (by rw [← h4.1, hn]; rfl)
        subst this
        rw [List.append_nil] at w
        exact w _ H Ext.refl s (cx rx)
    · cases e
  · exact .inl (q0 G α ow σ H ρ g x y _ _ d Q s rx ry e w)
/-- x += e, x a slot -/
def sAug (i : Nat) (op : D → D → Option D) (f : DE) : DS := fun ρ g => match ρ[i]? with
  | some (some (.d x)) => match f ρ g with
    | some (y, g1) => match op x y with
      | some z => some (.nx (ρ.set i (some (.d z))), g1)
      | none => none
    | none => none
  | _ => none
theorem sc_aug {i : Nat} {x : Str} {op : Operator} {o : D → D → Option D} {pos' : Pos} (hN : X.N.Nodup) (ho : OpD X (inplaceOp op) o) (he : EB X e fe) (hi : X.N[i]? = some x := by rfl) (hx : Loc X.env.scope x := by first | exact Or.inl rfl | exact Or.inr rfl)
    (hf : X.fn x = true ∨ X.env.scope.names.lookup x = some .local := by first | exact .inl rfl | exact .inr rfl | assumption) : SC X (.AugAssign (.Name x pos') op e pos) (sAug i o fe) := by
  obtain ⟨r, hr, hq⟩ := ho
  obtain ⟨t, pt, qe⟩ := he
  refine ⟨_, ps_aug hN hi hx pt (ti := r) hr hf, fun G α ow σ H ρ g out g' Dn s e w => ?_⟩
  unfold sAug at e
  split at e
  · rename_i x0 hx0
    split at e
    · rename_i y g1 e1
      split at e
      · rename_i z hz
        cases e
        obtain ⟨v, h1, h2⟩ := s.slot i _ hx0
        refine ⟨v, h1, qe G α ow σ H ρ g y g' _ s e1 fun u H1 α1 x1 s1 r1 => ?_⟩
        exact hq G α1 ow σ H1 ρ g' v u x0 y z _ s1 (.of (h2.ext x1)) r1 hz fun v2 H2 x2 s2 r2 => w _ _ _ _ (s2.set r2) ((x1.trans x2).fz.trans Fz.off)
      · cases e
    · cases e
  · cases e
theorem opd_iadd : OpD X (inplaceOp .Add) dAdd := by
  refine ⟨_, iop_add.or iop_add_str, fun G α ow σ H ρ g x y dx dy d Q s rx ry e w => ?_⟩
  unfold dAdd at e
  split at e
  · cases e
    rw [rx.int, ry.int]
    exact .inl ⟨_, _, rfl, rfl, w _ H Ext.refl s (.int _)⟩
  · split at e
    · rename_i hl
      cases e
      rw [rx.str, ry.str]
      refine .inr ⟨_, _, rfl, rfl, by rw [S_len, S_len]; exact Nat.le_trans hl big_line, ?_⟩
      rw [S_app]
      exact w _ H Ext.refl s (.str _)
    · cases e
  · cases e
end
theorem b_len : bootBuiltins "len" = some (.builtin "len") := by decide +kernel
theorem b_all : bootBuiltins "all" = some (.builtin "all") := by decide +kernel
theorem b_any : bootBuiltins "any" = some (.builtin "any") := by decide +kernel
theorem b_int : bootBuiltins "int" = some (.type "int") := by decide +kernel
theorem b_str : bootBuiltins "str" = some (.type "str") := by decide +kernel
theorem b_bool : bootBuiltins "bool" = some (.type "bool") := by decide +kernel
theorem b_list : bootBuiltins "list" = some (.type "list") := by decide +kernel
theorem b_tuple : bootBuiltins "tuple" = some (.type "tuple") := by decide +kernel
theorem b_dict : bootBuiltins "dict" = some (.type "dict") := by decide +kernel
end L3

/-! L3m: reckoning with what defs are worth. -/
namespace L3

def Ok {β : Type} (r : Option (β × Store)) (Q : β → Store → Prop) : Prop := ∃ x g, r = some (x, g) ∧ Q x g
theorem Ok.of {β : Type} {r : Option (β × Store)} {x : β} {g : Store} {Q : β → Store → Prop} (e : r = some (x, g)) (h : Q x g) : Ok r Q := ⟨x, g, e, h⟩
theorem Ok.mono {β : Type} {r : Option (β × Store)} {Q R : β → Store → Prop} (h : Ok r Q) (f : ∀ x g, Q x g → R x g) : Ok r R := by
  obtain ⟨x, g, e, q⟩ := h
  exact ⟨x, g, e, f x g q⟩
section
variable {ρ : Env3} {g : Store}
theorem ok_bind {β γ : Type} {m : M β} {k : β → M γ} {Q : γ → Store → Prop} (h : Ok (m ρ g) fun x g1 => Ok (k x ρ g1) Q) : Ok (L3.bindM m k ρ g) Q := by
  obtain ⟨x, g1, e, y, g2, e2, q⟩ := h
  exact ⟨y, g2, by unfold L3.bindM; rw [e]; exact e2, q⟩
theorem ok_lift {β : Type} {o : Option β} {x : β} {Q : β → Store → Prop} (e : o = some x) (h : Q x g) : Ok (L3.liftM o ρ g) Q := ⟨x, g, by unfold L3.liftM; rw [e], h⟩
theorem ok_seq {a b : DS} {Q : Out → Store → Prop} (h : Ok (a ρ g) fun o g1 => match o with | .nx ρ1 => Ok (b ρ1 g1) Q | o => Q o g1) : Ok (sSeq a b ρ g) Q := by
  obtain ⟨o, g1, e, q⟩ := h
  unfold sSeq
  rw [e]
  cases o with
  | nx ρ1 => exact q
  | rt d => exact ⟨_, _, rfl, q⟩
  | bk ρ1 => exact ⟨_, _, rfl, q⟩
  | ct ρ1 => exact ⟨_, _, rfl, q⟩
theorem ok_set {i : Nat} {f : DE} {Q : Out → Store → Prop} (h : Ok (f ρ g) fun d g1 => Q (.nx (ρ.set i (some (.d d)))) g1) : Ok (sSet i f ρ g) Q := by
  obtain ⟨d, g1, e, q⟩ := h
  exact ⟨_, g1, by unfold sSet; rw [e], q⟩
theorem ok_own {i : Nat} {f : DA} {Q : Out → Store → Prop} (hi : i < ρ.length) (h : Ok (f ρ g) fun d g1 => Q (.nx (ρ.set i (some (.own d)))) g1) : Ok (sOwn i f ρ g) Q := by
  obtain ⟨d, g1, e, q⟩ := h
  exact ⟨_, g1, by unfold sOwn; rw [e]; simp [hi], q⟩
theorem ok_ret {f : DE} {Q : Out → Store → Prop} (h : Ok (f ρ g) fun d g1 => Q (.rt d) g1) : Ok (sRet f ρ g) Q := by
  obtain ⟨d, g1, e, q⟩ := h
  exact ⟨_, g1, by unfold sRet; rw [e], q⟩
theorem ok_if {c : DT} {a b : DS} {Q : Out → Store → Prop} (h : Ok (c ρ g) fun k g1 => (k = true → Ok (a ρ g1) Q) ∧ (k = false → Ok (b ρ g1) Q)) : Ok (sIf c a b ρ g) Q := by
  obtain ⟨k, g1, e, q1, q2⟩ := h
  unfold sIf
  rw [e]
  cases k with
  | true => exact q1 rfl
  | false => exact q2 rfl
theorem ok_app {i : Nat} {f : DE} {xs : List D} {Q : Out → Store → Prop} (hx : ρ[i]? = some (some (.own xs))) (h : Ok (f ρ g) fun d g1 => xs.length < BIG ∧ Q (.nx (ρ.set i (some (.own (xs ++ [d]))))) g1) : Ok (sApp i f ρ g) Q := by
  obtain ⟨d, g1, e, hl, q⟩ := h
  exact ⟨_, g1, by unfold sApp; rw [hx, e]; simp [hl], q⟩
theorem ok_run {n : Nat} {f : DS} {ds : List D} {Q : D → Store → Prop} (h : Ok (f (start3 n ds) g) fun o g1 => match o with | .rt d => Q d g1 | .nx _ => Q .non g1 | _ => False) : Ok (runD n f ds g) Q := by
  obtain ⟨o, g1, e, q⟩ := h
  unfold runD
  rw [e]
  cases o with
  | nx ρ1 => exact ⟨_, _, rfl, q⟩
  | rt d => exact ⟨_, _, rfl, q⟩
  | bk ρ1 => exact q.elim
  | ct ρ1 => exact q.elim
/-- a comprehension, by what each turn brings -/
theorem ok_lc {tg : D → Option (List (Nat × D))} {e : DE} (I : Store → Prop) (P : D → D → Prop) : ∀ {ds : List D} {g : Store}, I g → (∀ d ∈ ds, ∀ g, I g → ∃ as, tg d = some as ∧ Ok (e (sets ρ as) g) fun y g1 => P d y ∧ I g1) →
    Ok (lcD tg tYesD e ds ρ g) fun ys g1 => I g1 ∧ ys.length = ds.length ∧ ∀ (i : Nat) d y, ds[i]? = some d → ys[i]? = some y → P d y
  | [], g, hI, _ => ⟨[], g, rfl, hI, rfl, fun i d y h => by simp at h⟩
  | d :: ds, g, hI, h => by
    obtain ⟨as, ea, y, g1, ey, hp, hI1⟩ := h d List.mem_cons_self g hI
    obtain ⟨ys, g2, e2, hI2, hl, hall⟩ := ok_lc I P (ds := ds) hI1 fun d' hd' => h d' (List.mem_cons_of_mem _ hd')
    refine ⟨y :: ys, g2, ?_, hI2, by simp [hl], fun i d' y' h1 h2 => ?_⟩
    · unfold lcD
      rw [ea]
      simp only [tYesD, ey, e2]
    · cases i with
      | zero => simp at h1 h2; subst h1 h2; exact hp
      | succ i => exact hall i d' y' (by simpa using h1) (by simpa using h2)
/-- .. where nothing is drawn: the list itself -/
theorem lc_map {tg : D → Option (List (Nat × D))} {e : DE} {f : D → D} : ∀ {ds : List D}, (∀ d ∈ ds, ∃ as, tg d = some as ∧ e (sets ρ as) g = some (f d, g)) → lcD tg tYesD e ds ρ g = some (ds.map f, g)
  | [], _ => rfl
  | d :: ds, h => by
    obtain ⟨as, ea, ey⟩ := h d List.mem_cons_self
    unfold lcD
    rw [ea]
    simp only [tYesD, ey, lc_map (ds := ds) fun d' hd' => h d' (List.mem_cons_of_mem _ hd'), List.map_cons]
theorem lc_filter {tg : D → Option (List (Nat × D))} {c : DT} {e : DE} {f : D → D} {p : D → Bool} : ∀ {ds : List D}, (∀ d ∈ ds, ∃ as, tg d = some as ∧ c (sets ρ as) g = some (p d, g) ∧ (p d = true → e (sets ρ as) g = some (f d, g))) → lcD tg c e ds ρ g = some ((ds.filter p).map f, g)
  | [], _ => rfl
  | d :: ds, h => by
    obtain ⟨as, ea, ec, ey⟩ := h d List.mem_cons_self
    have ih := lc_filter (ds := ds) fun d' hd' => h d' (List.mem_cons_of_mem _ hd')
    unfold lcD
    rw [ea]
    simp only [ec]
    cases hp : p d with
    | true => simp only [ey hp, ih, List.filter_cons_of_pos hp, List.map_cons]
    | false => simp only [ih]; rw [List.filter_cons_of_neg (by simp [hp])]
/-- a for by its invariant -/
theorem ok_for {tg : D → Option (List (Nat × D))} {body : DS} {Q : Out → Store → Prop} (J : List D → Env3 → Store → Prop) : ∀ {ds : List D} {ρ : Env3} {g : Store}, J ds ρ g →
    (∀ d r ρ g, J (d :: r) ρ g → ∃ as, tg d = some as ∧ Ok (body (sets ρ as) g) fun o g1 => match o with | .nx ρ1 => J r ρ1 g1 | .ct ρ1 => J r ρ1 g1 | .bk ρ1 => Q (.nx ρ1) g1 | .rt d => Q (.rt d) g1) → (∀ ρ g, J [] ρ g → Q (.nx ρ) g) → Ok (forD tg body ds ρ g) Q
  | [], ρ, g, hJ, _, hd => ⟨_, _, rfl, hd ρ g hJ⟩
  | d :: ds, ρ, g, hJ, hs, hd => by
    obtain ⟨as, ea, o, g1, eo, q⟩ := hs d ds ρ g hJ
    unfold forD
    rw [ea]
    simp only [eo]
    cases o with
    | nx ρ1 => exact ok_for J q hs hd
    | ct ρ1 => exact ok_for J q hs hd
    | bk ρ1 => exact ⟨_, _, rfl, q⟩
    | rt d => exact ⟨_, _, rfl, q⟩
theorem ok_sfor {it : DA} {tg : D → Option (List (Nat × D))} {body : DS} {Q : Out → Store → Prop} (h : Ok (it ρ g) fun ds g1 => Ok (forD tg body ds ρ g1) Q) : Ok (sFor it tg body ρ g) Q := by
  obtain ⟨ds, g1, e, q⟩ := h
  unfold sFor
  rw [e]
  exact q
theorem ok_aLc {it : DA} {vs : List Nat} {tg : D → Option (List (Nat × D))} {c : DT} {e : DE} {Q : List D → Store → Prop} (h : Ok (it ρ g) fun ds g1 => (ds.length ≤ BIG ∧ noOwn ρ vs = true) ∧ Ok (lcD tg c e ds (wipe3 ρ vs) g1) Q) : Ok (aLc it vs tg c e ρ g) Q := by
  obtain ⟨ds, g1, e, h1, q⟩ := h
  unfold aLc
  rw [e]
  simp only [h1, and_self, if_true]
  exact q
end
theorem rangeD_len (lo : Int) (n : Nat) : (rangeD lo n).length = n := by simp [rangeD]
end L3

/-! L3n: the same as equations, for simp. -/
namespace L3
def OkO {β : Type} (o : Option β) (Q : β → Prop) : Prop := ∃ x, o = some x ∧ Q x
theorem okO_some {β : Type} (x : β) (Q : β → Prop) : OkO (some x) Q ↔ Q x := ⟨fun ⟨y, e, q⟩ => by cases e; exact q, fun q => ⟨x, rfl, q⟩⟩
theorem okO_ite {β : Type} {c : Prop} [Decidable c] (a b : Option β) (Q : β → Prop) : OkO (if c then a else b) Q ↔ if c then OkO a Q else OkO b Q := by split <;> exact Iff.rfl
theorem okO_guard {β : Type} {c : Prop} [Decidable c] (h : c) (a : Option β) (Q : β → Prop) : OkO (if c then a else none) Q ↔ OkO a Q := by rw [if_pos h]
theorem okO_map {β γ : Type} (f : β → γ) (o : Option β) (Q : γ → Prop) : OkO (o.map f) Q ↔ OkO o fun x => Q (f x) := by
  constructor
  · rintro ⟨y, e, q⟩
    obtain ⟨x, e1, rfl⟩ := Option.map_eq_some_iff.mp e
    exact ⟨x, e1, q⟩
  · rintro ⟨x, e, q⟩
    exact ⟨f x, by rw [e]; rfl, q⟩
section
variable {ρ : Env3} {g : Store}
theorem okv {β : Type} (x : β) (Q : β → Store → Prop) : Ok (some (x, g)) Q ↔ Q x g := ⟨fun ⟨y, g', e, q⟩ => by cases e; exact q, fun q => ⟨x, g, rfl, q⟩⟩
theorem okb {β γ : Type} (m : M β) (k : β → M γ) (Q : γ → Store → Prop) : Ok (L3.bindM m k ρ g) Q ↔ Ok (m ρ g) fun x g1 => Ok (k x ρ g1) Q := by
  constructor
  · rintro ⟨y, g', e, q⟩
    obtain ⟨x, g1, e1, e2⟩ := bindM_some e
    exact ⟨x, g1, e1, y, g', e2, q⟩
  · exact ok_bind
theorem okl {β : Type} (o : Option β) (Q : β → Store → Prop) : Ok (L3.liftM o ρ g) Q ↔ OkO o fun x => Q x g := by
  constructor
  · rintro ⟨y, g', e, q⟩
    obtain ⟨e1, rfl⟩ := liftM_some e
    exact ⟨y, e1, q⟩
  · rintro ⟨x, e, q⟩
    exact ok_lift e q
theorem ok_eOp (op : D → D → Option D) (a b : DE) (Q : D → Store → Prop) : Ok (eOp op a b ρ g) Q ↔ Ok (a ρ g) fun x g1 => Ok (b ρ g1) fun y g2 => OkO (op x y) fun z => Q z g2 := by
  unfold eOp; simp only [okb, okl]
theorem ok_eUn (op : D → Option D) (a : DE) (Q : D → Store → Prop) : Ok (eUn op a ρ g) Q ↔ Ok (a ρ g) fun x g1 => OkO (op x) fun z => Q z g1 := by
  unfold eUn; simp only [okb, okl]
theorem ok_aNil (Q : List D → Store → Prop) : Ok (aNil ρ g) Q ↔ Q [] g := okv _ _
theorem ok_aCons (a : DE) (r : DA) (Q : List D → Store → Prop) : Ok (aCons a r ρ g) Q ↔ Ok (a ρ g) fun x g1 => Ok (r ρ g1) fun xs g2 => Q (x :: xs) g2 := by
  unfold aCons; simp only [okb, okl, okO_some]
theorem ok_eFn (φ : List D → Option D) (a : DA) (Q : D → Store → Prop) : Ok (eFn φ a ρ g) Q ↔ Ok (a ρ g) fun xs g1 => OkO (φ xs) fun z => Q z g1 := by
  unfold eFn; simp only [okb, okl]
theorem ok_aFn (φ : List D → Option (List D)) (a : DA) (Q : List D → Store → Prop) : Ok (aFn φ a ρ g) Q ↔ Ok (a ρ g) fun xs g1 => OkO (φ xs) fun z => Q z g1 := by
  unfold aFn; simp only [okb, okl]
theorem ok_eApp (φ : List D → Store → Option (D × Store)) (a : DA) (Q : D → Store → Prop) : Ok (eApp φ a ρ g) Q ↔ Ok (a ρ g) fun xs g1 => Ok (φ xs g1) Q := by
  unfold eApp; simp only [okb]
theorem ok_eC (d : D) (Q : D → Store → Prop) : Ok (eC d ρ g) Q ↔ Q d g := okv _ _
theorem ok_eL (f : DA) (Q : D → Store → Prop) : Ok (eL f ρ g) Q ↔ Ok (f ρ g) fun xs g1 => Q (.lst xs) g1 := by
  unfold eL; simp only [okb, okl, okO_some]
theorem ok_eSt (f : DA) (Q : D → Store → Prop) : Ok (eSt f ρ g) Q ↔ Ok (f ρ g) fun xs g1 => Q (.obj g1.length) (g1 ++ [.lst xs]) := by
  unfold eSt; simp only [okb, okv]
theorem ok_eM1 (φ : D → List D → Option D) (o a : DE) (Q : D → Store → Prop) : Ok (eM1 φ o a ρ g) Q ↔ Ok (o ρ g) fun x g1 => Ok (a ρ g1) fun y g2 => OkO (if isStr x then φ x [y] else none) fun z => Q z g2 := by
  unfold eM1; simp only [okb, okl]
theorem ok_aM1 (φ : D → List D → Option (List D)) (o a : DE) (Q : List D → Store → Prop) : Ok (aM1 φ o a ρ g) Q ↔ Ok (o ρ g) fun x g1 => Ok (a ρ g1) fun y g2 => OkO (if isStr x then φ x [y] else none) fun z => Q z g2 := by
  unfold aM1; simp only [okb, okl]
theorem ok_oNone (Q : Option Int → Store → Prop) : Ok (oNone ρ g) Q ↔ Q none g := okv _ _
def asInt : D → Option (Option Int)
  | .int i => some (some i)
  | _ => none
theorem ok_oSome (f : DE) (Q : Option Int → Store → Prop) : Ok (oSome f ρ g) Q ↔ Ok (f ρ g) fun x g1 => OkO (asInt x) fun z => Q z g1 := by
  unfold oSome; simp only [okb, okl]; rfl
theorem ok_eSl (φ : D → Option Int → Option Int → Option D) (f : DE) (lo hi : DO) (Q : D → Store → Prop) : Ok (eSl φ f lo hi ρ g) Q ↔ Ok (f ρ g) fun x g1 => Ok (lo ρ g1) fun l g2 => Ok (hi ρ g2) fun h g3 => OkO (φ x l h) fun z => Q z g3 := by
  unfold eSl; simp only [okb, okl]
def asBl : D → Option Bool
  | .bl b => some b
  | _ => none
theorem ok_tOf (a : DE) (Q : Bool → Store → Prop) : Ok (tOf a ρ g) Q ↔ Ok (a ρ g) fun x g1 => OkO (asBl x) fun b => Q b g1 := by
  unfold tOf; simp only [okb, okl]; rfl
theorem ok_tTru (a : DE) (Q : Bool → Store → Prop) : Ok (tTru a ρ g) Q ↔ Ok (a ρ g) fun x g1 => OkO (truD x) fun b => Q b g1 := by
  unfold tTru; simp only [okb, okl]
theorem ok_tNot (a : DT) (Q : Bool → Store → Prop) : Ok (tNotD a ρ g) Q ↔ Ok (a ρ g) fun c g1 => Q (!c) g1 := by
  unfold tNotD; simp only [okb, okl, okO_some]
theorem ok_tAnd (a b : DT) (Q : Bool → Store → Prop) : Ok (tAndD a b ρ g) Q ↔ Ok (a ρ g) fun c g1 => if c = true then Ok (b ρ g1) Q else Q false g1 := by
  unfold tAndD; simp only [okb]
  constructor <;> (rintro ⟨c, g1, e, q⟩; refine ⟨c, g1, e, ?_⟩; cases c <;> simpa [okv] using q)
theorem ok_tOr (a b : DT) (Q : Bool → Store → Prop) : Ok (tOrD a b ρ g) Q ↔ Ok (a ρ g) fun c g1 => if c = true then Q true g1 else Ok (b ρ g1) Q := by
  unfold tOrD; simp only [okb]
  constructor <;> (rintro ⟨c, g1, e, q⟩; refine ⟨c, g1, e, ?_⟩; cases c <;> simpa [okv] using q)
theorem ok_eAnd (a b : DE) (Q : D → Store → Prop) : Ok (eAndD a b ρ g) Q ↔ Ok (a ρ g) fun x g1 => OkO (asBl x) fun c => if c = true then Ok (b ρ g1) Q else Q (.bl false) g1 := by
  unfold eAndD; simp only [okb]
  constructor
  · rintro ⟨x, g1, e, y, g2, e2, q⟩
    refine ⟨x, g1, e, ?_⟩
    split at e2
    · exact ⟨true, rfl, y, g2, e2, q⟩
    · cases e2; exact ⟨false, rfl, q⟩
    · cases e2
  · rintro ⟨x, g1, e, c, e2, q⟩
    refine ⟨x, g1, e, ?_⟩
    cases x <;> cases e2
    cases c
    · exact ⟨_, _, rfl, q⟩
    · exact q
theorem ok_eOr (a b : DE) (Q : D → Store → Prop) : Ok (eOrD a b ρ g) Q ↔ Ok (a ρ g) fun x g1 => OkO (asBl x) fun c => if c = true then Q (.bl true) g1 else Ok (b ρ g1) Q := by
  unfold eOrD; simp only [okb]
  constructor
  · rintro ⟨x, g1, e, y, g2, e2, q⟩
    refine ⟨x, g1, e, ?_⟩
    split at e2
    · exact ⟨false, rfl, y, g2, e2, q⟩
    · cases e2; exact ⟨true, rfl, q⟩
    · cases e2
  · rintro ⟨x, g1, e, c, e2, q⟩
    refine ⟨x, g1, e, ?_⟩
    cases x <;> cases e2
    cases c
    · exact q
    · exact ⟨_, _, rfl, q⟩
theorem ok_eIf (c : DT) (a b : DE) (Q : D → Store → Prop) : Ok (eIfD c a b ρ g) Q ↔ Ok (c ρ g) fun k g1 => if k = true then Ok (a ρ g1) Q else Ok (b ρ g1) Q := by
  unfold eIfD; simp only [okb]
  constructor <;> (rintro ⟨c, g1, e, q⟩; refine ⟨c, g1, e, ?_⟩; cases c <;> simpa using q)
theorem ok_eChain (o o' : D → D → Option D) (a b c : DE) (Q : D → Store → Prop) : Ok (eChain o o' a b c ρ g) Q ↔ Ok (a ρ g) fun x g1 => Ok (b ρ g1) fun y g2 => OkO (o x y) fun z => OkO (asBl z) fun k => if k = true then Ok (c ρ g2) fun u g3 => OkO (o' y u) fun r => Q r g3 else Q (.bl false) g2 := by
  unfold eChain; simp only [okb, okl]
  constructor
  · rintro ⟨x, g1, e1, y, g2, e2, z, e3, r, g4, e4, q⟩
    refine ⟨x, g1, e1, y, g2, e2, z, e3, ?_⟩
    split at e4
    · obtain ⟨u, g5, e5, e6⟩ := bindM_some e4
      obtain ⟨e7, rfl⟩ := liftM_some e6
      exact ⟨true, rfl, u, g5, e5, r, e7, q⟩
    · cases e4; exact ⟨false, rfl, q⟩
    · cases e4
  · rintro ⟨x, g1, e1, y, g2, e2, z, e3, k, e4, q⟩
    refine ⟨x, g1, e1, y, g2, e2, z, e3, ?_⟩
    cases z <;> cases e4
    cases k
    · exact ⟨_, _, rfl, q⟩
    · exact ok_bind (by obtain ⟨u, g5, e5, r, e6, q⟩ := q; exact ⟨u, g5, e5, ok_lift e6 q⟩)
/-! names -/
def valD : Option (Option SV) → Option D
  | some (some (.d x)) => some x
  | _ => none
def valB : Option (Option SV) → Option D
  | some (some (.d x)) => some x
  | some (some (.own xs)) => some (.lst xs)
  | some (some (.ownd ds)) => some (.dic ds)
  | _ => none
theorem ok_eVar (i : Nat) (Q : D → Store → Prop) : Ok (eVar i ρ g) Q ↔ OkO (valD ρ[i]?) fun x => Q x g := by
  unfold eVar valD
  generalize ρ[i]? = o
  constructor
  · rintro ⟨x, g1, e, q⟩
    split at e
    · cases e; exact ⟨_, rfl, q⟩
    · cases e
  · rintro ⟨x, e, q⟩
    split at e
    · cases e; exact ⟨_, _, rfl, q⟩
    · cases e
theorem ok_eVarB (i : Nat) (Q : D → Store → Prop) : Ok (eVarB i ρ g) Q ↔ OkO (valB ρ[i]?) fun x => Q x g := by
  unfold eVarB valB
  generalize ρ[i]? = o
  constructor
  · rintro ⟨x, g1, e, q⟩
    split at e
    · cases e; exact ⟨_, rfl, q⟩
    · cases e; exact ⟨_, rfl, q⟩
    · cases e; exact ⟨_, rfl, q⟩
    · cases e
  · rintro ⟨x, e, q⟩
    split at e
    · cases e; exact ⟨_, _, rfl, q⟩
    · cases e; exact ⟨_, _, rfl, q⟩
    · cases e; exact ⟨_, _, rfl, q⟩
    · cases e
/-! statements -/
def seqK (b : DS) (Q : Out → Store → Prop) : Out → Store → Prop := fun o g1 => match o with
  | .nx ρ1 => Ok (b ρ1 g1) Q
  | o => Q o g1
theorem seqK_nx (b : DS) (Q : Out → Store → Prop) (ρ1 : Env3) : seqK b Q (.nx ρ1) g ↔ Ok (b ρ1 g) Q := Iff.rfl
theorem seqK_rt (b : DS) (Q : Out → Store → Prop) (d : D) : seqK b Q (.rt d) g ↔ Q (.rt d) g := Iff.rfl
theorem seqK_bk (b : DS) (Q : Out → Store → Prop) (ρ1 : Env3) : seqK b Q (.bk ρ1) g ↔ Q (.bk ρ1) g := Iff.rfl
theorem seqK_ct (b : DS) (Q : Out → Store → Prop) (ρ1 : Env3) : seqK b Q (.ct ρ1) g ↔ Q (.ct ρ1) g := Iff.rfl
theorem ok_sSeq (a b : DS) (Q : Out → Store → Prop) : Ok (sSeq a b ρ g) Q ↔ Ok (a ρ g) (seqK b Q) := by
  constructor
  · rintro ⟨o, g1, e, q⟩
    unfold sSeq at e
    split at e
    · rename_i ρ1 g2 e1
      exact ⟨_, _, e1, o, g1, e, q⟩
    · rename_i hn
      refine ⟨o, g1, e, ?_⟩
      cases o with
      | nx ρ1 => exact absurd e (hn ρ1 g1)
      | rt d => exact q
      | bk ρ1 => exact q
      | ct ρ1 => exact q
  · intro h
    exact ok_seq (h.mono fun o g1 q => by cases o <;> exact q)
theorem ok_sSet (i : Nat) (f : DE) (Q : Out → Store → Prop) : Ok (sSet i f ρ g) Q ↔ Ok (f ρ g) fun d g1 => Q (.nx (ρ.set i (some (.d d)))) g1 := by
  constructor
  · rintro ⟨o, g1, e, q⟩
    unfold sSet at e
    split at e
    · cases e; exact ⟨_, _, ‹_›, q⟩
    · cases e
  · exact ok_set
theorem ok_sOwn (i : Nat) (f : DA) (Q : Out → Store → Prop) (hi : i < ρ.length) : Ok (sOwn i f ρ g) Q ↔ Ok (f ρ g) fun d g1 => Q (.nx (ρ.set i (some (.own d)))) g1 := by
  constructor
  · rintro ⟨o, g1, e, q⟩
    unfold sOwn at e
    split at e
    · rw [if_pos hi] at e; cases e; exact ⟨_, _, ‹_›, q⟩
    · cases e
  · exact ok_own hi
theorem ok_sRet (f : DE) (Q : Out → Store → Prop) : Ok (sRet f ρ g) Q ↔ Ok (f ρ g) fun d g1 => Q (.rt d) g1 := by
  constructor
  · rintro ⟨o, g1, e, q⟩
    unfold sRet at e
    split at e
    · cases e; exact ⟨_, _, ‹_›, q⟩
    · cases e
  · exact ok_ret
theorem ok_sIf (c : DT) (a b : DS) (Q : Out → Store → Prop) : Ok (sIf c a b ρ g) Q ↔ Ok (c ρ g) fun k g1 => if k = true then Ok (a ρ g1) Q else Ok (b ρ g1) Q := by
  constructor
  · rintro ⟨o, g1, e, q⟩
    unfold sIf at e
    split at e
    · exact ⟨_, _, ‹_›, by dsimp only; rw [if_pos rfl]; exact ⟨o, g1, e, q⟩⟩
    · exact ⟨_, _, ‹_›, by dsimp only; rw [if_neg (by decide)]; exact ⟨o, g1, e, q⟩⟩
    · cases e
  · rintro ⟨k, g1, e, q⟩
    refine ok_if ⟨k, g1, e, fun h => ?_, fun h => ?_⟩
    · rw [if_pos h] at q; exact q
    · rw [if_neg (by simp [h])] at q; exact q
theorem ok_sNext (Q : Out → Store → Prop) : Ok (sNext ρ g) Q ↔ Q (.nx ρ) g := okv _ _
theorem ok_sDrop (f : DE) (Q : Out → Store → Prop) : Ok (sDrop f ρ g) Q ↔ Ok (f ρ g) fun d g1 => Q (.nx ρ) g1 := by
  constructor
  · rintro ⟨o, g1, e, q⟩
    unfold sDrop at e
    split at e
    · cases e; exact ⟨_, _, ‹_›, q⟩
    · cases e
  · rintro ⟨d, g1, e, q⟩
    exact ⟨_, g1, by unfold sDrop; rw [e], q⟩
def ownOf : Option (Option SV) → Option (List D)
  | some (some (.own xs)) => some xs
  | _ => none
theorem ok_sApp (i : Nat) (f : DE) (Q : Out → Store → Prop) : Ok (sApp i f ρ g) Q ↔ OkO (ownOf ρ[i]?) fun xs => Ok (f ρ g) fun d g1 => xs.length < BIG ∧ Q (.nx (ρ.set i (some (.own (xs ++ [d]))))) g1 := by
  constructor
  · rintro ⟨o, g1, e, q⟩
    unfold sApp at e
    split at e
    · rename_i xs hx
      split at e
      · split at e
        · cases e
          exact ⟨xs, by rw [hx]; rfl, _, _, ‹_›, ‹_›, q⟩
        · cases e
      · cases e
    · cases e
  · rintro ⟨xs, hx, d, g1, e, hl, q⟩
    have hx' : ρ[i]? = some (some (.own xs)) := by
      unfold ownOf at hx
      split at hx
      · cases hx; assumption
      · cases hx
    exact ok_app hx' ⟨d, g1, e, hl, q⟩
def frz (ρ : Env3) (i : Nat) : Env3 := match ρ[i]? with
  | some (some (.own xs)) => ρ.set i (some (.d (.lst xs)))
  | some (some (.ownd ds)) => ρ.set i (some (.d (.dic ds)))
  | _ => ρ
theorem ok_sFreeze (i : Nat) (f : DS) (Q : Out → Store → Prop) : Ok (sFreeze i f ρ g) Q ↔ Ok (f (frz ρ i) g) Q := by
  unfold sFreeze frz
  generalize ρ[i]? = o
  cases o with
  | none => exact Iff.rfl
  | some o => cases o with
    | none => exact Iff.rfl
    | some x => cases x <;> exact Iff.rfl
theorem ok_sUnp (f : DE) (tg : D → Option (List (Nat × D))) (Q : Out → Store → Prop) : Ok (sUnp f tg ρ g) Q ↔ Ok (f ρ g) fun d g1 => OkO (tg d) fun as => Q (.nx (sets ρ as)) g1 := by
  constructor
  · rintro ⟨o, g1, e, q⟩
    unfold sUnp at e
    split at e
    · split at e
      · cases e; exact ⟨_, _, ‹_›, _, ‹_›, q⟩
      · cases e
    · cases e
  · rintro ⟨d, g1, e, as, ea, q⟩
    exact ⟨_, g1, by unfold sUnp; rw [e]; simp only [ea], q⟩
theorem ok_sAug (i : Nat) (op : D → D → Option D) (f : DE) (Q : Out → Store → Prop) : Ok (sAug i op f ρ g) Q ↔ OkO (valD ρ[i]?) fun x => Ok (f ρ g) fun y g1 => OkO (op x y) fun z => Q (.nx (ρ.set i (some (.d z)))) g1 := by
  constructor
  · rintro ⟨o, g1, e, q⟩
    unfold sAug at e
    split at e
    · rename_i x hx
      split at e
      · split at e
        · cases e
          exact ⟨x, by rw [hx]; rfl, _, _, ‹_›, _, ‹_›, q⟩
        · cases e
      · cases e
    · cases e
  · rintro ⟨x, hx, y, g1, e, z, ez, q⟩
    have hx' : ρ[i]? = some (some (.d x)) := by
      unfold valD at hx
      split at hx
      · cases hx; assumption
      · cases hx
    exact ⟨_, g1, by unfold sAug; rw [hx']; simp only [e, ez], q⟩
theorem ok_sFor (it : DA) (tg : D → Option (List (Nat × D))) (body : DS) (Q : Out → Store → Prop) : Ok (sFor it tg body ρ g) Q ↔ Ok (it ρ g) fun ds g1 => Ok (forD tg body ds ρ g1) Q := by
  constructor
  · rintro ⟨o, g1, e, q⟩
    unfold sFor at e
    split at e
    · exact ⟨_, _, ‹_›, o, g1, e, q⟩
    · cases e
  · exact ok_sfor
theorem ok_aLcE (it : DA) (vs : List Nat) (tg : D → Option (List (Nat × D))) (c : DT) (e : DE) (Q : List D → Store → Prop) : Ok (aLc it vs tg c e ρ g) Q ↔ Ok (it ρ g) fun ds g1 => (ds.length ≤ BIG ∧ noOwn ρ vs = true) ∧ Ok (lcD tg c e ds (wipe3 ρ vs) g1) Q := by
  constructor
  · rintro ⟨o, g1, e, q⟩
    unfold aLc at e
    split at e
    · split at e
      · exact ⟨_, _, ‹_›, ‹_›, o, g1, e, q⟩
      · cases e
    · cases e
  · exact ok_aLc
theorem ok_aItems (f : DE) (Q : List D → Store → Prop) : Ok (aItems f ρ g) Q ↔ Ok (f ρ g) fun x g1 => OkO (items x) fun z => Q z g1 := by
  unfold aItems; simp only [okb, okl]
def runK (Q : D → Store → Prop) : Out → Store → Prop := fun o g1 => match o with
  | .rt d => Q d g1
  | .nx _ => Q .non g1
  | _ => False
theorem runK_rt (Q : D → Store → Prop) (d : D) : runK Q (.rt d) g ↔ Q d g := Iff.rfl
theorem runK_nx (Q : D → Store → Prop) (ρ1 : Env3) : runK Q (.nx ρ1) g ↔ Q .non g := Iff.rfl
theorem ok_runD (n : Nat) (f : DS) (ds : List D) (Q : D → Store → Prop) : Ok (runD n f ds g) Q ↔ Ok (f (start3 n ds) g) (runK Q) := by
  constructor
  · rintro ⟨o, g1, e, q⟩
    unfold runD at e
    split at e
    · rename_i d g2 e1
      cases e
      exact ⟨.rt _, _, e1, q⟩
    · rename_i d g2 e1
      cases e
      exact ⟨.nx _, _, e1, q⟩
    · cases e
  · intro h
    exact ok_run (h.mono fun o g1 q => by cases o <;> exact q)
end
end L3

/-! L3o: operators on what they are of, as equations. -/
namespace L3
theorem okO_if {β : Type} {c : Prop} [Decidable c] (x : β) (Q : β → Prop) : OkO (if c then some x else none) Q ↔ c ∧ Q x := by
  constructor
  · rintro ⟨y, e, q⟩
    split at e
    · rename_i hc; cases e; exact ⟨hc, q⟩
    · cases e
  · rintro ⟨hc, q⟩
    exact ⟨x, by rw [if_pos hc], q⟩
theorem dAddA_ii (a b : Int) : dAddA (.int a) (.int b) = some (.int (a + b)) := rfl
theorem dAddA_ss (a b : List Nat) : dAddA (.str a) (.str b) = if a.length + b.length ≤ BIG then some (.str (a ++ b)) else none := rfl
theorem dAddA_ll (a b : List D) : dAddA (.lst a) (.lst b) = if a.length + b.length ≤ BIG then some (.lst (a ++ b)) else none := rfl
theorem dAddA_tt (a b : List D) : dAddA (.tup a) (.tup b) = if a.length + b.length ≤ BIG then some (.tup (a ++ b)) else none := rfl
theorem dAdd_ii (a b : Int) : dAdd (.int a) (.int b) = some (.int (a + b)) := rfl
theorem dAdd_ss (a b : List Nat) : dAdd (.str a) (.str b) = if a.length + b.length ≤ BIG then some (.str (a ++ b)) else none := rfl
theorem dSub_ii (a b : Int) : dSub (.int a) (.int b) = some (.int (a - b)) := rfl
theorem dMul_ii (a b : Int) : dMul (.int a) (.int b) = if (-(2 ^ 64) < a ∧ a < 2 ^ 64) ∨ (-(2 ^ 64) < b ∧ b < 2 ^ 64) then some (.int (a * b)) else none := rfl
theorem dMul_si (a : List Nat) (n : Int) : dMul (.str a) (.int n) = if 0 ≤ n ∧ n ≤ 100000 ∧ a.length * n.toNat ≤ BIG then some (.str (List.replicate n.toNat a).flatten) else none := rfl
theorem dMod_ii (a b : Int) : dMod (.int a) (.int b) = if 0 < b then some (.int (a % b)) else none := rfl
theorem dDiv_ii (a b : Int) : dDiv (.int a) (.int b) = if 0 < b ∧ b < 1073741824 then some (.int (a / b)) else none := rfl
theorem dLt_ii (a b : Int) : dLt (.int a) (.int b) = some (.bl (decide (a < b))) := rfl
theorem dLt_ss (a b : List Nat) : dLt (.str a) (.str b) = some (.bl (decide (a < b))) := rfl
theorem dLe_ii (a b : Int) : dLe (.int a) (.int b) = some (.bl (decide (a ≤ b))) := rfl
theorem dLe_ss (a b : List Nat) : dLe (.str a) (.str b) = some (.bl (!decide (b < a))) := rfl
theorem dGt_ii (a b : Int) : dGt (.int a) (.int b) = some (.bl (decide (b < a))) := rfl
theorem dGt_ss (a b : List Nat) : dGt (.str a) (.str b) = some (.bl (decide (b < a))) := rfl
theorem dGe_ii (a b : Int) : dGe (.int a) (.int b) = some (.bl (decide (b ≤ a))) := rfl
theorem dGe_ss (a b : List Nat) : dGe (.str a) (.str b) = some (.bl (!decide (a < b))) := rfl
theorem dEq_ii (a b : Int) : dEq (.int a) (.int b) = some (.bl (decide (a = b))) := rfl
theorem dEq_ss (a b : List Nat) : dEq (.str a) (.str b) = some (.bl (decide (a = b))) := rfl
theorem dEq_bb (a b : Bool) : dEq (.bl a) (.bl b) = some (.bl (decide (a = b))) := rfl
theorem dEq_nn  : dEq .non .non = some (.bl (true)) := rfl
theorem dEq_ns (a : List Nat) : dEq .non (.str a) = some (.bl (false)) := rfl
theorem dEq_sn (a : List Nat) : dEq (.str a) .non = some (.bl (false)) := rfl
theorem dEq_ni (a : Int) : dEq .non (.int a) = some (.bl (false)) := rfl
theorem dEq_in (a : Int) : dEq (.int a) .non = some (.bl (false)) := rfl
theorem dNe_ii (a b : Int) : dNe (.int a) (.int b) = some (.bl (!decide (a = b))) := rfl
theorem dNe_ss (a b : List Nat) : dNe (.str a) (.str b) = some (.bl (!decide (a = b))) := rfl
theorem dNe_bb (a b : Bool) : dNe (.bl a) (.bl b) = some (.bl (!decide (a = b))) := rfl
theorem dNe_nn  : dNe .non .non = some (.bl (!true)) := rfl
theorem dNe_ns (a : List Nat) : dNe .non (.str a) = some (.bl (!false)) := rfl
theorem dNe_sn (a : List Nat) : dNe (.str a) .non = some (.bl (!false)) := rfl
theorem dNe_ni (a : Int) : dNe .non (.int a) = some (.bl (!false)) := rfl
theorem dNe_in (a : Int) : dNe (.int a) .non = some (.bl (!false)) := rfl
theorem dIs_n  : dIs .non .non = some (.bl true) := rfl
theorem dIsNot_n  : dIsNot .non .non = some (.bl false) := rfl
theorem dIs_b (a : Bool) : dIs (.bl a) .non = some (.bl false) := rfl
theorem dIsNot_b (a : Bool) : dIsNot (.bl a) .non = some (.bl true) := rfl
theorem dIs_i (a : Int) : dIs (.int a) .non = some (.bl false) := rfl
theorem dIsNot_i (a : Int) : dIsNot (.int a) .non = some (.bl true) := rfl
theorem dIs_s (a : List Nat) : dIs (.str a) .non = some (.bl false) := rfl
theorem dIsNot_s (a : List Nat) : dIsNot (.str a) .non = some (.bl true) := rfl
theorem dIs_l (a : List D) : dIs (.lst a) .non = some (.bl false) := rfl
theorem dIsNot_l (a : List D) : dIsNot (.lst a) .non = some (.bl true) := rfl
theorem dIs_t (a : List D) : dIs (.tup a) .non = some (.bl false) := rfl
theorem dIsNot_t (a : List D) : dIsNot (.tup a) .non = some (.bl true) := rfl
theorem dIs_d (a : List (DKey × D)) : dIs (.dic a) .non = some (.bl false) := rfl
theorem dIsNot_d (a : List (DKey × D)) : dIsNot (.dic a) .non = some (.bl true) := rfl
theorem dIs_o (a : Nat) : dIs (.obj a) .non = some (.bl false) := rfl
theorem dIsNot_o (a : Nat) : dIsNot (.obj a) .non = some (.bl true) := rfl
theorem dLen_s (a : List Nat) : dLen [.str a] = if a.length ≤ BIG then some (.int a.length) else none := rfl
theorem dLen_l (a : List D) : dLen [.lst a] = some (.int a.length) := rfl
theorem dLen_t (a : List D) : dLen [.tup a] = some (.int a.length) := rfl
theorem dTup_d (a : List D) : dTup a = if a.length ≤ BIG then some (.tup a) else none := rfl
theorem dLst_d (a : List D) : dLst a = if a.length ≤ BIG then some a else none := rfl
theorem truD_n  : truD .non = some false := rfl
theorem truD_b (a : Bool) : truD (.bl a) = some a := rfl
theorem truD_i (a : Int) : truD (.int a) = some (a != 0) := rfl
theorem truD_s (a : List Nat) : truD (.str a) = if a.length ≤ BIG then some (!a.isEmpty) else none := rfl
theorem truD_l (a : List D) : truD (.lst a) = some (!a.isEmpty) := rfl
theorem truD_t (a : List D) : truD (.tup a) = some (!a.isEmpty) := rfl
theorem dNot_b (a : Bool) : dNot (.bl a) = some (.bl (!a)) := rfl
theorem dNeg_i (a : Int) : dNeg (.int a) = some (.int (-a)) := rfl
theorem asInt_i (a : Int) : asInt (.int a) = some (some a) := rfl
theorem asBl_b (a : Bool) : asBl (.bl a) = some a := rfl
theorem dSl_s (a : List Nat) (l h : Option Int) : dSl (.str a) l h = if a.length ≤ BIG then some (.str (cutL a l h)) else none := rfl
theorem dSl_l (a : List D) (l h : Option Int) : dSl (.lst a) l h = some (.lst (cutL a l h)) := rfl
theorem dSl_t (a : List D) (l h : Option Int) : dSl (.tup a) l h = some (.tup (cutL a l h)) := rfl
theorem isStr_s (a : List Nat) : isStr (.str a) = true := rfl
theorem items_l (a : List D) : items (.lst a) = some a := rfl
theorem items_t (a : List D) : items (.tup a) = some a := rfl
theorem items_s (a : List Nat) : items (.str a) = some (a.map fun c => .str [c]) := rfl
theorem dInt_i (a : Int) : dInt [.int a] = some (.int a) := rfl
theorem dInt_b (a : Bool) : dInt [.bl a] = some (.int (if a then 1 else 0)) := rfl
theorem dIx_li (a : List D) (i : Int) : dIx (.lst a) (.int i) = L2.atI a i := rfl
theorem dIx_ti (a : List D) (i : Int) : dIx (.tup a) (.int i) = L2.atI a i := rfl
theorem dStarts_ss (a b : List Nat) : dStarts (.str a) [.str b] = some (.bl (a.take b.length == b)) := rfl
theorem dTuple_l (a : List D) : dTuple [.lst a] = some (.tup a) := rfl
theorem dTuple_t (a : List D) : dTuple [.tup a] = some (.tup a) := rfl
theorem aList_l (a : List D) : aList [.lst a] = some a := rfl
theorem aList_t (a : List D) : aList [.tup a] = some a := rfl
theorem dIn_cs (c : Nat) (z : List Nat) : dIn (.str [c]) (.str z) = some (.bl (decide (c ∈ z))) := rfl
theorem dNotIn_cs (c : Nat) (z : List Nat) : dNotIn (.str [c]) (.str z) = some (.bl (!decide (c ∈ z))) := rfl
theorem valD_d (x : D) : valD (some (some (.d x))) = some x := rfl
theorem valB_d (x : D) : valB (some (some (.d x))) = some x := rfl
theorem valB_o (xs : List D) : valB (some (some (.own xs))) = some (.lst xs) := rfl
theorem valB_w (xs : List (DKey × D)) : valB (some (some (.ownd xs))) = some (.dic xs) := rfl
theorem ownOf_o (xs : List D) : ownOf (some (some (.own xs))) = some xs := rfl
theorem isi_int_n  : dIsi "int" .non = some (.bl false) := by unfold dIsi tyName; dsimp only; rw [show L2.kitB "NoneType" "int" = some false by decide +kernel]; rfl
theorem isi_int_b (a : Bool) : dIsi "int" (.bl a) = some (.bl true) := by unfold dIsi tyName; dsimp only; rw [show L2.kitB "bool" "int" = some true by decide +kernel]; rfl
theorem isi_int_i (a : Int) : dIsi "int" (.int a) = some (.bl true) := by unfold dIsi tyName; dsimp only; rw [show L2.kitB "int" "int" = some true by decide +kernel]; rfl
theorem isi_int_s (a : List Nat) : dIsi "int" (.str a) = some (.bl false) := by unfold dIsi tyName; dsimp only; rw [show L2.kitB "str" "int" = some false by decide +kernel]; rfl
theorem isi_int_l (a : List D) : dIsi "int" (.lst a) = some (.bl false) := by unfold dIsi tyName; dsimp only; rw [show L2.kitB "list" "int" = some false by decide +kernel]; rfl
theorem isi_int_t (a : List D) : dIsi "int" (.tup a) = some (.bl false) := by unfold dIsi tyName; dsimp only; rw [show L2.kitB "tuple" "int" = some false by decide +kernel]; rfl
theorem isi_int_d (a : List (DKey × D)) : dIsi "int" (.dic a) = some (.bl false) := by unfold dIsi tyName; dsimp only; rw [show L2.kitB "dict" "int" = some false by decide +kernel]; rfl
theorem isi_str_n  : dIsi "str" .non = some (.bl false) := by unfold dIsi tyName; dsimp only; rw [show L2.kitB "NoneType" "str" = some false by decide +kernel]; rfl
theorem isi_str_b (a : Bool) : dIsi "str" (.bl a) = some (.bl false) := by unfold dIsi tyName; dsimp only; rw [show L2.kitB "bool" "str" = some false by decide +kernel]; rfl
theorem isi_str_i (a : Int) : dIsi "str" (.int a) = some (.bl false) := by unfold dIsi tyName; dsimp only; rw [show L2.kitB "int" "str" = some false by decide +kernel]; rfl
theorem isi_str_s (a : List Nat) : dIsi "str" (.str a) = some (.bl true) := by unfold dIsi tyName; dsimp only; rw [show L2.kitB "str" "str" = some true by decide +kernel]; rfl
theorem isi_str_l (a : List D) : dIsi "str" (.lst a) = some (.bl false) := by unfold dIsi tyName; dsimp only; rw [show L2.kitB "list" "str" = some false by decide +kernel]; rfl
theorem isi_str_t (a : List D) : dIsi "str" (.tup a) = some (.bl false) := by unfold dIsi tyName; dsimp only; rw [show L2.kitB "tuple" "str" = some false by decide +kernel]; rfl
theorem isi_str_d (a : List (DKey × D)) : dIsi "str" (.dic a) = some (.bl false) := by unfold dIsi tyName; dsimp only; rw [show L2.kitB "dict" "str" = some false by decide +kernel]; rfl
theorem isi_bool_n  : dIsi "bool" .non = some (.bl false) := by unfold dIsi tyName; dsimp only; rw [show L2.kitB "NoneType" "bool" = some false by decide +kernel]; rfl
theorem isi_bool_b (a : Bool) : dIsi "bool" (.bl a) = some (.bl true) := by unfold dIsi tyName; dsimp only; rw [show L2.kitB "bool" "bool" = some true by decide +kernel]; rfl
theorem isi_bool_i (a : Int) : dIsi "bool" (.int a) = some (.bl false) := by unfold dIsi tyName; dsimp only; rw [show L2.kitB "int" "bool" = some false by decide +kernel]; rfl
theorem isi_bool_s (a : List Nat) : dIsi "bool" (.str a) = some (.bl false) := by unfold dIsi tyName; dsimp only; rw [show L2.kitB "str" "bool" = some false by decide +kernel]; rfl
theorem isi_bool_l (a : List D) : dIsi "bool" (.lst a) = some (.bl false) := by unfold dIsi tyName; dsimp only; rw [show L2.kitB "list" "bool" = some false by decide +kernel]; rfl
theorem isi_bool_t (a : List D) : dIsi "bool" (.tup a) = some (.bl false) := by unfold dIsi tyName; dsimp only; rw [show L2.kitB "tuple" "bool" = some false by decide +kernel]; rfl
theorem isi_bool_d (a : List (DKey × D)) : dIsi "bool" (.dic a) = some (.bl false) := by unfold dIsi tyName; dsimp only; rw [show L2.kitB "dict" "bool" = some false by decide +kernel]; rfl
theorem isi_list_n  : dIsi "list" .non = some (.bl false) := by unfold dIsi tyName; dsimp only; rw [show L2.kitB "NoneType" "list" = some false by decide +kernel]; rfl
theorem isi_list_b (a : Bool) : dIsi "list" (.bl a) = some (.bl false) := by unfold dIsi tyName; dsimp only; rw [show L2.kitB "bool" "list" = some false by decide +kernel]; rfl
theorem isi_list_i (a : Int) : dIsi "list" (.int a) = some (.bl false) := by unfold dIsi tyName; dsimp only; rw [show L2.kitB "int" "list" = some false by decide +kernel]; rfl
theorem isi_list_s (a : List Nat) : dIsi "list" (.str a) = some (.bl false) := by unfold dIsi tyName; dsimp only; rw [show L2.kitB "str" "list" = some false by decide +kernel]; rfl
theorem isi_list_l (a : List D) : dIsi "list" (.lst a) = some (.bl true) := by unfold dIsi tyName; dsimp only; rw [show L2.kitB "list" "list" = some true by decide +kernel]; rfl
theorem isi_list_t (a : List D) : dIsi "list" (.tup a) = some (.bl false) := by unfold dIsi tyName; dsimp only; rw [show L2.kitB "tuple" "list" = some false by decide +kernel]; rfl
theorem isi_list_d (a : List (DKey × D)) : dIsi "list" (.dic a) = some (.bl false) := by unfold dIsi tyName; dsimp only; rw [show L2.kitB "dict" "list" = some false by decide +kernel]; rfl
theorem isi_tuple_n  : dIsi "tuple" .non = some (.bl false) := by unfold dIsi tyName; dsimp only; rw [show L2.kitB "NoneType" "tuple" = some false by decide +kernel]; rfl
theorem isi_tuple_b (a : Bool) : dIsi "tuple" (.bl a) = some (.bl false) := by unfold dIsi tyName; dsimp only; rw [show L2.kitB "bool" "tuple" = some false by decide +kernel]; rfl
theorem isi_tuple_i (a : Int) : dIsi "tuple" (.int a) = some (.bl false) := by unfold dIsi tyName; dsimp only; rw [show L2.kitB "int" "tuple" = some false by decide +kernel]; rfl
theorem isi_tuple_s (a : List Nat) : dIsi "tuple" (.str a) = some (.bl false) := by unfold dIsi tyName; dsimp only; rw [show L2.kitB "str" "tuple" = some false by decide +kernel]; rfl
theorem isi_tuple_l (a : List D) : dIsi "tuple" (.lst a) = some (.bl false) := by unfold dIsi tyName; dsimp only; rw [show L2.kitB "list" "tuple" = some false by decide +kernel]; rfl
theorem isi_tuple_t (a : List D) : dIsi "tuple" (.tup a) = some (.bl true) := by unfold dIsi tyName; dsimp only; rw [show L2.kitB "tuple" "tuple" = some true by decide +kernel]; rfl
theorem isi_tuple_d (a : List (DKey × D)) : dIsi "tuple" (.dic a) = some (.bl false) := by unfold dIsi tyName; dsimp only; rw [show L2.kitB "dict" "tuple" = some false by decide +kernel]; rfl
theorem isi_dict_n  : dIsi "dict" .non = some (.bl false) := by unfold dIsi tyName; dsimp only; rw [show L2.kitB "NoneType" "dict" = some false by decide +kernel]; rfl
theorem isi_dict_b (a : Bool) : dIsi "dict" (.bl a) = some (.bl false) := by unfold dIsi tyName; dsimp only; rw [show L2.kitB "bool" "dict" = some false by decide +kernel]; rfl
theorem isi_dict_i (a : Int) : dIsi "dict" (.int a) = some (.bl false) := by unfold dIsi tyName; dsimp only; rw [show L2.kitB "int" "dict" = some false by decide +kernel]; rfl
theorem isi_dict_s (a : List Nat) : dIsi "dict" (.str a) = some (.bl false) := by unfold dIsi tyName; dsimp only; rw [show L2.kitB "str" "dict" = some false by decide +kernel]; rfl
theorem isi_dict_l (a : List D) : dIsi "dict" (.lst a) = some (.bl false) := by unfold dIsi tyName; dsimp only; rw [show L2.kitB "list" "dict" = some false by decide +kernel]; rfl
theorem isi_dict_t (a : List D) : dIsi "dict" (.tup a) = some (.bl false) := by unfold dIsi tyName; dsimp only; rw [show L2.kitB "tuple" "dict" = some false by decide +kernel]; rfl
theorem isi_dict_d (a : List (DKey × D)) : dIsi "dict" (.dic a) = some (.bl true) := by unfold dIsi tyName; dsimp only; rw [show L2.kitB "dict" "dict" = some true by decide +kernel]; rfl
end L3

/-! L3p: loops turn by turn. -/
namespace L3
def FUEL : Nat := 1000000
section
variable {ρ : Env3} {g : Store}
def forK (tg : D → Option (List (Nat × D))) (body : DS) (ds : List D) (Q : Out → Store → Prop) : Out → Store → Prop := fun o g1 => match o with
  | .nx ρ1 => Ok (forD tg body ds ρ1 g1) Q
  | .ct ρ1 => Ok (forD tg body ds ρ1 g1) Q
  | .bk ρ1 => Q (.nx ρ1) g1
  | .rt d => Q (.rt d) g1
variable (tg : D → Option (List (Nat × D))) (body : DS) (ds : List D) (Q : Out → Store → Prop)
theorem forK_nx (ρ1 : Env3) : forK tg body ds Q (.nx ρ1) g ↔ Ok (forD tg body ds ρ1 g) Q := Iff.rfl
theorem forK_ct (ρ1 : Env3) : forK tg body ds Q (.ct ρ1) g ↔ Ok (forD tg body ds ρ1 g) Q := Iff.rfl
theorem forK_bk (ρ1 : Env3) : forK tg body ds Q (.bk ρ1) g ↔ Q (.nx ρ1) g := Iff.rfl
theorem forK_rt (d : D) : forK tg body ds Q (.rt d) g ↔ Q (.rt d) g := Iff.rfl
theorem ok_forNil : Ok (forD tg body [] ρ g) Q ↔ Q (.nx ρ) g := okv _ _
theorem ok_forCons (d : D) : Ok (forD tg body (d :: ds) ρ g) Q ↔ OkO (tg d) fun as => Ok (body (sets ρ as) g) (forK tg body ds Q) := by
  constructor
  · rintro ⟨o, g1, e, q⟩
    unfold forD at e
    split at e
    · cases e
    · rename_i as ha
      refine ⟨as, ha, ?_⟩
      split at e
      · exact ⟨.nx _, _, ‹_›, show Ok _ _ from ⟨o, g1, e, q⟩⟩
      · exact ⟨.ct _, _, ‹_›, show Ok _ _ from ⟨o, g1, e, q⟩⟩
      · cases e; exact ⟨.bk _, _, ‹_›, q⟩
      · cases e; exact ⟨.rt _, _, ‹_›, q⟩
      · cases e
  · rintro ⟨as, ha, o, g1, e, q⟩
    unfold forD
    rw [ha]
    simp only [e]
    cases o with
    | nx ρ1 => exact q
    | ct ρ1 => exact q
    | bk ρ1 => exact ⟨_, _, rfl, q⟩
    | rt d => exact ⟨_, _, rfl, q⟩
end
section
variable {ρ : Env3} {g : Store} (tg : D → Option (List (Nat × D))) (c : DT) (e : DE) (ds : List D) (Q : List D → Store → Prop)
theorem ok_lcNil : Ok (lcD tg c e [] ρ g) Q ↔ Q [] g := okv _ _
theorem ok_lcCons (d : D) : Ok (lcD tg c e (d :: ds) ρ g) Q ↔ OkO (tg d) fun as => Ok (c (sets ρ as) g) fun b g1 => if b = true then Ok (e (sets ρ as) g1) fun y g2 => Ok (lcD tg c e ds ρ g2) fun ys g3 => Q (y :: ys) g3 else Ok (lcD tg c e ds ρ g1) Q := by
  constructor
  · rintro ⟨o, g1, h, q⟩
    unfold lcD at h
    split at h
    · cases h
    · rename_i as ha
      refine ⟨as, ha, ?_⟩
      split at h
      · split at h
        · split at h
          · cases h
            exact ⟨_, _, ‹_›, by dsimp only; rw [if_pos rfl]; exact ⟨_, _, ‹_›, _, _, ‹_›, q⟩⟩
          · cases h
        · cases h
      · exact ⟨_, _, ‹_›, by dsimp only; rw [if_neg (by decide)]; exact ⟨o, g1, h, q⟩⟩
      · cases h
  · rintro ⟨as, ha, b, g1, hc, q⟩
    unfold lcD
    rw [ha]
    simp only [hc]
    cases b with
    | true =>
      rw [if_pos rfl] at q
      obtain ⟨y, g2, e1, ys, g3, e2, q⟩ := q
      exact ⟨y :: ys, g3, by simp only [e1, e2], q⟩
    | false =>
      rw [if_neg (by decide)] at q
      exact q
end
section
variable {ρ : Env3} {g : Store} (c : DT) (body : DS) (Q : Out → Store → Prop)
def whK (n : Nat) : Out → Store → Prop := fun o g1 => match o with
  | .nx ρ1 => Ok (whileD c body n ρ1 g1) Q
  | .ct ρ1 => Ok (whileD c body n ρ1 g1) Q
  | .bk ρ1 => Q (.nx ρ1) g1
  | .rt d => Q (.rt d) g1
theorem whK_nx (n : Nat) (ρ1 : Env3) : whK c body Q n (.nx ρ1) g ↔ Ok (whileD c body n ρ1 g) Q := Iff.rfl
theorem whK_ct (n : Nat) (ρ1 : Env3) : whK c body Q n (.ct ρ1) g ↔ Ok (whileD c body n ρ1 g) Q := Iff.rfl
theorem whK_bk (n : Nat) (ρ1 : Env3) : whK c body Q n (.bk ρ1) g ↔ Q (.nx ρ1) g := Iff.rfl
theorem whK_rt (n : Nat) (d : D) : whK c body Q n (.rt d) g ↔ Q (.rt d) g := Iff.rfl
theorem ok_wh (n : Nat) : Ok (whileD c body (n + 1) ρ g) Q ↔ Ok (c ρ g) fun k g1 => if k = true then Ok (body ρ g1) (whK c body Q n) else Q (.nx ρ) g1 := by
  constructor
  · rintro ⟨o, g1, e, q⟩
    unfold whileD at e
    split at e
    · refine ⟨_, _, ‹_›, ?_⟩
      dsimp only
      rw [if_pos rfl]
      split at e
      · exact ⟨.nx _, _, ‹_›, show Ok _ _ from ⟨o, g1, e, q⟩⟩
      · exact ⟨.ct _, _, ‹_›, show Ok _ _ from ⟨o, g1, e, q⟩⟩
      · cases e; exact ⟨.bk _, _, ‹_›, q⟩
      · cases e; exact ⟨.rt _, _, ‹_›, q⟩
      · cases e
    · cases e
      exact ⟨_, _, ‹_›, by dsimp only; rw [if_neg (by decide)]; exact q⟩
    · cases e
  · rintro ⟨k, g1, e, q⟩
    unfold whileD
    rw [e]
    cases k with
    | true =>
      rw [if_pos rfl] at q
      obtain ⟨o, g2, e2, q⟩ := q
      simp only [e2]
      cases o with
      | nx ρ1 => exact q
      | ct ρ1 => exact q
      | bk ρ1 => exact ⟨_, _, rfl, q⟩
      | rt d => exact ⟨_, _, rfl, q⟩
    | false =>
      rw [if_neg (by decide)] at q
      exact ⟨_, _, rfl, q⟩
end
end L3

namespace L3
open PySem PySem.Spec PyProof.Rows L2
/-! the head's facts, over a fragment in which no list lies (so the script is tracked) -/
def notL (o : Obj) : Bool := match o.cls with
  | .type c => !(decide (c = ("list" : Str)))
  | _ => true
def gL (g : Addr → Option Obj) (a : Addr) : Option Obj := match g a with
  | some o => match notL o with
    | true => some o
    | false => none
  | none => none
theorem gL_at {g : Addr → Option Obj} {a : Addr} {o : Obj} (h : gL g a = some o) : g a = some o ∧ notL o = true := by
  unfold gL at h
  split at h
  · rename_i o' e
    split at h
    · rename_i e2
      cases h
      exact ⟨e, e2⟩
    · cases h
  · cases h
def obsLG (n : Nat) (fa : List He.Fa) (fn : List He.DefD) (g : Addr → Option Obj) : He.AlD := He.obsD fa fn (He.frG (gL g) (He.asD g n))
def SaysL (fa : List He.Fa) (fn : List He.DefD) (K : PySem.W.Frag) : Prop := He.SaysD fa fn K ∧ ∀ a o, K.lookup a = some o → notL o = true
def hookL (n : Nat) (fa : List He.Fa) (fn : List He.DefD) : PySem.W.Hook where
  α := He.AlD
  obs := fun s => obsLG n fa fn s.heap.get?
  val := fun _ => He.valD fn
  says := fun _ h => ∃ K : PySem.W.Frag, K.In h ∧ SaysL fa fn K
  of := fun _ _ e => ⟨_, fun _ _ q => (gL_at (He.frG_at _ q)).1, e, fun _ _ q => (gL_at (He.frG_at _ q)).2⟩
  keeps := fun _ _ _ ⟨K, hK, c⟩ k => ⟨K, PySem.W.Frag.In.keeps hK k, c⟩
theorem obsLG_eq {n : Nat} {fa : List He.Fa} {fn : List He.DefD} {g : Addr → Option Obj} {s : Shared} (h : ∀ a, g a = s.heap.get? a) : obsLG n fa fn g = (hookL n fa fn).obs s := by
  have e : g = s.heap.get? := funext h
  rw [e] <;> rfl
theorem sqL_rd {K : PySem.W.Frag} {H : Hp} {a : Addr} {xs : List V} (hK : ∀ a o, K.lookup a = some o → notL o = true) (h : SqL K H a xs) : Rd H a (.lst xs) := by
  rcases h with h | ⟨o, its, n, hk, hc, _⟩
  · exact h
  · have := hK a o hk
    unfold notL at this
    rw [hc] at this
    dsimp only at this
    rw [decide_eq_true rfl] at this
    cases this
theorem lawFn {P : Program} {w : World} {K : PySem.W.Frag} {mg : Str → Option Value} {base : Heap} {k : Nat} {x qual : Str} {params : Arguments} {body : List Stmt} {scope : Scope} {dvs : List V} {kws : List (Str × V)} {fd : FuncData} {ps : List Str} {sp : Sp}
    (F : FunD K x qual params body scope dvs kws (He.ga K x) fd) (A : FnAt P w K mg base k x ps sp) : FnOk P w K mg base CX0 k (He.ga K x) fd ps sp := by
  obtain ⟨oc, od, _, _, _, _, _, _, _, osl, _, lk, _⟩ := F.ex
  obtain ⟨⟨fd2, G, _, oc2, od2, osl2, lk2⟩, _, _⟩ := A
  rw [lk] at lk2
  cases lk2
  exact G
theorem endD {K : PySem.W.Frag} {φ : List D → Store → Option (D × Store)} {m : Nat} (hK : ∀ a o, K.lookup a = some o → notL o = true)
    (hφ : ∀ ns : List Int, ns.length ≤ m → Ok (φ [.lst (ns.map .int)] []) fun d _ => d = .bl true) {H : Hp} {a : Addr} {ns : List Int} (hl : ns.length ≤ m) (hS : SqL K H a (ns.map V.int)) {E : XK} :
    spD K 1 φ [.ref a] H (fun v _ => v = .bl true) E := by
  obtain ⟨d, g', e, rfl⟩ := hφ ns hl
  refine ⟨fun _ => False, [], [], [.lst (ns.map .int)], .bl true, g', rfl, fun _ h => h.elim, ?_, ⟨rfl, ?_⟩, e, ?_⟩
  · exact ⟨rfl, List.nodup_nil, fun i a o h => by simp at h⟩
  · intro i v d hv hd
    cases i with
    | zero =>
      cases hv; cases hd
      refine Rep.lst ⟨by simp, fun h => h, fun i h => by cases h⟩ (sqL_rd hK hS) (by simp) ?_
      intro i v d hv hd
      rw [List.getElem?_map] at hv hd
      cases q : ns[i]? with
      | none => rw [q] at hv; cases hv
      | some k =>
        rw [q] at hv hd
        cases hv; cases hd
        exact .int k
    | succ i => cases hv
  · intro v H' α' _ _ r
    cases r
    rfl
end L3

namespace L3
open PySem PySem.Spec PyProof.Rows L2
/-! sorted(set(xs)), xs a list of ints of any length below the scan's bound -/
abbrev fresh (w : World) : Obj := { cls := .type "set", dict := none, data := .set #[] 0 (.fresh 0 0 (!w.params.followText "set-order")) }
section
variable {P : Program} {w : World} {A : Around} {E : Value → Shared → Prop} {s : Shared}
/-- what the set's loop gets of a list: the walk over it, from the new set on -/
theorem loop_listI {l : Addr} {items : Array Value} {ns : List Int} (hh : A.handled = none) (hl : s.heap.IsList l items) (hi : IntsAre items.toList ns) (hb : ns.length + 1 < scanBound) {R : Result → Shared → Prop}
    (hR : ∀ (h' : Heap) (tk c : Nat), SetR w h' s.heap.objs.size (fun j => decide (j ∈ ns)) c → c ≤ ns.length → (∀ b o, s.heap.get? b = some o → h'.get? b = some o) → R (.ok (.ret .none)) { s with heap := h', toks := tk }) :
    codeAny (model P w) A (.builtin "set.update.loop" ⟨[.ref s.heap.objs.size, .ref (s.heap.push (fresh w)).objs.size], []⟩) R { s with heap := (s.heap.push (fresh w)).push { cls := .type "list_iterator", data := .fields #[.ref l, .int 0 0] } } := by
  have len : items.size = ns.length := by rw [← hi.length, Array.length_toList]
  have lt : l < s.heap.objs.size := by obtain ⟨_, q, _⟩ := hl; exact Heap.lt_size q
  have ne1 : l ≠ (s.heap.push (fresh w)).objs.size := by rw [Heap.size_push]; exact Nat.ne_of_lt (Nat.lt_succ_of_lt lt)
  have nin : s.heap.objs.size ∉ [(s.heap.push (fresh w)).objs.size, l] := by
    rw [Heap.size_push]
    intro z
    rcases List.mem_cons.mp z with z | z
    · exact absurd z (Nat.ne_of_lt (Nat.lt_succ_self _))
    · exact absurd (List.mem_singleton.mp z) (Nat.ne_of_gt lt)
  have val : ∀ (i : Nat) (v : Value), items[i]? = some v → ∃ k t, ns[i]? = some k ∧ v = .int k t := fun i v q => by
    have hlt : i < ns.length := by rw [← len]; exact (Array.getElem?_eq_some_iff.mp q).1
    obtain ⟨t, e⟩ := PyProof.Rows.IntsAre.int_at hi i v (by rw [Array.getElem?_toList]; exact q)
    exact ⟨ns[i], t, List.getElem?_eq_getElem hlt, by rw [e, List.getD_eq_getElem?_getD, List.getElem?_eq_getElem hlt]; rfl⟩
  have h1 : A.in1.handled = none := by simp [hh]
  refine set_update_ints ((Walks.list h1 _ l ne1 items).toS) s.heap.objs.size nin ns len hb val (items.size - 0) 0 _ (by omega) (Nat.zero_le _) ⟨⟨_, Heap.get?_push_size _ rfl, rfl, rfl⟩, (hl.push _).push _⟩
    ⟨0, Nat.le_refl 0, setR_new_at (Heap.get?_push_of_some _ (Heap.get?_push_size _ rfl))⟩ fun s' c mv hc hS => ?_
  obtain ⟨h', g2, d', tk', os'⟩ := s'
  cases mv.gens
  cases mv.drawn
  cases mv.os
  rw [len] at hc
  refine hR h' tk' c hS hc fun b o e => ?_
  have hlt := Heap.lt_size e
  refine mv.heap b o (fun z => ?_) (Heap.get?_push_of_some _ (Heap.get?_push_of_some _ e))
  rw [Heap.size_push] at z
  rcases List.mem_cons.mp z with z | z
  · exact absurd z (Nat.ne_of_lt hlt)
  · exact absurd (List.mem_singleton.mp z) (Nat.ne_of_lt (Nat.lt_succ_of_lt hlt))
theorem init_listI {l : Addr} {items : Array Value} {ns : List Int} {R : Result → Shared → Prop} (hh : A.handled = none) (hl : s.heap.IsList l items) (hi : IntsAre items.toList ns) (hb : ns.length + 1 < scanBound)
    (hR : ∀ (h' : Heap) (tk c : Nat), SetR w h' s.heap.objs.size (fun j => decide (j ∈ ns)) c → c ≤ ns.length → (∀ b o, s.heap.get? b = some o → h'.get? b = some o) → R (.ok (.ret .none)) { s with heap := h', toks := tk }) :
    codeAny (model P w) A (.call (.builtin "set.__init__") ⟨[.ref s.heap.objs.size, .ref l], []⟩) R { s with heap := s.heap.push (fresh w) } := by
  have at0 : (s.heap.push (fresh w)).get? s.heap.objs.size = some (fresh w) := Heap.get?_push_size _ rfl
  have ty : Shared.TypeIs { s with heap := s.heap.push (fresh w) } (.ref s.heap.objs.size) "set" := ⟨_, at0, rfl⟩
  refine codeAny_call_builtin F.called_set.init.plain F.entry_set_init (check_set_init_1 ty ?_)
  obtain ⟨⟨_, od, _, osl⟩, hol, hcl, nl, hdl⟩ := id hl
  cases hcl
  cases hdl
  have lS := F.sub_list_set; have lF := F.sub_list_frozenset
  have nd : (Value.type "list" == Value.type "dict") = false := by decide
  have at1 : (s.heap.push (fresh w)).get? l = some { cls := .type "list", dict := od, data := .seq items nl, slots := osl } := Heap.get?_push_of_some _ hol
  have hl1 : (s.heap.push (fresh w)).IsList l items := hl.push _
  unfold Builtin.«set.__init__» noKeywords Builtin.Frozenset.updateFrom; generalize q : pyIter = PI; wp_walk; subst q
  refine wpAny_pyIter_list hl1 (wpAny_bind (wpAny_runValue ?_))
  refine loop_listI (by simp [hh]) hl hi hb fun h' tk c hS hc hk => ?_
  exact wpAny_pure (wpAny_pure (hR h' tk c hS hc hk))
theorem set_listI {l : Addr} {items : Array Value} {ns : List Int} {Q : Value → Shared → Prop} (hh : A.handled = none) (hl : s.heap.IsList l items) (hi : IntsAre items.toList ns) (hb : ns.length + 1 < scanBound)
    (hQ : ∀ (h' : Heap) (tk c : Nat), SetR w h' s.heap.objs.size (fun j => decide (j ∈ ns)) c → c ≤ ns.length → (∀ b o, s.heap.get? b = some o → h'.get? b = some o) → Q (.ref s.heap.objs.size) { s with heap := h', toks := tk }) :
    wpAny (model P w) A (call (.type "set") [.ref l]) Q E s := by
  obtain ⟨c, tl, mro⟩ := F.called_set.mro
  have made := F.called_set.made; have sub := F.called_set.sub; have nt := F.called_set.notType; have cr := F.called_set.canCreate; have ct := F.typeCall_set_1 (.ref l)
  refine wpAny_call (codeAny_of_tree (wpAny_pure ⟨Code.quiet_builtin _ (by decide +kernel), codeAny_builtin F.entry_type_call ?_⟩)); rw [Around.under_plain (weight_type_call_type "set" [.ref l] []) rfl]
  repeat (any_goals (first | assumption | wp_step))
  refine codeAny_mono (code_set_led1 (.ref l) (E := E) (Q₁ := fun o s1 => o = .ref s.heap.objs.size ∧ s1 = { s with heap := s.heap.push (fresh w) }) ⟨rfl, rfl⟩) fun r s1 hr => ?_
  have at0 : (s.heap.push (fresh w)).get? s.heap.objs.size = some (fresh w) := Heap.get?_push_size _ rfl
  cases r with
  | error e => exact hr
  | ok fl =>
    cases fl
    case ret o =>
      obtain ⟨rfl, rfl⟩ := hr
      have ty : Shared.TypeIs { s with heap := s.heap.push (fresh w) } (.ref s.heap.objs.size) "set" := ⟨_, at0, rfl⟩
      have lk := F.called_set.init.lookup; have bd := F.called_set.init.bind (.ref s.heap.objs.size)
      repeat (any_goals (first | assumption | wp_step))
      refine codeAny_mono (init_listI (s := s) (R := wants (fun r s2 => r = .none ∧ ∃ h' tk c, s2 = { s with heap := h', toks := tk } ∧ SetR w h' s.heap.objs.size (fun j => decide (j ∈ ns)) c ∧ c ≤ ns.length ∧ ∀ b o, s.heap.get? b = some o → h'.get? b = some o) E) (by simp [hh]) hl hi hb fun h' tk c a1 a2 a3 => ⟨rfl, h', tk, c, rfl, a1, a2, a3⟩) fun r2 s2 hr2 => ?_
      cases r2 with
      | error e => exact hr2
      | ok fl2 =>
        cases fl2
        case ret r =>
          obtain ⟨rfl, h', tk, c', rfl, a1, a2, a3⟩ := hr2
          repeat (any_goals (first | assumption | wp_step))
          exact hQ _ _ _ a1 a2 a3
        all_goals exact hr2.elim
    all_goals exact hr.elim
theorem sortedS {a : Addr} {S : Int → Bool} {n : Nat} {Q : Value → Shared → Prop} (R : SetR w s.heap a S n) (hh : A.handled = none)
    (hQ : ∀ s' p (out : Array Value) (c : Nat) (ns : List Int), (∀ b o, s.heap.get? b = some o → s'.heap.get? b = some o) → s'.gens = s.gens → s'.os = s.os → s.heap.objs.size ≤ p →
      s'.heap.get? p = some (seqObj "list" out c) → IntsAre out.toList ns → ns.Pairwise (· < ·) → (∀ k, k ∈ ns ↔ S k = true) → ns.length ≤ sizeLine → Q (.ref p) s') : wpAny (model P w) A (call (.builtin "sorted") [.ref a]) Q E s := by
  obtain ⟨o, es, ep, t, ho, ex, hd, good, nd, mem, few, fit, _, ris, led⟩ := R
  refine Calls.call_function_entry kind_sorted plain_sorted entry_sorted (args_sorted1 _) ?_; unfold Builtin.«sorted»
  refine wpAny_bind (m := checkCount "sorted" 1 1 _) (wpAny_pure (wpAny_bind (collect_set (A := A.in1) hh ⟨o, ho, ex.1, hd⟩ fit few ris led fun s1 vs k1 hz g1 o1 pm => ?_)))
  have lenV : vs.length ≤ sizeLine := by
    rw [pm.length_eq, List.length_map, Array.length_toList, sizeLine_eq]
    unfold scanBound at few
    omega
  have allI : ∀ v ∈ vs, ∃ k tk, v = Value.int k tk := fun v hv => by
    obtain ⟨e, he, q⟩ := List.mem_map.mp (pm.mem_iff.mp hv)
    obtain ⟨k, tk, h1, _⟩ := good e he
    exact ⟨k, tk, by rw [← q]; exact h1⟩
  have inI := SrtO.ints_iv allI
  have keys : (vs.map SrtO.iv).Perm (es.toList.map keyOf) := by
    have q := pm.map SrtO.iv
    rw [List.map_map] at q
    refine q.trans (.of_eq (List.map_congr_left fun e he => ?_))
    obtain ⟨k, tk, h1, _⟩ := good e he
    show SrtO.iv e.2 = keyOf e
    unfold keyOf
    rw [h1]
    rfl
  refine wpAny_bind (wpAny_newList ?_ lenV)
  have new : (s1.heap.push (seqObj "list" vs.toArray 0)).get? s1.heap.objs.size = some (seqObj "list" vs.toArray 0) := Heap.get?_push_size _ rfl
  refine wpAny_bind (wpAny_holding (wpAny_call_entry slot_list_sort ⟨_, new, rfl⟩ entry_list_sort (SrtO.list_sort_ord SrtO.swo_int new lenV (fun h2 => SrtO.ints_sortable inI h2) fun out c1 c2 => ⟨_, rfl, wpAny_pure ⟨_, rfl, ?_⟩⟩) (args_list_sort _)))
  obtain ⟨d1, d2, d3⟩ := SrtO.ints_out inI c1 c2
  obtain ⟨c, hc⟩ := sortedHeap_at (vs := vs) (out := out.toArray) new
  have pn := d2.trans keys
  refine hQ _ s1.heap.objs.size out.toArray c _ (fun b u e => ?_) g1 o1 hz hc d1 (lt_of_le_nodup _ d3 (pn.nodup_iff.mpr nd)) (fun k => by rw [pn.mem_iff, ← mem k]) ?_
  · have q := k1 b u e
    have lt := Heap.lt_size q
    show (sortedHeap (s1.heap.push (seqObj "list" vs.toArray 0)) s1.heap.objs.size vs out.toArray).get? b = some u
    rw [sortedHeap_old (Nat.ne_of_lt lt) (by rw [size_push']; exact Nat.lt_succ_of_lt lt)]
    exact Heap.get?_push_of_some _ q
  · rw [d2.length_eq, List.length_map]
    exact lenV
end
/-- a tracked set of ints -/
def SetI (w : World) (a : Addr) (S : Int → Bool) : HO := .ext fun h => ∃ n, SetR w h a S n
theorem setI_new {P : Program} {w : World} {H : Hp} {h : Heap} {a : Addr} {S : Int → Bool} {n : Nat} (R : SetR w h a S n) : ObjOk P w H h a (SetI w a S) := by
  have ⟨o, _, _, _, ho, _⟩ := R
  exact ⟨⟨n, R⟩, ⟨o, ho⟩, fun h1 h2 ⟨n, p⟩ k => ⟨n, p.at k⟩⟩
section
variable {X : Cx} {a : Expr} {fa : DE} {pos : Pos}
def rSetL (K : PySem.W.Frag) (w : World) : List V → Hp → VK → Prop := fun xs H Q => ∃ (l : Addr) (ns : List Int), xs = [V.ref l] ∧ SqL K H l (ns.map V.int) ∧ ns.length ≤ 4000 ∧ ∀ p, H p = none → Q (.ref p) (upd H p (SetI w p fun j => decide (j ∈ ns)))
theorem cr_setL (hc : X.calm = true) : CallR X (.type "set") (rSetL X.K X.w) := by
  intro pins s σ H xs us Q I r h
  obtain ⟨l, ns, rfl, hl, hn, q⟩ := h
  rw [Vals.ref1 r]
  obtain ⟨its, rv, pl, hz⟩ := I.list hl
  refine set_listI (I.ok.hd hc) pl.isList (ns := ns) (by simpa using rv.ints) (by unfold scanBound; omega) fun h' tk c R _ k => ?_
  exact ⟨.ref _, upd H s.heap.objs.size _, I.laid (t' := tk) k (Nat.le_refl _) (setI_new R), rfl, q _ (I.hok.fresh (Nat.le_refl _))⟩
def rSortS (w : World) : List V → Hp → VK → Prop := fun xs H Q => ∃ (a : Addr) (S : Int → Bool), xs = [V.ref a] ∧ H a = some (SetI w a S) ∧ ∀ p (ns : List Int), H p = none → ns.Pairwise (· < ·) → (∀ k, k ∈ ns ↔ S k = true) → Q (.ref p) (upd H p (.lst (ns.map V.int)))
theorem cr_sortS (hc : X.calm = true) : CallR X (.builtin "sorted") (rSortS X.w) := by
  intro pins s σ H xs us Q I r h
  obtain ⟨a, S, rfl, ha, q⟩ := h
  rw [Vals.ref1 r]
  obtain ⟨n, R⟩ := (I.hok a _ ha).1
  refine sortedS R (I.ok.hd hc) fun s' p out c ns k g o hp hg hI hlt hm hlen => ?_
  have hn : H p = none := I.hok.fresh hp
  have J : Inv X pins σ (upd H p (.lst (ns.map V.int))) { s with heap := s'.heap, gens := s'.gens, drawn := s'.drawn, toks := s'.toks } :=
    I.call (ch := []) (Un.laid k hp hn) (I.hok.laid k hp ⟨by rw [List.length_map]; exact hlen, out.toList, c, vals_of_ints hI, hg⟩) (by rw [g]; exact I.bare) (fun _ z => nomatch z)
  have e : s' = { s with heap := s'.heap, gens := s'.gens, drawn := s'.drawn, toks := s'.toks } := by cases s'; cases s; cases o; rfl
  rw [e]
  exact ⟨.ref p, _, J, rfl, q p ns hn hlt hm⟩
/-- the ints of a list of data -/
def intsD : List D → Option (List Int)
  | [] => some []
  | .int i :: r => (intsD r).map (i :: ·)
  | _ :: _ => none
def insU (i : Int) : List Int → List Int
  | [] => [i]
  | j :: r => if i < j then i :: j :: r else if i = j then j :: r else j :: insU i r
def sortU (l : List Int) : List Int := l.foldr insU []
theorem intsD_map : ∀ ns : List Int, intsD (ns.map .int) = some ns
  | [] => rfl
  | i :: r => by show (intsD (r.map .int)).map (i :: ·) = _; rw [intsD_map r]; rfl
theorem intsD_eq : ∀ {ds : List D} {ns : List Int}, intsD ds = some ns → ds = ns.map .int
  | [], _, h => by cases h; rfl
  | .int i :: r, ns, h => by
    unfold intsD at h
    cases q : intsD r with
    | none => rw [q] at h; cases h
    | some l => rw [q] at h; cases h; rw [intsD_eq q]; rfl
  | .non :: _, _, h | .bl _ :: _, _, h | .str _ :: _, _, h | .lst _ :: _, _, h | .tup _ :: _, _, h | .dic _ :: _, _, h | .obj _ :: _, _, h | .sta _ :: _, _, h => by cases h
theorem insU_mem (i k : Int) : ∀ l, k ∈ insU i l ↔ k = i ∨ k ∈ l
  | [] => by simp [insU]
  | j :: r => by
    unfold insU
    split
    · simp
    · split
      · rename_i e; subst e; simp
      · rw [List.mem_cons, insU_mem i k r, List.mem_cons]
        constructor
        · rintro (h | h | h) <;> simp [h]
        · rintro (h | h | h) <;> simp [h]
theorem insU_lt (i : Int) : ∀ l : List Int, l.Pairwise (· < ·) → (insU i l).Pairwise (· < ·)
  | [], _ => by simp [insU]
  | j :: r, h => by
    obtain ⟨h1, h2⟩ := List.pairwise_cons.mp h
    unfold insU
    split
    · rename_i hij
      refine List.pairwise_cons.mpr ⟨fun y hy => ?_, h⟩
      rcases List.mem_cons.mp hy with rfl | hy
      · exact hij
      · have := h1 y hy; omega
    · split
      · exact h
      · rename_i n1 n2
        refine List.pairwise_cons.mpr ⟨fun y hy => ?_, insU_lt i r h2⟩
        rcases (insU_mem i y r).mp hy with rfl | hy
        · omega
        · exact h1 y hy
theorem sortU_mem (k : Int) : ∀ l, k ∈ sortU l ↔ k ∈ l
  | [] => by simp [sortU]
  | i :: r => by show k ∈ insU i (sortU r) ↔ _; rw [insU_mem, sortU_mem k r, List.mem_cons]
theorem sortU_lt : ∀ l : List Int, (sortU l).Pairwise (· < ·)
  | [] => .nil
  | i :: r => insU_lt i _ (sortU_lt r)
theorem lt_uniq : ∀ {l m : List Int}, l.Pairwise (· < ·) → m.Pairwise (· < ·) → (∀ k, k ∈ l ↔ k ∈ m) → l = m
  | [], [], _, _, _ => rfl
  | [], j :: m, _, _, h => absurd ((h j).mpr (List.mem_cons_self ..)) (by simp)
  | i :: l, [], _, _, h => absurd ((h i).mp (List.mem_cons_self ..)) (by simp)
  | i :: l, j :: m, hl, hm, h => by
    obtain ⟨l1, l2⟩ := List.pairwise_cons.mp hl
    obtain ⟨m1, m2⟩ := List.pairwise_cons.mp hm
    have e : i = j := by
      have a := (h i).mp (List.mem_cons_self ..)
      have b := (h j).mpr (List.mem_cons_self ..)
      rcases List.mem_cons.mp a with a | a
      · exact a
      · rcases List.mem_cons.mp b with b | b
        · exact b.symm
        · have := m1 i a; have := l1 j b; omega
    subst e
    rw [lt_uniq l2 m2 fun k => ?_]
    have q := h k
    rw [List.mem_cons, List.mem_cons] at q
    constructor
    · intro hk
      have := l1 k hk
      rcases q.mp (.inr hk) with z | z
      · omega
      · exact z
    · intro hk
      have := m1 k hk
      rcases q.mpr (.inr hk) with z | z
      · omega
      · exact z
def aSortSet : List D → Option (List D)
  | [.lst ds] => match intsD ds with
    | some ns => if ns.length ≤ 4000 then some ((sortU ns).map .int) else none
    | none => none
  | _ => none
theorem b_sorted : bootBuiltins "sorted" = some (.builtin "sorted") := by decide +kernel
theorem b_set : bootBuiltins "set" = some (.type "set") := by decide +kernel
theorem RepAll.ints {A : Addr → Prop} {α : List Addr} {K : PySem.W.Frag} {H : Hp} : ∀ {vs : List V} {ns : List Int}, RepAll A α K H vs (ns.map .int) → vs = ns.map V.int
  | [], [], _ => rfl
  | [], _ :: _, h => by cases h.1
  | _ :: _, [], h => by cases h.1
  | v :: vs, n :: ns, h => by
    have h0 := h.2 0 v (.int n) rfl rfl
    cases h0
    rw [RepAll.ints (vs := vs) (ns := ns) ⟨Nat.succ.inj h.1, fun i v d a b => h.2 (i + 1) v d a b⟩]
    rfl
theorem repAll_ints {A : Addr → Prop} {α : List Addr} {K : PySem.W.Frag} {H : Hp} (ns : List Int) : RepAll A α K H (ns.map V.int) (ns.map .int) := by
  refine ⟨by simp, fun i v d a b => ?_⟩
  rw [List.getElem?_map] at a b
  cases q : ns[i]? with
  | none => rw [q] at a; cases a
  | some k => rw [q] at a b; cases a; cases b; exact .int k
theorem ef_sortSet {p p2 q : Pos} (z1 : X.mg "sorted" = none) (z2 : X.mg "set" = none) (ha : EB X a fa) (hc : X.calm = true := by rfl) (g1 : Gl X "sorted" := by rfl) (g2 : Gl X "set" := by rfl)
    (he : starEach [.Call (.Name "set" p2) [a] [] q] X.env = (false, eval (.Call (.Name "set" p2) [a] [] q) X.env) :: starEach [] X.env := by rfl) (he2 : starEach [a] X.env = (false, eval a X.env) :: starEach [] X.env := by rfl) :
    EF X (.Call (.Name "sorted" p) [.Call (.Name "set" p2) [a] [] q] [] pos) (aFn aSortSet (aCons fa aNil)) := by
  obtain ⟨t, pt, hq⟩ := ha
  have p1 := pe_callTy (p := p2) (pos := q) (cr_setL hc) g2 z2 b_set (pa_cons pt pa_nil he2) (by decide) (by decide) he2 rfl
  refine ⟨_, pe_callB (cr_sortS hc) g1 z1 b_sorted (pa_cons p1 pa_nil he) (by decide) (by decide) he rfl, fun G α ow σ H ρ g ds g' Q s e w => ?_⟩
  obtain ⟨xs, g1, e1, e2⟩ := bindM_some e
  obtain ⟨e3, rfl⟩ := liftM_some e2
  obtain ⟨y, g2, e4, e5⟩ := bindM_some e1
  obtain ⟨ys, g3, e6, e7⟩ := bindM_some e5
  obtain ⟨e8, rfl⟩ := liftM_some e7
  cases e8
  cases e6
  refine hq G α ow σ H ρ g y g2 _ s e4 fun v H1 α1 x1 s1 r1 => ?_
  unfold aSortSet at e3
  split at e3
  · rename_i ds' eq
    cases eq
    split at e3
    · rename_i ns hns
      split at e3
      · rename_i hlen
        cases e3
        obtain ⟨l, vs, rfl, hl, r2⟩ := r1.lst
        rw [intsD_eq hns] at r2
        cases r2.ints
        refine ⟨l, ns, rfl, .inl hl, hlen, fun p hp => ?_⟩
        refine ⟨p, _, rfl, upd_same, fun r ms hr hlt hm => ?_⟩
        have em : ms = sortU ns := lt_uniq hlt (sortU_lt ns) fun k => by rw [hm k, sortU_mem, decide_eq_true_eq]
        subst em
        exact w r _ _ α1 (x1.trans (Ext.new hp)) (s1.new hp) hr (repAll_ints _) _ rfl
      · cases e3
    · cases e3
  · cases e3
end
end L3

namespace W
open PySem PySem.Spec PyProof.Rows L2 L3
def topS (i : Nat) : Stmt := PySem.Challenge.pw_rowshell_k03_patterns_within.main.body.getD i (.Pass ⟨0, 0, 0, 0⟩)
structure Tx (K : PySem.W.Frag) (mg : Str → Option Value) : Prop where
  z_list : mg "list" = none
  z_len : mg "len" = none
  z_int : mg "int" = none
  z_range : mg "range" = none
  c_ANY : ∃ t, mg "ANY" = some (.str (S [42]) t)
  z_sorted : mg "sorted" = none
  z_set : mg "set" = none
  c_ONE : ∃ t, mg "ONE" = some (.str (S [63]) t)
  z_isinstance : mg "isinstance" = none
  z_bool : mg "bool" = none
  F__law_deck : FunAt K mg "_law_deck" (topS 8) ["_law_script"]
  F__law_next : FunAt K mg "_law_next" (topS 9) ["_law_deck_here", "_law_many"]
  F__law_signs : FunAt K mg "_law_signs" (topS 11) ["_law_deck_here", "_law_most", "_law_some"]
  F_over_stars : FunAt K mg "over_stars" (topS 3) ["pattern", "places"]
  F_stepped : FunAt K mg "stepped" (topS 4) ["pattern", "places", "sign"]
  F_fits : FunAt K mg "fits" (topS 5) ["pattern", "text"]
  F_has : FunAt K mg "has" (topS 6) ["pattern", "text"]
  F__law_is : FunAt K mg "_law_is" (topS 13) ["_law_pattern", "_law_text"]
  F__law_has : FunAt K mg "_law_has" (topS 14) ["_law_pattern", "_law_text"]
  F__law_one_of : FunAt K mg "_law_one_of" (topS 12) ["_law_deck_here", "_law_pattern"]
  F_law : FunAt K mg "law" (topS 15) ["_law_script"]
theorem sc__law_deck : FnScope ["_law_script", "_law_cells", "_law_cell"] ["_law_script"] (defScope (topS 8)) := ⟨rfl, rfl, rfl, by decide +kernel, rfl, by decide +kernel, by decide +kernel⟩
theorem sc__law_next : FnScope ["_law_deck_here", "_law_many", "_law_cells", "_law_count", "_law_rests", "_law_place", "_law_share", "_law_mixed"] ["_law_deck_here", "_law_many"] (defScope (topS 9)) := ⟨rfl, rfl, rfl, by decide +kernel, rfl, by decide +kernel, by decide +kernel⟩
theorem sc__law_signs : FnScope ["_law_deck_here", "_law_most", "_law_some", "_law_k"] ["_law_deck_here", "_law_most", "_law_some"] (defScope (topS 11)) := ⟨rfl, rfl, rfl, by decide +kernel, rfl, by decide +kernel, by decide +kernel⟩
theorem sc_over_stars : FnScope ["pattern", "places", "found", "place"] ["pattern", "places"] (defScope (topS 3)) := ⟨rfl, rfl, rfl, by decide +kernel, rfl, by decide +kernel, by decide +kernel⟩
theorem sc_stepped : FnScope ["pattern", "places", "sign", "found", "place"] ["pattern", "places", "sign"] (defScope (topS 4)) := ⟨rfl, rfl, rfl, by decide +kernel, rfl, by decide +kernel, by decide +kernel⟩
theorem sc_fits : FnScope ["pattern", "text", "places", "sign"] ["pattern", "text"] (defScope (topS 5)) := ⟨rfl, rfl, rfl, by decide +kernel, rfl, by decide +kernel, by decide +kernel⟩
theorem sc_has : FnScope ["pattern", "text"] ["pattern", "text"] (defScope (topS 6)) := ⟨rfl, rfl, rfl, by decide +kernel, rfl, by decide +kernel, by decide +kernel⟩
theorem sc__law_is : FnScope ["_law_pattern", "_law_text", "_law_row", "_law_sign", "_law_now", "_law_k", "_law_so"] ["_law_pattern", "_law_text"] (defScope (topS 13)) := ⟨rfl, rfl, rfl, by decide +kernel, rfl, by decide +kernel, by decide +kernel⟩
theorem sc__law_has : FnScope ["_law_pattern", "_law_text", "_law_k", "_law_j"] ["_law_pattern", "_law_text"] (defScope (topS 14)) := ⟨rfl, rfl, rfl, by decide +kernel, rfl, by decide +kernel, by decide +kernel⟩
theorem sc__law_one_of : FnScope ["_law_deck_here", "_law_pattern", "_law_text", "_law_sign"] ["_law_deck_here", "_law_pattern"] (defScope (topS 12)) := ⟨rfl, rfl, rfl, by decide +kernel, rfl, by decide +kernel, by decide +kernel⟩
theorem sc_law : FnScope ["_law_script", "_law_deck_here", "_law_seen", "_law_turn", "_law_pattern", "_law_text", "_law_found"] ["_law_script"] (defScope (topS 15)) := ⟨rfl, rfl, rfl, by decide +kernel, rfl, by decide +kernel, by decide +kernel⟩
def le__law_deck_0 : DE :=
  (eOp dMul (eVarB 2) (eFn dInt (aCons (eOp dGe (eVarB 2) (eOp dPow (eC (.int 10)) (eC (.int 18)))) aNil)))
def d__law_deck : DS :=
  (sSeq (sSet 1 (eOp dAddA (eL (aFn aList (aCons (eSl dSl (eVarB 0) oNone (oSome (eC (.int 63)))) aNil))) (eL (aRep (aFn dLst (aCons (eC (.int 0)) aNil)) (eFn dInt (aCons (eOp dEq (eFn dLen (aCons (eVarB 0) aNil)) (eC (.int 0))) aNil))))))
  (sRet (eSt (aFn dLst (aCons (eVar 1) (aCons (eC (.int 0)) (aCons (eSt (aLc (aItems (eVar 1)) [2] (tgName 2) tYesD le__law_deck_0)) aNil)))))))
def f__law_deck : List D → Store → Option (D × Store) := runD 3 d__law_deck
def d__law_next : DS :=
  (sSeq (sUnpO (eVarB 0) (tgsCons (tgName 2) (tgsCons (tgName 3) (tgsCons (tgName 4) tgsNil))))
  (sSeq (sSet 5 (eOp dMod (eVarB 3) (eFn dLen (aCons (eVarB 2) aNil))))
  (sSeq (sSetO (eVarB 0) (eC (.int 1)) (eOp dAddA (eVarB 3) (eC (.int 1))))
  (sSeq (sIf (tOf (eOp dGt (eIxO (eVarB 4) (eVarB 5)) (eC (.int 0)))) (sSeq (sSet 6 (eOp dMod (eIxO (eVarB 4) (eVarB 5)) (eVarB 1)))
  (sSeq (sSetO (eVarB 4) (eVarB 5) (eOp dDiv (eIxO (eVarB 4) (eVarB 5)) (eVarB 1)))
  (sRet (eVarB 6)))) sNext)
  (sSeq (sSet 7 (eOp dMod (eOp dAddA (eOp dAddA (eOp dIx (eVarB 2) (eVarB 5)) (eOp dMul (eC (.int 1000003)) (eVarB 3))) (eC (.int 77))) (eC (.int 2147483647))))
  (sSeq (sSet 7 (eOp dMod (eOp dPow (eVarB 7) (eC (.int 5))) (eC (.int 2147483629))))
  (sSeq (sSet 7 (eOp dMod (eOp dPow (eOp dAddA (eOp dAddA (eVarB 7) (eOp dMul (eC (.int 104729)) (eOp dMod (eVarB 3) (eC (.int 9973))))) (eC (.int 1))) (eC (.int 3))) (eC (.int 2305843009213693951))))
  (sRet (eOp dMod (eOp dDiv (eVarB 7) (eC (.int 8))) (eVarB 1))))))))))
def f__law_next : List D → Store → Option (D × Store) := runD 8 d__law_next
def le__law_signs_0 : DE :=
  (eOp dIx (eVarB 2) (eApp f__law_next (aCons (eVar 0) (aCons (eFn dLen (aCons (eVarB 2) aNil)) aNil))))
def d__law_signs : DS :=
  (sRet (eM1 dJoin (eC (.str [])) (eL (aLc (aFn dRange1 (aCons (eApp f__law_next (aCons (eVar 0) (aCons (eOp dAddA (eVarB 1) (eC (.int 1))) aNil))) aNil)) [3] (tgName 3) tYesD le__law_signs_0))))
def f__law_signs : List D → Store → Option (D × Store) := runD 4 d__law_signs
def wc_over_stars_0 : DT :=
  (tAndD (tOf (eOp dLt (eVarB 3) (eFn dLen (aCons (eVarB 0) aNil)))) (tOf (eOp dEq (eOp dIx (eVarB 0) (eVarB 3)) (eC (.str [42])))))
def wb_over_stars_0 : DS :=
  (sSeq (sApp 2 (eVar 3))
  (sAug 3 dAdd (eC (.int 1))))
def lb_over_stars_0 : DS :=
  (sSeq (whileD wc_over_stars_0 wb_over_stars_0 FUEL)
  (sApp 2 (eVar 3)))
def d_over_stars : DS :=
  (sSeq (sOwn 2 (aFn dLst aNil))
  (sSeq (sFor (aItems (eVar 1)) (tgName 3) lb_over_stars_0)
  (sRet (eL (aFn aSortSet (aCons (eVarB 2) aNil))))))
def f_over_stars : List D → Store → Option (D × Store) := runD 4 d_over_stars
def lb_stepped_0 : DS :=
  (sIf (tAndD (tOf (eOp dLt (eVarB 4) (eFn dLen (aCons (eVarB 0) aNil)))) (tOf (eOp dEq (eOp dIx (eVarB 0) (eVarB 4)) (eC (.str [42]))))) (sApp 3 (eVar 4)) (sIf (tAndD (tOf (eOp dLt (eVarB 4) (eFn dLen (aCons (eVarB 0) aNil)))) (tOf (eOp dIn (eOp dIx (eVarB 0) (eVarB 4)) (eFn dTup (aCons (eC (.str [63])) (aCons (eVar 2) aNil)))))) (sApp 3 (eOp dAddA (eVarB 4) (eC (.int 1)))) sNext))
def d_stepped : DS :=
  (sSeq (sOwn 3 (aFn dLst aNil))
  (sSeq (sFor (aItems (eVar 1)) (tgName 4) lb_stepped_0)
  (sFreeze 3 (sRet (eApp f_over_stars (aCons (eVar 0) (aCons (eVar 3) aNil)))))))
def f_stepped : List D → Store → Option (D × Store) := runD 5 d_stepped
def lb_fits_0 : DS :=
  (sSet 2 (eApp f_stepped (aCons (eVar 0) (aCons (eVar 2) (aCons (eVar 3) aNil)))))
def d_fits : DS :=
  (sSeq (sSet 2 (eApp f_over_stars (aCons (eVar 0) (aCons (eL (aFn dLst (aCons (eC (.int 0)) aNil))) aNil))))
  (sSeq (sFor (aItems (eVar 1)) (tgName 3) lb_fits_0)
  (sRet (eOp dIn (eFn dLen (aCons (eVarB 0) aNil)) (eVarB 2)))))
def f_fits : List D → Store → Option (D × Store) := runD 4 d_fits
def d_has : DS :=
  (sRet (eApp f_fits (aCons (eOp dAddA (eOp dAddA (eC (.str [42])) (eVarB 0)) (eC (.str [42]))) (aCons (eVar 1) aNil))))
def f_has : List D → Store → Option (D × Store) := runD 2 d_has
def le__law_is_0 : DE :=
  (eOp dEq (eVarB 5) (eC (.int 0)))
def lb__law_is_0 : DS :=
  (sSeq (sSet 6 (eC (.bl false)))
  (sSeq (sIf (tOf (eOp dEq (eVarB 3) (eC (.str [42])))) (sSet 6 (eOrD (eOp dIx (eVarB 2) (eVarB 5)) (eAndD (eOp dGt (eVarB 5) (eC (.int 0))) (eOp dIx (eVarB 4) (eOp dSub (eVarB 5) (eC (.int 1))))))) (sIf (tOf (eOp dGt (eVarB 5) (eC (.int 0)))) (sSet 6 (eAndD (eOp dIx (eVarB 2) (eOp dSub (eVarB 5) (eC (.int 1)))) (eOrD (eOp dEq (eVarB 3) (eC (.str [63]))) (eOp dEq (eVarB 3) (eOp dIx (eVarB 1) (eOp dSub (eVarB 5) (eC (.int 1)))))))) sNext))
  (sApp 4 (eVar 6))))
def lb__law_is_1 : DS :=
  (sSeq (sOwn 4 (aFn dLst aNil))
  (sSeq (sFor (aFn dRange1 (aCons (eOp dAddA (eFn dLen (aCons (eVarB 1) aNil)) (eC (.int 1))) aNil)) (tgName 5) lb__law_is_0)
  (sFreeze 4 (sSet 2 (eVar 4)))))
def d__law_is : DS :=
  (sSeq (sSet 2 (eL (aLc (aFn dRange1 (aCons (eOp dAddA (eFn dLen (aCons (eVarB 1) aNil)) (eC (.int 1))) aNil)) [5] (tgName 5) tYesD le__law_is_0)))
  (sSeq (sFor (aItems (eVar 0)) (tgName 3) lb__law_is_1)
  (sRet (eOp dIx (eVarB 2) (eFn dLen (aCons (eVarB 1) aNil))))))
def f__law_is : List D → Store → Option (D × Store) := runD 7 d__law_is
def lb__law_has_0 : DS :=
  (sIf (tTru (eApp f__law_is (aCons (eVar 0) (aCons (eSl dSl (eVarB 1) (oSome (eVar 2)) (oSome (eVar 3))) aNil)))) (sRet (eC (.bl true))) sNext)
def lb__law_has_1 : DS :=
  (sFor (aFn dRange2 (aCons (eVarB 2) (aCons (eOp dAddA (eFn dLen (aCons (eVarB 1) aNil)) (eC (.int 1))) aNil))) (tgName 3) lb__law_has_0)
def d__law_has : DS :=
  (sSeq (sFor (aFn dRange1 (aCons (eOp dAddA (eFn dLen (aCons (eVarB 1) aNil)) (eC (.int 1))) aNil)) (tgName 2) lb__law_has_1)
  (sRet (eC (.bl false))))
def f__law_has : List D → Store → Option (D × Store) := runD 4 d__law_has
def lb__law_one_of_0 : DS :=
  (sIf (tOf (eOp dEq (eVarB 3) (eC (.str [42])))) (sSet 2 (eOp dAddA (eVarB 2) (eApp f__law_signs (aCons (eVar 0) (aCons (eC (.int 2)) (aCons (eC (.str [97, 98, 32])) aNil)))))) (sIf (tOf (eOp dEq (eVarB 3) (eC (.str [63])))) (sSet 2 (eOp dAddA (eVarB 2) (eOp dIx (eC (.str [97, 98, 32])) (eApp f__law_next (aCons (eVar 0) (aCons (eC (.int 3)) aNil)))))) (sSet 2 (eOp dAddA (eVarB 2) (eVarB 3)))))
def d__law_one_of : DS :=
  (sSeq (sSet 2 (eC (.str [])))
  (sSeq (sFor (aItems (eVar 1)) (tgName 3) lb__law_one_of_0)
  (sRet (eVarB 2))))
def f__law_one_of : List D → Store → Option (D × Store) := runD 4 d__law_one_of
def lb_law_0 : DS :=
  (sSeq (sSet 4 (eApp f__law_signs (aCons (eVar 1) (aCons (eC (.int 6)) (aCons (eOp dIx (eL (aFn dLst (aCons (eC (.str [97, 98, 32, 42, 63])) (aCons (eC (.str [97, 98])) (aCons (eC (.str [97, 63])) (aCons (eC (.str [97, 98, 42])) aNil)))))) (eApp f__law_next (aCons (eVar 1) (aCons (eC (.int 4)) aNil)))) aNil)))))
  (sSeq (sSet 5 (eApp f__law_signs (aCons (eVar 1) (aCons (eC (.int 9)) (aCons (eOp dIx (eL (aFn dLst (aCons (eC (.str [97, 98, 32, 42, 63])) (aCons (eC (.str [97, 98])) (aCons (eC (.str [97, 32])) aNil))))) (eApp f__law_next (aCons (eVar 1) (aCons (eC (.int 3)) aNil)))) aNil)))))
  (sSeq (sIf (tOf (eOp dEq (eApp f__law_next (aCons (eVar 1) (aCons (eC (.int 2)) aNil))) (eC (.int 0)))) (sSet 5 (eSl dSl (eOp dAddA (eOp dAddA (eSl dSl (eVarB 5) oNone (oSome (eC (.int 3)))) (eApp f__law_one_of (aCons (eVar 1) (aCons (eVar 4) aNil)))) (eSl dSl (eVarB 5) (oSome (eC (.int 3))) (oSome (eC (.int 6))))) oNone (oSome (eC (.int 12))))) sNext)
  (sApp 2 (eFn dTup (aCons (eVar 4) (aCons (eVar 5) aNil)))))))
def lb_law_1 : DS :=
  (sSeq (sSet 6 (eApp f_has (aCons (eVar 4) (aCons (eVar 5) aNil))))
  (sSeq (sIf (tOrD (tNotD (tTru (eUn (dIsi "bool") (eVarB 6)))) (tOf (eOp dNe (eVarB 6) (eApp f__law_has (aCons (eVar 4) (aCons (eVar 5) aNil)))))) (sRet (eC (.bl false))) sNext)
  (sIf (tOrD (tAndD (tTru (eApp f_fits (aCons (eVar 4) (aCons (eVar 5) aNil)))) (tNotD (tTru (eVarB 6)))) (tOrD (tNotD (tTru (eApp f_has (aCons (eC (.str [])) (aCons (eVar 5) aNil))))) (tNotD (tTru (eApp f_has (aCons (eC (.str [42])) (aCons (eVar 5) aNil))))))) (sRet (eC (.bl false))) sNext)))
def d_law : DS :=
  (sSeq (sSet 1 (eApp f__law_deck (aCons (eVar 0) aNil)))
  (sSeq (sOwn 2 (aFn dLst aNil))
  (sSeq (sFor (aFn dRange1 (aCons (eC (.int 10)) aNil)) (tgName 3) lb_law_0)
  (sSeq (sFor (aItems (eOp dAddA (eVarB 2) (eVarB 2))) (tgTup (tgsCons (tgName 4) (tgsCons (tgName 5) tgsNil))) lb_law_1)
  (sRet (eC (.bl true)))))))
def f_law : List D → Store → Option (D × Store) := runD 7 d_law
section
variable {P : Program} {w : World} {K : PySem.W.Frag} {mg : Str → Option Value} {base : Heap}
theorem ok__law_deck (T : Tx K mg) : FnAt P w K mg base 1 "_law_deck" ["_law_script"] (spD K 1 f__law_deck) :=
  fnat T.F__law_deck sc__law_deck fun cdv A outer s H E hr =>
  (bc_cons (sc_set (i := 1) sc__law_deck.nd (ec_op opd_addA (EC.bo (EF.ec (ef_callT cf_list T.z_list b_list (ab_cons (EC.bo (ec_slice (eb_var 0) oc_none (oc_some ec_int))) ab_nil)))) (EC.bo (EF.ec (ef_rep (ef_lst (ac_cons ec_int ac_nil)) (ec_callT cd_int T.z_int b_int (ab_cons (EC.bo (ec_cmp (opd_eq hr.units) (EC.bo (ec_callB cd_len T.z_len b_len (ab_cons (eb_var 0) ab_nil))) (EC.bo ec_int))) ab_nil)))))))
  (bc_one (sc_ret (EC.bo (EF.st (ef_lst (ac_cons (ec_var 1) (ac_cons ec_int (ac_cons (EF.st (ef_lc sc__law_deck.nd [("_law_cell", 2)] (ic_seq (ec_var 1)) tgin_name (fun _ _ _ _ _ => (gc_name 2 sc__law_deck.nd)) (fun _ _ _ _ _ => tcs_nil) (fun _ _ _ _ _ => (ec_op opd_mul (eb_var 2) (EC.bo (ec_callT cd_int T.z_int b_int (ab_cons (EC.bo (ec_cmp opd_ge (eb_var 2) (EC.bo (ec_op opd_pow (EC.bo ec_int) (EC.bo ec_int))))) ab_nil))))) (blkOk_by (N := ["_law_script", "_law_cells", "_law_cell"]) (sc := defScope (topS 8)) (by decide +kernel)))) ac_nil)))))))))
theorem ok__law_next (T : Tx K mg) : FnAt P w K mg base 1 "_law_next" ["_law_deck_here", "_law_many"] (spD K 2 f__law_next) :=
  fnat T.F__law_next sc__law_next fun cdv A outer s H E hr =>
  (bc_cons (sc_unpO (eb_var 0) (gcs_cons (gc_name 2 sc__law_next.nd) (gcs_cons (gc_name 3 sc__law_next.nd) (gcs_cons (gc_name 4 sc__law_next.nd) gcs_nil))))
  (bc_cons (sc_set (i := 5) sc__law_next.nd (ec_op opd_mod (eb_var 3) (EC.bo (ec_callB cd_len T.z_len b_len (ab_cons (eb_var 2) ab_nil)))))
  (bc_cons (sc_setO (ec_op opd_addA (eb_var 3) (EC.bo ec_int)) (eb_var 0) (EC.bo ec_int))
  (bc_cons (sc_if (tc_cmp opd_gt (EC.bo (ec_ixO (eb_var 4) (eb_var 5))) (EC.bo ec_int)) (bc_cons (sc_set (i := 6) sc__law_next.nd (ec_op opd_mod (EC.bo (ec_ixO (eb_var 4) (eb_var 5))) (eb_var 1)))
  (bc_cons (sc_setO (ec_op opd_div (EC.bo (ec_ixO (eb_var 4) (eb_var 5))) (eb_var 1)) (eb_var 4) (eb_var 5))
  (bc_one (sc_ret (eb_var 6))))) bc_nil)
  (bc_cons (sc_set (i := 7) sc__law_next.nd (ec_op opd_mod (EC.bo (ec_op opd_addA (EC.bo (ec_op opd_addA (EC.bo (ec_ix ixd (eb_var 2) (eb_var 5))) (EC.bo (ec_op opd_mul (EC.bo ec_int) (eb_var 3))))) (EC.bo ec_int))) (EC.bo ec_int)))
  (bc_cons (sc_set (i := 7) sc__law_next.nd (ec_op opd_mod (EC.bo (ec_op opd_pow (eb_var 7) (EC.bo ec_int))) (EC.bo ec_int)))
  (bc_cons (sc_set (i := 7) sc__law_next.nd (ec_op opd_mod (EC.bo (ec_op opd_pow (EC.bo (ec_op opd_addA (EC.bo (ec_op opd_addA (eb_var 7) (EC.bo (ec_op opd_mul (EC.bo ec_int) (EC.bo (ec_op opd_mod (eb_var 3) (EC.bo ec_int))))))) (EC.bo ec_int))) (EC.bo ec_int))) (EC.bo ec_int)))
  (bc_one (sc_ret (EC.bo (ec_op opd_mod (EC.bo (ec_op opd_div (eb_var 7) (EC.bo ec_int))) (eb_var 1))))))))))))
theorem ok__law_signs (T : Tx K mg) : FnAt P w K mg base 2 "_law_signs" ["_law_deck_here", "_law_most", "_law_some"] (spD K 3 f__law_signs) :=
  fnat T.F__law_signs sc__law_signs fun cdv A outer s H E hr =>
  (bc_one (sc_ret (EC.bo (ec_m1 PySem.F.slot_str_join PySem.F.type_str_join md_join (EC.bo (ec_str (s := []))) (EC.bo (EF.ec (ef_lc sc__law_signs.nd [("_law_k", 3)] (ic_range1 T.z_range (ab_cons (EC.bo (ec_callA (ok__law_next T) hr (ac_cons (ec_var 0) (ac_cons (ec_op opd_addA (eb_var 1) (EC.bo ec_int)) ac_nil)))) ab_nil)) tgin_name (fun _ _ _ _ _ => (gc_name 3 sc__law_signs.nd)) (fun _ _ _ _ _ => tcs_nil) (fun _ _ _ _ _ => (ec_ix ixd (eb_var 2) (EC.bo (ec_callA (ok__law_next T) hr (ac_cons (ec_var 0) (ac_cons (ec_callB cd_len T.z_len b_len (ab_cons (eb_var 2) ab_nil)) ac_nil)))))) (blkOk_by (N := ["_law_deck_here", "_law_most", "_law_some", "_law_k"]) (sc := defScope (topS 11)) (by decide +kernel)))))))))
theorem ok_over_stars (T : Tx K mg) : FnAt P w K mg base 1 "over_stars" ["pattern", "places"] (spD K 2 f_over_stars) :=
  fnat T.F_over_stars sc_over_stars fun cdv A outer s H E hr =>
  (bc_cons (sc_own (i := 2) sc_over_stars.nd (ef_lst ac_nil))
  (bc_cons (sc_for (ic_seq (ec_var 1)) (gc_name 3 sc_over_stars.nd) (bc_cons (sc_while FUEL (TW.tc (tw_and (tc_cmp opd_lt (eb_var 3) (EC.bo (ec_callB cd_len T.z_len b_len (ab_cons (eb_var 0) ab_nil)))) (tw_and1 (tc_cmp (opd_eq hr.units) (EC.bo (ec_ix ixd (eb_var 0) (eb_var 3))) (EC.bo (ec_gstrE T.c_ANY)))))) (bc_cons (sc_app (i := 2) (ec_var 3))
  (bc_one (sc_aug (i := 3) sc_over_stars.nd opd_iadd (EC.bo ec_int)))))
  (bc_one (sc_app (i := 2) (ec_var 3)))))
  (bc_one (sc_ret (EC.bo (EF.ec (ef_sortSet T.z_sorted T.z_set (eb_var 2))))))))
theorem ok_stepped (T : Tx K mg) : FnAt P w K mg base 2 "stepped" ["pattern", "places", "sign"] (spD K 3 f_stepped) :=
  fnat T.F_stepped sc_stepped fun cdv A outer s H E hr =>
  (bc_cons (sc_own (i := 3) sc_stepped.nd (ef_lst ac_nil))
  (bc_cons (sc_for (ic_seq (ec_var 1)) (gc_name 4 sc_stepped.nd) (bc_one (sc_if (TW.tc (tw_and (tc_cmp opd_lt (eb_var 4) (EC.bo (ec_callB cd_len T.z_len b_len (ab_cons (eb_var 0) ab_nil)))) (tw_and1 (tc_cmp (opd_eq hr.units) (EC.bo (ec_ix ixd (eb_var 0) (eb_var 4))) (EC.bo (ec_gstrE T.c_ANY)))))) (bc_one (sc_app (i := 3) (ec_var 4))) (bc_one (sc_if (TW.tc (tw_and (tc_cmp opd_lt (eb_var 4) (EC.bo (ec_callB cd_len T.z_len b_len (ab_cons (eb_var 0) ab_nil)))) (tw_and1 (tc_cmp opd_in (EC.bo (ec_ix ixd (eb_var 0) (eb_var 4))) (EC.bo (ec_tup (ac_cons (ec_gstrE T.c_ONE) (ac_cons (ec_var 2) ac_nil)))))))) (bc_one (sc_app (i := 3) (ec_op opd_addA (eb_var 4) (EC.bo ec_int)))) bc_nil)))))
  (bc_freeze 3 (bc_one (sc_ret (EC.bo (ec_callA (ok_over_stars T) hr (ac_cons (ec_var 0) (ac_cons (ec_var 3) ac_nil)))))))))
theorem ok_fits (T : Tx K mg) : FnAt P w K mg base 3 "fits" ["pattern", "text"] (spD K 2 f_fits) :=
  fnat T.F_fits sc_fits fun cdv A outer s H E hr =>
  (bc_cons (sc_set (i := 2) sc_fits.nd (ec_callA (ok_over_stars T) hr (ac_cons (ec_var 0) (ac_cons (EF.ec (ef_lst (ac_cons ec_int ac_nil))) ac_nil))))
  (bc_cons (sc_for (ic_seq (ec_var 1)) (gc_name 3 sc_fits.nd) (bc_one (sc_set (i := 2) sc_fits.nd (ec_callA (ok_stepped T) hr (ac_cons (ec_var 0) (ac_cons (ec_var 2) (ac_cons (ec_var 3) ac_nil)))))))
  (bc_one (sc_ret (EC.bo (ec_cmp opd_in (EC.bo (ec_callB cd_len T.z_len b_len (ab_cons (eb_var 0) ab_nil))) (eb_var 2)))))))
theorem ok_has (T : Tx K mg) : FnAt P w K mg base 4 "has" ["pattern", "text"] (spD K 2 f_has) :=
  fnat T.F_has sc_has fun cdv A outer s H E hr =>
  (bc_one (sc_ret (EC.bo (ec_callA (ok_fits T) hr (ac_cons (ec_op opd_addA (EC.bo (ec_op opd_addA (EC.bo (ec_gstrE T.c_ANY)) (eb_var 0))) (EC.bo (ec_gstrE T.c_ANY))) (ac_cons (ec_var 1) ac_nil))))))
theorem ok__law_is (T : Tx K mg) : FnAt P w K mg base 1 "_law_is" ["_law_pattern", "_law_text"] (spD K 2 f__law_is) :=
  fnat T.F__law_is sc__law_is fun cdv A outer s H E hr =>
  (bc_cons (sc_setLc (i := 2) sc__law_is.nd [("_law_k", 5)] (ic_range1 T.z_range (ab_cons (EC.bo (ec_op opd_addA (EC.bo (ec_callB cd_len T.z_len b_len (ab_cons (eb_var 1) ab_nil))) (EC.bo ec_int))) ab_nil)) tgin_name (fun _ _ _ _ _ => (gc_name 5 sc__law_is.nd)) (fun _ _ _ _ _ => tcs_nil) (fun _ _ _ _ _ => (ec_cmp (opd_eq hr.units) (eb_var 5) (EC.bo ec_int))) (blkOk_by (N := ["_law_pattern", "_law_text", "_law_row", "_law_sign", "_law_now", "_law_k", "_law_so"]) (sc := defScope (topS 13)) (by decide +kernel)) (sw_true rfl rfl rfl (by decide +kernel)))
  (bc_cons (sc_for (ic_seq (ec_var 0)) (gc_name 3 sc__law_is.nd) (bc_cons (sc_own (i := 4) sc__law_is.nd (ef_lst ac_nil))
  (bc_cons (sc_for (ic_range1 T.z_range (ab_cons (EC.bo (ec_op opd_addA (EC.bo (ec_callB cd_len T.z_len b_len (ab_cons (eb_var 1) ab_nil))) (EC.bo ec_int))) ab_nil)) (gc_name 5 sc__law_is.nd) (bc_cons (sc_set (i := 6) sc__law_is.nd ec_bl)
  (bc_cons (sc_if (tc_cmp (opd_eq hr.units) (eb_var 3) (EC.bo (ec_str (s := [42])))) (bc_one (sc_set (i := 6) sc__law_is.nd (ec_or (ec_ix ixd (eb_var 2) (eb_var 5)) (ec_one (ec_and (ec_cmp opd_gt (eb_var 5) (EC.bo ec_int)) (ec_one (ec_ix ixd (eb_var 4) (EC.bo (ec_op opd_sub (eb_var 5) (EC.bo ec_int)))))))))) (bc_one (sc_if (tc_cmp opd_gt (eb_var 5) (EC.bo ec_int)) (bc_one (sc_set (i := 6) sc__law_is.nd (ec_and (ec_ix ixd (eb_var 2) (EC.bo (ec_op opd_sub (eb_var 5) (EC.bo ec_int)))) (ec_one (ec_or (ec_cmp (opd_eq hr.units) (eb_var 3) (EC.bo (ec_str (s := [63])))) (ec_one (ec_cmp (opd_eq hr.units) (eb_var 3) (EC.bo (ec_ix ixd (eb_var 1) (EC.bo (ec_op opd_sub (eb_var 5) (EC.bo ec_int)))))))))))) bc_nil)))
  (bc_one (sc_app (i := 4) (ec_var 6))))))
  (bc_freeze 4 (bc_one (sc_set (i := 2) sc__law_is.nd (ec_var 4)))))))
  (bc_one (sc_ret (EC.bo (ec_ix ixd (eb_var 2) (EC.bo (ec_callB cd_len T.z_len b_len (ab_cons (eb_var 1) ab_nil)))))))))
theorem ok__law_has (T : Tx K mg) : FnAt P w K mg base 2 "_law_has" ["_law_pattern", "_law_text"] (spD K 2 f__law_has) :=
  fnat T.F__law_has sc__law_has fun cdv A outer s H E hr =>
  (bc_cons (sc_for (ic_range1 T.z_range (ab_cons (EC.bo (ec_op opd_addA (EC.bo (ec_callB cd_len T.z_len b_len (ab_cons (eb_var 1) ab_nil))) (EC.bo ec_int))) ab_nil)) (gc_name 2 sc__law_has.nd) (bc_one (sc_for (ic_range2 T.z_range (ab_cons (eb_var 2) (ab_cons (EC.bo (ec_op opd_addA (EC.bo (ec_callB cd_len T.z_len b_len (ab_cons (eb_var 1) ab_nil))) (EC.bo ec_int))) ab_nil))) (gc_name 3 sc__law_has.nd) (bc_one (sc_if (tc_tru (EC.bo (ec_callA (ok__law_is T) hr (ac_cons (ec_var 0) (ac_cons (ec_slice (eb_var 1) (oc_some (ec_var 2)) (oc_some (ec_var 3))) ac_nil))))) (bc_one (sc_ret (EC.bo ec_bl))) bc_nil)))))
  (bc_one (sc_ret (EC.bo ec_bl))))
theorem ok__law_one_of (T : Tx K mg) : FnAt P w K mg base 3 "_law_one_of" ["_law_deck_here", "_law_pattern"] (spD K 2 f__law_one_of) :=
  fnat T.F__law_one_of sc__law_one_of fun cdv A outer s H E hr =>
  (bc_cons (sc_set (i := 2) sc__law_one_of.nd (ec_str (s := [])))
  (bc_cons (sc_for (ic_seq (ec_var 1)) (gc_name 3 sc__law_one_of.nd) (bc_one (sc_if (tc_cmp (opd_eq hr.units) (eb_var 3) (EC.bo (ec_str (s := [42])))) (bc_one (sc_set (i := 2) sc__law_one_of.nd (ec_op opd_addA (eb_var 2) (EC.bo (ec_callA (ok__law_signs T) hr (ac_cons (ec_var 0) (ac_cons ec_int (ac_cons (ec_str (s := [97, 98, 32])) ac_nil)))))))) (bc_one (sc_if (tc_cmp (opd_eq hr.units) (eb_var 3) (EC.bo (ec_str (s := [63])))) (bc_one (sc_set (i := 2) sc__law_one_of.nd (ec_op opd_addA (eb_var 2) (EC.bo (ec_ix ixd (EC.bo (ec_str (s := [97, 98, 32]))) (EC.bo (ec_callA (ok__law_next T) hr (ac_cons (ec_var 0) (ac_cons ec_int ac_nil))))))))) (bc_one (sc_set (i := 2) sc__law_one_of.nd (ec_op opd_addA (eb_var 2) (eb_var 3)))))))))
  (bc_one (sc_ret (eb_var 2)))))
theorem ok_law (T : Tx K mg) : FnAt P w K mg base 5 "law" ["_law_script"] (spD K 1 f_law) :=
  fnat T.F_law sc_law fun cdv A outer s H E hr =>
  (bc_cons (sc_set (i := 1) sc_law.nd (ec_callA (ok__law_deck T) hr (ac_cons (ec_var 0) ac_nil)))
  (bc_cons (sc_own (i := 2) sc_law.nd (ef_lst ac_nil))
  (bc_cons (sc_for (ic_range1 T.z_range (ab_cons (EC.bo ec_int) ab_nil)) (gc_name 3 sc_law.nd) (bc_cons (sc_set (i := 4) sc_law.nd (ec_callA (ok__law_signs T) hr (ac_cons (ec_var 1) (ac_cons ec_int (ac_cons (ec_ix ixd (EC.bo (EF.ec (ef_lst (ac_cons (ec_str (s := [97, 98, 32, 42, 63])) (ac_cons (ec_str (s := [97, 98])) (ac_cons (ec_str (s := [97, 63])) (ac_cons (ec_str (s := [97, 98, 42])) ac_nil))))))) (EC.bo (ec_callA (ok__law_next T) hr (ac_cons (ec_var 1) (ac_cons ec_int ac_nil))))) ac_nil)))))
  (bc_cons (sc_set (i := 5) sc_law.nd (ec_callA (ok__law_signs T) hr (ac_cons (ec_var 1) (ac_cons ec_int (ac_cons (ec_ix ixd (EC.bo (EF.ec (ef_lst (ac_cons (ec_str (s := [97, 98, 32, 42, 63])) (ac_cons (ec_str (s := [97, 98])) (ac_cons (ec_str (s := [97, 32])) ac_nil)))))) (EC.bo (ec_callA (ok__law_next T) hr (ac_cons (ec_var 1) (ac_cons ec_int ac_nil))))) ac_nil)))))
  (bc_cons (sc_if (tc_cmp (opd_eq hr.units) (EC.bo (ec_callA (ok__law_next T) hr (ac_cons (ec_var 1) (ac_cons ec_int ac_nil)))) (EC.bo ec_int)) (bc_one (sc_set (i := 5) sc_law.nd (ec_slice (EC.bo (ec_op opd_addA (EC.bo (ec_op opd_addA (EC.bo (ec_slice (eb_var 5) oc_none (oc_some ec_int))) (EC.bo (ec_callA (ok__law_one_of T) hr (ac_cons (ec_var 1) (ac_cons (ec_var 4) ac_nil)))))) (EC.bo (ec_slice (eb_var 5) (oc_some ec_int) (oc_some ec_int))))) oc_none (oc_some ec_int)))) bc_nil)
  (bc_one (sc_app (i := 2) (ec_tup (ac_cons (ec_var 4) (ac_cons (ec_var 5) ac_nil)))))))))
  (bc_cons (sc_for (ic_seq (ec_op opd_addA (eb_var 2) (eb_var 2))) (gc_tup rfl (gcs_cons (gc_name 4 sc_law.nd) (gcs_cons (gc_name 5 sc_law.nd) gcs_nil))) (bc_cons (sc_set (i := 6) sc_law.nd (ec_callA (ok_has T) hr (ac_cons (ec_var 4) (ac_cons (ec_var 5) ac_nil))))
  (bc_cons (sc_if (TW.tc (tw_or (tc_not (tc_tru (EC.bo (ec_isi T.z_isinstance T.z_bool b_bool (eb_var 6))))) (tw_or1 (tc_cmp (opd_ne hr.units) (eb_var 6) (EC.bo (ec_callA (ok__law_has T) hr (ac_cons (ec_var 4) (ac_cons (ec_var 5) ac_nil)))))))) (bc_one (sc_ret (EC.bo ec_bl))) bc_nil)
  (bc_one (sc_if (TW.tc (tw_or (TW.tc (tw_and (tc_tru (EC.bo (ec_callA (ok_fits T) hr (ac_cons (ec_var 4) (ac_cons (ec_var 5) ac_nil))))) (tw_and1 (tc_not (tc_tru (eb_var 6)))))) (tw_or (tc_not (tc_tru (EC.bo (ec_callA (ok_has T) hr (ac_cons (ec_str (s := [])) (ac_cons (ec_var 5) ac_nil)))))) (tw_or1 (tc_not (tc_tru (EC.bo (ec_callA (ok_has T) hr (ac_cons (ec_str (s := [42])) (ac_cons (ec_var 5) ac_nil)))))))))) (bc_one (sc_ret (EC.bo ec_bl))) bc_nil)))))
  (bc_one (sc_ret (EC.bo ec_bl)))))))
end
end W

namespace W
open L3
open L2 (atI ixN)
/-! the deck: what is drawn -/
structure DeckOk (n : Nat) (g : Store) : Prop where
  ex : ∃ (cells rests : List Int) (count : Int) (r : Nat), g[n]? = some (.lst [.lst (cells.map .int), .int count, .obj r]) ∧ g[r]? = some (.lst (rests.map .int)) ∧ n ≠ r ∧ cells ≠ [] ∧ cells.length = rests.length ∧ cells.length ≤ 1000 ∧ 0 ≤ count
theorem atI_map {l : List Int} {i : Int} (h0 : 0 ≤ i) (h1 : i < l.length) : atI (l.map D.int) i = some (.int (l.getD i.toNat 0)) := by
  have hi : i.toNat < l.length := by omega
  unfold atI ixN
  rw [List.length_map, if_pos h0, if_pos h1]
  show (l.map D.int)[i.toNat]? = _
  rw [List.getElem?_map, List.getElem?_eq_getElem hi]
  simp [List.getD_eq_getElem?_getD, List.getElem?_eq_getElem hi]
theorem next_ok {n : Nat} {g : Store} {many : Int} (h : DeckOk n g) (h0 : 0 < many) (h1 : many < 1073741824) :
    ∃ v g', f__law_next [.obj n, .int many] g = some (.int v, g') ∧ 0 ≤ v ∧ v < many ∧ DeckOk n g' := by
  obtain ⟨cells, rests, count, r, e1, e2, hne, hc, hl, hb, h2⟩ := h.ex
  have hlen : 0 < cells.length := List.length_pos_iff.mpr hc
  have hp0 : 0 ≤ count % (cells.length : Int) := Int.emod_nonneg _ (by omega)
  have hp1 : count % (cells.length : Int) < cells.length := Int.emod_lt_of_pos _ (by omega)
  have a1 := atI_map (l := cells) hp0 hp1
  have a2 := atI_map (l := rests) hp0 (by rw [← hl]; exact hp1)
  generalize hv : rests.getD (count % (cells.length : Int)).toNat 0 = v at a2
  generalize hu : cells.getD (count % (cells.length : Int)).toNat 0 = u at a1
  have hn : n < g.length := (List.getElem?_eq_some_iff.mp e1).1
  have hr : r < g.length := (List.getElem?_eq_some_iff.mp e2).1
  have ix : ixN rests.length (count % (cells.length : Int)) = some (count % (cells.length : Int)).toNat := by
    unfold ixN; rw [if_pos hp0, if_pos (by rw [← hl]; exact hp1)]
  by_cases hpos : 0 < v
  · refine ⟨v % many, (g.set n (.lst [.lst (cells.map .int), .int (count + 1), .obj r])).set r (.lst ((rests.map .int).set (count % (cells.length : Int)).toNat (.int (v / many)))), ?_, Int.emod_nonneg _ (by omega), Int.emod_lt_of_pos _ h0, ⟨cells, rests.set (count % (cells.length : Int)).toNat (v / many), count + 1, r, ?_, ?_, hne, hc, by simp [hl], hb, by omega⟩⟩
    · unfold f__law_next runD d__law_next
      simp [start3, sSeq, sUnpO, eVarB, eVar, e1, e2, tgsCons, tgsNil, tgName, sets, sSet, eOp, L3.bindM, L3.liftM, eFn, aCons, aNil, dLen, dMod, dDiv, hlen, sSetO, eC, dAddA, dAdd, show ixN 3 1 = some 1 from rfl, sIf, tOf, eIxO, dGt, hne, hne.symm, List.getElem?_set_ne, a2, hpos, h0, h1, sRet, ix]
    · rw [List.getElem?_set_ne (Ne.symm hne), List.getElem?_set_self hn]
    · rw [List.getElem?_set_self (by rw [List.length_set]; exact hr), List.map_set]
  · have q1 : ∃ m1 : Int, (u + 1000003 * count + 77) % 2147483647 = m1 ∧ 0 ≤ m1 ∧ m1 < 2147483647 := ⟨_, rfl, Int.emod_nonneg _ (by decide), Int.emod_lt_of_pos _ (by decide)⟩
    obtain ⟨m1, em1, b1, b2⟩ := q1
    have q2 : ∃ m2 : Int, m1 ^ 5 % 2147483629 = m2 ∧ 0 ≤ m2 ∧ m2 < 2147483629 := ⟨_, rfl, Int.emod_nonneg _ (by decide), Int.emod_lt_of_pos _ (by decide)⟩
    obtain ⟨m2, em2, b3, b4⟩ := q2
    have q3 : ∃ m3 : Int, (m2 + 104729 * (count % 9973) + 1) ^ 3 % 2305843009213693951 = m3 ∧ 0 ≤ m3 := ⟨_, rfl, Int.emod_nonneg _ (by decide)⟩
    obtain ⟨m3, em3, b5⟩ := q3
    have b6 : 0 ≤ count % 9973 := Int.emod_nonneg _ (by decide)
    have b7 : count % 9973 < 9973 := Int.emod_lt_of_pos _ (by decide)
    refine ⟨m3 / 8 % many, g.set n (.lst [.lst (cells.map .int), .int (count + 1), .obj r]), ?_, Int.emod_nonneg _ (by omega), Int.emod_lt_of_pos _ h0, ⟨cells, rests, count + 1, r, ?_, ?_, hne, hc, hl, hb, by omega⟩⟩
    · have c1 : m1.natAbs < 18446744073709551616 := by omega
      have c2 : (m2 + 104729 * (count % 9973) + 1).natAbs < 18446744073709551616 := by omega
      unfold f__law_next runD d__law_next
      simp [start3, sSeq, sUnpO, eVarB, eVar, e1, e2, tgsCons, tgsNil, tgName, sets, sSet, eOp, L3.bindM, L3.liftM, eFn, aCons, aNil, dLen, dMod, dDiv, hlen, sSetO, eC, dAddA, dAdd, show ixN 3 1 = some 1 from rfl, sIf, tOf, eIxO, dGt, hne, hne.symm, List.getElem?_set_ne, a1, a2, hpos, h0, h1, sRet, ix, dIx, dMul, dPow, sNext, em1, em2, em3, c1, c2]
    · rw [List.getElem?_set_self hn]
    · rw [List.getElem?_set_ne hne]; exact e2
theorem Ok.next {n : Nat} {g : Store} {many : Int} {Q : D → Store → Prop} (h : DeckOk n g) (h0 : 0 < many) (h1 : many < 1073741824) (w : ∀ v g', 0 ≤ v → v < many → DeckOk n g' → Q (.int v) g') : Ok (f__law_next [.obj n, .int many] g) Q := by
  obtain ⟨v, g', e, a, b, c⟩ := next_ok h h0 h1
  exact ⟨_, g', e, w v g' a b c⟩
end W

namespace W
open L3
open L2 (atI ixN)
theorem deck_ok (ns : List Int) (hl : ns.length ≤ 63) : Ok (f__law_deck [.lst (ns.map .int)] []) fun d g => d = .obj 1 ∧ DeckOk 1 g := by
  have c63 : cutL (ns.map D.int) none (some 63) = ns.map D.int := by
    unfold cutL
    rw [List.length_map]
    simp only [HT.sIx, List.drop_zero, Nat.sub_zero]
    rw [List.take_of_length_le]
    rw [List.length_map]
    simp
    omega
  have pw : (10 : Int) ^ 18 = 1000000000000000000 := by decide
  generalize hcs : ns ++ (List.replicate (if ns.length = 0 then 1 else 0) [(0 : Int)]).flatten = cs
  have hc0 : cs ≠ [] := by
    rw [← hcs]
    cases ns with
    | nil => simp
    | cons x r => simp
  have hcl : cs.length ≤ 64 := by
    rw [← hcs, List.length_append]
    split <;> simp_all <;> omega
  have ecs : ns.map D.int ++ (List.replicate (if ns.length = 0 then 1 else 0) [D.int 0]).flatten = cs.map D.int := by
    rw [← hcs, List.map_append]
    split <;> simp
  have lc : ∀ ρ : Env3, 2 < ρ.length → lcD (tgName 2) tYesD le__law_deck_0 (cs.map D.int) ρ [] = some ((cs.map D.int).map (fun d => match d with | .int i => .int (i * (if 1000000000000000000 ≤ i then 1 else 0)) | d => d), []) := by
    intro ρ hρ
    refine lc_map fun d hd => ?_
    obtain ⟨i, _, rfl⟩ := List.mem_map.mp hd
    refine ⟨_, rfl, ?_⟩
    unfold le__law_deck_0
    by_cases hi : 1000000000000000000 ≤ i
    · simp [sets, eOp, L3.bindM, L3.liftM, eVarB, hρ, eFn, aCons, aNil, eC, dPow, dGe, pw, dInt, dMul, hi]
    · simp [sets, eOp, L3.bindM, L3.liftM, eVarB, hρ, eFn, aCons, aNil, eC, dPow, dGe, pw, dInt, dMul, hi]
  refine ok_run (ok_seq ?_)
  refine Ok.of (x := .nx [some (.d (.lst (ns.map .int))), some (.d (.lst (cs.map .int))), none]) (g := []) ?_ ?_
  · by_cases h0 : ns.length = 0
    · have e : ns = [] := List.eq_nil_of_length_eq_zero h0
      subst e
      rw [← ecs]
      rfl
    · have h0' : ¬ ((ns.length : Int) = 0) := by omega
      rw [if_neg h0] at ecs
      simp [sSet, start3, eOp, L3.bindM, L3.liftM, eL, aFn, aSl, eSl, eVarB, eVar, oNone, oSome, eC, aCons, aNil, dSl, c63, aList, eFn, dLen, dEq, dEqB, h0, h0', dInt, aRep, dLst, dAddA, ← ecs, BIG, show ns.length ≤ 100000 by omega]
  · have hb : cs.length ≤ 100000 := by omega
    refine Ok.of (x := .rt (.obj 1)) (g := [.lst ((cs.map D.int).map (fun d => match d with | .int i => .int (i * (if 1000000000000000000 ≤ i then 1 else 0)) | d => d)), .lst [.lst (cs.map .int), .int 0, .obj 0]]) ?_ ?_
    · simp [sRet, eSt, aFn, L3.bindM, L3.liftM, aCons, aNil, eVar, eC, aLc, aItems, items, noOwn, SV.isOwn, wipe3, lc, hb, dLst, BIG]
    · refine ⟨rfl, ⟨cs, cs.map fun i => i * (if 1000000000000000000 ≤ i then 1 else 0), 0, 0, rfl, ?_, by decide, hc0, by simp, by omega, by decide⟩⟩
      simp [Function.comp_def]
end W

namespace W
open L3
open L2 (atI ixN)
/-! patterns: places in a pattern -/
def nI (l : List Nat) : List D := l.map fun n : Nat => D.int (n : Int)
theorem atI_nat {α : Type} {l : List α} {i : Nat} {x : α} (h : l[i]? = some x) : atI l (i : Int) = some x := by
  have hl : i < l.length := (List.getElem?_eq_some_iff.mp h).1
  unfold atI ixN
  rw [if_pos (by omega)]
  simp [hl]
  exact (List.getElem?_eq_some_iff.mp h).2
def star (p : List Nat) (i : Nat) : Bool := decide (p[i]? = some 42)
def run : List Nat → Nat
  | [] => 0
  | c :: r => if c = 42 then run r + 1 else 0
theorem run_star (p : List Nat) (i : Nat) (h : star p i = true) : run (p.drop i) = run (p.drop (i + 1)) + 1 := by
  have h := of_decide_eq_true h
  obtain ⟨hl, e⟩ := List.getElem?_eq_some_iff.mp h
  rw [List.drop_eq_getElem_cons hl, e]
  rfl
theorem run_no (p : List Nat) (i : Nat) (h : star p i = false) : run (p.drop i) = 0 := by
  have h := of_decide_eq_false h
  by_cases hl : i < p.length
  · rw [List.drop_eq_getElem_cons hl]
    unfold run
    rw [if_neg fun e => h (by rw [List.getElem?_eq_getElem hl, e])]
  · rw [List.drop_eq_nil_of_le (by omega)]; rfl
theorem run_len : ∀ q : List Nat, run q ≤ q.length
  | [] => Nat.le_refl _
  | c :: r => by unfold run; have := run_len r; split <;> simp <;> omega
theorem run_count : ∀ q : List Nat, run q ≤ q.count 42
  | [] => Nat.le_refl _
  | c :: r => by
    unfold run
    split
    · rename_i h; subst h; have := run_count r; simp; omega
    · omega
theorem run_le (p : List Nat) (i : Nat) : run (p.drop i) ≤ p.count 42 := Nat.le_trans (run_count _) (List.Sublist.count_le _ (List.drop_sublist i p))
theorem wc_ok (p : List Nat) (hp : p.length ≤ 10000) (i : Nat) {a b : Option SV} {g : Store} {Q : Bool → Store → Prop} (h : Q (star p i) g) : Ok (wc_over_stars_0 [some (.d (.str p)), a, b, some (.d (.int (i : Int)))] g) Q := by
  unfold wc_over_stars_0
  simp only [ok_forNil, ok_forCons, forK_nx, forK_ct, forK_bk, forK_rt, ok_eOp, ok_eUn, ok_aNil, ok_aCons, ok_eFn, ok_aFn, ok_eApp, ok_eC, ok_eL, ok_eSt, ok_eM1, ok_aM1, ok_oNone, ok_oSome, ok_eSl, ok_tOf, ok_tTru, ok_tNot, ok_tAnd, ok_tOr, ok_eAnd, ok_eOr, ok_eIf, ok_eChain, ok_eVar, ok_eVarB, ok_sSeq, seqK_nx, seqK_rt, seqK_bk, seqK_ct, ok_sSet, ok_sRet, ok_sIf, ok_sNext, ok_sDrop, ok_sApp, ok_sFreeze, ok_sUnp, ok_sAug, ok_sFor, ok_aLcE, ok_aItems, runK_rt, runK_nx, ok_runD, okO_some, okO_map, valD_d, valB_d, valB_o, valB_w, ownOf_o, asInt_i, asBl_b, start3, frz, sets, tgName, tgTup, tgsCons, tgsNil, wipe3, List.set_cons_zero, List.set_cons_succ, List.getElem?_cons_zero, List.getElem?_cons_succ, List.map_cons, List.map_nil, List.length_cons, List.length_nil, List.cons_append, List.nil_append, List.replicate_succ, List.replicate_zero, Nat.reduceSub, Nat.reduceAdd, Nat.reduceLT, okO_if, dAddA_ii, dAddA_ss, dAddA_ll, dAddA_tt, dAdd_ii, dAdd_ss, dSub_ii, dMul_ii, dMul_si, dMod_ii, dDiv_ii, dLt_ii, dLt_ss, dLe_ii, dLe_ss, dGt_ii, dGt_ss, dGe_ii, dGe_ss, dEq_ii, dEq_ss, dEq_bb, dEq_nn, dEq_ns, dEq_sn, dEq_ni, dEq_in, dNe_ii, dNe_ss, dNe_bb, dNe_nn, dNe_ns, dNe_sn, dNe_ni, dNe_in, dIs_n, dIsNot_n, dIs_b, dIsNot_b, dIs_i, dIsNot_i, dIs_s, dIsNot_s, dIs_l, dIsNot_l, dIs_t, dIsNot_t, dIs_d, dIsNot_d, dIs_o, dIsNot_o, dLen_s, dLen_l, dLen_t, dTup_d, dLst_d, truD_n, truD_b, truD_i, truD_s, truD_l, truD_t, dNot_b, dNeg_i, asInt_i, asBl_b, dSl_s, dSl_l, dSl_t, isStr_s, items_l, items_t, items_s, dInt_i, dInt_b, dIx_li, dIx_ti, dStarts_ss, dTuple_l, dTuple_t, aList_l, aList_t, dIn_cs, dNotIn_cs, valD_d, valB_d, valB_o, valB_w, ownOf_o, isi_int_n, isi_int_b, isi_int_i, isi_int_s, isi_int_l, isi_int_t, isi_int_d, isi_str_n, isi_str_b, isi_str_i, isi_str_s, isi_str_l, isi_str_t, isi_str_d, isi_bool_n, isi_bool_b, isi_bool_i, isi_bool_s, isi_bool_l, isi_bool_t, isi_bool_d, isi_list_n, isi_list_b, isi_list_i, isi_list_s, isi_list_l, isi_list_t, isi_list_d, isi_tuple_n, isi_tuple_b, isi_tuple_i, isi_tuple_s, isi_tuple_l, isi_tuple_t, isi_tuple_d, isi_dict_n, isi_dict_b, isi_dict_i, isi_dict_s, isi_dict_l, isi_dict_t, isi_dict_d, decide_eq_true_eq, Bool.not_eq_true, Bool.not_true, Bool.not_false, if_true, if_false, Bool.false_eq_true, and_true, true_and, decide_true, decide_false, ite_true, ite_false, reduceCtorEq]
  have big : p.length ≤ BIG := by unfold BIG; omega
  refine ⟨big, ?_⟩
  by_cases hl : i < p.length
  · rw [if_pos (by omega)]
    refine ⟨.str [p[i]], ?_, ?_⟩
    · unfold dIx
      dsimp only
      rw [if_pos big, atI_nat (List.getElem?_eq_getElem hl)]
      rfl
    · simp only [ok_forNil, ok_forCons, forK_nx, forK_ct, forK_bk, forK_rt, ok_eOp, ok_eUn, ok_aNil, ok_aCons, ok_eFn, ok_aFn, ok_eApp, ok_eC, ok_eL, ok_eSt, ok_eM1, ok_aM1, ok_oNone, ok_oSome, ok_eSl, ok_tOf, ok_tTru, ok_tNot, ok_tAnd, ok_tOr, ok_eAnd, ok_eOr, ok_eIf, ok_eChain, ok_eVar, ok_eVarB, ok_sSeq, seqK_nx, seqK_rt, seqK_bk, seqK_ct, ok_sSet, ok_sRet, ok_sIf, ok_sNext, ok_sDrop, ok_sApp, ok_sFreeze, ok_sUnp, ok_sAug, ok_sFor, ok_aLcE, ok_aItems, runK_rt, runK_nx, ok_runD, okO_some, okO_map, valD_d, valB_d, valB_o, valB_w, ownOf_o, asInt_i, asBl_b, start3, frz, sets, tgName, tgTup, tgsCons, tgsNil, wipe3, List.set_cons_zero, List.set_cons_succ, List.getElem?_cons_zero, List.getElem?_cons_succ, List.map_cons, List.map_nil, List.length_cons, List.length_nil, List.cons_append, List.nil_append, List.replicate_succ, List.replicate_zero, Nat.reduceSub, Nat.reduceAdd, Nat.reduceLT, okO_if, dAddA_ii, dAddA_ss, dAddA_ll, dAddA_tt, dAdd_ii, dAdd_ss, dSub_ii, dMul_ii, dMul_si, dMod_ii, dDiv_ii, dLt_ii, dLt_ss, dLe_ii, dLe_ss, dGt_ii, dGt_ss, dGe_ii, dGe_ss, dEq_ii, dEq_ss, dEq_bb, dEq_nn, dEq_ns, dEq_sn, dEq_ni, dEq_in, dNe_ii, dNe_ss, dNe_bb, dNe_nn, dNe_ns, dNe_sn, dNe_ni, dNe_in, dIs_n, dIsNot_n, dIs_b, dIsNot_b, dIs_i, dIsNot_i, dIs_s, dIsNot_s, dIs_l, dIsNot_l, dIs_t, dIsNot_t, dIs_d, dIsNot_d, dIs_o, dIsNot_o, dLen_s, dLen_l, dLen_t, dTup_d, dLst_d, truD_n, truD_b, truD_i, truD_s, truD_l, truD_t, dNot_b, dNeg_i, asInt_i, asBl_b, dSl_s, dSl_l, dSl_t, isStr_s, items_l, items_t, items_s, dInt_i, dInt_b, dIx_li, dIx_ti, dStarts_ss, dTuple_l, dTuple_t, aList_l, aList_t, dIn_cs, dNotIn_cs, valD_d, valB_d, valB_o, valB_w, ownOf_o, isi_int_n, isi_int_b, isi_int_i, isi_int_s, isi_int_l, isi_int_t, isi_int_d, isi_str_n, isi_str_b, isi_str_i, isi_str_s, isi_str_l, isi_str_t, isi_str_d, isi_bool_n, isi_bool_b, isi_bool_i, isi_bool_s, isi_bool_l, isi_bool_t, isi_bool_d, isi_list_n, isi_list_b, isi_list_i, isi_list_s, isi_list_l, isi_list_t, isi_list_d, isi_tuple_n, isi_tuple_b, isi_tuple_i, isi_tuple_s, isi_tuple_l, isi_tuple_t, isi_tuple_d, isi_dict_n, isi_dict_b, isi_dict_i, isi_dict_s, isi_dict_l, isi_dict_t, isi_dict_d, decide_eq_true_eq, Bool.not_eq_true, Bool.not_true, Bool.not_false, if_true, if_false, Bool.false_eq_true, and_true, true_and, decide_true, decide_false, ite_true, ite_false, reduceCtorEq]
      have e : star p i = decide (([p[i]] : List Nat) = [42]) := by
        unfold star
        rw [List.getElem?_eq_getElem hl, decide_eq_decide]
        simp
      rw [e] at h
      exact h
  · rw [if_neg (by omega)]
    have e : star p i = false := by
      unfold star
      rw [List.getElem?_eq_none (by omega)]
      rfl
    rw [e] at h
    exact h
end W

namespace W
open L3
open L2 (atI ixN)
theorem nI_app (a b : List Nat) : nI (a ++ b) = nI a ++ nI b := List.map_append ..
theorem nI_len (a : List Nat) : (nI a).length = a.length := List.length_map ..
theorem while_ok (p : List Nat) (hp : p.length ≤ 10000) {a : Option SV} {g : Store} {Q : Out → Store → Prop} : ∀ (r i : Nat) (xs : List Nat) (n : Nat), run (p.drop i) = r → r < n → xs.length + r ≤ 10000 →
    Q (.nx [some (.d (.str p)), a, some (.own (nI (xs ++ List.range' i r))), some (.d (.int ((i + r : Nat) : Int)))]) g → Ok (whileD wc_over_stars_0 wb_over_stars_0 n [some (.d (.str p)), a, some (.own (nI xs)), some (.d (.int (i : Int)))] g) Q
  | 0, i, xs, n + 1, hr, hn, hx, h => by
    rw [ok_wh]
    refine wc_ok p hp i ?_
    have e : star p i = false := by
      cases q : star p i with
      | false => rfl
      | true => rw [run_star p i q] at hr; omega
    rw [e, if_neg (by simp)]
    simpa using h
  | r + 1, i, xs, n + 1, hr, hn, hx, h => by
    rw [ok_wh]
    refine wc_ok p hp i ?_
    have e : star p i = true := by
      cases q : star p i with
      | true => rfl
      | false => rw [run_no p i q] at hr; omega
    rw [e, if_pos rfl]
    unfold wb_over_stars_0
    simp only [ok_forNil, ok_forCons, forK_nx, forK_ct, forK_bk, forK_rt, ok_eOp, ok_eUn, ok_aNil, ok_aCons, ok_eFn, ok_aFn, ok_eApp, ok_eC, ok_eL, ok_eSt, ok_eM1, ok_aM1, ok_oNone, ok_oSome, ok_eSl, ok_tOf, ok_tTru, ok_tNot, ok_tAnd, ok_tOr, ok_eAnd, ok_eOr, ok_eIf, ok_eChain, ok_eVar, ok_eVarB, ok_sSeq, seqK_nx, seqK_rt, seqK_bk, seqK_ct, ok_sSet, ok_sRet, ok_sIf, ok_sNext, ok_sDrop, ok_sApp, ok_sFreeze, ok_sUnp, ok_sAug, ok_sFor, ok_aLcE, ok_aItems, runK_rt, runK_nx, ok_runD, okO_some, okO_map, valD_d, valB_d, valB_o, valB_w, ownOf_o, asInt_i, asBl_b, start3, frz, sets, tgName, tgTup, tgsCons, tgsNil, wipe3, List.set_cons_zero, List.set_cons_succ, List.getElem?_cons_zero, List.getElem?_cons_succ, List.map_cons, List.map_nil, List.length_cons, List.length_nil, List.cons_append, List.nil_append, List.replicate_succ, List.replicate_zero, Nat.reduceSub, Nat.reduceAdd, Nat.reduceLT, okO_if, dAddA_ii, dAddA_ss, dAddA_ll, dAddA_tt, dAdd_ii, dAdd_ss, dSub_ii, dMul_ii, dMul_si, dMod_ii, dDiv_ii, dLt_ii, dLt_ss, dLe_ii, dLe_ss, dGt_ii, dGt_ss, dGe_ii, dGe_ss, dEq_ii, dEq_ss, dEq_bb, dEq_nn, dEq_ns, dEq_sn, dEq_ni, dEq_in, dNe_ii, dNe_ss, dNe_bb, dNe_nn, dNe_ns, dNe_sn, dNe_ni, dNe_in, dIs_n, dIsNot_n, dIs_b, dIsNot_b, dIs_i, dIsNot_i, dIs_s, dIsNot_s, dIs_l, dIsNot_l, dIs_t, dIsNot_t, dIs_d, dIsNot_d, dIs_o, dIsNot_o, dLen_s, dLen_l, dLen_t, dTup_d, dLst_d, truD_n, truD_b, truD_i, truD_s, truD_l, truD_t, dNot_b, dNeg_i, asInt_i, asBl_b, dSl_s, dSl_l, dSl_t, isStr_s, items_l, items_t, items_s, dInt_i, dInt_b, dIx_li, dIx_ti, dStarts_ss, dTuple_l, dTuple_t, aList_l, aList_t, dIn_cs, dNotIn_cs, valD_d, valB_d, valB_o, valB_w, ownOf_o, isi_int_n, isi_int_b, isi_int_i, isi_int_s, isi_int_l, isi_int_t, isi_int_d, isi_str_n, isi_str_b, isi_str_i, isi_str_s, isi_str_l, isi_str_t, isi_str_d, isi_bool_n, isi_bool_b, isi_bool_i, isi_bool_s, isi_bool_l, isi_bool_t, isi_bool_d, isi_list_n, isi_list_b, isi_list_i, isi_list_s, isi_list_l, isi_list_t, isi_list_d, isi_tuple_n, isi_tuple_b, isi_tuple_i, isi_tuple_s, isi_tuple_l, isi_tuple_t, isi_tuple_d, isi_dict_n, isi_dict_b, isi_dict_i, isi_dict_s, isi_dict_l, isi_dict_t, isi_dict_d, decide_eq_true_eq, Bool.not_eq_true, Bool.not_true, Bool.not_false, if_true, if_false, Bool.false_eq_true, and_true, true_and, decide_true, decide_false, ite_true, ite_false, reduceCtorEq, whK_nx]
    refine ⟨by rw [nI_len]; unfold BIG; omega, ?_⟩
    have hr' : run (p.drop (i + 1)) = r := by rw [run_star p i e] at hr; omega
    have := while_ok p hp (a := a) (g := g) (Q := Q) r (i + 1) (xs ++ [i]) n hr' (by omega) (by simp; omega) (by
      rw [List.append_assoc, List.singleton_append, ← List.range'_succ, show i + 1 + r = i + (r + 1) by omega]
      exact h)
    rw [nI_app] at this
    exact this
  | _, _, _, 0, _, hn, _, _ => absurd hn (by omega)
/-- the places that over_stars finds, as it meets them -/
def found (p : List Nat) (ns : List Nat) : List Nat := ns.flatMap fun i => List.range' i (run (p.drop i) + 1)
theorem found_len (p : List Nat) : ∀ ns, (found p ns).length ≤ ns.length * (p.count 42 + 1)
  | [] => Nat.zero_le _
  | i :: r => by
    unfold found
    rw [List.flatMap_cons, List.length_append, List.length_range', List.length_cons, Nat.succ_mul]
    have := found_len p r
    unfold found at this
    have := run_le p i
    omega
theorem over_loop (p : List Nat) (hp : p.length ≤ 10000) {a : Option SV} {g : Store} {Q : Out → Store → Prop} : ∀ (ns xs : List Nat) (b : Option SV), xs.length + ns.length * (p.count 42 + 1) ≤ 10000 →
    (∀ b, Q (.nx [some (.d (.str p)), a, some (.own (nI (xs ++ found p ns))), b]) g) → Ok (forD (tgName 3) lb_over_stars_0 (nI ns) [some (.d (.str p)), a, some (.own (nI xs)), b] g) Q
  | [], xs, b, hl, h => by
    show Ok (forD _ _ [] _ _) _
    rw [ok_forNil]
    have := h b
    unfold found at this
    simpa using this
  | i :: r, xs, b, hl, h => by
    rw [List.length_cons, Nat.succ_mul] at hl
    have hrun := run_le p i
    show Ok (forD _ _ (D.int (i : Int) :: nI r) _ _) _
    rw [ok_forCons]
    refine ⟨_, rfl, ?_⟩
    unfold lb_over_stars_0
    simp only [ok_forNil, ok_forCons, forK_nx, forK_ct, forK_bk, forK_rt, ok_eOp, ok_eUn, ok_aNil, ok_aCons, ok_eFn, ok_aFn, ok_eApp, ok_eC, ok_eL, ok_eSt, ok_eM1, ok_aM1, ok_oNone, ok_oSome, ok_eSl, ok_tOf, ok_tTru, ok_tNot, ok_tAnd, ok_tOr, ok_eAnd, ok_eOr, ok_eIf, ok_eChain, ok_eVar, ok_eVarB, ok_sSeq, seqK_rt, seqK_bk, seqK_ct, ok_sSet, ok_sRet, ok_sIf, ok_sNext, ok_sDrop, ok_sApp, ok_sFreeze, ok_sUnp, ok_sAug, ok_sFor, ok_aLcE, ok_aItems, runK_rt, runK_nx, ok_runD, okO_some, okO_map, valD_d, valB_d, valB_o, valB_w, ownOf_o, asInt_i, asBl_b, start3, frz, sets, tgName, tgTup, tgsCons, tgsNil, wipe3, List.set_cons_zero, List.set_cons_succ, List.getElem?_cons_zero, List.getElem?_cons_succ, List.map_cons, List.map_nil, List.length_cons, List.length_nil, List.cons_append, List.nil_append, List.replicate_succ, List.replicate_zero, Nat.reduceSub, Nat.reduceAdd, Nat.reduceLT, okO_if, dAddA_ii, dAddA_ss, dAddA_ll, dAddA_tt, dAdd_ii, dAdd_ss, dSub_ii, dMul_ii, dMul_si, dMod_ii, dDiv_ii, dLt_ii, dLt_ss, dLe_ii, dLe_ss, dGt_ii, dGt_ss, dGe_ii, dGe_ss, dEq_ii, dEq_ss, dEq_bb, dEq_nn, dEq_ns, dEq_sn, dEq_ni, dEq_in, dNe_ii, dNe_ss, dNe_bb, dNe_nn, dNe_ns, dNe_sn, dNe_ni, dNe_in, dIs_n, dIsNot_n, dIs_b, dIsNot_b, dIs_i, dIsNot_i, dIs_s, dIsNot_s, dIs_l, dIsNot_l, dIs_t, dIsNot_t, dIs_d, dIsNot_d, dIs_o, dIsNot_o, dLen_s, dLen_l, dLen_t, dTup_d, dLst_d, truD_n, truD_b, truD_i, truD_s, truD_l, truD_t, dNot_b, dNeg_i, asInt_i, asBl_b, dSl_s, dSl_l, dSl_t, isStr_s, items_l, items_t, items_s, dInt_i, dInt_b, dIx_li, dIx_ti, dStarts_ss, dTuple_l, dTuple_t, aList_l, aList_t, dIn_cs, dNotIn_cs, valD_d, valB_d, valB_o, valB_w, ownOf_o, isi_int_n, isi_int_b, isi_int_i, isi_int_s, isi_int_l, isi_int_t, isi_int_d, isi_str_n, isi_str_b, isi_str_i, isi_str_s, isi_str_l, isi_str_t, isi_str_d, isi_bool_n, isi_bool_b, isi_bool_i, isi_bool_s, isi_bool_l, isi_bool_t, isi_bool_d, isi_list_n, isi_list_b, isi_list_i, isi_list_s, isi_list_l, isi_list_t, isi_list_d, isi_tuple_n, isi_tuple_b, isi_tuple_i, isi_tuple_s, isi_tuple_l, isi_tuple_t, isi_tuple_d, isi_dict_n, isi_dict_b, isi_dict_i, isi_dict_s, isi_dict_l, isi_dict_t, isi_dict_d, decide_eq_true_eq, Bool.not_eq_true, Bool.not_true, Bool.not_false, if_true, if_false, Bool.false_eq_true, and_true, true_and, decide_true, decide_false, ite_true, ite_false, reduceCtorEq]
    refine while_ok p hp (run (p.drop i)) i xs FUEL rfl (by have := run_len (p.drop i); simp at this; unfold FUEL; omega) (by omega) ?_
    rw [seqK_nx]
    simp only [ok_forNil, ok_forCons, forK_nx, forK_ct, forK_bk, forK_rt, ok_eOp, ok_eUn, ok_aNil, ok_aCons, ok_eFn, ok_aFn, ok_eApp, ok_eC, ok_eL, ok_eSt, ok_eM1, ok_aM1, ok_oNone, ok_oSome, ok_eSl, ok_tOf, ok_tTru, ok_tNot, ok_tAnd, ok_tOr, ok_eAnd, ok_eOr, ok_eIf, ok_eChain, ok_eVar, ok_eVarB, ok_sSeq, seqK_rt, seqK_bk, seqK_ct, ok_sSet, ok_sRet, ok_sIf, ok_sNext, ok_sDrop, ok_sApp, ok_sFreeze, ok_sUnp, ok_sAug, ok_sFor, ok_aLcE, ok_aItems, runK_rt, runK_nx, ok_runD, okO_some, okO_map, valD_d, valB_d, valB_o, valB_w, ownOf_o, asInt_i, asBl_b, start3, frz, sets, tgName, tgTup, tgsCons, tgsNil, wipe3, List.set_cons_zero, List.set_cons_succ, List.getElem?_cons_zero, List.getElem?_cons_succ, List.map_cons, List.map_nil, List.length_cons, List.length_nil, List.cons_append, List.nil_append, List.replicate_succ, List.replicate_zero, Nat.reduceSub, Nat.reduceAdd, Nat.reduceLT, okO_if, dAddA_ii, dAddA_ss, dAddA_ll, dAddA_tt, dAdd_ii, dAdd_ss, dSub_ii, dMul_ii, dMul_si, dMod_ii, dDiv_ii, dLt_ii, dLt_ss, dLe_ii, dLe_ss, dGt_ii, dGt_ss, dGe_ii, dGe_ss, dEq_ii, dEq_ss, dEq_bb, dEq_nn, dEq_ns, dEq_sn, dEq_ni, dEq_in, dNe_ii, dNe_ss, dNe_bb, dNe_nn, dNe_ns, dNe_sn, dNe_ni, dNe_in, dIs_n, dIsNot_n, dIs_b, dIsNot_b, dIs_i, dIsNot_i, dIs_s, dIsNot_s, dIs_l, dIsNot_l, dIs_t, dIsNot_t, dIs_d, dIsNot_d, dIs_o, dIsNot_o, dLen_s, dLen_l, dLen_t, dTup_d, dLst_d, truD_n, truD_b, truD_i, truD_s, truD_l, truD_t, dNot_b, dNeg_i, asInt_i, asBl_b, dSl_s, dSl_l, dSl_t, isStr_s, items_l, items_t, items_s, dInt_i, dInt_b, dIx_li, dIx_ti, dStarts_ss, dTuple_l, dTuple_t, aList_l, aList_t, dIn_cs, dNotIn_cs, valD_d, valB_d, valB_o, valB_w, ownOf_o, isi_int_n, isi_int_b, isi_int_i, isi_int_s, isi_int_l, isi_int_t, isi_int_d, isi_str_n, isi_str_b, isi_str_i, isi_str_s, isi_str_l, isi_str_t, isi_str_d, isi_bool_n, isi_bool_b, isi_bool_i, isi_bool_s, isi_bool_l, isi_bool_t, isi_bool_d, isi_list_n, isi_list_b, isi_list_i, isi_list_s, isi_list_l, isi_list_t, isi_list_d, isi_tuple_n, isi_tuple_b, isi_tuple_i, isi_tuple_s, isi_tuple_l, isi_tuple_t, isi_tuple_d, isi_dict_n, isi_dict_b, isi_dict_i, isi_dict_s, isi_dict_l, isi_dict_t, isi_dict_d, decide_eq_true_eq, Bool.not_eq_true, Bool.not_true, Bool.not_false, if_true, if_false, Bool.false_eq_true, and_true, true_and, decide_true, decide_false, ite_true, ite_false, reduceCtorEq]
    refine ⟨by rw [nI_len, List.length_append, List.length_range']; unfold BIG; omega, ?_⟩
    have := over_loop p hp (a := a) (g := g) (Q := Q) r (xs ++ List.range' i (run (p.drop i) + 1)) (some (.d (.int ((i + run (p.drop i) : Nat) : Int)))) (by simp; omega) (fun b => by
      have q := h b
      unfold found at q ⊢
      rw [List.flatMap_cons] at q
      rw [List.append_assoc]
      exact q)
    rw [List.range'_1_concat, ← List.append_assoc, nI_app (xs ++ _)] at this
    exact this
/-- the places 0 .. L for which q holds -/
def plc (L : Nat) (q : Nat → Bool) : List Nat := (List.range (L + 1)).filter q
theorem plc_len (L : Nat) (q : Nat → Bool) : (plc L q).length ≤ L + 1 := by
  have := List.length_filter_le q (List.range (L + 1))
  rwa [List.length_range] at this
theorem plc_mem {L : Nat} {q : Nat → Bool} {j : Nat} : j ∈ plc L q ↔ j ≤ L ∧ q j = true := by
  unfold plc
  rw [List.mem_filter, List.mem_range, Nat.lt_succ_iff]
theorem plc_congr {L : Nat} {q r : Nat → Bool} (h : ∀ j, j ≤ L → q j = r j) : plc L q = plc L r := List.filter_congr fun j hj => h j (by rw [List.mem_range] at hj; omega)
theorem sort_plc {L : Nat} {q : Nat → Bool} {ns : List Nat} (h : ∀ j, j ∈ ns ↔ j ≤ L ∧ q j = true) : sortU (ns.map fun n : Nat => (n : Int)) = (plc L q).map fun n : Nat => (n : Int) := by
  refine lt_uniq (sortU_lt _) ?_ fun k => ?_
  · refine List.pairwise_map.mpr ((List.Pairwise.filter q List.pairwise_lt_range).imp fun h => ?_)
    omega
  · rw [sortU_mem, List.mem_map, List.mem_map]
    constructor
    · rintro ⟨j, hj, e⟩
      exact ⟨j, plc_mem.mpr ((h j).mp hj), e⟩
    · rintro ⟨j, hj, e⟩
      exact ⟨j, (h j).mpr (plc_mem.mp hj), e⟩
/-- closed under stars -/
def cl (p : List Nat) (ns : List Nat) (j : Nat) : Bool := decide (j ∈ found p ns)
theorem mem_found {p ns : List Nat} {j : Nat} : j ∈ found p ns ↔ ∃ i ∈ ns, i ≤ j ∧ j ≤ i + run (p.drop i) := by
  unfold found
  rw [List.mem_flatMap]
  constructor
  · rintro ⟨i, hi, h⟩
    rw [List.mem_range'_1] at h
    exact ⟨i, hi, by omega, by omega⟩
  · rintro ⟨i, hi, h1, h2⟩
    exact ⟨i, hi, by rw [List.mem_range'_1]; omega⟩
theorem run_at : ∀ (q : List Nat) (k : Nat), k + 1 ≤ run q ↔ k ≤ run q ∧ q[k]? = some 42
  | [], k => by simp [run]
  | c :: r, 0 => by
    unfold run
    split <;> simp_all
  | c :: r, k + 1 => by
    have := run_at r k
    unfold run
    split
    · rw [List.getElem?_cons_succ, Nat.succ_le_succ_iff, Nat.succ_le_succ_iff]; exact this
    · constructor
      · intro h; omega
      · intro h; have := h.1; omega
theorem cl_zero (p ns : List Nat) : cl p ns 0 = decide (0 ∈ ns) := by
  unfold cl
  rw [decide_eq_decide, mem_found]
  constructor
  · rintro ⟨i, hi, h, _⟩
    rwa [show i = 0 by omega] at hi
  · intro h
    exact ⟨0, h, Nat.le_refl _, Nat.zero_le _⟩
theorem cl_succ (p ns : List Nat) (j : Nat) : cl p ns (j + 1) = (decide (j + 1 ∈ ns) || (cl p ns j && star p j)) := by
  unfold cl star
  rw [Bool.eq_iff_iff, Bool.or_eq_true, Bool.and_eq_true, decide_eq_true_eq, decide_eq_true_eq, decide_eq_true_eq, decide_eq_true_eq, mem_found, mem_found]
  constructor
  · rintro ⟨i, hi, h1, h2⟩
    by_cases e : i = j + 1
    · rw [e] at hi; exact .inl hi
    · have h3 := (run_at (p.drop i) (j - i)).mp (by omega)
      rw [List.getElem?_drop, show i + (j - i) = j by omega] at h3
      exact .inr ⟨⟨i, hi, by omega, by omega⟩, h3.2⟩
  · rintro (h | ⟨⟨i, hi, h1, h2⟩, h3⟩)
    · exact ⟨j + 1, h, Nat.le_refl _, Nat.le_add_right _ _⟩
    · have := (run_at (p.drop i) (j - i)).mpr ⟨by omega, by rw [List.getElem?_drop, show i + (j - i) = j by omega]; exact h3⟩
      exact ⟨i, hi, by omega, by omega⟩
/-- patterns of a fit size -/
def Small (p : List Nat) : Prop := p.length ≤ 1000 ∧ (p.length + 1) * (p.count 42 + 1) ≤ 4000
theorem over_ok {p : List Nat} (hp : Small p) {ns : List Nat} (hn : ns.length ≤ p.length + 1) (hb : ∀ i ∈ ns, i ≤ p.length) {g : Store} {Q : D → Store → Prop} (h : Q (.lst (nI (plc p.length (cl p ns)))) g) : Ok (f_over_stars [.str p, .lst (nI ns)] g) Q := by
  have h1 : ns.length * (p.count 42 + 1) ≤ 4000 := Nat.le_trans (Nat.mul_le_mul_right _ hn) hp.2
  unfold f_over_stars d_over_stars
  simp only [ok_forNil, ok_forCons, forK_nx, forK_ct, forK_bk, forK_rt, ok_eOp, ok_eUn, ok_aNil, ok_aCons, ok_eFn, ok_aFn, ok_eApp, ok_eC, ok_eL, ok_eSt, ok_eM1, ok_aM1, ok_oNone, ok_oSome, ok_eSl, ok_tOf, ok_tTru, ok_tNot, ok_tAnd, ok_tOr, ok_eAnd, ok_eOr, ok_eIf, ok_eChain, ok_eVar, ok_eVarB, ok_sSeq, seqK_rt, seqK_bk, seqK_ct, ok_sSet, ok_sRet, ok_sIf, ok_sNext, ok_sDrop, ok_sApp, ok_sFreeze, ok_sUnp, ok_sAug, ok_sFor, ok_aLcE, ok_aItems, runK_rt, runK_nx, ok_runD, okO_some, okO_map, valD_d, valB_d, valB_o, valB_w, ownOf_o, asInt_i, asBl_b, start3, frz, sets, tgName, tgTup, tgsCons, tgsNil, wipe3, List.set_cons_zero, List.set_cons_succ, List.getElem?_cons_zero, List.getElem?_cons_succ, List.map_cons, List.map_nil, List.length_cons, List.length_nil, List.cons_append, List.nil_append, List.replicate_succ, List.replicate_zero, Nat.reduceSub, Nat.reduceAdd, Nat.reduceLT, okO_if, dAddA_ii, dAddA_ss, dAddA_ll, dAddA_tt, dAdd_ii, dAdd_ss, dSub_ii, dMul_ii, dMul_si, dMod_ii, dDiv_ii, dLt_ii, dLt_ss, dLe_ii, dLe_ss, dGt_ii, dGt_ss, dGe_ii, dGe_ss, dEq_ii, dEq_ss, dEq_bb, dEq_nn, dEq_ns, dEq_sn, dEq_ni, dEq_in, dNe_ii, dNe_ss, dNe_bb, dNe_nn, dNe_ns, dNe_sn, dNe_ni, dNe_in, dIs_n, dIsNot_n, dIs_b, dIsNot_b, dIs_i, dIsNot_i, dIs_s, dIsNot_s, dIs_l, dIsNot_l, dIs_t, dIsNot_t, dIs_d, dIsNot_d, dIs_o, dIsNot_o, dLen_s, dLen_l, dLen_t, dTup_d, dLst_d, truD_n, truD_b, truD_i, truD_s, truD_l, truD_t, dNot_b, dNeg_i, asInt_i, asBl_b, dSl_s, dSl_l, dSl_t, isStr_s, items_l, items_t, items_s, dInt_i, dInt_b, dIx_li, dIx_ti, dStarts_ss, dTuple_l, dTuple_t, aList_l, aList_t, dIn_cs, dNotIn_cs, valD_d, valB_d, valB_o, valB_w, ownOf_o, isi_int_n, isi_int_b, isi_int_i, isi_int_s, isi_int_l, isi_int_t, isi_int_d, isi_str_n, isi_str_b, isi_str_i, isi_str_s, isi_str_l, isi_str_t, isi_str_d, isi_bool_n, isi_bool_b, isi_bool_i, isi_bool_s, isi_bool_l, isi_bool_t, isi_bool_d, isi_list_n, isi_list_b, isi_list_i, isi_list_s, isi_list_l, isi_list_t, isi_list_d, isi_tuple_n, isi_tuple_b, isi_tuple_i, isi_tuple_s, isi_tuple_l, isi_tuple_t, isi_tuple_d, isi_dict_n, isi_dict_b, isi_dict_i, isi_dict_s, isi_dict_l, isi_dict_t, isi_dict_d, decide_eq_true_eq, Bool.not_eq_true, Bool.not_true, Bool.not_false, if_true, if_false, Bool.false_eq_true, and_true, true_and, decide_true, decide_false, ite_true, ite_false, reduceCtorEq]
  rw [ok_sOwn _ _ _ (by simp)]
  simp only [ok_forNil, ok_forCons, forK_nx, forK_ct, forK_bk, forK_rt, ok_eOp, ok_eUn, ok_aNil, ok_aCons, ok_eFn, ok_aFn, ok_eApp, ok_eC, ok_eL, ok_eSt, ok_eM1, ok_aM1, ok_oNone, ok_oSome, ok_eSl, ok_tOf, ok_tTru, ok_tNot, ok_tAnd, ok_tOr, ok_eAnd, ok_eOr, ok_eIf, ok_eChain, ok_eVar, ok_eVarB, ok_sSeq, seqK_rt, seqK_bk, seqK_ct, ok_sSet, ok_sRet, ok_sIf, ok_sNext, ok_sDrop, ok_sApp, ok_sFreeze, ok_sUnp, ok_sAug, ok_sFor, ok_aLcE, ok_aItems, runK_rt, runK_nx, ok_runD, okO_some, okO_map, valD_d, valB_d, valB_o, valB_w, ownOf_o, asInt_i, asBl_b, start3, frz, sets, tgName, tgTup, tgsCons, tgsNil, wipe3, List.set_cons_zero, List.set_cons_succ, List.getElem?_cons_zero, List.getElem?_cons_succ, List.map_cons, List.map_nil, List.length_cons, List.length_nil, List.cons_append, List.nil_append, List.replicate_succ, List.replicate_zero, Nat.reduceSub, Nat.reduceAdd, Nat.reduceLT, okO_if, dAddA_ii, dAddA_ss, dAddA_ll, dAddA_tt, dAdd_ii, dAdd_ss, dSub_ii, dMul_ii, dMul_si, dMod_ii, dDiv_ii, dLt_ii, dLt_ss, dLe_ii, dLe_ss, dGt_ii, dGt_ss, dGe_ii, dGe_ss, dEq_ii, dEq_ss, dEq_bb, dEq_nn, dEq_ns, dEq_sn, dEq_ni, dEq_in, dNe_ii, dNe_ss, dNe_bb, dNe_nn, dNe_ns, dNe_sn, dNe_ni, dNe_in, dIs_n, dIsNot_n, dIs_b, dIsNot_b, dIs_i, dIsNot_i, dIs_s, dIsNot_s, dIs_l, dIsNot_l, dIs_t, dIsNot_t, dIs_d, dIsNot_d, dIs_o, dIsNot_o, dLen_s, dLen_l, dLen_t, dTup_d, dLst_d, truD_n, truD_b, truD_i, truD_s, truD_l, truD_t, dNot_b, dNeg_i, asInt_i, asBl_b, dSl_s, dSl_l, dSl_t, isStr_s, items_l, items_t, items_s, dInt_i, dInt_b, dIx_li, dIx_ti, dStarts_ss, dTuple_l, dTuple_t, aList_l, aList_t, dIn_cs, dNotIn_cs, valD_d, valB_d, valB_o, valB_w, ownOf_o, isi_int_n, isi_int_b, isi_int_i, isi_int_s, isi_int_l, isi_int_t, isi_int_d, isi_str_n, isi_str_b, isi_str_i, isi_str_s, isi_str_l, isi_str_t, isi_str_d, isi_bool_n, isi_bool_b, isi_bool_i, isi_bool_s, isi_bool_l, isi_bool_t, isi_bool_d, isi_list_n, isi_list_b, isi_list_i, isi_list_s, isi_list_l, isi_list_t, isi_list_d, isi_tuple_n, isi_tuple_b, isi_tuple_i, isi_tuple_s, isi_tuple_l, isi_tuple_t, isi_tuple_d, isi_dict_n, isi_dict_b, isi_dict_i, isi_dict_s, isi_dict_l, isi_dict_t, isi_dict_d, decide_eq_true_eq, Bool.not_eq_true, Bool.not_true, Bool.not_false, if_true, if_false, Bool.false_eq_true, and_true, true_and, decide_true, decide_false, ite_true, ite_false, reduceCtorEq]
  refine ⟨by decide, ?_⟩
  rw [seqK_nx]
  simp only [ok_forNil, ok_forCons, forK_nx, forK_ct, forK_bk, forK_rt, ok_eOp, ok_eUn, ok_aNil, ok_aCons, ok_eFn, ok_aFn, ok_eApp, ok_eC, ok_eL, ok_eSt, ok_eM1, ok_aM1, ok_oNone, ok_oSome, ok_eSl, ok_tOf, ok_tTru, ok_tNot, ok_tAnd, ok_tOr, ok_eAnd, ok_eOr, ok_eIf, ok_eChain, ok_eVar, ok_eVarB, ok_sSeq, seqK_rt, seqK_bk, seqK_ct, ok_sSet, ok_sRet, ok_sIf, ok_sNext, ok_sDrop, ok_sApp, ok_sFreeze, ok_sUnp, ok_sAug, ok_sFor, ok_aLcE, ok_aItems, runK_rt, runK_nx, ok_runD, okO_some, okO_map, valD_d, valB_d, valB_o, valB_w, ownOf_o, asInt_i, asBl_b, start3, frz, sets, tgName, tgTup, tgsCons, tgsNil, wipe3, List.set_cons_zero, List.set_cons_succ, List.getElem?_cons_zero, List.getElem?_cons_succ, List.map_cons, List.map_nil, List.length_cons, List.length_nil, List.cons_append, List.nil_append, List.replicate_succ, List.replicate_zero, Nat.reduceSub, Nat.reduceAdd, Nat.reduceLT, okO_if, dAddA_ii, dAddA_ss, dAddA_ll, dAddA_tt, dAdd_ii, dAdd_ss, dSub_ii, dMul_ii, dMul_si, dMod_ii, dDiv_ii, dLt_ii, dLt_ss, dLe_ii, dLe_ss, dGt_ii, dGt_ss, dGe_ii, dGe_ss, dEq_ii, dEq_ss, dEq_bb, dEq_nn, dEq_ns, dEq_sn, dEq_ni, dEq_in, dNe_ii, dNe_ss, dNe_bb, dNe_nn, dNe_ns, dNe_sn, dNe_ni, dNe_in, dIs_n, dIsNot_n, dIs_b, dIsNot_b, dIs_i, dIsNot_i, dIs_s, dIsNot_s, dIs_l, dIsNot_l, dIs_t, dIsNot_t, dIs_d, dIsNot_d, dIs_o, dIsNot_o, dLen_s, dLen_l, dLen_t, dTup_d, dLst_d, truD_n, truD_b, truD_i, truD_s, truD_l, truD_t, dNot_b, dNeg_i, asInt_i, asBl_b, dSl_s, dSl_l, dSl_t, isStr_s, items_l, items_t, items_s, dInt_i, dInt_b, dIx_li, dIx_ti, dStarts_ss, dTuple_l, dTuple_t, aList_l, aList_t, dIn_cs, dNotIn_cs, valD_d, valB_d, valB_o, valB_w, ownOf_o, isi_int_n, isi_int_b, isi_int_i, isi_int_s, isi_int_l, isi_int_t, isi_int_d, isi_str_n, isi_str_b, isi_str_i, isi_str_s, isi_str_l, isi_str_t, isi_str_d, isi_bool_n, isi_bool_b, isi_bool_i, isi_bool_s, isi_bool_l, isi_bool_t, isi_bool_d, isi_list_n, isi_list_b, isi_list_i, isi_list_s, isi_list_l, isi_list_t, isi_list_d, isi_tuple_n, isi_tuple_b, isi_tuple_i, isi_tuple_s, isi_tuple_l, isi_tuple_t, isi_tuple_d, isi_dict_n, isi_dict_b, isi_dict_i, isi_dict_s, isi_dict_l, isi_dict_t, isi_dict_d, decide_eq_true_eq, Bool.not_eq_true, Bool.not_true, Bool.not_false, if_true, if_false, Bool.false_eq_true, and_true, true_and, decide_true, decide_false, ite_true, ite_false, reduceCtorEq]
  refine over_loop p (by have := hp.1; omega) ns [] none (by simp; omega) fun b => ?_
  rw [seqK_nx]
  simp only [ok_forNil, ok_forCons, forK_nx, forK_ct, forK_bk, forK_rt, ok_eOp, ok_eUn, ok_aNil, ok_aCons, ok_eFn, ok_aFn, ok_eApp, ok_eC, ok_eL, ok_eSt, ok_eM1, ok_aM1, ok_oNone, ok_oSome, ok_eSl, ok_tOf, ok_tTru, ok_tNot, ok_tAnd, ok_tOr, ok_eAnd, ok_eOr, ok_eIf, ok_eChain, ok_eVar, ok_eVarB, ok_sSeq, seqK_rt, seqK_bk, seqK_ct, ok_sSet, ok_sRet, ok_sIf, ok_sNext, ok_sDrop, ok_sApp, ok_sFreeze, ok_sUnp, ok_sAug, ok_sFor, ok_aLcE, ok_aItems, runK_rt, runK_nx, ok_runD, okO_some, okO_map, valD_d, valB_d, valB_o, valB_w, ownOf_o, asInt_i, asBl_b, start3, frz, sets, tgName, tgTup, tgsCons, tgsNil, wipe3, List.set_cons_zero, List.set_cons_succ, List.getElem?_cons_zero, List.getElem?_cons_succ, List.map_cons, List.map_nil, List.length_cons, List.length_nil, List.cons_append, List.nil_append, List.replicate_succ, List.replicate_zero, Nat.reduceSub, Nat.reduceAdd, Nat.reduceLT, okO_if, dAddA_ii, dAddA_ss, dAddA_ll, dAddA_tt, dAdd_ii, dAdd_ss, dSub_ii, dMul_ii, dMul_si, dMod_ii, dDiv_ii, dLt_ii, dLt_ss, dLe_ii, dLe_ss, dGt_ii, dGt_ss, dGe_ii, dGe_ss, dEq_ii, dEq_ss, dEq_bb, dEq_nn, dEq_ns, dEq_sn, dEq_ni, dEq_in, dNe_ii, dNe_ss, dNe_bb, dNe_nn, dNe_ns, dNe_sn, dNe_ni, dNe_in, dIs_n, dIsNot_n, dIs_b, dIsNot_b, dIs_i, dIsNot_i, dIs_s, dIsNot_s, dIs_l, dIsNot_l, dIs_t, dIsNot_t, dIs_d, dIsNot_d, dIs_o, dIsNot_o, dLen_s, dLen_l, dLen_t, dTup_d, dLst_d, truD_n, truD_b, truD_i, truD_s, truD_l, truD_t, dNot_b, dNeg_i, asInt_i, asBl_b, dSl_s, dSl_l, dSl_t, isStr_s, items_l, items_t, items_s, dInt_i, dInt_b, dIx_li, dIx_ti, dStarts_ss, dTuple_l, dTuple_t, aList_l, aList_t, dIn_cs, dNotIn_cs, valD_d, valB_d, valB_o, valB_w, ownOf_o, isi_int_n, isi_int_b, isi_int_i, isi_int_s, isi_int_l, isi_int_t, isi_int_d, isi_str_n, isi_str_b, isi_str_i, isi_str_s, isi_str_l, isi_str_t, isi_str_d, isi_bool_n, isi_bool_b, isi_bool_i, isi_bool_s, isi_bool_l, isi_bool_t, isi_bool_d, isi_list_n, isi_list_b, isi_list_i, isi_list_s, isi_list_l, isi_list_t, isi_list_d, isi_tuple_n, isi_tuple_b, isi_tuple_i, isi_tuple_s, isi_tuple_l, isi_tuple_t, isi_tuple_d, isi_dict_n, isi_dict_b, isi_dict_i, isi_dict_s, isi_dict_l, isi_dict_t, isi_dict_d, decide_eq_true_eq, Bool.not_eq_true, Bool.not_true, Bool.not_false, if_true, if_false, Bool.false_eq_true, and_true, true_and, decide_true, decide_false, ite_true, ite_false, reduceCtorEq]
  refine ⟨_, ?_, h⟩
  have fl := found_len p ns
  have e : intsD (nI (found p ns)) = some ((found p ns).map fun n : Nat => (n : Int)) := by
    rw [← intsD_map ((found p ns).map fun n : Nat => (n : Int)), List.map_map]
    rfl
  unfold aSortSet
  dsimp only
  rw [e]
  dsimp only
  rw [if_pos (by rw [List.length_map]; omega), sort_plc (L := p.length) (q := cl p ns) fun j => ?_]
  · rw [List.map_map]; rfl
  · rw [cl, decide_eq_true_eq]
    refine ⟨fun hj => ⟨?_, hj⟩, And.right⟩
    obtain ⟨i, hi, h1, h2⟩ := mem_found.mp hj
    have := run_len (p.drop i)
    have := hb i hi
    rw [List.length_drop] at *
    omega
end W

namespace W
open L3
open L2 (atI ixN)
def okc (p : List Nat) (c i : Nat) : Bool := decide (p[i]? = some 63) || decide (p[i]? = some c)
/-- row i + 1 of the table out of row i -/
def rowS (p t : List Nat) (i : Nat) (f : Nat → Bool) : Nat → Bool
  | 0 => star p i && f 0
  | k + 1 => if star p i = true then f (k + 1) || rowS p t i f k else f k && okc p (t.getD k 0) i
/-- the first i signs of the pattern fit the first k of the text -/
def gm (p t : List Nat) : Nat → Nat → Bool
  | 0, k => decide (k = 0)
  | i + 1, k => rowS p t i (gm p t i) k
theorem gm_s0 (p t : List Nat) (i : Nat) : gm p t (i + 1) 0 = (star p i && gm p t i 0) := rfl
theorem gm_star {p t : List Nat} {i : Nat} (k : Nat) (h : star p i = true) : gm p t (i + 1) (k + 1) = (gm p t i (k + 1) || gm p t (i + 1) k) := by
  show rowS p t i (gm p t i) (k + 1) = _
  unfold rowS
  rw [if_pos h]
  rfl
theorem gm_no {p t : List Nat} {i : Nat} (k : Nat) (h : star p i = false) : gm p t (i + 1) (k + 1) = (gm p t i k && okc p (t.getD k 0) i) := by
  show rowS p t i (gm p t i) (k + 1) = _
  unfold rowS
  rw [if_neg (by rw [h]; simp)]
/-- a place is held: ahead of a star, or within it -/
def hS (p t : List Nat) (k i : Nat) : Bool := if star p i = true then gm p t (i + 1) k else gm p t i k
def stepL (p : List Nat) (c : Nat) (ns : List Nat) : List Nat := ns.flatMap fun i => if star p i = true then [i] else if okc p c i = true then [i + 1] else []
theorem mem_step {p : List Nat} {c : Nat} {ns : List Nat} {j : Nat} : j ∈ stepL p c ns ↔ (star p j = true ∧ j ∈ ns) ∨ ∃ i, j = i + 1 ∧ i ∈ ns ∧ star p i = false ∧ okc p c i = true := by
  unfold stepL
  rw [List.mem_flatMap]
  constructor
  · rintro ⟨i, hi, h⟩
    split at h
    · rename_i hs
      rw [List.mem_singleton] at h
      subst h
      exact .inl ⟨hs, hi⟩
    · rename_i hs
      split at h
      · rename_i ho
        rw [List.mem_singleton] at h
        exact .inr ⟨i, h, hi, by simpa using hs, ho⟩
      · cases h
  · rintro (⟨h1, h2⟩ | ⟨i, h1, h2, h3, h4⟩)
    · exact ⟨j, h2, by rw [if_pos h1]; exact List.mem_singleton.mpr rfl⟩
    · exact ⟨i, h2, by rw [if_neg (by rw [h3]; simp), if_pos h4]; exact List.mem_singleton.mpr h1⟩
theorem step_len (p : List Nat) (c : Nat) : ∀ ns, (stepL p c ns).length ≤ ns.length
  | [] => Nat.le_refl _
  | i :: r => by
    have := step_len p c r
    unfold stepL at this ⊢
    rw [List.flatMap_cons, List.length_append, List.length_cons]
    have one : (if star p i = true then [i] else if okc p c i = true then [i + 1] else []).length ≤ 1 := by
      split
      · exact Nat.le_refl _
      · split <;> simp
    omega
theorem okc_lt {p : List Nat} {c i : Nat} (h : okc p c i = true) : i < p.length := by
  unfold okc at h
  rw [Bool.or_eq_true, decide_eq_true_eq, decide_eq_true_eq] at h
  rcases h with h | h <;> exact (List.getElem?_eq_some_iff.mp h).1
theorem star_lt {p : List Nat} {i : Nat} (h : star p i = true) : i < p.length := (List.getElem?_eq_some_iff.mp (of_decide_eq_true h)).1
theorem cl_init (p t : List Nat) : ∀ j, cl p [0] j = hS p t 0 j := by
  have e : ∀ j, cl p [0] j = gm p t j 0 := by
    intro j
    induction j with
    | zero => rw [cl_zero]; rfl
    | succ j ih => rw [cl_succ, ih, gm_s0, Bool.and_comm]; simp
  intro j
  rw [e]
  unfold hS
  split
  · rename_i h; rw [gm_s0, h, Bool.true_and]
  · rfl
theorem hS_star {p t : List Nat} {k i : Nat} (h : star p i = true) : hS p t k i = gm p t (i + 1) k := if_pos h
theorem hS_no {p t : List Nat} {k i : Nat} (h : star p i = false) : hS p t k i = gm p t i k := if_neg (by rw [h]; simp)
theorem mem_step0 {p : List Nat} {c : Nat} {ns : List Nat} : 0 ∈ stepL p c ns ↔ star p 0 = true ∧ 0 ∈ ns := by
  rw [mem_step]
  constructor
  · rintro (h | ⟨i, h, _⟩)
    · exact h
    · omega
  · exact .inl
theorem mem_stepS {p : List Nat} {c : Nat} {ns : List Nat} {j : Nat} : j + 1 ∈ stepL p c ns ↔ (star p (j + 1) = true ∧ j + 1 ∈ ns) ∨ (j ∈ ns ∧ star p j = false ∧ okc p c j = true) := by
  rw [mem_step]
  refine or_congr Iff.rfl ⟨?_, fun h => ⟨j, rfl, h⟩⟩
  rintro ⟨i, e, h⟩
  rwa [show i = j by omega] at h
theorem cl_step (p t : List Nat) (k c : Nat) (hc : t[k]? = some c) : ∀ j, j ≤ p.length → cl p (stepL p c (plc p.length (hS p t k))) j = hS p t (k + 1) j := by
  have ec : t.getD k 0 = c := by rw [List.getD_eq_getElem?_getD, hc]; rfl
  intro j
  induction j with
  | zero =>
    intro _
    rw [cl_zero, Bool.eq_iff_iff, decide_eq_true_eq, mem_step0, plc_mem]
    have z : gm p t 0 (k + 1) = false := rfl
    cases h : star p 0 with
    | true => rw [hS_star h, hS_star h, gm_star k h, z, Bool.false_or]; simp
    | false => rw [hS_no (k := k + 1) h, z]; simp
  | succ j ih =>
    intro hj
    rw [cl_succ, ih (by omega), Bool.eq_iff_iff, Bool.or_eq_true, Bool.and_eq_true, decide_eq_true_eq, mem_stepS, plc_mem, plc_mem]
    have key : ((j ≤ p.length ∧ hS p t k j = true) ∧ star p j = false ∧ okc p c j = true) ∨ (hS p t (k + 1) j = true ∧ star p j = true) ↔ gm p t (j + 1) (k + 1) = true := by
      cases hs : star p j with
      | true => rw [hS_star hs, hS_star hs]; simp
      | false =>
        rw [hS_no hs, hS_no hs, gm_no k hs, ec, Bool.and_eq_true]
        constructor
        · rintro (⟨⟨_, h1⟩, _, h2⟩ | ⟨_, h⟩)
          · exact ⟨h1, h2⟩
          · cases h
        · rintro ⟨h1, h2⟩
          exact .inl ⟨⟨by omega, h1⟩, rfl, h2⟩
    rw [or_assoc, key]
    cases hs : star p (j + 1) with
    | true =>
      rw [hS_star hs, hS_star hs, gm_star k hs, Bool.or_eq_true]
      constructor
      · rintro (⟨_, _, h⟩ | h)
        · exact .inr h
        · exact .inl h
      · rintro (h | h)
        · exact .inr h
        · exact .inl ⟨rfl, hj, h⟩
    | false =>
      rw [hS_no (k := k + 1) hs]
      simp
theorem hS_end (p t : List Nat) (k : Nat) : hS p t k p.length = gm p t p.length k := by
  have e : star p p.length = false := by unfold star; rw [List.getElem?_eq_none (Nat.le_refl _)]; rfl
  unfold hS
  rw [if_neg (by rw [e]; simp)]
theorem ix_str {p : List Nat} (hp : p.length ≤ 10000) {i : Nat} (hl : i < p.length) : dIx (.str p) (.int (i : Int)) = some (.str [p[i]]) := by
  unfold dIx
  dsimp only
  rw [if_pos (by unfold BIG; omega), atI_nat (List.getElem?_eq_getElem hl)]
  rfl
theorem step_loop (p : List Nat) (hp : p.length ≤ 10000) (c : Nat) {a : Option SV} {g : Store} {Q : Out → Store → Prop} : ∀ (ns xs : List Nat) (b : Option SV), xs.length + ns.length ≤ 10000 →
    (∀ b, Q (.nx [some (.d (.str p)), a, some (.d (.str [c])), some (.own (nI (xs ++ stepL p c ns))), b]) g) → Ok (forD (tgName 4) lb_stepped_0 (nI ns) [some (.d (.str p)), a, some (.d (.str [c])), some (.own (nI xs)), b] g) Q
  | [], xs, b, hl, h => by
    show Ok (forD _ _ [] _ _) _
    rw [ok_forNil]
    have := h b
    unfold stepL at this
    simpa using this
  | i :: r, xs, b, hl, h => by
    rw [List.length_cons] at hl
    have big : p.length ≤ BIG := by unfold BIG; omega
    have next : ∀ ys : List Nat, ys.length ≤ 1 → (if star p i = true then [i] else if okc p c i = true then [i + 1] else []) = ys → Ok (forD (tgName 4) lb_stepped_0 (nI r) [some (.d (.str p)), a, some (.d (.str [c])), some (.own (nI (xs ++ ys))), some (.d (.int (i : Int)))] g) Q := by
      intro ys hy e
      refine step_loop p hp c r (xs ++ ys) _ (by simp; omega) fun b => ?_
      have q := h b
      unfold stepL at q ⊢
      rw [List.flatMap_cons, e] at q
      rw [List.append_assoc]
      exact q
    show Ok (forD _ _ (D.int (i : Int) :: nI r) _ _) _
    rw [ok_forCons]
    refine ⟨_, rfl, ?_⟩
    have nil : star p i = false → okc p c i = false → Ok (forD (tgName 4) lb_stepped_0 (nI r) [some (.d (.str p)), a, some (.d (.str [c])), some (.own (nI xs)), some (.d (.int (i : Int)))] g) Q := fun hs ho => by
      have := next [] (Nat.zero_le _) (by rw [hs, ho]; rfl)
      rwa [List.append_nil] at this
    unfold lb_stepped_0
    simp only [ok_forNil, ok_forCons, forK_nx, forK_ct, forK_bk, forK_rt, ok_eOp, ok_eUn, ok_aNil, ok_aCons, ok_eFn, ok_aFn, ok_eApp, ok_eC, ok_eL, ok_eSt, ok_eM1, ok_aM1, ok_oNone, ok_oSome, ok_eSl, ok_tOf, ok_tTru, ok_tNot, ok_tAnd, ok_tOr, ok_eAnd, ok_eOr, ok_eIf, ok_eChain, ok_eVar, ok_eVarB, ok_sSeq, seqK_nx, seqK_rt, seqK_bk, seqK_ct, ok_sSet, ok_sRet, ok_sIf, ok_sNext, ok_sDrop, ok_sApp, ok_sFreeze, ok_sUnp, ok_sAug, ok_sFor, ok_aLcE, ok_aItems, runK_rt, runK_nx, ok_runD, okO_some, okO_map, valD_d, valB_d, valB_o, valB_w, ownOf_o, asInt_i, asBl_b, start3, frz, sets, tgName, tgTup, tgsCons, tgsNil, wipe3, List.set_cons_zero, List.set_cons_succ, List.getElem?_cons_zero, List.getElem?_cons_succ, List.map_cons, List.map_nil, List.length_cons, List.length_nil, List.cons_append, List.nil_append, List.replicate_succ, List.replicate_zero, Nat.reduceSub, Nat.reduceAdd, Nat.reduceLT, okO_if, dAddA_ii, dAddA_ss, dAddA_ll, dAddA_tt, dAdd_ii, dAdd_ss, dSub_ii, dMul_ii, dMul_si, dMod_ii, dDiv_ii, dLt_ii, dLt_ss, dLe_ii, dLe_ss, dGt_ii, dGt_ss, dGe_ii, dGe_ss, dEq_ii, dEq_ss, dEq_bb, dEq_nn, dEq_ns, dEq_sn, dEq_ni, dEq_in, dNe_ii, dNe_ss, dNe_bb, dNe_nn, dNe_ns, dNe_sn, dNe_ni, dNe_in, dIs_n, dIsNot_n, dIs_b, dIsNot_b, dIs_i, dIsNot_i, dIs_s, dIsNot_s, dIs_l, dIsNot_l, dIs_t, dIsNot_t, dIs_d, dIsNot_d, dIs_o, dIsNot_o, dLen_s, dLen_l, dLen_t, dTup_d, dLst_d, truD_n, truD_b, truD_i, truD_s, truD_l, truD_t, dNot_b, dNeg_i, asInt_i, asBl_b, dSl_s, dSl_l, dSl_t, isStr_s, items_l, items_t, items_s, dInt_i, dInt_b, dIx_li, dIx_ti, dStarts_ss, dTuple_l, dTuple_t, aList_l, aList_t, dIn_cs, dNotIn_cs, valD_d, valB_d, valB_o, valB_w, ownOf_o, isi_int_n, isi_int_b, isi_int_i, isi_int_s, isi_int_l, isi_int_t, isi_int_d, isi_str_n, isi_str_b, isi_str_i, isi_str_s, isi_str_l, isi_str_t, isi_str_d, isi_bool_n, isi_bool_b, isi_bool_i, isi_bool_s, isi_bool_l, isi_bool_t, isi_bool_d, isi_list_n, isi_list_b, isi_list_i, isi_list_s, isi_list_l, isi_list_t, isi_list_d, isi_tuple_n, isi_tuple_b, isi_tuple_i, isi_tuple_s, isi_tuple_l, isi_tuple_t, isi_tuple_d, isi_dict_n, isi_dict_b, isi_dict_i, isi_dict_s, isi_dict_l, isi_dict_t, isi_dict_d, decide_eq_true_eq, Bool.not_eq_true, Bool.not_true, Bool.not_false, if_true, if_false, Bool.false_eq_true, and_true, true_and, decide_true, decide_false, ite_true, ite_false, reduceCtorEq]
    refine ⟨big, ?_⟩
    by_cases hlt : i < p.length
    · rw [if_pos (by omega)]
      refine ⟨_, ix_str hp hlt, ?_⟩
      simp only [ok_forNil, ok_forCons, forK_nx, forK_ct, forK_bk, forK_rt, ok_eOp, ok_eUn, ok_aNil, ok_aCons, ok_eFn, ok_aFn, ok_eApp, ok_eC, ok_eL, ok_eSt, ok_eM1, ok_aM1, ok_oNone, ok_oSome, ok_eSl, ok_tOf, ok_tTru, ok_tNot, ok_tAnd, ok_tOr, ok_eAnd, ok_eOr, ok_eIf, ok_eChain, ok_eVar, ok_eVarB, ok_sSeq, seqK_nx, seqK_rt, seqK_bk, seqK_ct, ok_sSet, ok_sRet, ok_sIf, ok_sNext, ok_sDrop, ok_sApp, ok_sFreeze, ok_sUnp, ok_sAug, ok_sFor, ok_aLcE, ok_aItems, runK_rt, runK_nx, ok_runD, okO_some, okO_map, valD_d, valB_d, valB_o, valB_w, ownOf_o, asInt_i, asBl_b, start3, frz, sets, tgName, tgTup, tgsCons, tgsNil, wipe3, List.set_cons_zero, List.set_cons_succ, List.getElem?_cons_zero, List.getElem?_cons_succ, List.map_cons, List.map_nil, List.length_cons, List.length_nil, List.cons_append, List.nil_append, List.replicate_succ, List.replicate_zero, Nat.reduceSub, Nat.reduceAdd, Nat.reduceLT, okO_if, dAddA_ii, dAddA_ss, dAddA_ll, dAddA_tt, dAdd_ii, dAdd_ss, dSub_ii, dMul_ii, dMul_si, dMod_ii, dDiv_ii, dLt_ii, dLt_ss, dLe_ii, dLe_ss, dGt_ii, dGt_ss, dGe_ii, dGe_ss, dEq_ii, dEq_ss, dEq_bb, dEq_nn, dEq_ns, dEq_sn, dEq_ni, dEq_in, dNe_ii, dNe_ss, dNe_bb, dNe_nn, dNe_ns, dNe_sn, dNe_ni, dNe_in, dIs_n, dIsNot_n, dIs_b, dIsNot_b, dIs_i, dIsNot_i, dIs_s, dIsNot_s, dIs_l, dIsNot_l, dIs_t, dIsNot_t, dIs_d, dIsNot_d, dIs_o, dIsNot_o, dLen_s, dLen_l, dLen_t, dTup_d, dLst_d, truD_n, truD_b, truD_i, truD_s, truD_l, truD_t, dNot_b, dNeg_i, asInt_i, asBl_b, dSl_s, dSl_l, dSl_t, isStr_s, items_l, items_t, items_s, dInt_i, dInt_b, dIx_li, dIx_ti, dStarts_ss, dTuple_l, dTuple_t, aList_l, aList_t, dIn_cs, dNotIn_cs, valD_d, valB_d, valB_o, valB_w, ownOf_o, isi_int_n, isi_int_b, isi_int_i, isi_int_s, isi_int_l, isi_int_t, isi_int_d, isi_str_n, isi_str_b, isi_str_i, isi_str_s, isi_str_l, isi_str_t, isi_str_d, isi_bool_n, isi_bool_b, isi_bool_i, isi_bool_s, isi_bool_l, isi_bool_t, isi_bool_d, isi_list_n, isi_list_b, isi_list_i, isi_list_s, isi_list_l, isi_list_t, isi_list_d, isi_tuple_n, isi_tuple_b, isi_tuple_i, isi_tuple_s, isi_tuple_l, isi_tuple_t, isi_tuple_d, isi_dict_n, isi_dict_b, isi_dict_i, isi_dict_s, isi_dict_l, isi_dict_t, isi_dict_d, decide_eq_true_eq, Bool.not_eq_true, Bool.not_true, Bool.not_false, if_true, if_false, Bool.false_eq_true, and_true, true_and, decide_true, decide_false, ite_true, ite_false, reduceCtorEq]
      by_cases h42 : p[i] = 42
      · rw [if_pos (by rw [h42])]
        have hs : star p i = true := decide_eq_true (by rw [List.getElem?_eq_getElem hlt, h42])
        refine ⟨by rw [nI_len]; unfold BIG; omega, ?_⟩
        have := next [i] (Nat.le_refl _) (by rw [if_pos hs])
        rw [nI_app] at this
        exact this
      · have hs : star p i = false := decide_eq_false (by rw [List.getElem?_eq_getElem hlt]; simpa using h42)
        rw [if_neg (by simpa using h42)]
        refine ⟨big, ?_⟩
        rw [if_pos (by omega)]
        refine ⟨_, ix_str hp hlt, ⟨by decide, ?_⟩⟩
        have ei : dIn (.str [p[i]]) (.tup [.str [63], .str [c]]) = some (.bl (okc p c i)) := by
          show some (D.bl (inD (.str [p[i]]) [.str [63], .str [c]])) = _
          congr 2
          unfold okc inD
          rw [List.getElem?_eq_getElem hlt, List.any_cons, List.any_cons, List.any_nil, Bool.or_false]
          have one : ∀ a b : Nat, eqFl (.str [a]) (.str [b]) = decide (some b = some a) := fun a b => by
            show ([a] == [b]) = _
            rw [Bool.eq_iff_iff, beq_iff_eq, decide_eq_true_eq]
            simp [eq_comm]
          rw [one, one]
        refine ⟨_, ei, ?_⟩
        simp only [ok_forNil, ok_forCons, forK_nx, forK_ct, forK_bk, forK_rt, ok_eOp, ok_eUn, ok_aNil, ok_aCons, ok_eFn, ok_aFn, ok_eApp, ok_eC, ok_eL, ok_eSt, ok_eM1, ok_aM1, ok_oNone, ok_oSome, ok_eSl, ok_tOf, ok_tTru, ok_tNot, ok_tAnd, ok_tOr, ok_eAnd, ok_eOr, ok_eIf, ok_eChain, ok_eVar, ok_eVarB, ok_sSeq, seqK_nx, seqK_rt, seqK_bk, seqK_ct, ok_sSet, ok_sRet, ok_sIf, ok_sNext, ok_sDrop, ok_sApp, ok_sFreeze, ok_sUnp, ok_sAug, ok_sFor, ok_aLcE, ok_aItems, runK_rt, runK_nx, ok_runD, okO_some, okO_map, valD_d, valB_d, valB_o, valB_w, ownOf_o, asInt_i, asBl_b, start3, frz, sets, tgName, tgTup, tgsCons, tgsNil, wipe3, List.set_cons_zero, List.set_cons_succ, List.getElem?_cons_zero, List.getElem?_cons_succ, List.map_cons, List.map_nil, List.length_cons, List.length_nil, List.cons_append, List.nil_append, List.replicate_succ, List.replicate_zero, Nat.reduceSub, Nat.reduceAdd, Nat.reduceLT, okO_if, dAddA_ii, dAddA_ss, dAddA_ll, dAddA_tt, dAdd_ii, dAdd_ss, dSub_ii, dMul_ii, dMul_si, dMod_ii, dDiv_ii, dLt_ii, dLt_ss, dLe_ii, dLe_ss, dGt_ii, dGt_ss, dGe_ii, dGe_ss, dEq_ii, dEq_ss, dEq_bb, dEq_nn, dEq_ns, dEq_sn, dEq_ni, dEq_in, dNe_ii, dNe_ss, dNe_bb, dNe_nn, dNe_ns, dNe_sn, dNe_ni, dNe_in, dIs_n, dIsNot_n, dIs_b, dIsNot_b, dIs_i, dIsNot_i, dIs_s, dIsNot_s, dIs_l, dIsNot_l, dIs_t, dIsNot_t, dIs_d, dIsNot_d, dIs_o, dIsNot_o, dLen_s, dLen_l, dLen_t, dTup_d, dLst_d, truD_n, truD_b, truD_i, truD_s, truD_l, truD_t, dNot_b, dNeg_i, asInt_i, asBl_b, dSl_s, dSl_l, dSl_t, isStr_s, items_l, items_t, items_s, dInt_i, dInt_b, dIx_li, dIx_ti, dStarts_ss, dTuple_l, dTuple_t, aList_l, aList_t, dIn_cs, dNotIn_cs, valD_d, valB_d, valB_o, valB_w, ownOf_o, isi_int_n, isi_int_b, isi_int_i, isi_int_s, isi_int_l, isi_int_t, isi_int_d, isi_str_n, isi_str_b, isi_str_i, isi_str_s, isi_str_l, isi_str_t, isi_str_d, isi_bool_n, isi_bool_b, isi_bool_i, isi_bool_s, isi_bool_l, isi_bool_t, isi_bool_d, isi_list_n, isi_list_b, isi_list_i, isi_list_s, isi_list_l, isi_list_t, isi_list_d, isi_tuple_n, isi_tuple_b, isi_tuple_i, isi_tuple_s, isi_tuple_l, isi_tuple_t, isi_tuple_d, isi_dict_n, isi_dict_b, isi_dict_i, isi_dict_s, isi_dict_l, isi_dict_t, isi_dict_d, decide_eq_true_eq, Bool.not_eq_true, Bool.not_true, Bool.not_false, if_true, if_false, Bool.false_eq_true, and_true, true_and, decide_true, decide_false, ite_true, ite_false, reduceCtorEq]
        cases ho : okc p c i with
        | true =>
          simp only [if_true]
          refine ⟨by rw [nI_len]; unfold BIG; omega, ?_⟩
          have := next [i + 1] (Nat.le_refl _) (by rw [hs, ho]; rfl)
          rw [nI_app] at this
          exact this
        | false =>
          simp only [Bool.false_eq_true, if_false]
          exact nil hs ho
    · rw [if_neg (by omega)]
      have hs : star p i = false := by
        cases q : star p i with
        | false => rfl
        | true => exact absurd (star_lt q) hlt
      have ho : okc p c i = false := by
        cases q : okc p c i with
        | false => rfl
        | true => exact absurd (okc_lt q) hlt
      refine ⟨big, ?_⟩
      rw [if_neg (by omega)]
      exact nil hs ho
theorem stepped_ok {p : List Nat} (hp : Small p) {c : Nat} {q : Nat → Bool} {g : Store} {Q : D → Store → Prop} (h : Q (.lst (nI (plc p.length (cl p (stepL p c (plc p.length q)))))) g) : Ok (f_stepped [.str p, .lst (nI (plc p.length q)), .str [c]] g) Q := by
  have hl := plc_len p.length q
  have hp1 := hp.1
  unfold f_stepped d_stepped
  simp only [ok_forNil, ok_forCons, forK_nx, forK_ct, forK_bk, forK_rt, ok_eOp, ok_eUn, ok_aNil, ok_aCons, ok_eFn, ok_aFn, ok_eApp, ok_eC, ok_eL, ok_eSt, ok_eM1, ok_aM1, ok_oNone, ok_oSome, ok_eSl, ok_tOf, ok_tTru, ok_tNot, ok_tAnd, ok_tOr, ok_eAnd, ok_eOr, ok_eIf, ok_eChain, ok_eVar, ok_eVarB, ok_sSeq, seqK_rt, seqK_bk, seqK_ct, ok_sSet, ok_sRet, ok_sIf, ok_sNext, ok_sDrop, ok_sApp, ok_sFreeze, ok_sUnp, ok_sAug, ok_sFor, ok_aLcE, ok_aItems, runK_rt, runK_nx, ok_runD, okO_some, okO_map, valD_d, valB_d, valB_o, valB_w, ownOf_o, asInt_i, asBl_b, start3, frz, sets, tgName, tgTup, tgsCons, tgsNil, wipe3, List.set_cons_zero, List.set_cons_succ, List.getElem?_cons_zero, List.getElem?_cons_succ, List.map_cons, List.map_nil, List.length_cons, List.length_nil, List.cons_append, List.nil_append, List.replicate_succ, List.replicate_zero, Nat.reduceSub, Nat.reduceAdd, Nat.reduceLT, okO_if, dAddA_ii, dAddA_ss, dAddA_ll, dAddA_tt, dAdd_ii, dAdd_ss, dSub_ii, dMul_ii, dMul_si, dMod_ii, dDiv_ii, dLt_ii, dLt_ss, dLe_ii, dLe_ss, dGt_ii, dGt_ss, dGe_ii, dGe_ss, dEq_ii, dEq_ss, dEq_bb, dEq_nn, dEq_ns, dEq_sn, dEq_ni, dEq_in, dNe_ii, dNe_ss, dNe_bb, dNe_nn, dNe_ns, dNe_sn, dNe_ni, dNe_in, dIs_n, dIsNot_n, dIs_b, dIsNot_b, dIs_i, dIsNot_i, dIs_s, dIsNot_s, dIs_l, dIsNot_l, dIs_t, dIsNot_t, dIs_d, dIsNot_d, dIs_o, dIsNot_o, dLen_s, dLen_l, dLen_t, dTup_d, dLst_d, truD_n, truD_b, truD_i, truD_s, truD_l, truD_t, dNot_b, dNeg_i, asInt_i, asBl_b, dSl_s, dSl_l, dSl_t, isStr_s, items_l, items_t, items_s, dInt_i, dInt_b, dIx_li, dIx_ti, dStarts_ss, dTuple_l, dTuple_t, aList_l, aList_t, dIn_cs, dNotIn_cs, valD_d, valB_d, valB_o, valB_w, ownOf_o, isi_int_n, isi_int_b, isi_int_i, isi_int_s, isi_int_l, isi_int_t, isi_int_d, isi_str_n, isi_str_b, isi_str_i, isi_str_s, isi_str_l, isi_str_t, isi_str_d, isi_bool_n, isi_bool_b, isi_bool_i, isi_bool_s, isi_bool_l, isi_bool_t, isi_bool_d, isi_list_n, isi_list_b, isi_list_i, isi_list_s, isi_list_l, isi_list_t, isi_list_d, isi_tuple_n, isi_tuple_b, isi_tuple_i, isi_tuple_s, isi_tuple_l, isi_tuple_t, isi_tuple_d, isi_dict_n, isi_dict_b, isi_dict_i, isi_dict_s, isi_dict_l, isi_dict_t, isi_dict_d, decide_eq_true_eq, Bool.not_eq_true, Bool.not_true, Bool.not_false, if_true, if_false, Bool.false_eq_true, and_true, true_and, decide_true, decide_false, ite_true, ite_false, reduceCtorEq]
  rw [ok_sOwn _ _ _ (by simp)]
  simp only [ok_forNil, ok_forCons, forK_nx, forK_ct, forK_bk, forK_rt, ok_eOp, ok_eUn, ok_aNil, ok_aCons, ok_eFn, ok_aFn, ok_eApp, ok_eC, ok_eL, ok_eSt, ok_eM1, ok_aM1, ok_oNone, ok_oSome, ok_eSl, ok_tOf, ok_tTru, ok_tNot, ok_tAnd, ok_tOr, ok_eAnd, ok_eOr, ok_eIf, ok_eChain, ok_eVar, ok_eVarB, ok_sSeq, seqK_rt, seqK_bk, seqK_ct, ok_sSet, ok_sRet, ok_sIf, ok_sNext, ok_sDrop, ok_sApp, ok_sFreeze, ok_sUnp, ok_sAug, ok_sFor, ok_aLcE, ok_aItems, runK_rt, runK_nx, ok_runD, okO_some, okO_map, valD_d, valB_d, valB_o, valB_w, ownOf_o, asInt_i, asBl_b, start3, frz, sets, tgName, tgTup, tgsCons, tgsNil, wipe3, List.set_cons_zero, List.set_cons_succ, List.getElem?_cons_zero, List.getElem?_cons_succ, List.map_cons, List.map_nil, List.length_cons, List.length_nil, List.cons_append, List.nil_append, List.replicate_succ, List.replicate_zero, Nat.reduceSub, Nat.reduceAdd, Nat.reduceLT, okO_if, dAddA_ii, dAddA_ss, dAddA_ll, dAddA_tt, dAdd_ii, dAdd_ss, dSub_ii, dMul_ii, dMul_si, dMod_ii, dDiv_ii, dLt_ii, dLt_ss, dLe_ii, dLe_ss, dGt_ii, dGt_ss, dGe_ii, dGe_ss, dEq_ii, dEq_ss, dEq_bb, dEq_nn, dEq_ns, dEq_sn, dEq_ni, dEq_in, dNe_ii, dNe_ss, dNe_bb, dNe_nn, dNe_ns, dNe_sn, dNe_ni, dNe_in, dIs_n, dIsNot_n, dIs_b, dIsNot_b, dIs_i, dIsNot_i, dIs_s, dIsNot_s, dIs_l, dIsNot_l, dIs_t, dIsNot_t, dIs_d, dIsNot_d, dIs_o, dIsNot_o, dLen_s, dLen_l, dLen_t, dTup_d, dLst_d, truD_n, truD_b, truD_i, truD_s, truD_l, truD_t, dNot_b, dNeg_i, asInt_i, asBl_b, dSl_s, dSl_l, dSl_t, isStr_s, items_l, items_t, items_s, dInt_i, dInt_b, dIx_li, dIx_ti, dStarts_ss, dTuple_l, dTuple_t, aList_l, aList_t, dIn_cs, dNotIn_cs, valD_d, valB_d, valB_o, valB_w, ownOf_o, isi_int_n, isi_int_b, isi_int_i, isi_int_s, isi_int_l, isi_int_t, isi_int_d, isi_str_n, isi_str_b, isi_str_i, isi_str_s, isi_str_l, isi_str_t, isi_str_d, isi_bool_n, isi_bool_b, isi_bool_i, isi_bool_s, isi_bool_l, isi_bool_t, isi_bool_d, isi_list_n, isi_list_b, isi_list_i, isi_list_s, isi_list_l, isi_list_t, isi_list_d, isi_tuple_n, isi_tuple_b, isi_tuple_i, isi_tuple_s, isi_tuple_l, isi_tuple_t, isi_tuple_d, isi_dict_n, isi_dict_b, isi_dict_i, isi_dict_s, isi_dict_l, isi_dict_t, isi_dict_d, decide_eq_true_eq, Bool.not_eq_true, Bool.not_true, Bool.not_false, if_true, if_false, Bool.false_eq_true, and_true, true_and, decide_true, decide_false, ite_true, ite_false, reduceCtorEq]
  refine ⟨by decide, ?_⟩
  rw [seqK_nx]
  simp only [ok_forNil, ok_forCons, forK_nx, forK_ct, forK_bk, forK_rt, ok_eOp, ok_eUn, ok_aNil, ok_aCons, ok_eFn, ok_aFn, ok_eApp, ok_eC, ok_eL, ok_eSt, ok_eM1, ok_aM1, ok_oNone, ok_oSome, ok_eSl, ok_tOf, ok_tTru, ok_tNot, ok_tAnd, ok_tOr, ok_eAnd, ok_eOr, ok_eIf, ok_eChain, ok_eVar, ok_eVarB, ok_sSeq, seqK_rt, seqK_bk, seqK_ct, ok_sSet, ok_sRet, ok_sIf, ok_sNext, ok_sDrop, ok_sApp, ok_sFreeze, ok_sUnp, ok_sAug, ok_sFor, ok_aLcE, ok_aItems, runK_rt, runK_nx, ok_runD, okO_some, okO_map, valD_d, valB_d, valB_o, valB_w, ownOf_o, asInt_i, asBl_b, start3, frz, sets, tgName, tgTup, tgsCons, tgsNil, wipe3, List.set_cons_zero, List.set_cons_succ, List.getElem?_cons_zero, List.getElem?_cons_succ, List.map_cons, List.map_nil, List.length_cons, List.length_nil, List.cons_append, List.nil_append, List.replicate_succ, List.replicate_zero, Nat.reduceSub, Nat.reduceAdd, Nat.reduceLT, okO_if, dAddA_ii, dAddA_ss, dAddA_ll, dAddA_tt, dAdd_ii, dAdd_ss, dSub_ii, dMul_ii, dMul_si, dMod_ii, dDiv_ii, dLt_ii, dLt_ss, dLe_ii, dLe_ss, dGt_ii, dGt_ss, dGe_ii, dGe_ss, dEq_ii, dEq_ss, dEq_bb, dEq_nn, dEq_ns, dEq_sn, dEq_ni, dEq_in, dNe_ii, dNe_ss, dNe_bb, dNe_nn, dNe_ns, dNe_sn, dNe_ni, dNe_in, dIs_n, dIsNot_n, dIs_b, dIsNot_b, dIs_i, dIsNot_i, dIs_s, dIsNot_s, dIs_l, dIsNot_l, dIs_t, dIsNot_t, dIs_d, dIsNot_d, dIs_o, dIsNot_o, dLen_s, dLen_l, dLen_t, dTup_d, dLst_d, truD_n, truD_b, truD_i, truD_s, truD_l, truD_t, dNot_b, dNeg_i, asInt_i, asBl_b, dSl_s, dSl_l, dSl_t, isStr_s, items_l, items_t, items_s, dInt_i, dInt_b, dIx_li, dIx_ti, dStarts_ss, dTuple_l, dTuple_t, aList_l, aList_t, dIn_cs, dNotIn_cs, valD_d, valB_d, valB_o, valB_w, ownOf_o, isi_int_n, isi_int_b, isi_int_i, isi_int_s, isi_int_l, isi_int_t, isi_int_d, isi_str_n, isi_str_b, isi_str_i, isi_str_s, isi_str_l, isi_str_t, isi_str_d, isi_bool_n, isi_bool_b, isi_bool_i, isi_bool_s, isi_bool_l, isi_bool_t, isi_bool_d, isi_list_n, isi_list_b, isi_list_i, isi_list_s, isi_list_l, isi_list_t, isi_list_d, isi_tuple_n, isi_tuple_b, isi_tuple_i, isi_tuple_s, isi_tuple_l, isi_tuple_t, isi_tuple_d, isi_dict_n, isi_dict_b, isi_dict_i, isi_dict_s, isi_dict_l, isi_dict_t, isi_dict_d, decide_eq_true_eq, Bool.not_eq_true, Bool.not_true, Bool.not_false, if_true, if_false, Bool.false_eq_true, and_true, true_and, decide_true, decide_false, ite_true, ite_false, reduceCtorEq]
  refine step_loop p (by omega) c (plc p.length q) [] none (by simp; omega) fun b => ?_
  rw [seqK_nx]
  simp only [ok_forNil, ok_forCons, forK_nx, forK_ct, forK_bk, forK_rt, ok_eOp, ok_eUn, ok_aNil, ok_aCons, ok_eFn, ok_aFn, ok_eApp, ok_eC, ok_eL, ok_eSt, ok_eM1, ok_aM1, ok_oNone, ok_oSome, ok_eSl, ok_tOf, ok_tTru, ok_tNot, ok_tAnd, ok_tOr, ok_eAnd, ok_eOr, ok_eIf, ok_eChain, ok_eVar, ok_eVarB, ok_sSeq, seqK_rt, seqK_bk, seqK_ct, ok_sSet, ok_sRet, ok_sIf, ok_sNext, ok_sDrop, ok_sApp, ok_sFreeze, ok_sUnp, ok_sAug, ok_sFor, ok_aLcE, ok_aItems, runK_rt, runK_nx, ok_runD, okO_some, okO_map, valD_d, valB_d, valB_o, valB_w, ownOf_o, asInt_i, asBl_b, start3, frz, sets, tgName, tgTup, tgsCons, tgsNil, wipe3, List.set_cons_zero, List.set_cons_succ, List.getElem?_cons_zero, List.getElem?_cons_succ, List.map_cons, List.map_nil, List.length_cons, List.length_nil, List.cons_append, List.nil_append, List.replicate_succ, List.replicate_zero, Nat.reduceSub, Nat.reduceAdd, Nat.reduceLT, okO_if, dAddA_ii, dAddA_ss, dAddA_ll, dAddA_tt, dAdd_ii, dAdd_ss, dSub_ii, dMul_ii, dMul_si, dMod_ii, dDiv_ii, dLt_ii, dLt_ss, dLe_ii, dLe_ss, dGt_ii, dGt_ss, dGe_ii, dGe_ss, dEq_ii, dEq_ss, dEq_bb, dEq_nn, dEq_ns, dEq_sn, dEq_ni, dEq_in, dNe_ii, dNe_ss, dNe_bb, dNe_nn, dNe_ns, dNe_sn, dNe_ni, dNe_in, dIs_n, dIsNot_n, dIs_b, dIsNot_b, dIs_i, dIsNot_i, dIs_s, dIsNot_s, dIs_l, dIsNot_l, dIs_t, dIsNot_t, dIs_d, dIsNot_d, dIs_o, dIsNot_o, dLen_s, dLen_l, dLen_t, dTup_d, dLst_d, truD_n, truD_b, truD_i, truD_s, truD_l, truD_t, dNot_b, dNeg_i, asInt_i, asBl_b, dSl_s, dSl_l, dSl_t, isStr_s, items_l, items_t, items_s, dInt_i, dInt_b, dIx_li, dIx_ti, dStarts_ss, dTuple_l, dTuple_t, aList_l, aList_t, dIn_cs, dNotIn_cs, valD_d, valB_d, valB_o, valB_w, ownOf_o, isi_int_n, isi_int_b, isi_int_i, isi_int_s, isi_int_l, isi_int_t, isi_int_d, isi_str_n, isi_str_b, isi_str_i, isi_str_s, isi_str_l, isi_str_t, isi_str_d, isi_bool_n, isi_bool_b, isi_bool_i, isi_bool_s, isi_bool_l, isi_bool_t, isi_bool_d, isi_list_n, isi_list_b, isi_list_i, isi_list_s, isi_list_l, isi_list_t, isi_list_d, isi_tuple_n, isi_tuple_b, isi_tuple_i, isi_tuple_s, isi_tuple_l, isi_tuple_t, isi_tuple_d, isi_dict_n, isi_dict_b, isi_dict_i, isi_dict_s, isi_dict_l, isi_dict_t, isi_dict_d, decide_eq_true_eq, Bool.not_eq_true, Bool.not_true, Bool.not_false, if_true, if_false, Bool.false_eq_true, and_true, true_and, decide_true, decide_false, ite_true, ite_false, reduceCtorEq]
  refine over_ok hp (Nat.le_trans (step_len p c _) hl) (fun i hi => ?_) h
  rcases mem_step.mp hi with ⟨h1, _⟩ | ⟨j, e, h1, _, h2⟩
  · have := star_lt h1; omega
  · have := okc_lt h2; omega
theorem fits_loop {p t : List Nat} (hp : Small p) {g : Store} {Q : Out → Store → Prop} {T : D} : ∀ (u : List Nat) (k : Nat) (b : Option SV), t.drop k = u → k ≤ t.length →
    (∀ b, Q (.nx [some (.d (.str p)), some (.d T), some (.d (.lst (nI (plc p.length (hS p t t.length))))), b]) g) → Ok (forD (tgName 3) lb_fits_0 (u.map fun c => .str [c]) [some (.d (.str p)), some (.d T), some (.d (.lst (nI (plc p.length (hS p t k))))), b] g) Q
  | [], k, b, hd, hk, h => by
    show Ok (forD _ _ [] _ _) _
    rw [ok_forNil]
    have e : k = t.length := by
      have := congrArg List.length hd
      simp at this
      omega
    subst e
    exact h b
  | c :: u, k, b, hd, hk, h => by
    have hc : t[k]? = some c := by
      have := congrArg (·[0]?) hd
      simpa using this
    have hlt := (List.getElem?_eq_some_iff.mp hc).1
    show Ok (forD _ _ (D.str [c] :: u.map fun c => .str [c]) _ _) _
    rw [ok_forCons]
    refine ⟨_, rfl, ?_⟩
    unfold lb_fits_0
    simp only [ok_forNil, ok_forCons, forK_nx, forK_ct, forK_bk, forK_rt, ok_eOp, ok_eUn, ok_aNil, ok_aCons, ok_eFn, ok_aFn, ok_eApp, ok_eC, ok_eL, ok_eSt, ok_eM1, ok_aM1, ok_oNone, ok_oSome, ok_eSl, ok_tOf, ok_tTru, ok_tNot, ok_tAnd, ok_tOr, ok_eAnd, ok_eOr, ok_eIf, ok_eChain, ok_eVar, ok_eVarB, ok_sSeq, seqK_rt, seqK_bk, seqK_ct, ok_sSet, ok_sRet, ok_sIf, ok_sNext, ok_sDrop, ok_sApp, ok_sFreeze, ok_sUnp, ok_sAug, ok_sFor, ok_aLcE, ok_aItems, runK_rt, runK_nx, ok_runD, okO_some, okO_map, valD_d, valB_d, valB_o, valB_w, ownOf_o, asInt_i, asBl_b, start3, frz, sets, tgName, tgTup, tgsCons, tgsNil, wipe3, List.set_cons_zero, List.set_cons_succ, List.getElem?_cons_zero, List.getElem?_cons_succ, List.map_cons, List.map_nil, List.length_cons, List.length_nil, List.cons_append, List.nil_append, List.replicate_succ, List.replicate_zero, Nat.reduceSub, Nat.reduceAdd, Nat.reduceLT, okO_if, dAddA_ii, dAddA_ss, dAddA_ll, dAddA_tt, dAdd_ii, dAdd_ss, dSub_ii, dMul_ii, dMul_si, dMod_ii, dDiv_ii, dLt_ii, dLt_ss, dLe_ii, dLe_ss, dGt_ii, dGt_ss, dGe_ii, dGe_ss, dEq_ii, dEq_ss, dEq_bb, dEq_nn, dEq_ns, dEq_sn, dEq_ni, dEq_in, dNe_ii, dNe_ss, dNe_bb, dNe_nn, dNe_ns, dNe_sn, dNe_ni, dNe_in, dIs_n, dIsNot_n, dIs_b, dIsNot_b, dIs_i, dIsNot_i, dIs_s, dIsNot_s, dIs_l, dIsNot_l, dIs_t, dIsNot_t, dIs_d, dIsNot_d, dIs_o, dIsNot_o, dLen_s, dLen_l, dLen_t, dTup_d, dLst_d, truD_n, truD_b, truD_i, truD_s, truD_l, truD_t, dNot_b, dNeg_i, asInt_i, asBl_b, dSl_s, dSl_l, dSl_t, isStr_s, items_l, items_t, items_s, dInt_i, dInt_b, dIx_li, dIx_ti, dStarts_ss, dTuple_l, dTuple_t, aList_l, aList_t, dIn_cs, dNotIn_cs, valD_d, valB_d, valB_o, valB_w, ownOf_o, isi_int_n, isi_int_b, isi_int_i, isi_int_s, isi_int_l, isi_int_t, isi_int_d, isi_str_n, isi_str_b, isi_str_i, isi_str_s, isi_str_l, isi_str_t, isi_str_d, isi_bool_n, isi_bool_b, isi_bool_i, isi_bool_s, isi_bool_l, isi_bool_t, isi_bool_d, isi_list_n, isi_list_b, isi_list_i, isi_list_s, isi_list_l, isi_list_t, isi_list_d, isi_tuple_n, isi_tuple_b, isi_tuple_i, isi_tuple_s, isi_tuple_l, isi_tuple_t, isi_tuple_d, isi_dict_n, isi_dict_b, isi_dict_i, isi_dict_s, isi_dict_l, isi_dict_t, isi_dict_d, decide_eq_true_eq, Bool.not_eq_true, Bool.not_true, Bool.not_false, if_true, if_false, Bool.false_eq_true, and_true, true_and, decide_true, decide_false, ite_true, ite_false, reduceCtorEq]
    refine stepped_ok hp ?_
    rw [plc_congr (cl_step p t k c hc)]
    refine fits_loop hp u (k + 1) _ ?_ (by omega) h
    have := congrArg (List.drop 1) hd
    simpa [List.drop_drop] using this
theorem inD_nI (n : Nat) (l : List Nat) : dIn (.int (n : Int)) (.lst (nI l)) = some (.bl (decide (n ∈ l))) := by
  have hf : (nI l).all flatD = true := List.all_eq_true.mpr fun d hd => by
    obtain ⟨j, _, rfl⟩ := List.mem_map.mp hd
    rfl
  have e : dInB (.int (n : Int)) (.lst (nI l)) = some (inD (.int (n : Int)) (nI l)) := by
    show (if flatD (.int (n : Int)) = true ∧ (nI l).all flatD = true then some (inD (.int (n : Int)) (nI l)) else none) = _
    rw [if_pos ⟨rfl, hf⟩]
  unfold dIn
  rw [e]
  show some (D.bl (inD (.int (n : Int)) (nI l))) = _
  congr 2
  unfold inD nI
  rw [List.any_map, Bool.eq_iff_iff, List.any_eq_true, decide_eq_true_eq]
  constructor
  · rintro ⟨j, hj, e⟩
    have e : ((j : Int) == (n : Int)) = true := e
    rw [beq_iff_eq] at e
    rwa [show j = n by omega] at hj
  · intro h
    exact ⟨n, h, beq_iff_eq.mpr rfl⟩
theorem fits_ok {p t : List Nat} (hp : Small p) {g : Store} {Q : D → Store → Prop} (h : Q (.bl (gm p t p.length t.length)) g) : Ok (f_fits [.str p, .str t] g) Q := by
  unfold f_fits d_fits
  simp only [ok_forNil, ok_forCons, forK_nx, forK_ct, forK_bk, forK_rt, ok_eOp, ok_eUn, ok_aNil, ok_aCons, ok_eFn, ok_aFn, ok_eApp, ok_eC, ok_eL, ok_eSt, ok_eM1, ok_aM1, ok_oNone, ok_oSome, ok_eSl, ok_tOf, ok_tTru, ok_tNot, ok_tAnd, ok_tOr, ok_eAnd, ok_eOr, ok_eIf, ok_eChain, ok_eVar, ok_eVarB, ok_sSeq, seqK_rt, seqK_bk, seqK_ct, ok_sSet, ok_sRet, ok_sIf, ok_sNext, ok_sDrop, ok_sApp, ok_sFreeze, ok_sUnp, ok_sAug, ok_sFor, ok_aLcE, ok_aItems, runK_rt, runK_nx, ok_runD, okO_some, okO_map, valD_d, valB_d, valB_o, valB_w, ownOf_o, asInt_i, asBl_b, start3, frz, sets, tgName, tgTup, tgsCons, tgsNil, wipe3, List.set_cons_zero, List.set_cons_succ, List.getElem?_cons_zero, List.getElem?_cons_succ, List.map_cons, List.map_nil, List.length_cons, List.length_nil, List.cons_append, List.nil_append, List.replicate_succ, List.replicate_zero, Nat.reduceSub, Nat.reduceAdd, Nat.reduceLT, okO_if, dAddA_ii, dAddA_ss, dAddA_ll, dAddA_tt, dAdd_ii, dAdd_ss, dSub_ii, dMul_ii, dMul_si, dMod_ii, dDiv_ii, dLt_ii, dLt_ss, dLe_ii, dLe_ss, dGt_ii, dGt_ss, dGe_ii, dGe_ss, dEq_ii, dEq_ss, dEq_bb, dEq_nn, dEq_ns, dEq_sn, dEq_ni, dEq_in, dNe_ii, dNe_ss, dNe_bb, dNe_nn, dNe_ns, dNe_sn, dNe_ni, dNe_in, dIs_n, dIsNot_n, dIs_b, dIsNot_b, dIs_i, dIsNot_i, dIs_s, dIsNot_s, dIs_l, dIsNot_l, dIs_t, dIsNot_t, dIs_d, dIsNot_d, dIs_o, dIsNot_o, dLen_s, dLen_l, dLen_t, dTup_d, dLst_d, truD_n, truD_b, truD_i, truD_s, truD_l, truD_t, dNot_b, dNeg_i, asInt_i, asBl_b, dSl_s, dSl_l, dSl_t, isStr_s, items_l, items_t, items_s, dInt_i, dInt_b, dIx_li, dIx_ti, dStarts_ss, dTuple_l, dTuple_t, aList_l, aList_t, dIn_cs, dNotIn_cs, valD_d, valB_d, valB_o, valB_w, ownOf_o, isi_int_n, isi_int_b, isi_int_i, isi_int_s, isi_int_l, isi_int_t, isi_int_d, isi_str_n, isi_str_b, isi_str_i, isi_str_s, isi_str_l, isi_str_t, isi_str_d, isi_bool_n, isi_bool_b, isi_bool_i, isi_bool_s, isi_bool_l, isi_bool_t, isi_bool_d, isi_list_n, isi_list_b, isi_list_i, isi_list_s, isi_list_l, isi_list_t, isi_list_d, isi_tuple_n, isi_tuple_b, isi_tuple_i, isi_tuple_s, isi_tuple_l, isi_tuple_t, isi_tuple_d, isi_dict_n, isi_dict_b, isi_dict_i, isi_dict_s, isi_dict_l, isi_dict_t, isi_dict_d, decide_eq_true_eq, Bool.not_eq_true, Bool.not_true, Bool.not_false, if_true, if_false, Bool.false_eq_true, and_true, true_and, decide_true, decide_false, ite_true, ite_false, reduceCtorEq]
  refine ⟨by decide, ?_⟩
  refine over_ok hp (ns := [0]) (by simp) (by simp) ?_
  rw [seqK_nx, plc_congr fun j _ => cl_init p t j]
  simp only [ok_forNil, ok_forCons, forK_nx, forK_ct, forK_bk, forK_rt, ok_eOp, ok_eUn, ok_aNil, ok_aCons, ok_eFn, ok_aFn, ok_eApp, ok_eC, ok_eL, ok_eSt, ok_eM1, ok_aM1, ok_oNone, ok_oSome, ok_eSl, ok_tOf, ok_tTru, ok_tNot, ok_tAnd, ok_tOr, ok_eAnd, ok_eOr, ok_eIf, ok_eChain, ok_eVar, ok_eVarB, ok_sSeq, seqK_rt, seqK_bk, seqK_ct, ok_sSet, ok_sRet, ok_sIf, ok_sNext, ok_sDrop, ok_sApp, ok_sFreeze, ok_sUnp, ok_sAug, ok_sFor, ok_aLcE, ok_aItems, runK_rt, runK_nx, ok_runD, okO_some, okO_map, valD_d, valB_d, valB_o, valB_w, ownOf_o, asInt_i, asBl_b, start3, frz, sets, tgName, tgTup, tgsCons, tgsNil, wipe3, List.set_cons_zero, List.set_cons_succ, List.getElem?_cons_zero, List.getElem?_cons_succ, List.map_cons, List.map_nil, List.length_cons, List.length_nil, List.cons_append, List.nil_append, List.replicate_succ, List.replicate_zero, Nat.reduceSub, Nat.reduceAdd, Nat.reduceLT, okO_if, dAddA_ii, dAddA_ss, dAddA_ll, dAddA_tt, dAdd_ii, dAdd_ss, dSub_ii, dMul_ii, dMul_si, dMod_ii, dDiv_ii, dLt_ii, dLt_ss, dLe_ii, dLe_ss, dGt_ii, dGt_ss, dGe_ii, dGe_ss, dEq_ii, dEq_ss, dEq_bb, dEq_nn, dEq_ns, dEq_sn, dEq_ni, dEq_in, dNe_ii, dNe_ss, dNe_bb, dNe_nn, dNe_ns, dNe_sn, dNe_ni, dNe_in, dIs_n, dIsNot_n, dIs_b, dIsNot_b, dIs_i, dIsNot_i, dIs_s, dIsNot_s, dIs_l, dIsNot_l, dIs_t, dIsNot_t, dIs_d, dIsNot_d, dIs_o, dIsNot_o, dLen_s, dLen_l, dLen_t, dTup_d, dLst_d, truD_n, truD_b, truD_i, truD_s, truD_l, truD_t, dNot_b, dNeg_i, asInt_i, asBl_b, dSl_s, dSl_l, dSl_t, isStr_s, items_l, items_t, items_s, dInt_i, dInt_b, dIx_li, dIx_ti, dStarts_ss, dTuple_l, dTuple_t, aList_l, aList_t, dIn_cs, dNotIn_cs, valD_d, valB_d, valB_o, valB_w, ownOf_o, isi_int_n, isi_int_b, isi_int_i, isi_int_s, isi_int_l, isi_int_t, isi_int_d, isi_str_n, isi_str_b, isi_str_i, isi_str_s, isi_str_l, isi_str_t, isi_str_d, isi_bool_n, isi_bool_b, isi_bool_i, isi_bool_s, isi_bool_l, isi_bool_t, isi_bool_d, isi_list_n, isi_list_b, isi_list_i, isi_list_s, isi_list_l, isi_list_t, isi_list_d, isi_tuple_n, isi_tuple_b, isi_tuple_i, isi_tuple_s, isi_tuple_l, isi_tuple_t, isi_tuple_d, isi_dict_n, isi_dict_b, isi_dict_i, isi_dict_s, isi_dict_l, isi_dict_t, isi_dict_d, decide_eq_true_eq, Bool.not_eq_true, Bool.not_true, Bool.not_false, if_true, if_false, Bool.false_eq_true, and_true, true_and, decide_true, decide_false, ite_true, ite_false, reduceCtorEq]
  refine fits_loop hp t 0 none rfl (Nat.zero_le _) fun b => ?_
  rw [seqK_nx]
  simp only [ok_forNil, ok_forCons, forK_nx, forK_ct, forK_bk, forK_rt, ok_eOp, ok_eUn, ok_aNil, ok_aCons, ok_eFn, ok_aFn, ok_eApp, ok_eC, ok_eL, ok_eSt, ok_eM1, ok_aM1, ok_oNone, ok_oSome, ok_eSl, ok_tOf, ok_tTru, ok_tNot, ok_tAnd, ok_tOr, ok_eAnd, ok_eOr, ok_eIf, ok_eChain, ok_eVar, ok_eVarB, ok_sSeq, seqK_rt, seqK_bk, seqK_ct, ok_sSet, ok_sRet, ok_sIf, ok_sNext, ok_sDrop, ok_sApp, ok_sFreeze, ok_sUnp, ok_sAug, ok_sFor, ok_aLcE, ok_aItems, runK_rt, runK_nx, ok_runD, okO_some, okO_map, valD_d, valB_d, valB_o, valB_w, ownOf_o, asInt_i, asBl_b, start3, frz, sets, tgName, tgTup, tgsCons, tgsNil, wipe3, List.set_cons_zero, List.set_cons_succ, List.getElem?_cons_zero, List.getElem?_cons_succ, List.map_cons, List.map_nil, List.length_cons, List.length_nil, List.cons_append, List.nil_append, List.replicate_succ, List.replicate_zero, Nat.reduceSub, Nat.reduceAdd, Nat.reduceLT, okO_if, dAddA_ii, dAddA_ss, dAddA_ll, dAddA_tt, dAdd_ii, dAdd_ss, dSub_ii, dMul_ii, dMul_si, dMod_ii, dDiv_ii, dLt_ii, dLt_ss, dLe_ii, dLe_ss, dGt_ii, dGt_ss, dGe_ii, dGe_ss, dEq_ii, dEq_ss, dEq_bb, dEq_nn, dEq_ns, dEq_sn, dEq_ni, dEq_in, dNe_ii, dNe_ss, dNe_bb, dNe_nn, dNe_ns, dNe_sn, dNe_ni, dNe_in, dIs_n, dIsNot_n, dIs_b, dIsNot_b, dIs_i, dIsNot_i, dIs_s, dIsNot_s, dIs_l, dIsNot_l, dIs_t, dIsNot_t, dIs_d, dIsNot_d, dIs_o, dIsNot_o, dLen_s, dLen_l, dLen_t, dTup_d, dLst_d, truD_n, truD_b, truD_i, truD_s, truD_l, truD_t, dNot_b, dNeg_i, asInt_i, asBl_b, dSl_s, dSl_l, dSl_t, isStr_s, items_l, items_t, items_s, dInt_i, dInt_b, dIx_li, dIx_ti, dStarts_ss, dTuple_l, dTuple_t, aList_l, aList_t, dIn_cs, dNotIn_cs, valD_d, valB_d, valB_o, valB_w, ownOf_o, isi_int_n, isi_int_b, isi_int_i, isi_int_s, isi_int_l, isi_int_t, isi_int_d, isi_str_n, isi_str_b, isi_str_i, isi_str_s, isi_str_l, isi_str_t, isi_str_d, isi_bool_n, isi_bool_b, isi_bool_i, isi_bool_s, isi_bool_l, isi_bool_t, isi_bool_d, isi_list_n, isi_list_b, isi_list_i, isi_list_s, isi_list_l, isi_list_t, isi_list_d, isi_tuple_n, isi_tuple_b, isi_tuple_i, isi_tuple_s, isi_tuple_l, isi_tuple_t, isi_tuple_d, isi_dict_n, isi_dict_b, isi_dict_i, isi_dict_s, isi_dict_l, isi_dict_t, isi_dict_d, decide_eq_true_eq, Bool.not_eq_true, Bool.not_true, Bool.not_false, if_true, if_false, Bool.false_eq_true, and_true, true_and, decide_true, decide_false, ite_true, ite_false, reduceCtorEq]
  refine ⟨by have := hp.1; unfold BIG; omega, _, inD_nI _ _, ?_⟩
  have e : decide (p.length ∈ plc p.length (hS p t t.length)) = gm p t p.length t.length := by
    rw [Bool.eq_iff_iff, decide_eq_true_eq, plc_mem, hS_end]
    simp
  rw [e]
  exact h
end W

namespace W
open L3
open L2 (atI ixN)
theorem range_nI (n : Nat) : rangeD 0 n = nI (List.range n) := by
  unfold rangeD nI
  exact List.map_congr_left fun i _ => by rw [Int.zero_add]
theorem range1_nI {m : Nat} (h : m ≤ 100000) : dRange1 [.int ((m : Int) + 1)] = some (nI (List.range (m + 1))) := by
  unfold dRange1
  dsimp only
  rw [if_pos ⟨by omega, by omega⟩, show ((m : Int) + 1).toNat = m + 1 by omega, range_nI]
/-- the first n of row i -/
def rowD (p t : List Nat) (i n : Nat) : List D := (List.range n).map fun k => .bl (gm p t i k)
theorem rowD_len (p t : List Nat) (i n : Nat) : (rowD p t i n).length = n := by unfold rowD; simp
theorem rowD_at {p t : List Nat} {i n k : Nat} (h : k < n) : (rowD p t i n)[k]? = some (.bl (gm p t i k)) := by
  unfold rowD
  rw [List.getElem?_map, List.getElem?_range h]
  rfl
theorem rowD_succ (p t : List Nat) (i n : Nat) : rowD p t i (n + 1) = rowD p t i n ++ [.bl (gm p t i n)] := by
  unfold rowD
  rw [List.range_succ, List.map_append]
  rfl
theorem row_ix {p t : List Nat} {i n k : Nat} (h : k < n) : dIx (.lst (rowD p t i n)) (.int (k : Int)) = some (.bl (gm p t i k)) := by
  rw [dIx_li]
  exact atI_nat (rowD_at h)
theorem inner_ok (p t : List Nat) (i c : Nat) (hc : p[i]? = some c) (ht : t.length ≤ 1000) {a : Option SV} {g : Store} {Q : Out → Store → Prop} : ∀ (r k : Nat) (b5 b6 : Option SV), k + r = t.length + 1 →
    (∀ b5 b6, Q (.nx [a, some (.d (.str t)), some (.d (.lst (rowD p t i (t.length + 1)))), some (.d (.str [c])), some (.own (rowD p t (i + 1) (t.length + 1))), b5, b6]) g) →
    Ok (forD (tgName 5) lb__law_is_0 (nI (List.range' k r)) [a, some (.d (.str t)), some (.d (.lst (rowD p t i (t.length + 1)))), some (.d (.str [c])), some (.own (rowD p t (i + 1) k)), b5, b6] g) Q
  | 0, k, b5, b6, hk, h => by
    show Ok (forD _ _ [] _ _) _
    rw [ok_forNil, show k = t.length + 1 by omega]
    exact h b5 b6
  | r + 1, k, b5, b6, hk, h => by
    have next : ∀ v, v = gm p t (i + 1) k → Ok (forD (tgName 5) lb__law_is_0 (nI (List.range' (k + 1) r)) [a, some (.d (.str t)), some (.d (.lst (rowD p t i (t.length + 1)))), some (.d (.str [c])), some (.own (rowD p t (i + 1) k ++ [.bl v])), some (.d (.int (k : Int))), some (.d (.bl v))] g) Q := by
      intro v e
      subst e
      have := inner_ok p t i c hc ht (a := a) (g := g) (Q := Q) r (k + 1) (some (.d (.int (k : Int)))) (some (.d (.bl (gm p t (i + 1) k)))) (by omega) h
      rw [rowD_succ p t (i + 1) k] at this
      exact this
    have hlen : (rowD p t (i + 1) k).length < BIG := by rw [rowD_len]; unfold BIG; omega
    have cut : ∀ (b5 b6 : Option SV) (v : Bool), v = gm p t (i + 1) k → seqK (sApp 4 (eVar 6)) (forK (tgName 5) lb__law_is_0 (nI (List.range' (k + 1) r)) Q) (.nx [a, some (.d (.str t)), some (.d (.lst (rowD p t i (t.length + 1)))), some (.d (.str [c])), some (.own (rowD p t (i + 1) k)), some (.d (.int (k : Int))), some (.d (.bl v))]) g := by
      intro _ _ v e
      rw [seqK_nx]
      simp only [ok_forNil, ok_forCons, forK_nx, forK_ct, forK_bk, forK_rt, ok_eOp, ok_eUn, ok_aNil, ok_aCons, ok_eFn, ok_aFn, ok_eApp, ok_eC, ok_eL, ok_eSt, ok_eM1, ok_aM1, ok_oNone, ok_oSome, ok_eSl, ok_tOf, ok_tTru, ok_tNot, ok_tAnd, ok_tOr, ok_eAnd, ok_eOr, ok_eIf, ok_eChain, ok_eVar, ok_eVarB, ok_sSeq, seqK_rt, seqK_bk, seqK_ct, ok_sSet, ok_sRet, ok_sIf, ok_sNext, ok_sDrop, ok_sApp, ok_sFreeze, ok_sUnp, ok_sAug, ok_sFor, ok_aLcE, ok_aItems, runK_rt, runK_nx, ok_runD, okO_some, okO_map, valD_d, valB_d, valB_o, valB_w, ownOf_o, asInt_i, asBl_b, start3, frz, sets, tgName, tgTup, tgsCons, tgsNil, wipe3, List.set_cons_zero, List.set_cons_succ, List.getElem?_cons_zero, List.getElem?_cons_succ, List.map_cons, List.map_nil, List.length_cons, List.length_nil, List.cons_append, List.nil_append, List.replicate_succ, List.replicate_zero, Nat.reduceSub, Nat.reduceAdd, Nat.reduceLT, okO_if, dAddA_ii, dAddA_ss, dAddA_ll, dAddA_tt, dAdd_ii, dAdd_ss, dSub_ii, dMul_ii, dMul_si, dMod_ii, dDiv_ii, dLt_ii, dLt_ss, dLe_ii, dLe_ss, dGt_ii, dGt_ss, dGe_ii, dGe_ss, dEq_ii, dEq_ss, dEq_bb, dEq_nn, dEq_ns, dEq_sn, dEq_ni, dEq_in, dNe_ii, dNe_ss, dNe_bb, dNe_nn, dNe_ns, dNe_sn, dNe_ni, dNe_in, dIs_n, dIsNot_n, dIs_b, dIsNot_b, dIs_i, dIsNot_i, dIs_s, dIsNot_s, dIs_l, dIsNot_l, dIs_t, dIsNot_t, dIs_d, dIsNot_d, dIs_o, dIsNot_o, dLen_s, dLen_l, dLen_t, dTup_d, dLst_d, truD_n, truD_b, truD_i, truD_s, truD_l, truD_t, dNot_b, dNeg_i, asInt_i, asBl_b, dSl_s, dSl_l, dSl_t, isStr_s, items_l, items_t, items_s, dInt_i, dInt_b, dIx_li, dIx_ti, dStarts_ss, dTuple_l, dTuple_t, aList_l, aList_t, dIn_cs, dNotIn_cs, valD_d, valB_d, valB_o, valB_w, ownOf_o, isi_int_n, isi_int_b, isi_int_i, isi_int_s, isi_int_l, isi_int_t, isi_int_d, isi_str_n, isi_str_b, isi_str_i, isi_str_s, isi_str_l, isi_str_t, isi_str_d, isi_bool_n, isi_bool_b, isi_bool_i, isi_bool_s, isi_bool_l, isi_bool_t, isi_bool_d, isi_list_n, isi_list_b, isi_list_i, isi_list_s, isi_list_l, isi_list_t, isi_list_d, isi_tuple_n, isi_tuple_b, isi_tuple_i, isi_tuple_s, isi_tuple_l, isi_tuple_t, isi_tuple_d, isi_dict_n, isi_dict_b, isi_dict_i, isi_dict_s, isi_dict_l, isi_dict_t, isi_dict_d, decide_eq_true_eq, Bool.not_eq_true, Bool.not_true, Bool.not_false, if_true, if_false, Bool.false_eq_true, and_true, true_and, decide_true, decide_false, ite_true, ite_false, reduceCtorEq]
      exact ⟨hlen, next v e⟩
    rw [List.range'_succ]
    show Ok (forD _ _ (D.int (k : Int) :: nI (List.range' (k + 1) r)) _ _) _
    rw [ok_forCons]
    refine ⟨_, rfl, ?_⟩
    unfold lb__law_is_0
    simp only [ok_forNil, ok_forCons, forK_nx, forK_ct, forK_bk, forK_rt, ok_eOp, ok_eUn, ok_aNil, ok_aCons, ok_eFn, ok_aFn, ok_eApp, ok_eC, ok_eL, ok_eSt, ok_eM1, ok_aM1, ok_oNone, ok_oSome, ok_eSl, ok_tOf, ok_tTru, ok_tNot, ok_tAnd, ok_tOr, ok_eAnd, ok_eOr, ok_eIf, ok_eChain, ok_eVar, ok_eVarB, ok_sSeq, seqK_rt, seqK_bk, seqK_ct, ok_sSet, ok_sRet, ok_sIf, ok_sNext, ok_sDrop, ok_sApp, ok_sFreeze, ok_sUnp, ok_sAug, ok_sFor, ok_aLcE, ok_aItems, runK_rt, runK_nx, ok_runD, okO_some, okO_map, valD_d, valB_d, valB_o, valB_w, ownOf_o, asInt_i, asBl_b, start3, frz, sets, tgName, tgTup, tgsCons, tgsNil, wipe3, List.set_cons_zero, List.set_cons_succ, List.getElem?_cons_zero, List.getElem?_cons_succ, List.map_cons, List.map_nil, List.length_cons, List.length_nil, List.cons_append, List.nil_append, List.replicate_succ, List.replicate_zero, Nat.reduceSub, Nat.reduceAdd, Nat.reduceLT, okO_if, dAddA_ii, dAddA_ss, dAddA_ll, dAddA_tt, dAdd_ii, dAdd_ss, dSub_ii, dMul_ii, dMul_si, dMod_ii, dDiv_ii, dLt_ii, dLt_ss, dLe_ii, dLe_ss, dGt_ii, dGt_ss, dGe_ii, dGe_ss, dEq_ii, dEq_ss, dEq_bb, dEq_nn, dEq_ns, dEq_sn, dEq_ni, dEq_in, dNe_ii, dNe_ss, dNe_bb, dNe_nn, dNe_ns, dNe_sn, dNe_ni, dNe_in, dIs_n, dIsNot_n, dIs_b, dIsNot_b, dIs_i, dIsNot_i, dIs_s, dIsNot_s, dIs_l, dIsNot_l, dIs_t, dIsNot_t, dIs_d, dIsNot_d, dIs_o, dIsNot_o, dLen_s, dLen_l, dLen_t, dTup_d, dLst_d, truD_n, truD_b, truD_i, truD_s, truD_l, truD_t, dNot_b, dNeg_i, asInt_i, asBl_b, dSl_s, dSl_l, dSl_t, isStr_s, items_l, items_t, items_s, dInt_i, dInt_b, dIx_li, dIx_ti, dStarts_ss, dTuple_l, dTuple_t, aList_l, aList_t, dIn_cs, dNotIn_cs, valD_d, valB_d, valB_o, valB_w, ownOf_o, isi_int_n, isi_int_b, isi_int_i, isi_int_s, isi_int_l, isi_int_t, isi_int_d, isi_str_n, isi_str_b, isi_str_i, isi_str_s, isi_str_l, isi_str_t, isi_str_d, isi_bool_n, isi_bool_b, isi_bool_i, isi_bool_s, isi_bool_l, isi_bool_t, isi_bool_d, isi_list_n, isi_list_b, isi_list_i, isi_list_s, isi_list_l, isi_list_t, isi_list_d, isi_tuple_n, isi_tuple_b, isi_tuple_i, isi_tuple_s, isi_tuple_l, isi_tuple_t, isi_tuple_d, isi_dict_n, isi_dict_b, isi_dict_i, isi_dict_s, isi_dict_l, isi_dict_t, isi_dict_d, decide_eq_true_eq, Bool.not_eq_true, Bool.not_true, Bool.not_false, if_true, if_false, Bool.false_eq_true, and_true, true_and, decide_true, decide_false, ite_true, ite_false, reduceCtorEq]
    rw [seqK_nx]
    simp only [ok_forNil, ok_forCons, forK_nx, forK_ct, forK_bk, forK_rt, ok_eOp, ok_eUn, ok_aNil, ok_aCons, ok_eFn, ok_aFn, ok_eApp, ok_eC, ok_eL, ok_eSt, ok_eM1, ok_aM1, ok_oNone, ok_oSome, ok_eSl, ok_tOf, ok_tTru, ok_tNot, ok_tAnd, ok_tOr, ok_eAnd, ok_eOr, ok_eIf, ok_eChain, ok_eVar, ok_eVarB, ok_sSeq, seqK_rt, seqK_bk, seqK_ct, ok_sSet, ok_sRet, ok_sIf, ok_sNext, ok_sDrop, ok_sApp, ok_sFreeze, ok_sUnp, ok_sAug, ok_sFor, ok_aLcE, ok_aItems, runK_rt, runK_nx, ok_runD, okO_some, okO_map, valD_d, valB_d, valB_o, valB_w, ownOf_o, asInt_i, asBl_b, start3, frz, sets, tgName, tgTup, tgsCons, tgsNil, wipe3, List.set_cons_zero, List.set_cons_succ, List.getElem?_cons_zero, List.getElem?_cons_succ, List.map_cons, List.map_nil, List.length_cons, List.length_nil, List.cons_append, List.nil_append, List.replicate_succ, List.replicate_zero, Nat.reduceSub, Nat.reduceAdd, Nat.reduceLT, okO_if, dAddA_ii, dAddA_ss, dAddA_ll, dAddA_tt, dAdd_ii, dAdd_ss, dSub_ii, dMul_ii, dMul_si, dMod_ii, dDiv_ii, dLt_ii, dLt_ss, dLe_ii, dLe_ss, dGt_ii, dGt_ss, dGe_ii, dGe_ss, dEq_ii, dEq_ss, dEq_bb, dEq_nn, dEq_ns, dEq_sn, dEq_ni, dEq_in, dNe_ii, dNe_ss, dNe_bb, dNe_nn, dNe_ns, dNe_sn, dNe_ni, dNe_in, dIs_n, dIsNot_n, dIs_b, dIsNot_b, dIs_i, dIsNot_i, dIs_s, dIsNot_s, dIs_l, dIsNot_l, dIs_t, dIsNot_t, dIs_d, dIsNot_d, dIs_o, dIsNot_o, dLen_s, dLen_l, dLen_t, dTup_d, dLst_d, truD_n, truD_b, truD_i, truD_s, truD_l, truD_t, dNot_b, dNeg_i, asInt_i, asBl_b, dSl_s, dSl_l, dSl_t, isStr_s, items_l, items_t, items_s, dInt_i, dInt_b, dIx_li, dIx_ti, dStarts_ss, dTuple_l, dTuple_t, aList_l, aList_t, dIn_cs, dNotIn_cs, valD_d, valB_d, valB_o, valB_w, ownOf_o, isi_int_n, isi_int_b, isi_int_i, isi_int_s, isi_int_l, isi_int_t, isi_int_d, isi_str_n, isi_str_b, isi_str_i, isi_str_s, isi_str_l, isi_str_t, isi_str_d, isi_bool_n, isi_bool_b, isi_bool_i, isi_bool_s, isi_bool_l, isi_bool_t, isi_bool_d, isi_list_n, isi_list_b, isi_list_i, isi_list_s, isi_list_l, isi_list_t, isi_list_d, isi_tuple_n, isi_tuple_b, isi_tuple_i, isi_tuple_s, isi_tuple_l, isi_tuple_t, isi_tuple_d, isi_dict_n, isi_dict_b, isi_dict_i, isi_dict_s, isi_dict_l, isi_dict_t, isi_dict_d, decide_eq_true_eq, Bool.not_eq_true, Bool.not_true, Bool.not_false, if_true, if_false, Bool.false_eq_true, and_true, true_and, decide_true, decide_false, ite_true, ite_false, reduceCtorEq]
    by_cases h42 : c = 42
    · subst h42
      have hs : star p i = true := decide_eq_true hc
      rw [if_pos rfl]
      refine ⟨_, row_ix (by omega), ?_⟩
      simp only [ok_forNil, ok_forCons, forK_nx, forK_ct, forK_bk, forK_rt, ok_eOp, ok_eUn, ok_aNil, ok_aCons, ok_eFn, ok_aFn, ok_eApp, ok_eC, ok_eL, ok_eSt, ok_eM1, ok_aM1, ok_oNone, ok_oSome, ok_eSl, ok_tOf, ok_tTru, ok_tNot, ok_tAnd, ok_tOr, ok_eAnd, ok_eOr, ok_eIf, ok_eChain, ok_eVar, ok_eVarB, ok_sSeq, seqK_rt, seqK_bk, seqK_ct, ok_sSet, ok_sRet, ok_sIf, ok_sNext, ok_sDrop, ok_sApp, ok_sFreeze, ok_sUnp, ok_sAug, ok_sFor, ok_aLcE, ok_aItems, runK_rt, runK_nx, ok_runD, okO_some, okO_map, valD_d, valB_d, valB_o, valB_w, ownOf_o, asInt_i, asBl_b, start3, frz, sets, tgName, tgTup, tgsCons, tgsNil, wipe3, List.set_cons_zero, List.set_cons_succ, List.getElem?_cons_zero, List.getElem?_cons_succ, List.map_cons, List.map_nil, List.length_cons, List.length_nil, List.cons_append, List.nil_append, List.replicate_succ, List.replicate_zero, Nat.reduceSub, Nat.reduceAdd, Nat.reduceLT, okO_if, dAddA_ii, dAddA_ss, dAddA_ll, dAddA_tt, dAdd_ii, dAdd_ss, dSub_ii, dMul_ii, dMul_si, dMod_ii, dDiv_ii, dLt_ii, dLt_ss, dLe_ii, dLe_ss, dGt_ii, dGt_ss, dGe_ii, dGe_ss, dEq_ii, dEq_ss, dEq_bb, dEq_nn, dEq_ns, dEq_sn, dEq_ni, dEq_in, dNe_ii, dNe_ss, dNe_bb, dNe_nn, dNe_ns, dNe_sn, dNe_ni, dNe_in, dIs_n, dIsNot_n, dIs_b, dIsNot_b, dIs_i, dIsNot_i, dIs_s, dIsNot_s, dIs_l, dIsNot_l, dIs_t, dIsNot_t, dIs_d, dIsNot_d, dIs_o, dIsNot_o, dLen_s, dLen_l, dLen_t, dTup_d, dLst_d, truD_n, truD_b, truD_i, truD_s, truD_l, truD_t, dNot_b, dNeg_i, asInt_i, asBl_b, dSl_s, dSl_l, dSl_t, isStr_s, items_l, items_t, items_s, dInt_i, dInt_b, dIx_li, dIx_ti, dStarts_ss, dTuple_l, dTuple_t, aList_l, aList_t, dIn_cs, dNotIn_cs, valD_d, valB_d, valB_o, valB_w, ownOf_o, isi_int_n, isi_int_b, isi_int_i, isi_int_s, isi_int_l, isi_int_t, isi_int_d, isi_str_n, isi_str_b, isi_str_i, isi_str_s, isi_str_l, isi_str_t, isi_str_d, isi_bool_n, isi_bool_b, isi_bool_i, isi_bool_s, isi_bool_l, isi_bool_t, isi_bool_d, isi_list_n, isi_list_b, isi_list_i, isi_list_s, isi_list_l, isi_list_t, isi_list_d, isi_tuple_n, isi_tuple_b, isi_tuple_i, isi_tuple_s, isi_tuple_l, isi_tuple_t, isi_tuple_d, isi_dict_n, isi_dict_b, isi_dict_i, isi_dict_s, isi_dict_l, isi_dict_t, isi_dict_d, decide_eq_true_eq, Bool.not_eq_true, Bool.not_true, Bool.not_false, if_true, if_false, Bool.false_eq_true, and_true, true_and, decide_true, decide_false, ite_true, ite_false, reduceCtorEq]
      cases k with
      | zero =>
        have e0 : gm p t (i + 1) 0 = gm p t i 0 := by rw [gm_s0, hs, Bool.true_and]
        cases q : gm p t i 0 with
        | true =>
          simp only [if_true]
          exact cut b5 b6 true (by rw [e0, q])
        | false =>
          simp
          exact cut b5 b6 false (by rw [e0, q])
      | succ k =>
        have e1 := gm_star (p := p) (t := t) (i := i) k hs
        cases q : gm p t i (k + 1) with
        | true =>
          simp only [if_true]
          exact cut b5 b6 true (by rw [e1, q, Bool.true_or])
        | false =>
          rw [if_neg (by simp), if_pos (by omega), show ((k + 1 : Nat) : Int) - 1 = (k : Int) by omega]
          refine ⟨_, row_ix (by omega), ?_⟩
          exact cut b5 b6 _ (by rw [e1, q, Bool.false_or])
    · have hs : star p i = false := decide_eq_false (by rw [hc]; simpa using h42)
      rw [if_neg (by simpa using h42)]
      cases k with
      | zero =>
        rw [if_neg (by simp)]
        exact cut b5 b6 false (by rw [gm_s0, hs, Bool.false_and])
      | succ k =>
        have e1 := gm_no (p := p) (t := t) (i := i) k hs
        have hk1 : k < t.length := by omega
        have et : t.getD k 0 = t[k] := by rw [List.getD_eq_getElem?_getD, List.getElem?_eq_getElem hk1]; rfl
        have eo : okc p (t.getD k 0) i = (decide (c = 63) || decide (c = t[k])) := by unfold okc; rw [hc, et]; simp
        rw [if_pos (by omega), show ((k + 1 : Nat) : Int) - 1 = (k : Int) by omega]
        refine ⟨_, row_ix (by omega), ?_⟩
        simp only [ok_forNil, ok_forCons, forK_nx, forK_ct, forK_bk, forK_rt, ok_eOp, ok_eUn, ok_aNil, ok_aCons, ok_eFn, ok_aFn, ok_eApp, ok_eC, ok_eL, ok_eSt, ok_eM1, ok_aM1, ok_oNone, ok_oSome, ok_eSl, ok_tOf, ok_tTru, ok_tNot, ok_tAnd, ok_tOr, ok_eAnd, ok_eOr, ok_eIf, ok_eChain, ok_eVar, ok_eVarB, ok_sSeq, seqK_rt, seqK_bk, seqK_ct, ok_sSet, ok_sRet, ok_sIf, ok_sNext, ok_sDrop, ok_sApp, ok_sFreeze, ok_sUnp, ok_sAug, ok_sFor, ok_aLcE, ok_aItems, runK_rt, runK_nx, ok_runD, okO_some, okO_map, valD_d, valB_d, valB_o, valB_w, ownOf_o, asInt_i, asBl_b, start3, frz, sets, tgName, tgTup, tgsCons, tgsNil, wipe3, List.set_cons_zero, List.set_cons_succ, List.getElem?_cons_zero, List.getElem?_cons_succ, List.map_cons, List.map_nil, List.length_cons, List.length_nil, List.cons_append, List.nil_append, List.replicate_succ, List.replicate_zero, Nat.reduceSub, Nat.reduceAdd, Nat.reduceLT, okO_if, dAddA_ii, dAddA_ss, dAddA_ll, dAddA_tt, dAdd_ii, dAdd_ss, dSub_ii, dMul_ii, dMul_si, dMod_ii, dDiv_ii, dLt_ii, dLt_ss, dLe_ii, dLe_ss, dGt_ii, dGt_ss, dGe_ii, dGe_ss, dEq_ii, dEq_ss, dEq_bb, dEq_nn, dEq_ns, dEq_sn, dEq_ni, dEq_in, dNe_ii, dNe_ss, dNe_bb, dNe_nn, dNe_ns, dNe_sn, dNe_ni, dNe_in, dIs_n, dIsNot_n, dIs_b, dIsNot_b, dIs_i, dIsNot_i, dIs_s, dIsNot_s, dIs_l, dIsNot_l, dIs_t, dIsNot_t, dIs_d, dIsNot_d, dIs_o, dIsNot_o, dLen_s, dLen_l, dLen_t, dTup_d, dLst_d, truD_n, truD_b, truD_i, truD_s, truD_l, truD_t, dNot_b, dNeg_i, asInt_i, asBl_b, dSl_s, dSl_l, dSl_t, isStr_s, items_l, items_t, items_s, dInt_i, dInt_b, dIx_li, dIx_ti, dStarts_ss, dTuple_l, dTuple_t, aList_l, aList_t, dIn_cs, dNotIn_cs, valD_d, valB_d, valB_o, valB_w, ownOf_o, isi_int_n, isi_int_b, isi_int_i, isi_int_s, isi_int_l, isi_int_t, isi_int_d, isi_str_n, isi_str_b, isi_str_i, isi_str_s, isi_str_l, isi_str_t, isi_str_d, isi_bool_n, isi_bool_b, isi_bool_i, isi_bool_s, isi_bool_l, isi_bool_t, isi_bool_d, isi_list_n, isi_list_b, isi_list_i, isi_list_s, isi_list_l, isi_list_t, isi_list_d, isi_tuple_n, isi_tuple_b, isi_tuple_i, isi_tuple_s, isi_tuple_l, isi_tuple_t, isi_tuple_d, isi_dict_n, isi_dict_b, isi_dict_i, isi_dict_s, isi_dict_l, isi_dict_t, isi_dict_d, decide_eq_true_eq, Bool.not_eq_true, Bool.not_true, Bool.not_false, if_true, if_false, Bool.false_eq_true, and_true, true_and, decide_true, decide_false, ite_true, ite_false, reduceCtorEq]
        cases q : gm p t i k with
        | false =>
          simp only [Bool.false_eq_true, if_false]
          exact cut b5 b6 false (by rw [e1, q, Bool.false_and])
        | true =>
          simp only [if_true]
          by_cases h63 : c = 63
          · subst h63
            simp only [decide_true, if_true]
            exact cut b5 b6 true (by rw [e1, q, eo]; simp)
          · rw [if_neg (by simpa using h63)]
            refine ⟨_, ix_str (by omega) hk1, ?_⟩
            simp only [ok_forNil, ok_forCons, forK_nx, forK_ct, forK_bk, forK_rt, ok_eOp, ok_eUn, ok_aNil, ok_aCons, ok_eFn, ok_aFn, ok_eApp, ok_eC, ok_eL, ok_eSt, ok_eM1, ok_aM1, ok_oNone, ok_oSome, ok_eSl, ok_tOf, ok_tTru, ok_tNot, ok_tAnd, ok_tOr, ok_eAnd, ok_eOr, ok_eIf, ok_eChain, ok_eVar, ok_eVarB, ok_sSeq, seqK_rt, seqK_bk, seqK_ct, ok_sSet, ok_sRet, ok_sIf, ok_sNext, ok_sDrop, ok_sApp, ok_sFreeze, ok_sUnp, ok_sAug, ok_sFor, ok_aLcE, ok_aItems, runK_rt, runK_nx, ok_runD, okO_some, okO_map, valD_d, valB_d, valB_o, valB_w, ownOf_o, asInt_i, asBl_b, start3, frz, sets, tgName, tgTup, tgsCons, tgsNil, wipe3, List.set_cons_zero, List.set_cons_succ, List.getElem?_cons_zero, List.getElem?_cons_succ, List.map_cons, List.map_nil, List.length_cons, List.length_nil, List.cons_append, List.nil_append, List.replicate_succ, List.replicate_zero, Nat.reduceSub, Nat.reduceAdd, Nat.reduceLT, okO_if, dAddA_ii, dAddA_ss, dAddA_ll, dAddA_tt, dAdd_ii, dAdd_ss, dSub_ii, dMul_ii, dMul_si, dMod_ii, dDiv_ii, dLt_ii, dLt_ss, dLe_ii, dLe_ss, dGt_ii, dGt_ss, dGe_ii, dGe_ss, dEq_ii, dEq_ss, dEq_bb, dEq_nn, dEq_ns, dEq_sn, dEq_ni, dEq_in, dNe_ii, dNe_ss, dNe_bb, dNe_nn, dNe_ns, dNe_sn, dNe_ni, dNe_in, dIs_n, dIsNot_n, dIs_b, dIsNot_b, dIs_i, dIsNot_i, dIs_s, dIsNot_s, dIs_l, dIsNot_l, dIs_t, dIsNot_t, dIs_d, dIsNot_d, dIs_o, dIsNot_o, dLen_s, dLen_l, dLen_t, dTup_d, dLst_d, truD_n, truD_b, truD_i, truD_s, truD_l, truD_t, dNot_b, dNeg_i, asInt_i, asBl_b, dSl_s, dSl_l, dSl_t, isStr_s, items_l, items_t, items_s, dInt_i, dInt_b, dIx_li, dIx_ti, dStarts_ss, dTuple_l, dTuple_t, aList_l, aList_t, dIn_cs, dNotIn_cs, valD_d, valB_d, valB_o, valB_w, ownOf_o, isi_int_n, isi_int_b, isi_int_i, isi_int_s, isi_int_l, isi_int_t, isi_int_d, isi_str_n, isi_str_b, isi_str_i, isi_str_s, isi_str_l, isi_str_t, isi_str_d, isi_bool_n, isi_bool_b, isi_bool_i, isi_bool_s, isi_bool_l, isi_bool_t, isi_bool_d, isi_list_n, isi_list_b, isi_list_i, isi_list_s, isi_list_l, isi_list_t, isi_list_d, isi_tuple_n, isi_tuple_b, isi_tuple_i, isi_tuple_s, isi_tuple_l, isi_tuple_t, isi_tuple_d, isi_dict_n, isi_dict_b, isi_dict_i, isi_dict_s, isi_dict_l, isi_dict_t, isi_dict_d, decide_eq_true_eq, Bool.not_eq_true, Bool.not_true, Bool.not_false, if_true, if_false, Bool.false_eq_true, and_true, true_and, decide_true, decide_false, ite_true, ite_false, reduceCtorEq]
            exact cut b5 b6 _ (by rw [e1, q, eo]; simp [h63])
theorem outer_ok (p t : List Nat) (ht : t.length ≤ 1000) {T : D} {g : Store} {Q : Out → Store → Prop} : ∀ (u : List Nat) (i : Nat) (b3 b4 b5 b6 : Option SV), p.drop i = u → i ≤ p.length → (∀ x, b4 ≠ some (.own x)) →
    (∀ b3 b4 b5 b6, Q (.nx [some (.d T), some (.d (.str t)), some (.d (.lst (rowD p t p.length (t.length + 1)))), b3, b4, b5, b6]) g) →
    Ok (forD (tgName 3) lb__law_is_1 (u.map fun c => .str [c]) [some (.d T), some (.d (.str t)), some (.d (.lst (rowD p t i (t.length + 1)))), b3, b4, b5, b6] g) Q
  | [], i, b3, b4, b5, b6, hd, hi, hb, h => by
    show Ok (forD _ _ [] _ _) _
    rw [ok_forNil]
    have e : i = p.length := by
      have := congrArg List.length hd
      simp at this
      omega
    subst e
    exact h b3 b4 b5 b6
  | c :: u, i, b3, b4, b5, b6, hd, hi, hb, h => by
    have hc : p[i]? = some c := by
      have := congrArg (·[0]?) hd
      simpa using this
    have hlt := (List.getElem?_eq_some_iff.mp hc).1
    show Ok (forD _ _ (D.str [c] :: u.map fun c => .str [c]) _ _) _
    rw [ok_forCons]
    refine ⟨_, rfl, ?_⟩
    unfold lb__law_is_1
    simp only [ok_forNil, ok_forCons, forK_nx, forK_ct, forK_bk, forK_rt, ok_eOp, ok_eUn, ok_aNil, ok_aCons, ok_eFn, ok_aFn, ok_eApp, ok_eC, ok_eL, ok_eSt, ok_eM1, ok_aM1, ok_oNone, ok_oSome, ok_eSl, ok_tOf, ok_tTru, ok_tNot, ok_tAnd, ok_tOr, ok_eAnd, ok_eOr, ok_eIf, ok_eChain, ok_eVar, ok_eVarB, ok_sSeq, seqK_rt, seqK_bk, seqK_ct, ok_sSet, ok_sRet, ok_sIf, ok_sNext, ok_sDrop, ok_sApp, ok_sFreeze, ok_sUnp, ok_sAug, ok_sFor, ok_aLcE, ok_aItems, runK_rt, runK_nx, ok_runD, okO_some, okO_map, valD_d, valB_d, valB_o, valB_w, ownOf_o, asInt_i, asBl_b, start3, frz, sets, tgName, tgTup, tgsCons, tgsNil, wipe3, List.set_cons_zero, List.set_cons_succ, List.getElem?_cons_zero, List.getElem?_cons_succ, List.map_cons, List.map_nil, List.length_cons, List.length_nil, List.cons_append, List.nil_append, List.replicate_succ, List.replicate_zero, Nat.reduceSub, Nat.reduceAdd, Nat.reduceLT, okO_if, dAddA_ii, dAddA_ss, dAddA_ll, dAddA_tt, dAdd_ii, dAdd_ss, dSub_ii, dMul_ii, dMul_si, dMod_ii, dDiv_ii, dLt_ii, dLt_ss, dLe_ii, dLe_ss, dGt_ii, dGt_ss, dGe_ii, dGe_ss, dEq_ii, dEq_ss, dEq_bb, dEq_nn, dEq_ns, dEq_sn, dEq_ni, dEq_in, dNe_ii, dNe_ss, dNe_bb, dNe_nn, dNe_ns, dNe_sn, dNe_ni, dNe_in, dIs_n, dIsNot_n, dIs_b, dIsNot_b, dIs_i, dIsNot_i, dIs_s, dIsNot_s, dIs_l, dIsNot_l, dIs_t, dIsNot_t, dIs_d, dIsNot_d, dIs_o, dIsNot_o, dLen_s, dLen_l, dLen_t, dTup_d, dLst_d, truD_n, truD_b, truD_i, truD_s, truD_l, truD_t, dNot_b, dNeg_i, asInt_i, asBl_b, dSl_s, dSl_l, dSl_t, isStr_s, items_l, items_t, items_s, dInt_i, dInt_b, dIx_li, dIx_ti, dStarts_ss, dTuple_l, dTuple_t, aList_l, aList_t, dIn_cs, dNotIn_cs, valD_d, valB_d, valB_o, valB_w, ownOf_o, isi_int_n, isi_int_b, isi_int_i, isi_int_s, isi_int_l, isi_int_t, isi_int_d, isi_str_n, isi_str_b, isi_str_i, isi_str_s, isi_str_l, isi_str_t, isi_str_d, isi_bool_n, isi_bool_b, isi_bool_i, isi_bool_s, isi_bool_l, isi_bool_t, isi_bool_d, isi_list_n, isi_list_b, isi_list_i, isi_list_s, isi_list_l, isi_list_t, isi_list_d, isi_tuple_n, isi_tuple_b, isi_tuple_i, isi_tuple_s, isi_tuple_l, isi_tuple_t, isi_tuple_d, isi_dict_n, isi_dict_b, isi_dict_i, isi_dict_s, isi_dict_l, isi_dict_t, isi_dict_d, decide_eq_true_eq, Bool.not_eq_true, Bool.not_true, Bool.not_false, if_true, if_false, Bool.false_eq_true, and_true, true_and, decide_true, decide_false, ite_true, ite_false, reduceCtorEq]
    rw [ok_sOwn _ _ _ (by simp)]
    simp only [ok_forNil, ok_forCons, forK_nx, forK_ct, forK_bk, forK_rt, ok_eOp, ok_eUn, ok_aNil, ok_aCons, ok_eFn, ok_aFn, ok_eApp, ok_eC, ok_eL, ok_eSt, ok_eM1, ok_aM1, ok_oNone, ok_oSome, ok_eSl, ok_tOf, ok_tTru, ok_tNot, ok_tAnd, ok_tOr, ok_eAnd, ok_eOr, ok_eIf, ok_eChain, ok_eVar, ok_eVarB, ok_sSeq, seqK_rt, seqK_bk, seqK_ct, ok_sSet, ok_sRet, ok_sIf, ok_sNext, ok_sDrop, ok_sApp, ok_sFreeze, ok_sUnp, ok_sAug, ok_sFor, ok_aLcE, ok_aItems, runK_rt, runK_nx, ok_runD, okO_some, okO_map, valD_d, valB_d, valB_o, valB_w, ownOf_o, asInt_i, asBl_b, start3, frz, sets, tgName, tgTup, tgsCons, tgsNil, wipe3, List.set_cons_zero, List.set_cons_succ, List.getElem?_cons_zero, List.getElem?_cons_succ, List.map_cons, List.map_nil, List.length_cons, List.length_nil, List.cons_append, List.nil_append, List.replicate_succ, List.replicate_zero, Nat.reduceSub, Nat.reduceAdd, Nat.reduceLT, okO_if, dAddA_ii, dAddA_ss, dAddA_ll, dAddA_tt, dAdd_ii, dAdd_ss, dSub_ii, dMul_ii, dMul_si, dMod_ii, dDiv_ii, dLt_ii, dLt_ss, dLe_ii, dLe_ss, dGt_ii, dGt_ss, dGe_ii, dGe_ss, dEq_ii, dEq_ss, dEq_bb, dEq_nn, dEq_ns, dEq_sn, dEq_ni, dEq_in, dNe_ii, dNe_ss, dNe_bb, dNe_nn, dNe_ns, dNe_sn, dNe_ni, dNe_in, dIs_n, dIsNot_n, dIs_b, dIsNot_b, dIs_i, dIsNot_i, dIs_s, dIsNot_s, dIs_l, dIsNot_l, dIs_t, dIsNot_t, dIs_d, dIsNot_d, dIs_o, dIsNot_o, dLen_s, dLen_l, dLen_t, dTup_d, dLst_d, truD_n, truD_b, truD_i, truD_s, truD_l, truD_t, dNot_b, dNeg_i, asInt_i, asBl_b, dSl_s, dSl_l, dSl_t, isStr_s, items_l, items_t, items_s, dInt_i, dInt_b, dIx_li, dIx_ti, dStarts_ss, dTuple_l, dTuple_t, aList_l, aList_t, dIn_cs, dNotIn_cs, valD_d, valB_d, valB_o, valB_w, ownOf_o, isi_int_n, isi_int_b, isi_int_i, isi_int_s, isi_int_l, isi_int_t, isi_int_d, isi_str_n, isi_str_b, isi_str_i, isi_str_s, isi_str_l, isi_str_t, isi_str_d, isi_bool_n, isi_bool_b, isi_bool_i, isi_bool_s, isi_bool_l, isi_bool_t, isi_bool_d, isi_list_n, isi_list_b, isi_list_i, isi_list_s, isi_list_l, isi_list_t, isi_list_d, isi_tuple_n, isi_tuple_b, isi_tuple_i, isi_tuple_s, isi_tuple_l, isi_tuple_t, isi_tuple_d, isi_dict_n, isi_dict_b, isi_dict_i, isi_dict_s, isi_dict_l, isi_dict_t, isi_dict_d, decide_eq_true_eq, Bool.not_eq_true, Bool.not_true, Bool.not_false, if_true, if_false, Bool.false_eq_true, and_true, true_and, decide_true, decide_false, ite_true, ite_false, reduceCtorEq]
    refine ⟨by decide, ?_⟩
    rw [seqK_nx]
    simp only [ok_forNil, ok_forCons, forK_nx, forK_ct, forK_bk, forK_rt, ok_eOp, ok_eUn, ok_aNil, ok_aCons, ok_eFn, ok_aFn, ok_eApp, ok_eC, ok_eL, ok_eSt, ok_eM1, ok_aM1, ok_oNone, ok_oSome, ok_eSl, ok_tOf, ok_tTru, ok_tNot, ok_tAnd, ok_tOr, ok_eAnd, ok_eOr, ok_eIf, ok_eChain, ok_eVar, ok_eVarB, ok_sSeq, seqK_rt, seqK_bk, seqK_ct, ok_sSet, ok_sRet, ok_sIf, ok_sNext, ok_sDrop, ok_sApp, ok_sFreeze, ok_sUnp, ok_sAug, ok_sFor, ok_aLcE, ok_aItems, runK_rt, runK_nx, ok_runD, okO_some, okO_map, valD_d, valB_d, valB_o, valB_w, ownOf_o, asInt_i, asBl_b, start3, frz, sets, tgName, tgTup, tgsCons, tgsNil, wipe3, List.set_cons_zero, List.set_cons_succ, List.getElem?_cons_zero, List.getElem?_cons_succ, List.map_cons, List.map_nil, List.length_cons, List.length_nil, List.cons_append, List.nil_append, List.replicate_succ, List.replicate_zero, Nat.reduceSub, Nat.reduceAdd, Nat.reduceLT, okO_if, dAddA_ii, dAddA_ss, dAddA_ll, dAddA_tt, dAdd_ii, dAdd_ss, dSub_ii, dMul_ii, dMul_si, dMod_ii, dDiv_ii, dLt_ii, dLt_ss, dLe_ii, dLe_ss, dGt_ii, dGt_ss, dGe_ii, dGe_ss, dEq_ii, dEq_ss, dEq_bb, dEq_nn, dEq_ns, dEq_sn, dEq_ni, dEq_in, dNe_ii, dNe_ss, dNe_bb, dNe_nn, dNe_ns, dNe_sn, dNe_ni, dNe_in, dIs_n, dIsNot_n, dIs_b, dIsNot_b, dIs_i, dIsNot_i, dIs_s, dIsNot_s, dIs_l, dIsNot_l, dIs_t, dIsNot_t, dIs_d, dIsNot_d, dIs_o, dIsNot_o, dLen_s, dLen_l, dLen_t, dTup_d, dLst_d, truD_n, truD_b, truD_i, truD_s, truD_l, truD_t, dNot_b, dNeg_i, asInt_i, asBl_b, dSl_s, dSl_l, dSl_t, isStr_s, items_l, items_t, items_s, dInt_i, dInt_b, dIx_li, dIx_ti, dStarts_ss, dTuple_l, dTuple_t, aList_l, aList_t, dIn_cs, dNotIn_cs, valD_d, valB_d, valB_o, valB_w, ownOf_o, isi_int_n, isi_int_b, isi_int_i, isi_int_s, isi_int_l, isi_int_t, isi_int_d, isi_str_n, isi_str_b, isi_str_i, isi_str_s, isi_str_l, isi_str_t, isi_str_d, isi_bool_n, isi_bool_b, isi_bool_i, isi_bool_s, isi_bool_l, isi_bool_t, isi_bool_d, isi_list_n, isi_list_b, isi_list_i, isi_list_s, isi_list_l, isi_list_t, isi_list_d, isi_tuple_n, isi_tuple_b, isi_tuple_i, isi_tuple_s, isi_tuple_l, isi_tuple_t, isi_tuple_d, isi_dict_n, isi_dict_b, isi_dict_i, isi_dict_s, isi_dict_l, isi_dict_t, isi_dict_d, decide_eq_true_eq, Bool.not_eq_true, Bool.not_true, Bool.not_false, if_true, if_false, Bool.false_eq_true, and_true, true_and, decide_true, decide_false, ite_true, ite_false, reduceCtorEq]
    refine ⟨by unfold BIG; omega, _, range1_nI (by omega), ?_⟩
    rw [List.range_eq_range']
    refine inner_ok p t i c hc ht (t.length + 1) 0 b5 b6 (by omega) fun b5 b6 => ?_
    rw [seqK_nx]
    simp only [ok_forNil, ok_forCons, forK_nx, forK_ct, forK_bk, forK_rt, ok_eOp, ok_eUn, ok_aNil, ok_aCons, ok_eFn, ok_aFn, ok_eApp, ok_eC, ok_eL, ok_eSt, ok_eM1, ok_aM1, ok_oNone, ok_oSome, ok_eSl, ok_tOf, ok_tTru, ok_tNot, ok_tAnd, ok_tOr, ok_eAnd, ok_eOr, ok_eIf, ok_eChain, ok_eVar, ok_eVarB, ok_sSeq, seqK_rt, seqK_bk, seqK_ct, ok_sSet, ok_sRet, ok_sIf, ok_sNext, ok_sDrop, ok_sApp, ok_sFreeze, ok_sUnp, ok_sAug, ok_sFor, ok_aLcE, ok_aItems, runK_rt, runK_nx, ok_runD, okO_some, okO_map, valD_d, valB_d, valB_o, valB_w, ownOf_o, asInt_i, asBl_b, start3, frz, sets, tgName, tgTup, tgsCons, tgsNil, wipe3, List.set_cons_zero, List.set_cons_succ, List.getElem?_cons_zero, List.getElem?_cons_succ, List.map_cons, List.map_nil, List.length_cons, List.length_nil, List.cons_append, List.nil_append, List.replicate_succ, List.replicate_zero, Nat.reduceSub, Nat.reduceAdd, Nat.reduceLT, okO_if, dAddA_ii, dAddA_ss, dAddA_ll, dAddA_tt, dAdd_ii, dAdd_ss, dSub_ii, dMul_ii, dMul_si, dMod_ii, dDiv_ii, dLt_ii, dLt_ss, dLe_ii, dLe_ss, dGt_ii, dGt_ss, dGe_ii, dGe_ss, dEq_ii, dEq_ss, dEq_bb, dEq_nn, dEq_ns, dEq_sn, dEq_ni, dEq_in, dNe_ii, dNe_ss, dNe_bb, dNe_nn, dNe_ns, dNe_sn, dNe_ni, dNe_in, dIs_n, dIsNot_n, dIs_b, dIsNot_b, dIs_i, dIsNot_i, dIs_s, dIsNot_s, dIs_l, dIsNot_l, dIs_t, dIsNot_t, dIs_d, dIsNot_d, dIs_o, dIsNot_o, dLen_s, dLen_l, dLen_t, dTup_d, dLst_d, truD_n, truD_b, truD_i, truD_s, truD_l, truD_t, dNot_b, dNeg_i, asInt_i, asBl_b, dSl_s, dSl_l, dSl_t, isStr_s, items_l, items_t, items_s, dInt_i, dInt_b, dIx_li, dIx_ti, dStarts_ss, dTuple_l, dTuple_t, aList_l, aList_t, dIn_cs, dNotIn_cs, valD_d, valB_d, valB_o, valB_w, ownOf_o, isi_int_n, isi_int_b, isi_int_i, isi_int_s, isi_int_l, isi_int_t, isi_int_d, isi_str_n, isi_str_b, isi_str_i, isi_str_s, isi_str_l, isi_str_t, isi_str_d, isi_bool_n, isi_bool_b, isi_bool_i, isi_bool_s, isi_bool_l, isi_bool_t, isi_bool_d, isi_list_n, isi_list_b, isi_list_i, isi_list_s, isi_list_l, isi_list_t, isi_list_d, isi_tuple_n, isi_tuple_b, isi_tuple_i, isi_tuple_s, isi_tuple_l, isi_tuple_t, isi_tuple_d, isi_dict_n, isi_dict_b, isi_dict_i, isi_dict_s, isi_dict_l, isi_dict_t, isi_dict_d, decide_eq_true_eq, Bool.not_eq_true, Bool.not_true, Bool.not_false, if_true, if_false, Bool.false_eq_true, and_true, true_and, decide_true, decide_false, ite_true, ite_false, reduceCtorEq]
    refine outer_ok p t ht u (i + 1) _ _ b5 b6 ?_ (by omega) (by intro x; simp) h
    have := congrArg (List.drop 1) hd
    simpa [List.drop_drop] using this
theorem _law_is_ok {p t : List Nat} (hp : p.length ≤ 1000) (ht : t.length ≤ 1000) {g : Store} {Q : D → Store → Prop} (h : Q (.bl (gm p t p.length t.length)) g) : Ok (f__law_is [.str p, .str t] g) Q := by
  unfold f__law_is d__law_is
  simp only [ok_forNil, ok_forCons, forK_nx, forK_ct, forK_bk, forK_rt, ok_eOp, ok_eUn, ok_aNil, ok_aCons, ok_eFn, ok_aFn, ok_eApp, ok_eC, ok_eL, ok_eSt, ok_eM1, ok_aM1, ok_oNone, ok_oSome, ok_eSl, ok_tOf, ok_tTru, ok_tNot, ok_tAnd, ok_tOr, ok_eAnd, ok_eOr, ok_eIf, ok_eChain, ok_eVar, ok_eVarB, ok_sSeq, seqK_rt, seqK_bk, seqK_ct, ok_sSet, ok_sRet, ok_sIf, ok_sNext, ok_sDrop, ok_sApp, ok_sFreeze, ok_sUnp, ok_sAug, ok_sFor, ok_aLcE, ok_aItems, runK_rt, runK_nx, ok_runD, okO_some, okO_map, valD_d, valB_d, valB_o, valB_w, ownOf_o, asInt_i, asBl_b, start3, frz, sets, tgName, tgTup, tgsCons, tgsNil, wipe3, List.set_cons_zero, List.set_cons_succ, List.getElem?_cons_zero, List.getElem?_cons_succ, List.map_cons, List.map_nil, List.length_cons, List.length_nil, List.cons_append, List.nil_append, List.replicate_succ, List.replicate_zero, Nat.reduceSub, Nat.reduceAdd, Nat.reduceLT, okO_if, dAddA_ii, dAddA_ss, dAddA_ll, dAddA_tt, dAdd_ii, dAdd_ss, dSub_ii, dMul_ii, dMul_si, dMod_ii, dDiv_ii, dLt_ii, dLt_ss, dLe_ii, dLe_ss, dGt_ii, dGt_ss, dGe_ii, dGe_ss, dEq_ii, dEq_ss, dEq_bb, dEq_nn, dEq_ns, dEq_sn, dEq_ni, dEq_in, dNe_ii, dNe_ss, dNe_bb, dNe_nn, dNe_ns, dNe_sn, dNe_ni, dNe_in, dIs_n, dIsNot_n, dIs_b, dIsNot_b, dIs_i, dIsNot_i, dIs_s, dIsNot_s, dIs_l, dIsNot_l, dIs_t, dIsNot_t, dIs_d, dIsNot_d, dIs_o, dIsNot_o, dLen_s, dLen_l, dLen_t, dTup_d, dLst_d, truD_n, truD_b, truD_i, truD_s, truD_l, truD_t, dNot_b, dNeg_i, asInt_i, asBl_b, dSl_s, dSl_l, dSl_t, isStr_s, items_l, items_t, items_s, dInt_i, dInt_b, dIx_li, dIx_ti, dStarts_ss, dTuple_l, dTuple_t, aList_l, aList_t, dIn_cs, dNotIn_cs, valD_d, valB_d, valB_o, valB_w, ownOf_o, isi_int_n, isi_int_b, isi_int_i, isi_int_s, isi_int_l, isi_int_t, isi_int_d, isi_str_n, isi_str_b, isi_str_i, isi_str_s, isi_str_l, isi_str_t, isi_str_d, isi_bool_n, isi_bool_b, isi_bool_i, isi_bool_s, isi_bool_l, isi_bool_t, isi_bool_d, isi_list_n, isi_list_b, isi_list_i, isi_list_s, isi_list_l, isi_list_t, isi_list_d, isi_tuple_n, isi_tuple_b, isi_tuple_i, isi_tuple_s, isi_tuple_l, isi_tuple_t, isi_tuple_d, isi_dict_n, isi_dict_b, isi_dict_i, isi_dict_s, isi_dict_l, isi_dict_t, isi_dict_d, decide_eq_true_eq, Bool.not_eq_true, Bool.not_true, Bool.not_false, if_true, if_false, Bool.false_eq_true, and_true, true_and, decide_true, decide_false, ite_true, ite_false, reduceCtorEq]
  refine ⟨by unfold BIG; omega, _, range1_nI (by omega), ?_⟩
  refine ⟨⟨by rw [nI_len, List.length_range]; unfold BIG; omega, rfl⟩, ?_⟩
  have e : lcD (tgName 5) tYesD le__law_is_0 (nI (List.range (t.length + 1))) [some (.d (.str p)), some (.d (.str t)), none, none, none, none, none] g = some (rowD p t 0 (t.length + 1), g) := by
    have := lc_map (tg := tgName 5) (e := le__law_is_0) (ρ := [some (.d (.str p)), some (.d (.str t)), none, none, none, none, none]) (g := g) (f := fun d => match d with | .int i => .bl (decide (i = 0)) | d => d) (ds := nI (List.range (t.length + 1))) (fun d hd => by
      obtain ⟨k, _, rfl⟩ := List.mem_map.mp hd
      exact ⟨_, rfl, rfl⟩)
    rw [this]
    congr 2
    unfold nI rowD
    rw [List.map_map]
    refine List.map_congr_left fun k _ => ?_
    show D.bl (decide ((k : Int) = 0)) = .bl (decide (k = 0))
    congr 1
    rw [decide_eq_decide]
    omega
  refine ⟨_, _, e, ?_⟩
  dsimp only
  rw [seqK_nx]
  simp only [ok_forNil, ok_forCons, forK_nx, forK_ct, forK_bk, forK_rt, ok_eOp, ok_eUn, ok_aNil, ok_aCons, ok_eFn, ok_aFn, ok_eApp, ok_eC, ok_eL, ok_eSt, ok_eM1, ok_aM1, ok_oNone, ok_oSome, ok_eSl, ok_tOf, ok_tTru, ok_tNot, ok_tAnd, ok_tOr, ok_eAnd, ok_eOr, ok_eIf, ok_eChain, ok_eVar, ok_eVarB, ok_sSeq, seqK_rt, seqK_bk, seqK_ct, ok_sSet, ok_sRet, ok_sIf, ok_sNext, ok_sDrop, ok_sApp, ok_sFreeze, ok_sUnp, ok_sAug, ok_sFor, ok_aLcE, ok_aItems, runK_rt, runK_nx, ok_runD, okO_some, okO_map, valD_d, valB_d, valB_o, valB_w, ownOf_o, asInt_i, asBl_b, start3, frz, sets, tgName, tgTup, tgsCons, tgsNil, wipe3, List.set_cons_zero, List.set_cons_succ, List.getElem?_cons_zero, List.getElem?_cons_succ, List.map_cons, List.map_nil, List.length_cons, List.length_nil, List.cons_append, List.nil_append, List.replicate_succ, List.replicate_zero, Nat.reduceSub, Nat.reduceAdd, Nat.reduceLT, okO_if, dAddA_ii, dAddA_ss, dAddA_ll, dAddA_tt, dAdd_ii, dAdd_ss, dSub_ii, dMul_ii, dMul_si, dMod_ii, dDiv_ii, dLt_ii, dLt_ss, dLe_ii, dLe_ss, dGt_ii, dGt_ss, dGe_ii, dGe_ss, dEq_ii, dEq_ss, dEq_bb, dEq_nn, dEq_ns, dEq_sn, dEq_ni, dEq_in, dNe_ii, dNe_ss, dNe_bb, dNe_nn, dNe_ns, dNe_sn, dNe_ni, dNe_in, dIs_n, dIsNot_n, dIs_b, dIsNot_b, dIs_i, dIsNot_i, dIs_s, dIsNot_s, dIs_l, dIsNot_l, dIs_t, dIsNot_t, dIs_d, dIsNot_d, dIs_o, dIsNot_o, dLen_s, dLen_l, dLen_t, dTup_d, dLst_d, truD_n, truD_b, truD_i, truD_s, truD_l, truD_t, dNot_b, dNeg_i, asInt_i, asBl_b, dSl_s, dSl_l, dSl_t, isStr_s, items_l, items_t, items_s, dInt_i, dInt_b, dIx_li, dIx_ti, dStarts_ss, dTuple_l, dTuple_t, aList_l, aList_t, dIn_cs, dNotIn_cs, valD_d, valB_d, valB_o, valB_w, ownOf_o, isi_int_n, isi_int_b, isi_int_i, isi_int_s, isi_int_l, isi_int_t, isi_int_d, isi_str_n, isi_str_b, isi_str_i, isi_str_s, isi_str_l, isi_str_t, isi_str_d, isi_bool_n, isi_bool_b, isi_bool_i, isi_bool_s, isi_bool_l, isi_bool_t, isi_bool_d, isi_list_n, isi_list_b, isi_list_i, isi_list_s, isi_list_l, isi_list_t, isi_list_d, isi_tuple_n, isi_tuple_b, isi_tuple_i, isi_tuple_s, isi_tuple_l, isi_tuple_t, isi_tuple_d, isi_dict_n, isi_dict_b, isi_dict_i, isi_dict_s, isi_dict_l, isi_dict_t, isi_dict_d, decide_eq_true_eq, Bool.not_eq_true, Bool.not_true, Bool.not_false, if_true, if_false, Bool.false_eq_true, and_true, true_and, decide_true, decide_false, ite_true, ite_false, reduceCtorEq]
  refine outer_ok p t ht p 0 none none none none rfl (Nat.zero_le _) (by simp) fun b3 b4 b5 b6 => ?_
  rw [seqK_nx]
  simp only [ok_forNil, ok_forCons, forK_nx, forK_ct, forK_bk, forK_rt, ok_eOp, ok_eUn, ok_aNil, ok_aCons, ok_eFn, ok_aFn, ok_eApp, ok_eC, ok_eL, ok_eSt, ok_eM1, ok_aM1, ok_oNone, ok_oSome, ok_eSl, ok_tOf, ok_tTru, ok_tNot, ok_tAnd, ok_tOr, ok_eAnd, ok_eOr, ok_eIf, ok_eChain, ok_eVar, ok_eVarB, ok_sSeq, seqK_rt, seqK_bk, seqK_ct, ok_sSet, ok_sRet, ok_sIf, ok_sNext, ok_sDrop, ok_sApp, ok_sFreeze, ok_sUnp, ok_sAug, ok_sFor, ok_aLcE, ok_aItems, runK_rt, runK_nx, ok_runD, okO_some, okO_map, valD_d, valB_d, valB_o, valB_w, ownOf_o, asInt_i, asBl_b, start3, frz, sets, tgName, tgTup, tgsCons, tgsNil, wipe3, List.set_cons_zero, List.set_cons_succ, List.getElem?_cons_zero, List.getElem?_cons_succ, List.map_cons, List.map_nil, List.length_cons, List.length_nil, List.cons_append, List.nil_append, List.replicate_succ, List.replicate_zero, Nat.reduceSub, Nat.reduceAdd, Nat.reduceLT, okO_if, dAddA_ii, dAddA_ss, dAddA_ll, dAddA_tt, dAdd_ii, dAdd_ss, dSub_ii, dMul_ii, dMul_si, dMod_ii, dDiv_ii, dLt_ii, dLt_ss, dLe_ii, dLe_ss, dGt_ii, dGt_ss, dGe_ii, dGe_ss, dEq_ii, dEq_ss, dEq_bb, dEq_nn, dEq_ns, dEq_sn, dEq_ni, dEq_in, dNe_ii, dNe_ss, dNe_bb, dNe_nn, dNe_ns, dNe_sn, dNe_ni, dNe_in, dIs_n, dIsNot_n, dIs_b, dIsNot_b, dIs_i, dIsNot_i, dIs_s, dIsNot_s, dIs_l, dIsNot_l, dIs_t, dIsNot_t, dIs_d, dIsNot_d, dIs_o, dIsNot_o, dLen_s, dLen_l, dLen_t, dTup_d, dLst_d, truD_n, truD_b, truD_i, truD_s, truD_l, truD_t, dNot_b, dNeg_i, asInt_i, asBl_b, dSl_s, dSl_l, dSl_t, isStr_s, items_l, items_t, items_s, dInt_i, dInt_b, dIx_li, dIx_ti, dStarts_ss, dTuple_l, dTuple_t, aList_l, aList_t, dIn_cs, dNotIn_cs, valD_d, valB_d, valB_o, valB_w, ownOf_o, isi_int_n, isi_int_b, isi_int_i, isi_int_s, isi_int_l, isi_int_t, isi_int_d, isi_str_n, isi_str_b, isi_str_i, isi_str_s, isi_str_l, isi_str_t, isi_str_d, isi_bool_n, isi_bool_b, isi_bool_i, isi_bool_s, isi_bool_l, isi_bool_t, isi_bool_d, isi_list_n, isi_list_b, isi_list_i, isi_list_s, isi_list_l, isi_list_t, isi_list_d, isi_tuple_n, isi_tuple_b, isi_tuple_i, isi_tuple_s, isi_tuple_l, isi_tuple_t, isi_tuple_d, isi_dict_n, isi_dict_b, isi_dict_i, isi_dict_s, isi_dict_l, isi_dict_t, isi_dict_d, decide_eq_true_eq, Bool.not_eq_true, Bool.not_true, Bool.not_false, if_true, if_false, Bool.false_eq_true, and_true, true_and, decide_true, decide_false, ite_true, ite_false, reduceCtorEq]
  exact ⟨by unfold BIG; omega, _, row_ix (Nat.lt_succ_self _), h⟩
end W

namespace W
open L3
open L2 (atI ixN)
theorem strI_dig : ∀ v : Int, 0 ≤ v → v < 10 → strI v = [48 + v.toNat] := by
  intro v h0 h1
  have : v = 0 ∨ v = 1 ∨ v = 2 ∨ v = 3 ∨ v = 4 ∨ v = 5 ∨ v = 6 ∨ v = 7 ∨ v = 8 ∨ v = 9 := by omega
  rcases this with h | h | h | h | h | h | h | h | h | h <;> subst h <;> decide +kernel
theorem dStr_ok {v : Int} (h0 : 0 ≤ v) (h1 : v < 1000000) : dStr [.int v] = some (.str (strI v)) := by
  unfold dStr
  dsimp only
  rw [if_pos (show v.natAbs < 10 ^ 60 from Nat.lt_of_lt_of_le (show v.natAbs < 1000000 by omega) (by decide))]
theorem txts_of : ∀ {ys : List D}, (∀ y ∈ ys, ∃ s, y = D.str s) → ∃ l : List (List Nat), ys = l.map D.str
  | [], _ => ⟨[], rfl⟩
  | y :: ys, h => by
    obtain ⟨s, rfl⟩ := h y List.mem_cons_self
    obtain ⟨l, rfl⟩ := txts_of fun y' h' => h y' (List.mem_cons_of_mem _ h')
    exact ⟨s :: l, rfl⟩
theorem txts_map (l : List (List Nat)) : txts (l.map D.str) = some l := by
  induction l with
  | nil => rfl
  | cons x r ih => simp [txts, ih]
theorem joinL_nil (l : List (List Nat)) : TL.joinL [] l = l.flatten := by
  induction l with
  | nil => rfl
  | cons x r ih => cases r with
    | nil => simp [TL.joinL]
    | cons y r => simp only [TL.joinL, ih, List.nil_append, List.flatten_cons]
/-- "".join of a row of texts that a comprehension makes, each by a law P -/
theorem join_ok {tg : D → Option (List (Nat × D))} {e : DE} {ρ : Env3} {g : Store} {ds : List D} {Q : D → Store → Prop} (I : Store → Prop) (P : List Nat → Prop) (N : Nat) (hI : I g) (hN : ds.length * N ≤ BIG)
    (h : ∀ d ∈ ds, ∀ g, I g → ∃ as, tg d = some as ∧ Ok (e (sets ρ as) g) fun y g1 => (∃ s, y = .str s ∧ P s ∧ s.length ≤ N) ∧ I g1)
    (w : ∀ (l : List (List Nat)) g1, I g1 → l.length = ds.length → (∀ s ∈ l, P s ∧ s.length ≤ N) → Q (.str l.flatten) g1) :
    Ok (lcD tg tYesD e ds ρ g) fun xs g1 => OkO (if isStr (.str []) then dJoin (.str []) [.lst xs] else none) fun z => Q z g1 := by
  refine (ok_lc I (fun _ y => ∃ s, y = .str s ∧ P s ∧ s.length ≤ N) hI h).mono fun ys g1 q => ?_
  obtain ⟨hI1, hl, hall⟩ := q
  have hys : ∀ y ∈ ys, ∃ s, y = D.str s ∧ P s ∧ s.length ≤ N := fun y hy => by
    obtain ⟨i, hi, rfl⟩ := List.getElem_of_mem hy
    exact hall i _ _ (List.getElem?_eq_getElem (by omega)) (List.getElem?_eq_getElem hi)
  obtain ⟨l, rfl⟩ := txts_of fun y hy => by obtain ⟨s, e, _⟩ := hys y hy; exact ⟨s, e⟩
  have hP : ∀ s ∈ l, P s ∧ s.length ≤ N := fun s hs => by
    obtain ⟨s', e, q⟩ := hys _ (List.mem_map_of_mem hs)
    cases e
    exact q
  have hsum : ∀ l : List (List Nat), (∀ s ∈ l, s.length ≤ N) → (l.map (·.length)).sum ≤ l.length * N := by
    intro l
    induction l with
    | nil => intro _; simp
    | cons x r ih =>
      intro h
      have h1 := h x List.mem_cons_self
      have h2 := ih fun s hs => h s (List.mem_cons_of_mem _ hs)
      rw [List.map_cons, List.sum_cons, List.length_cons, Nat.succ_mul]
      omega
  have hjn : joinN [] l ≤ BIG := by
    unfold joinN
    have := hsum l fun s hs => (hP s hs).2
    rw [List.length_map] at hl
    rw [hl] at this
    simp only [List.length_nil, Nat.mul_zero, Nat.add_zero]
    exact Nat.le_trans this hN
  refine ⟨.str l.flatten, ?_, w l g1 hI1 (by rw [List.length_map] at hl; exact hl) hP⟩
  simp only [isStr, if_true, dJoin, dJoinL, txts_map, hjn, joinL_nil]
theorem range1_ok {k : Int} (h0 : 0 ≤ k) (h1 : k ≤ 1000000) : dRange1 [.int k] = some (rangeD 0 k.toNat) := by
  unfold dRange1
  dsimp only
  rw [if_pos ⟨by omega, h1⟩]
theorem mem_range {lo : Int} {n : Nat} {d : D} (h : d ∈ rangeD lo n) : ∃ i : Nat, i < n ∧ d = .int (lo + i) := by
  unfold rangeD at h
  obtain ⟨i, hi, rfl⟩ := List.mem_map.mp h
  exact ⟨i, List.mem_range.mp hi, rfl⟩
theorem ix_strA {z : List Nat} {v : Int} (h0 : 0 ≤ v) (h1 : v < z.length) (hl : z.length ≤ BIG) : ∃ c, c ∈ z ∧ dIx (.str z) (.int v) = some (.str [c]) := by
  have hv : v.toNat < z.length := by omega
  refine ⟨z[v.toNat], List.getElem_mem _, ?_⟩
  unfold dIx
  dsimp only
  rw [if_pos hl]
  unfold atI ixN
  rw [if_pos h0, if_pos h1]
  simp [List.getElem?_eq_getElem hv]
theorem ix_lst {z : List D} {v : Int} (h0 : 0 ≤ v) (h1 : v < z.length) : ∃ d, d ∈ z ∧ dIx (.lst z) (.int v) = some d := by
  have hv : v.toNat < z.length := by omega
  refine ⟨z[v.toNat], List.getElem_mem _, ?_⟩
  unfold dIx
  dsimp only
  unfold atI ixN
  rw [if_pos h0, if_pos h1]
  simp [List.getElem?_eq_getElem hv]
theorem cut_len {β : Type} (xs : List β) (lo hi : Option Int) : (cutL xs lo hi).length ≤ xs.length := by
  unfold cutL
  rw [List.length_take, List.length_drop]
  omega
theorem flat_rep (k : Nat) (c : Nat) : (List.replicate k [c]).flatten = List.replicate k c := by
  induction k with
  | zero => rfl
  | succ k ih => rw [List.replicate_succ, List.flatten_cons, ih, List.replicate_succ]; rfl
theorem flat1 {P : Nat → Prop} : ∀ l : List (List Nat), (∀ s ∈ l, ∃ c, s = [c] ∧ P c) → l.flatten.length = l.length ∧ ∀ c ∈ l.flatten, P c := by
  intro l
  induction l with
  | nil => intro _; exact ⟨rfl, by simp⟩
  | cons s r ih =>
    intro h
    obtain ⟨c, rfl, hc⟩ := h s List.mem_cons_self
    obtain ⟨a, b⟩ := ih fun s hs => h s (List.mem_cons_of_mem _ hs)
    refine ⟨by simp [a], fun x hx => ?_⟩
    rw [List.flatten_cons, List.singleton_append] at hx
    rcases List.mem_cons.mp hx with rfl | hx
    · exact hc
    · exact b x hx
def nxt (J : Env3 → Store → Prop) : Out → Store → Prop := fun o g => ∃ ρ, o = .nx ρ ∧ J ρ g
theorem nxt_nx (J : Env3 → Store → Prop) (ρ : Env3) (g : Store) : nxt J (.nx ρ) g ↔ J ρ g := ⟨fun ⟨_, e, h⟩ => by cases e; exact h, fun h => ⟨ρ, rfl, h⟩⟩
/-- a loop that is not left ahead of its end -/
theorem ok_forN {tg : D → Option (List (Nat × D))} {body : DS} {Q : Out → Store → Prop} (J : List D → Env3 → Store → Prop) {ds : List D} {ρ : Env3} {g : Store} (h0 : J ds ρ g)
    (h1 : ∀ d r ρ g, J (d :: r) ρ g → ∃ as, tg d = some as ∧ Ok (body (sets ρ as) g) (nxt (J r))) (h2 : ∀ ρ g, J [] ρ g → Q (.nx ρ) g) : Ok (forD tg body ds ρ g) Q := by
  refine ok_for J h0 (fun d r ρ g h => ?_) h2
  obtain ⟨as, e, h⟩ := h1 d r ρ g h
  refine ⟨as, e, h.mono ?_⟩
  rintro _ g1 ⟨ρ1, rfl, h⟩
  exact h
theorem pickS {n : Nat} {g : Store} {m : Int} (zs : List (List Nat)) {Q : D → Store → Prop} (h : DeckOk n g) (w : ∀ s ∈ zs, ∀ g', DeckOk n g' → Q (.str s) g') (hm : m = zs.length := by rfl) (h0 : 0 < zs.length := by decide) (h1 : zs.length ≤ 1000 := by decide) :
    Ok (f__law_next [.obj n, .int m] g) fun y g' => OkO (dIx (.lst (zs.map .str)) y) fun z => Q z g' := by
  refine Ok.next h (by omega) (by omega) fun v g1 b0 b1 hg1 => ?_
  obtain ⟨d, hd, e⟩ := ix_lst (z := zs.map .str) b0 (by rw [List.length_map]; omega)
  obtain ⟨s, hs, rfl⟩ := List.mem_map.mp hd
  exact ⟨_, e, w s hs g1 hg1⟩
end W

namespace W
open L3
/-! what it is to fit a pattern -/
def Mt : List Nat → List Nat → Prop
  | [], t => t = []
  | c :: p, t => if c = 42 then ∃ a b, t = a ++ b ∧ Mt p b else ∃ x b, t = x :: b ∧ (c = 63 ∨ c = x) ∧ Mt p b
theorem Mt_app : ∀ (p q t : List Nat), Mt (p ++ q) t ↔ ∃ a b, t = a ++ b ∧ Mt p a ∧ Mt q b
  | [], q, t => by
    constructor
    · intro h; exact ⟨[], t, rfl, rfl, h⟩
    · rintro ⟨a, b, rfl, h, h2⟩
      cases (show a = [] from h)
      exact h2
  | c :: p, q, t => by
    rw [List.cons_append]
    have ec : ∀ p t, Mt (c :: p) t = if c = 42 then ∃ a b, t = a ++ b ∧ Mt p b else ∃ x b, t = x :: b ∧ (c = 63 ∨ c = x) ∧ Mt p b := fun _ _ => rfl
    simp only [ec]
    split
    · constructor
      · rintro ⟨a, b, rfl, h⟩
        obtain ⟨a', b', rfl, h1, h2⟩ := (Mt_app p q b).mp h
        exact ⟨a ++ a', b', by rw [List.append_assoc], ⟨a, a', rfl, h1⟩, h2⟩
      · rintro ⟨a, b, rfl, ⟨a1, a2, rfl, h1⟩, h2⟩
        exact ⟨a1, a2 ++ b, by rw [List.append_assoc], (Mt_app p q _).mpr ⟨a2, b, rfl, h1, h2⟩⟩
    · constructor
      · rintro ⟨x, b, rfl, hx, h⟩
        obtain ⟨a', b', rfl, h1, h2⟩ := (Mt_app p q b).mp h
        exact ⟨x :: a', b', rfl, ⟨x, a', rfl, hx, h1⟩, h2⟩
      · rintro ⟨a, b, rfl, ⟨x, a2, rfl, hx, h1⟩, h2⟩
        exact ⟨x, a2 ++ b, rfl, hx, (Mt_app p q _).mpr ⟨a2, b, rfl, h1, h2⟩⟩
theorem Mt_star (t : List Nat) : Mt [42] t := ⟨t, [], by simp, rfl⟩
theorem Mt_one {c : Nat} (h : c ≠ 42) (t : List Nat) : Mt [c] t ↔ ∃ x, t = [x] ∧ (c = 63 ∨ c = x) := by
  show (if c = 42 then _ else _) ↔ _
  rw [if_neg h]
  constructor
  · rintro ⟨x, b, rfl, hx, e⟩
    cases (show b = [] from e)
    exact ⟨x, rfl, hx⟩
  · rintro ⟨x, rfl, hx⟩
    exact ⟨x, [], rfl, hx, rfl⟩
theorem Mt_star0 (q : List Nat) : Mt (q ++ [42]) [] ↔ Mt q [] := by
  rw [Mt_app]
  constructor
  · rintro ⟨a, b, e, h, _⟩
    rw [(List.append_eq_nil_iff.mp e.symm).1] at h
    exact h
  · intro h
    exact ⟨[], [], rfl, h, Mt_star _⟩
theorem Mt_starS (q u : List Nat) (x : Nat) : Mt (q ++ [42]) (u ++ [x]) ↔ Mt q (u ++ [x]) ∨ Mt (q ++ [42]) u := by
  rw [Mt_app, Mt_app]
  constructor
  · rintro ⟨a, b, e, h, _⟩
    rcases List.eq_nil_or_concat b with rfl | ⟨b', y, rfl⟩
    · rw [List.append_nil] at e
      rw [e]
      exact .inl h
    · rw [List.concat_eq_append, ← List.append_assoc] at e
      have e := List.append_inj' e rfl
      exact .inr ⟨a, b', e.1, h, Mt_star _⟩
  · rintro (h | ⟨a, b, rfl, h, _⟩)
    · exact ⟨_, [], (List.append_nil _).symm, h, Mt_star _⟩
    · exact ⟨a, b ++ [x], by rw [List.append_assoc], h, Mt_star _⟩
theorem Mt_no0 {c : Nat} (h : c ≠ 42) (q : List Nat) : ¬ Mt (q ++ [c]) [] := by
  rw [Mt_app]
  rintro ⟨a, b, e, _, h2⟩
  obtain ⟨x, rfl, _⟩ := (Mt_one h b).mp h2
  simp at e
theorem Mt_noS {c : Nat} (h : c ≠ 42) (q u : List Nat) (x : Nat) : Mt (q ++ [c]) (u ++ [x]) ↔ Mt q u ∧ (c = 63 ∨ c = x) := by
  rw [Mt_app]
  constructor
  · rintro ⟨a, b, e, h1, h2⟩
    obtain ⟨y, rfl, hy⟩ := (Mt_one h b).mp h2
    have e := List.append_inj' e rfl
    cases e.1
    cases e.2
    exact ⟨h1, hy⟩
  · rintro ⟨h1, h2⟩
    exact ⟨u, [x], rfl, h1, (Mt_one h _).mpr ⟨x, rfl, h2⟩⟩
theorem take_snoc {l : List Nat} {i x : Nat} (h : l[i]? = some x) : l.take (i + 1) = l.take i ++ [x] := by
  rw [List.take_add_one, h]
  rfl
theorem gm_iff (p t : List Nat) : ∀ i, i ≤ p.length → ∀ k, k ≤ t.length → (gm p t i k = true ↔ Mt (p.take i) (t.take k)) := by
  intro i
  induction i with
  | zero =>
    intro _ k hk
    show decide (k = 0) = true ↔ t.take k = []
    rw [decide_eq_true_eq, List.take_eq_nil_iff]
    constructor
    · exact .inl
    · rintro (h | h)
      · exact h
      · rw [h] at hk; simpa using hk
  | succ i ih =>
    intro hi k
    have hc : p[i]? = some p[i] := List.getElem?_eq_getElem hi
    rw [take_snoc hc]
    cases hs : star p i with
    | true =>
      have e : p[i] = 42 := by have := of_decide_eq_true hs; rw [hc] at this; exact Option.some.inj this
      rw [e]
      induction k with
      | zero =>
        intro hk
        rw [gm_s0, hs, Bool.true_and, ih (by omega) 0 hk, List.take_zero, Mt_star0]
      | succ k ihk =>
        intro hk
        have ht : t[k]? = some t[k] := List.getElem?_eq_getElem hk
        rw [gm_star k hs, Bool.or_eq_true, ih (by omega) (k + 1) hk, ihk (by omega), take_snoc ht, Mt_starS]
    | false =>
      have e : p[i] ≠ 42 := fun e => by
        have := of_decide_eq_false hs
        rw [hc, e] at this
        exact this rfl
      cases k with
      | zero =>
        intro hk
        rw [gm_s0, hs, Bool.false_and, List.take_zero]
        exact ⟨(fun h => nomatch h), fun h => absurd h (Mt_no0 e _)⟩
      | succ k =>
        intro hk
        have ht : t[k]? = some t[k] := List.getElem?_eq_getElem hk
        have et : t.getD k 0 = t[k] := by rw [List.getD_eq_getElem?_getD, ht]; rfl
        rw [gm_no k hs, Bool.and_eq_true, ih (by omega) k (by omega), take_snoc ht, Mt_noS e]
        unfold okc
        rw [hc, et, Bool.or_eq_true, decide_eq_true_eq, decide_eq_true_eq, Option.some.injEq, Option.some.injEq]
theorem fit_iff (p t : List Nat) : gm p t p.length t.length = true ↔ Mt p t := by
  have := gm_iff p t p.length (Nat.le_refl _) t.length (Nat.le_refl _)
  rwa [List.take_length, List.take_length] at this
end W

namespace W
open L3
open L2 (atI ixN)
theorem signs_ok {n : Nat} {g : Store} {m : Int} {z : List Nat} {Q : D → Store → Prop} (h : DeckOk n g) (h0 : 0 ≤ m) (h1 : m ≤ 1000) (hz : z ≠ []) (hzl : z.length ≤ 1000) (w : ∀ s g', DeckOk n g' → s.length ≤ m.toNat → (∀ c ∈ s, c ∈ z) → Q (.str s) g') : Ok (f__law_signs [.obj n, .int m, .str z] g) Q := by
  have hz1 : 0 < z.length := List.length_pos_iff.mpr hz
  unfold f__law_signs d__law_signs
  simp only [ok_forNil, ok_forCons, forK_nx, forK_ct, forK_bk, forK_rt, ok_eOp, ok_eUn, ok_aNil, ok_aCons, ok_eFn, ok_aFn, ok_eApp, ok_eC, ok_eL, ok_eSt, ok_eM1, ok_aM1, ok_oNone, ok_oSome, ok_eSl, ok_tOf, ok_tTru, ok_tNot, ok_tAnd, ok_tOr, ok_eAnd, ok_eOr, ok_eIf, ok_eChain, ok_eVar, ok_eVarB, ok_sSeq, seqK_rt, seqK_bk, seqK_ct, ok_sSet, ok_sRet, ok_sIf, ok_sNext, ok_sDrop, ok_sApp, ok_sFreeze, ok_sUnp, ok_sAug, ok_sFor, ok_aLcE, ok_aItems, runK_rt, runK_nx, ok_runD, okO_some, okO_map, valD_d, valB_d, valB_o, valB_w, ownOf_o, asInt_i, asBl_b, start3, frz, sets, tgName, tgTup, tgsCons, tgsNil, wipe3, List.set_cons_zero, List.set_cons_succ, List.getElem?_cons_zero, List.getElem?_cons_succ, List.map_cons, List.map_nil, List.length_cons, List.length_nil, List.cons_append, List.nil_append, List.replicate_succ, List.replicate_zero, Nat.reduceSub, Nat.reduceAdd, Nat.reduceLT, okO_if, dAddA_ii, dAddA_ss, dAddA_ll, dAddA_tt, dAdd_ii, dAdd_ss, dSub_ii, dMul_ii, dMul_si, dMod_ii, dDiv_ii, dLt_ii, dLt_ss, dLe_ii, dLe_ss, dGt_ii, dGt_ss, dGe_ii, dGe_ss, dEq_ii, dEq_ss, dEq_bb, dEq_nn, dEq_ns, dEq_sn, dEq_ni, dEq_in, dNe_ii, dNe_ss, dNe_bb, dNe_nn, dNe_ns, dNe_sn, dNe_ni, dNe_in, dIs_n, dIsNot_n, dIs_b, dIsNot_b, dIs_i, dIsNot_i, dIs_s, dIsNot_s, dIs_l, dIsNot_l, dIs_t, dIsNot_t, dIs_d, dIsNot_d, dIs_o, dIsNot_o, dLen_s, dLen_l, dLen_t, dTup_d, dLst_d, truD_n, truD_b, truD_i, truD_s, truD_l, truD_t, dNot_b, dNeg_i, asInt_i, asBl_b, dSl_s, dSl_l, dSl_t, isStr_s, items_l, items_t, items_s, dInt_i, dInt_b, dIx_li, dIx_ti, dStarts_ss, dTuple_l, dTuple_t, aList_l, aList_t, dIn_cs, dNotIn_cs, valD_d, valB_d, valB_o, valB_w, ownOf_o, isi_int_n, isi_int_b, isi_int_i, isi_int_s, isi_int_l, isi_int_t, isi_int_d, isi_str_n, isi_str_b, isi_str_i, isi_str_s, isi_str_l, isi_str_t, isi_str_d, isi_bool_n, isi_bool_b, isi_bool_i, isi_bool_s, isi_bool_l, isi_bool_t, isi_bool_d, isi_list_n, isi_list_b, isi_list_i, isi_list_s, isi_list_l, isi_list_t, isi_list_d, isi_tuple_n, isi_tuple_b, isi_tuple_i, isi_tuple_s, isi_tuple_l, isi_tuple_t, isi_tuple_d, isi_dict_n, isi_dict_b, isi_dict_i, isi_dict_s, isi_dict_l, isi_dict_t, isi_dict_d, decide_eq_true_eq, Bool.not_eq_true, Bool.not_true, Bool.not_false, if_true, if_false, Bool.false_eq_true, and_true, true_and, decide_true, decide_false, ite_true, ite_false, reduceCtorEq]
  refine Ok.next h (by omega) (by omega) fun v g1 b0 b1 hg1 => ?_
  refine ⟨_, range1_ok b0 (by omega), ⟨by rw [rangeD_len]; unfold BIG; omega, rfl⟩, ?_⟩
  refine join_ok (DeckOk n) (fun s => ∃ c, s = [c] ∧ c ∈ z) 1 hg1 (by rw [rangeD_len]; unfold BIG; omega) (fun d hd g hg => ⟨_, rfl, ?_⟩) (fun l g2 hg2 hl hP => ?_)
  · simp only [ok_forNil, ok_forCons, forK_nx, forK_ct, forK_bk, forK_rt, ok_eOp, ok_eUn, ok_aNil, ok_aCons, ok_eFn, ok_aFn, ok_eApp, ok_eC, ok_eL, ok_eSt, ok_eM1, ok_aM1, ok_oNone, ok_oSome, ok_eSl, ok_tOf, ok_tTru, ok_tNot, ok_tAnd, ok_tOr, ok_eAnd, ok_eOr, ok_eIf, ok_eChain, ok_eVar, ok_eVarB, ok_sSeq, seqK_nx, seqK_rt, seqK_bk, seqK_ct, ok_sSet, ok_sRet, ok_sIf, ok_sNext, ok_sDrop, ok_sApp, ok_sFreeze, ok_sUnp, ok_sAug, ok_sFor, ok_aLcE, ok_aItems, runK_rt, runK_nx, ok_runD, okO_some, okO_map, valD_d, valB_d, valB_o, valB_w, ownOf_o, asInt_i, asBl_b, start3, frz, sets, tgName, tgTup, tgsCons, tgsNil, wipe3, List.set_cons_zero, List.set_cons_succ, List.getElem?_cons_zero, List.getElem?_cons_succ, List.map_cons, List.map_nil, List.length_cons, List.length_nil, List.cons_append, List.nil_append, List.replicate_succ, List.replicate_zero, Nat.reduceSub, Nat.reduceAdd, Nat.reduceLT, okO_if, dAddA_ii, dAddA_ss, dAddA_ll, dAddA_tt, dAdd_ii, dAdd_ss, dSub_ii, dMul_ii, dMul_si, dMod_ii, dDiv_ii, dLt_ii, dLt_ss, dLe_ii, dLe_ss, dGt_ii, dGt_ss, dGe_ii, dGe_ss, dEq_ii, dEq_ss, dEq_bb, dEq_nn, dEq_ns, dEq_sn, dEq_ni, dEq_in, dNe_ii, dNe_ss, dNe_bb, dNe_nn, dNe_ns, dNe_sn, dNe_ni, dNe_in, dIs_n, dIsNot_n, dIs_b, dIsNot_b, dIs_i, dIsNot_i, dIs_s, dIsNot_s, dIs_l, dIsNot_l, dIs_t, dIsNot_t, dIs_d, dIsNot_d, dIs_o, dIsNot_o, dLen_s, dLen_l, dLen_t, dTup_d, dLst_d, truD_n, truD_b, truD_i, truD_s, truD_l, truD_t, dNot_b, dNeg_i, asInt_i, asBl_b, dSl_s, dSl_l, dSl_t, isStr_s, items_l, items_t, items_s, dInt_i, dInt_b, dIx_li, dIx_ti, dStarts_ss, dTuple_l, dTuple_t, aList_l, aList_t, dIn_cs, dNotIn_cs, valD_d, valB_d, valB_o, valB_w, ownOf_o, isi_int_n, isi_int_b, isi_int_i, isi_int_s, isi_int_l, isi_int_t, isi_int_d, isi_str_n, isi_str_b, isi_str_i, isi_str_s, isi_str_l, isi_str_t, isi_str_d, isi_bool_n, isi_bool_b, isi_bool_i, isi_bool_s, isi_bool_l, isi_bool_t, isi_bool_d, isi_list_n, isi_list_b, isi_list_i, isi_list_s, isi_list_l, isi_list_t, isi_list_d, isi_tuple_n, isi_tuple_b, isi_tuple_i, isi_tuple_s, isi_tuple_l, isi_tuple_t, isi_tuple_d, isi_dict_n, isi_dict_b, isi_dict_i, isi_dict_s, isi_dict_l, isi_dict_t, isi_dict_d, decide_eq_true_eq, Bool.not_eq_true, Bool.not_true, Bool.not_false, if_true, if_false, Bool.false_eq_true, and_true, true_and, decide_true, decide_false, ite_true, ite_false, reduceCtorEq, le__law_signs_0]
    refine ⟨by unfold BIG; omega, Ok.next hg (by omega) (by omega) fun u g3 c0 c1 hg3 => ?_⟩
    obtain ⟨c, hc, e⟩ := ix_strA (z := z) c0 c1 (by unfold BIG; omega)
    exact ⟨_, e, ⟨⟨_, rfl, ⟨c, rfl, hc⟩, Nat.le_refl _⟩, hg3⟩⟩
  · obtain ⟨k1, k2⟩ := flat1 (P := fun c => c ∈ z) l fun s hs => (hP s hs).1
    rw [rangeD_len] at hl
    exact w _ g2 hg2 (by omega) k2
end W

namespace W
open L3
open L2 (atI ixN)
theorem one_of_ok {n : Nat} {g : Store} {p : List Nat} {Q : D → Store → Prop} (h : DeckOk n g) (hp : p.length ≤ 20) (w : ∀ s g', DeckOk n g' → s.length ≤ 3 * p.length → Q (.str s) g') : Ok (f__law_one_of [.obj n, .str p] g) Q := by
  unfold f__law_one_of d__law_one_of
  simp only [ok_forNil, ok_forCons, forK_nx, forK_ct, forK_bk, forK_rt, ok_eOp, ok_eUn, ok_aNil, ok_aCons, ok_eFn, ok_aFn, ok_eApp, ok_eC, ok_eL, ok_eSt, ok_eM1, ok_aM1, ok_oNone, ok_oSome, ok_eSl, ok_tOf, ok_tTru, ok_tNot, ok_tAnd, ok_tOr, ok_eAnd, ok_eOr, ok_eIf, ok_eChain, ok_eVar, ok_eVarB, ok_sSeq, seqK_rt, seqK_bk, seqK_ct, ok_sSet, ok_sRet, ok_sIf, ok_sNext, ok_sDrop, ok_sApp, ok_sFreeze, ok_sUnp, ok_sAug, ok_sFor, ok_aLcE, ok_aItems, runK_rt, runK_nx, ok_runD, okO_some, okO_map, valD_d, valB_d, valB_o, valB_w, ownOf_o, asInt_i, asBl_b, start3, frz, sets, tgName, tgTup, tgsCons, tgsNil, wipe3, List.set_cons_zero, List.set_cons_succ, List.getElem?_cons_zero, List.getElem?_cons_succ, List.map_cons, List.map_nil, List.length_cons, List.length_nil, List.cons_append, List.nil_append, List.replicate_succ, List.replicate_zero, Nat.reduceSub, Nat.reduceAdd, Nat.reduceLT, okO_if, dAddA_ii, dAddA_ss, dAddA_ll, dAddA_tt, dAdd_ii, dAdd_ss, dSub_ii, dMul_ii, dMul_si, dMod_ii, dDiv_ii, dLt_ii, dLt_ss, dLe_ii, dLe_ss, dGt_ii, dGt_ss, dGe_ii, dGe_ss, dEq_ii, dEq_ss, dEq_bb, dEq_nn, dEq_ns, dEq_sn, dEq_ni, dEq_in, dNe_ii, dNe_ss, dNe_bb, dNe_nn, dNe_ns, dNe_sn, dNe_ni, dNe_in, dIs_n, dIsNot_n, dIs_b, dIsNot_b, dIs_i, dIsNot_i, dIs_s, dIsNot_s, dIs_l, dIsNot_l, dIs_t, dIsNot_t, dIs_d, dIsNot_d, dIs_o, dIsNot_o, dLen_s, dLen_l, dLen_t, dTup_d, dLst_d, truD_n, truD_b, truD_i, truD_s, truD_l, truD_t, dNot_b, dNeg_i, asInt_i, asBl_b, dSl_s, dSl_l, dSl_t, isStr_s, items_l, items_t, items_s, dInt_i, dInt_b, dIx_li, dIx_ti, dStarts_ss, dTuple_l, dTuple_t, aList_l, aList_t, dIn_cs, dNotIn_cs, valD_d, valB_d, valB_o, valB_w, ownOf_o, isi_int_n, isi_int_b, isi_int_i, isi_int_s, isi_int_l, isi_int_t, isi_int_d, isi_str_n, isi_str_b, isi_str_i, isi_str_s, isi_str_l, isi_str_t, isi_str_d, isi_bool_n, isi_bool_b, isi_bool_i, isi_bool_s, isi_bool_l, isi_bool_t, isi_bool_d, isi_list_n, isi_list_b, isi_list_i, isi_list_s, isi_list_l, isi_list_t, isi_list_d, isi_tuple_n, isi_tuple_b, isi_tuple_i, isi_tuple_s, isi_tuple_l, isi_tuple_t, isi_tuple_d, isi_dict_n, isi_dict_b, isi_dict_i, isi_dict_s, isi_dict_l, isi_dict_t, isi_dict_d, decide_eq_true_eq, Bool.not_eq_true, Bool.not_true, Bool.not_false, if_true, if_false, Bool.false_eq_true, and_true, true_and, decide_true, decide_false, ite_true, ite_false, reduceCtorEq]
  rw [seqK_nx]
  simp only [ok_forNil, ok_forCons, forK_nx, forK_ct, forK_bk, forK_rt, ok_eOp, ok_eUn, ok_aNil, ok_aCons, ok_eFn, ok_aFn, ok_eApp, ok_eC, ok_eL, ok_eSt, ok_eM1, ok_aM1, ok_oNone, ok_oSome, ok_eSl, ok_tOf, ok_tTru, ok_tNot, ok_tAnd, ok_tOr, ok_eAnd, ok_eOr, ok_eIf, ok_eChain, ok_eVar, ok_eVarB, ok_sSeq, seqK_rt, seqK_bk, seqK_ct, ok_sSet, ok_sRet, ok_sIf, ok_sNext, ok_sDrop, ok_sApp, ok_sFreeze, ok_sUnp, ok_sAug, ok_sFor, ok_aLcE, ok_aItems, runK_rt, runK_nx, ok_runD, okO_some, okO_map, valD_d, valB_d, valB_o, valB_w, ownOf_o, asInt_i, asBl_b, start3, frz, sets, tgName, tgTup, tgsCons, tgsNil, wipe3, List.set_cons_zero, List.set_cons_succ, List.getElem?_cons_zero, List.getElem?_cons_succ, List.map_cons, List.map_nil, List.length_cons, List.length_nil, List.cons_append, List.nil_append, List.replicate_succ, List.replicate_zero, Nat.reduceSub, Nat.reduceAdd, Nat.reduceLT, okO_if, dAddA_ii, dAddA_ss, dAddA_ll, dAddA_tt, dAdd_ii, dAdd_ss, dSub_ii, dMul_ii, dMul_si, dMod_ii, dDiv_ii, dLt_ii, dLt_ss, dLe_ii, dLe_ss, dGt_ii, dGt_ss, dGe_ii, dGe_ss, dEq_ii, dEq_ss, dEq_bb, dEq_nn, dEq_ns, dEq_sn, dEq_ni, dEq_in, dNe_ii, dNe_ss, dNe_bb, dNe_nn, dNe_ns, dNe_sn, dNe_ni, dNe_in, dIs_n, dIsNot_n, dIs_b, dIsNot_b, dIs_i, dIsNot_i, dIs_s, dIsNot_s, dIs_l, dIsNot_l, dIs_t, dIsNot_t, dIs_d, dIsNot_d, dIs_o, dIsNot_o, dLen_s, dLen_l, dLen_t, dTup_d, dLst_d, truD_n, truD_b, truD_i, truD_s, truD_l, truD_t, dNot_b, dNeg_i, asInt_i, asBl_b, dSl_s, dSl_l, dSl_t, isStr_s, items_l, items_t, items_s, dInt_i, dInt_b, dIx_li, dIx_ti, dStarts_ss, dTuple_l, dTuple_t, aList_l, aList_t, dIn_cs, dNotIn_cs, valD_d, valB_d, valB_o, valB_w, ownOf_o, isi_int_n, isi_int_b, isi_int_i, isi_int_s, isi_int_l, isi_int_t, isi_int_d, isi_str_n, isi_str_b, isi_str_i, isi_str_s, isi_str_l, isi_str_t, isi_str_d, isi_bool_n, isi_bool_b, isi_bool_i, isi_bool_s, isi_bool_l, isi_bool_t, isi_bool_d, isi_list_n, isi_list_b, isi_list_i, isi_list_s, isi_list_l, isi_list_t, isi_list_d, isi_tuple_n, isi_tuple_b, isi_tuple_i, isi_tuple_s, isi_tuple_l, isi_tuple_t, isi_tuple_d, isi_dict_n, isi_dict_b, isi_dict_i, isi_dict_s, isi_dict_l, isi_dict_t, isi_dict_d, decide_eq_true_eq, Bool.not_eq_true, Bool.not_true, Bool.not_false, if_true, if_false, Bool.false_eq_true, and_true, true_and, decide_true, decide_false, ite_true, ite_false, reduceCtorEq]
  refine ok_for (fun ds ρ g' => DeckOk n g' ∧ ∃ s a, ρ = [some (.d (.obj n)), some (.d (.str p)), some (.d (.str s)), a] ∧ s.length + 3 * ds.length ≤ 3 * p.length ∧ ∀ d ∈ ds, ∃ c : Nat, d = .str [c]) ⟨h, [], none, rfl, by simp, fun d hd => ?_⟩ (fun d r ρ g' hJ => ?_) (fun ρ g' hJ => ?_)
  · obtain ⟨c, _, rfl⟩ := List.mem_map.mp hd
    exact ⟨c, rfl⟩
  · obtain ⟨hg, s, a, rfl, hl, hd⟩ := hJ
    rw [List.length_cons] at hl
    obtain ⟨c, rfl⟩ := hd d (List.mem_cons_self ..)
    have tl : ∀ d ∈ r, ∃ c : Nat, d = .str [c] := fun d h => hd d (List.mem_cons_of_mem _ h)
    refine ⟨_, rfl, ?_⟩
    unfold lb__law_one_of_0
    simp only [ok_forNil, ok_forCons, forK_nx, forK_ct, forK_bk, forK_rt, ok_eOp, ok_eUn, ok_aNil, ok_aCons, ok_eFn, ok_aFn, ok_eApp, ok_eC, ok_eL, ok_eSt, ok_eM1, ok_aM1, ok_oNone, ok_oSome, ok_eSl, ok_tOf, ok_tTru, ok_tNot, ok_tAnd, ok_tOr, ok_eAnd, ok_eOr, ok_eIf, ok_eChain, ok_eVar, ok_eVarB, ok_sSeq, seqK_rt, seqK_bk, seqK_ct, ok_sSet, ok_sRet, ok_sIf, ok_sNext, ok_sDrop, ok_sApp, ok_sFreeze, ok_sUnp, ok_sAug, ok_sFor, ok_aLcE, ok_aItems, runK_rt, runK_nx, ok_runD, okO_some, okO_map, valD_d, valB_d, valB_o, valB_w, ownOf_o, asInt_i, asBl_b, start3, frz, sets, tgName, tgTup, tgsCons, tgsNil, wipe3, List.set_cons_zero, List.set_cons_succ, List.getElem?_cons_zero, List.getElem?_cons_succ, List.map_cons, List.map_nil, List.length_cons, List.length_nil, List.cons_append, List.nil_append, List.replicate_succ, List.replicate_zero, Nat.reduceSub, Nat.reduceAdd, Nat.reduceLT, okO_if, dAddA_ii, dAddA_ss, dAddA_ll, dAddA_tt, dAdd_ii, dAdd_ss, dSub_ii, dMul_ii, dMul_si, dMod_ii, dDiv_ii, dLt_ii, dLt_ss, dLe_ii, dLe_ss, dGt_ii, dGt_ss, dGe_ii, dGe_ss, dEq_ii, dEq_ss, dEq_bb, dEq_nn, dEq_ns, dEq_sn, dEq_ni, dEq_in, dNe_ii, dNe_ss, dNe_bb, dNe_nn, dNe_ns, dNe_sn, dNe_ni, dNe_in, dIs_n, dIsNot_n, dIs_b, dIsNot_b, dIs_i, dIsNot_i, dIs_s, dIsNot_s, dIs_l, dIsNot_l, dIs_t, dIsNot_t, dIs_d, dIsNot_d, dIs_o, dIsNot_o, dLen_s, dLen_l, dLen_t, dTup_d, dLst_d, truD_n, truD_b, truD_i, truD_s, truD_l, truD_t, dNot_b, dNeg_i, asInt_i, asBl_b, dSl_s, dSl_l, dSl_t, isStr_s, items_l, items_t, items_s, dInt_i, dInt_b, dIx_li, dIx_ti, dStarts_ss, dTuple_l, dTuple_t, aList_l, aList_t, dIn_cs, dNotIn_cs, valD_d, valB_d, valB_o, valB_w, ownOf_o, isi_int_n, isi_int_b, isi_int_i, isi_int_s, isi_int_l, isi_int_t, isi_int_d, isi_str_n, isi_str_b, isi_str_i, isi_str_s, isi_str_l, isi_str_t, isi_str_d, isi_bool_n, isi_bool_b, isi_bool_i, isi_bool_s, isi_bool_l, isi_bool_t, isi_bool_d, isi_list_n, isi_list_b, isi_list_i, isi_list_s, isi_list_l, isi_list_t, isi_list_d, isi_tuple_n, isi_tuple_b, isi_tuple_i, isi_tuple_s, isi_tuple_l, isi_tuple_t, isi_tuple_d, isi_dict_n, isi_dict_b, isi_dict_i, isi_dict_s, isi_dict_l, isi_dict_t, isi_dict_d, decide_eq_true_eq, Bool.not_eq_true, Bool.not_true, Bool.not_false, if_true, if_false, Bool.false_eq_true, and_true, true_and, decide_true, decide_false, ite_true, ite_false, reduceCtorEq]
    split
    · refine signs_ok hg (by decide) (by decide) (by decide) (by decide) fun x g1 hg1 hx _ => ?_
      have hx : x.length ≤ 2 := hx
      simp only [ok_forNil, ok_forCons, forK_nx, forK_ct, forK_bk, forK_rt, ok_eOp, ok_eUn, ok_aNil, ok_aCons, ok_eFn, ok_aFn, ok_eApp, ok_eC, ok_eL, ok_eSt, ok_eM1, ok_aM1, ok_oNone, ok_oSome, ok_eSl, ok_tOf, ok_tTru, ok_tNot, ok_tAnd, ok_tOr, ok_eAnd, ok_eOr, ok_eIf, ok_eChain, ok_eVar, ok_eVarB, ok_sSeq, seqK_rt, seqK_bk, seqK_ct, ok_sSet, ok_sRet, ok_sIf, ok_sNext, ok_sDrop, ok_sApp, ok_sFreeze, ok_sUnp, ok_sAug, ok_sFor, ok_aLcE, ok_aItems, runK_rt, runK_nx, ok_runD, okO_some, okO_map, valD_d, valB_d, valB_o, valB_w, ownOf_o, asInt_i, asBl_b, start3, frz, sets, tgName, tgTup, tgsCons, tgsNil, wipe3, List.set_cons_zero, List.set_cons_succ, List.getElem?_cons_zero, List.getElem?_cons_succ, List.map_cons, List.map_nil, List.length_cons, List.length_nil, List.cons_append, List.nil_append, List.replicate_succ, List.replicate_zero, Nat.reduceSub, Nat.reduceAdd, Nat.reduceLT, okO_if, dAddA_ii, dAddA_ss, dAddA_ll, dAddA_tt, dAdd_ii, dAdd_ss, dSub_ii, dMul_ii, dMul_si, dMod_ii, dDiv_ii, dLt_ii, dLt_ss, dLe_ii, dLe_ss, dGt_ii, dGt_ss, dGe_ii, dGe_ss, dEq_ii, dEq_ss, dEq_bb, dEq_nn, dEq_ns, dEq_sn, dEq_ni, dEq_in, dNe_ii, dNe_ss, dNe_bb, dNe_nn, dNe_ns, dNe_sn, dNe_ni, dNe_in, dIs_n, dIsNot_n, dIs_b, dIsNot_b, dIs_i, dIsNot_i, dIs_s, dIsNot_s, dIs_l, dIsNot_l, dIs_t, dIsNot_t, dIs_d, dIsNot_d, dIs_o, dIsNot_o, dLen_s, dLen_l, dLen_t, dTup_d, dLst_d, truD_n, truD_b, truD_i, truD_s, truD_l, truD_t, dNot_b, dNeg_i, asInt_i, asBl_b, dSl_s, dSl_l, dSl_t, isStr_s, items_l, items_t, items_s, dInt_i, dInt_b, dIx_li, dIx_ti, dStarts_ss, dTuple_l, dTuple_t, aList_l, aList_t, dIn_cs, dNotIn_cs, valD_d, valB_d, valB_o, valB_w, ownOf_o, isi_int_n, isi_int_b, isi_int_i, isi_int_s, isi_int_l, isi_int_t, isi_int_d, isi_str_n, isi_str_b, isi_str_i, isi_str_s, isi_str_l, isi_str_t, isi_str_d, isi_bool_n, isi_bool_b, isi_bool_i, isi_bool_s, isi_bool_l, isi_bool_t, isi_bool_d, isi_list_n, isi_list_b, isi_list_i, isi_list_s, isi_list_l, isi_list_t, isi_list_d, isi_tuple_n, isi_tuple_b, isi_tuple_i, isi_tuple_s, isi_tuple_l, isi_tuple_t, isi_tuple_d, isi_dict_n, isi_dict_b, isi_dict_i, isi_dict_s, isi_dict_l, isi_dict_t, isi_dict_d, decide_eq_true_eq, Bool.not_eq_true, Bool.not_true, Bool.not_false, if_true, if_false, Bool.false_eq_true, and_true, true_and, decide_true, decide_false, ite_true, ite_false, reduceCtorEq]
      refine ⟨by unfold BIG; omega, hg1, _, _, rfl, ?_, tl⟩
      rw [List.length_append]; omega
    · split
      · refine Ok.next hg (by decide) (by decide) fun v g1 b0 b1 hg1 => ?_
        obtain ⟨c, _, e⟩ := ix_strA (z := [97, 98, 32]) b0 b1 (by decide)
        refine ⟨_, e, ?_⟩
        simp only [ok_forNil, ok_forCons, forK_nx, forK_ct, forK_bk, forK_rt, ok_eOp, ok_eUn, ok_aNil, ok_aCons, ok_eFn, ok_aFn, ok_eApp, ok_eC, ok_eL, ok_eSt, ok_eM1, ok_aM1, ok_oNone, ok_oSome, ok_eSl, ok_tOf, ok_tTru, ok_tNot, ok_tAnd, ok_tOr, ok_eAnd, ok_eOr, ok_eIf, ok_eChain, ok_eVar, ok_eVarB, ok_sSeq, seqK_rt, seqK_bk, seqK_ct, ok_sSet, ok_sRet, ok_sIf, ok_sNext, ok_sDrop, ok_sApp, ok_sFreeze, ok_sUnp, ok_sAug, ok_sFor, ok_aLcE, ok_aItems, runK_rt, runK_nx, ok_runD, okO_some, okO_map, valD_d, valB_d, valB_o, valB_w, ownOf_o, asInt_i, asBl_b, start3, frz, sets, tgName, tgTup, tgsCons, tgsNil, wipe3, List.set_cons_zero, List.set_cons_succ, List.getElem?_cons_zero, List.getElem?_cons_succ, List.map_cons, List.map_nil, List.length_cons, List.length_nil, List.cons_append, List.nil_append, List.replicate_succ, List.replicate_zero, Nat.reduceSub, Nat.reduceAdd, Nat.reduceLT, okO_if, dAddA_ii, dAddA_ss, dAddA_ll, dAddA_tt, dAdd_ii, dAdd_ss, dSub_ii, dMul_ii, dMul_si, dMod_ii, dDiv_ii, dLt_ii, dLt_ss, dLe_ii, dLe_ss, dGt_ii, dGt_ss, dGe_ii, dGe_ss, dEq_ii, dEq_ss, dEq_bb, dEq_nn, dEq_ns, dEq_sn, dEq_ni, dEq_in, dNe_ii, dNe_ss, dNe_bb, dNe_nn, dNe_ns, dNe_sn, dNe_ni, dNe_in, dIs_n, dIsNot_n, dIs_b, dIsNot_b, dIs_i, dIsNot_i, dIs_s, dIsNot_s, dIs_l, dIsNot_l, dIs_t, dIsNot_t, dIs_d, dIsNot_d, dIs_o, dIsNot_o, dLen_s, dLen_l, dLen_t, dTup_d, dLst_d, truD_n, truD_b, truD_i, truD_s, truD_l, truD_t, dNot_b, dNeg_i, asInt_i, asBl_b, dSl_s, dSl_l, dSl_t, isStr_s, items_l, items_t, items_s, dInt_i, dInt_b, dIx_li, dIx_ti, dStarts_ss, dTuple_l, dTuple_t, aList_l, aList_t, dIn_cs, dNotIn_cs, valD_d, valB_d, valB_o, valB_w, ownOf_o, isi_int_n, isi_int_b, isi_int_i, isi_int_s, isi_int_l, isi_int_t, isi_int_d, isi_str_n, isi_str_b, isi_str_i, isi_str_s, isi_str_l, isi_str_t, isi_str_d, isi_bool_n, isi_bool_b, isi_bool_i, isi_bool_s, isi_bool_l, isi_bool_t, isi_bool_d, isi_list_n, isi_list_b, isi_list_i, isi_list_s, isi_list_l, isi_list_t, isi_list_d, isi_tuple_n, isi_tuple_b, isi_tuple_i, isi_tuple_s, isi_tuple_l, isi_tuple_t, isi_tuple_d, isi_dict_n, isi_dict_b, isi_dict_i, isi_dict_s, isi_dict_l, isi_dict_t, isi_dict_d, decide_eq_true_eq, Bool.not_eq_true, Bool.not_true, Bool.not_false, if_true, if_false, Bool.false_eq_true, and_true, true_and, decide_true, decide_false, ite_true, ite_false, reduceCtorEq]
        refine ⟨by unfold BIG; omega, hg1, _, _, rfl, ?_, tl⟩
        rw [List.length_append, List.length_singleton]; omega
      · refine ⟨by unfold BIG; omega, hg, _, _, rfl, ?_, tl⟩
        rw [List.length_append, List.length_singleton]; omega
  · obtain ⟨hg, s, a, rfl, hl, hd⟩ := hJ
    rw [seqK_nx]
    simp only [ok_forNil, ok_forCons, forK_nx, forK_ct, forK_bk, forK_rt, ok_eOp, ok_eUn, ok_aNil, ok_aCons, ok_eFn, ok_aFn, ok_eApp, ok_eC, ok_eL, ok_eSt, ok_eM1, ok_aM1, ok_oNone, ok_oSome, ok_eSl, ok_tOf, ok_tTru, ok_tNot, ok_tAnd, ok_tOr, ok_eAnd, ok_eOr, ok_eIf, ok_eChain, ok_eVar, ok_eVarB, ok_sSeq, seqK_rt, seqK_bk, seqK_ct, ok_sSet, ok_sRet, ok_sIf, ok_sNext, ok_sDrop, ok_sApp, ok_sFreeze, ok_sUnp, ok_sAug, ok_sFor, ok_aLcE, ok_aItems, runK_rt, runK_nx, ok_runD, okO_some, okO_map, valD_d, valB_d, valB_o, valB_w, ownOf_o, asInt_i, asBl_b, start3, frz, sets, tgName, tgTup, tgsCons, tgsNil, wipe3, List.set_cons_zero, List.set_cons_succ, List.getElem?_cons_zero, List.getElem?_cons_succ, List.map_cons, List.map_nil, List.length_cons, List.length_nil, List.cons_append, List.nil_append, List.replicate_succ, List.replicate_zero, Nat.reduceSub, Nat.reduceAdd, Nat.reduceLT, okO_if, dAddA_ii, dAddA_ss, dAddA_ll, dAddA_tt, dAdd_ii, dAdd_ss, dSub_ii, dMul_ii, dMul_si, dMod_ii, dDiv_ii, dLt_ii, dLt_ss, dLe_ii, dLe_ss, dGt_ii, dGt_ss, dGe_ii, dGe_ss, dEq_ii, dEq_ss, dEq_bb, dEq_nn, dEq_ns, dEq_sn, dEq_ni, dEq_in, dNe_ii, dNe_ss, dNe_bb, dNe_nn, dNe_ns, dNe_sn, dNe_ni, dNe_in, dIs_n, dIsNot_n, dIs_b, dIsNot_b, dIs_i, dIsNot_i, dIs_s, dIsNot_s, dIs_l, dIsNot_l, dIs_t, dIsNot_t, dIs_d, dIsNot_d, dIs_o, dIsNot_o, dLen_s, dLen_l, dLen_t, dTup_d, dLst_d, truD_n, truD_b, truD_i, truD_s, truD_l, truD_t, dNot_b, dNeg_i, asInt_i, asBl_b, dSl_s, dSl_l, dSl_t, isStr_s, items_l, items_t, items_s, dInt_i, dInt_b, dIx_li, dIx_ti, dStarts_ss, dTuple_l, dTuple_t, aList_l, aList_t, dIn_cs, dNotIn_cs, valD_d, valB_d, valB_o, valB_w, ownOf_o, isi_int_n, isi_int_b, isi_int_i, isi_int_s, isi_int_l, isi_int_t, isi_int_d, isi_str_n, isi_str_b, isi_str_i, isi_str_s, isi_str_l, isi_str_t, isi_str_d, isi_bool_n, isi_bool_b, isi_bool_i, isi_bool_s, isi_bool_l, isi_bool_t, isi_bool_d, isi_list_n, isi_list_b, isi_list_i, isi_list_s, isi_list_l, isi_list_t, isi_list_d, isi_tuple_n, isi_tuple_b, isi_tuple_i, isi_tuple_s, isi_tuple_l, isi_tuple_t, isi_tuple_d, isi_dict_n, isi_dict_b, isi_dict_i, isi_dict_s, isi_dict_l, isi_dict_t, isi_dict_d, decide_eq_true_eq, Bool.not_eq_true, Bool.not_true, Bool.not_false, if_true, if_false, Bool.false_eq_true, and_true, true_and, decide_true, decide_false, ite_true, ite_false, reduceCtorEq]
    exact w s g' hg (by simpa using hl)
theorem small_of {p : List Nat} (h : p.length ≤ 62) : Small p := by
  refine ⟨by omega, ?_⟩
  have := List.count_le_length (a := 42) (l := p)
  exact Nat.le_trans (Nat.mul_le_mul (Nat.succ_le_succ h) (Nat.succ_le_succ (Nat.le_trans this h))) (by decide)
/-- some part of the text fits -/
def Hs (p t : List Nat) : Prop := ∃ a m b, t = a ++ m ++ b ∧ Mt p m
theorem has_iff (p t : List Nat) : Mt ([42] ++ p ++ [42]) t ↔ Hs p t := by
  rw [Mt_app]
  constructor
  · rintro ⟨x, b, rfl, h, _⟩
    obtain ⟨a, m, rfl, _, h⟩ := (Mt_app _ _ _).mp h
    exact ⟨a, m, b, rfl, h⟩
  · rintro ⟨a, m, b, rfl, h⟩
    exact ⟨a ++ m, b, rfl, (Mt_app _ _ _).mpr ⟨a, m, rfl, Mt_star _, h⟩, Mt_star _⟩
open Classical in
theorem has_ok {p t : List Nat} (hp : p.length ≤ 50) {g : Store} {Q : D → Store → Prop} (h : Q (.bl (decide (Hs p t))) g) : Ok (f_has [.str p, .str t] g) Q := by
  unfold f_has d_has
  simp only [ok_forNil, ok_forCons, forK_nx, forK_ct, forK_bk, forK_rt, ok_eOp, ok_eUn, ok_aNil, ok_aCons, ok_eFn, ok_aFn, ok_eApp, ok_eC, ok_eL, ok_eSt, ok_eM1, ok_aM1, ok_oNone, ok_oSome, ok_eSl, ok_tOf, ok_tTru, ok_tNot, ok_tAnd, ok_tOr, ok_eAnd, ok_eOr, ok_eIf, ok_eChain, ok_eVar, ok_eVarB, ok_sSeq, seqK_rt, seqK_bk, seqK_ct, ok_sSet, ok_sRet, ok_sIf, ok_sNext, ok_sDrop, ok_sApp, ok_sFreeze, ok_sUnp, ok_sAug, ok_sFor, ok_aLcE, ok_aItems, runK_rt, runK_nx, ok_runD, okO_some, okO_map, valD_d, valB_d, valB_o, valB_w, ownOf_o, asInt_i, asBl_b, start3, frz, sets, tgName, tgTup, tgsCons, tgsNil, wipe3, List.set_cons_zero, List.set_cons_succ, List.getElem?_cons_zero, List.getElem?_cons_succ, List.map_cons, List.map_nil, List.length_cons, List.length_nil, List.cons_append, List.nil_append, List.replicate_succ, List.replicate_zero, Nat.reduceSub, Nat.reduceAdd, Nat.reduceLT, okO_if, dAddA_ii, dAddA_ss, dAddA_ll, dAddA_tt, dAdd_ii, dAdd_ss, dSub_ii, dMul_ii, dMul_si, dMod_ii, dDiv_ii, dLt_ii, dLt_ss, dLe_ii, dLe_ss, dGt_ii, dGt_ss, dGe_ii, dGe_ss, dEq_ii, dEq_ss, dEq_bb, dEq_nn, dEq_ns, dEq_sn, dEq_ni, dEq_in, dNe_ii, dNe_ss, dNe_bb, dNe_nn, dNe_ns, dNe_sn, dNe_ni, dNe_in, dIs_n, dIsNot_n, dIs_b, dIsNot_b, dIs_i, dIsNot_i, dIs_s, dIsNot_s, dIs_l, dIsNot_l, dIs_t, dIsNot_t, dIs_d, dIsNot_d, dIs_o, dIsNot_o, dLen_s, dLen_l, dLen_t, dTup_d, dLst_d, truD_n, truD_b, truD_i, truD_s, truD_l, truD_t, dNot_b, dNeg_i, asInt_i, asBl_b, dSl_s, dSl_l, dSl_t, isStr_s, items_l, items_t, items_s, dInt_i, dInt_b, dIx_li, dIx_ti, dStarts_ss, dTuple_l, dTuple_t, aList_l, aList_t, dIn_cs, dNotIn_cs, valD_d, valB_d, valB_o, valB_w, ownOf_o, isi_int_n, isi_int_b, isi_int_i, isi_int_s, isi_int_l, isi_int_t, isi_int_d, isi_str_n, isi_str_b, isi_str_i, isi_str_s, isi_str_l, isi_str_t, isi_str_d, isi_bool_n, isi_bool_b, isi_bool_i, isi_bool_s, isi_bool_l, isi_bool_t, isi_bool_d, isi_list_n, isi_list_b, isi_list_i, isi_list_s, isi_list_l, isi_list_t, isi_list_d, isi_tuple_n, isi_tuple_b, isi_tuple_i, isi_tuple_s, isi_tuple_l, isi_tuple_t, isi_tuple_d, isi_dict_n, isi_dict_b, isi_dict_i, isi_dict_s, isi_dict_l, isi_dict_t, isi_dict_d, decide_eq_true_eq, Bool.not_eq_true, Bool.not_true, Bool.not_false, if_true, if_false, Bool.false_eq_true, and_true, true_and, decide_true, decide_false, ite_true, ite_false, reduceCtorEq]
  refine ⟨by unfold BIG; omega, by unfold BIG; omega, ?_⟩
  refine fits_ok (small_of (by simp; omega)) ?_
  have e : gm ([42] ++ p ++ [42]) t ([42] ++ p ++ [42]).length t.length = decide (Hs p t) := by
    rw [Bool.eq_iff_iff, fit_iff, decide_eq_true_eq, has_iff]
  rw [← e] at h
  exact h
def seg (t : List Nat) (k j : Nat) : List Nat := (t.drop k).take (j - k)
theorem cut_seg {t : List Nat} {k j : Nat} (hk : k ≤ j) (hj : j ≤ t.length) : cutL t (some (k : Int)) (some (j : Int)) = seg t k j := by
  unfold cutL seg
  rw [HT.sIx_nat, HT.sIx_nat, Nat.min_eq_left hj, Nat.min_eq_left (by omega)]
theorem range2_nI {k m : Nat} (hk : k ≤ m) (h : m ≤ 100000) : dRange2 [.int (k : Int), .int ((m : Int) + 1)] = some (nI (List.range' k (m + 1 - k))) := by
  unfold dRange2
  dsimp only
  rw [if_pos ⟨by omega, by omega, by omega, by omega⟩, show ((m : Int) + 1 - (k : Int)).toNat = m + 1 - k by omega]
  unfold rangeD nI
  rw [List.range'_eq_map_range, List.map_map]
  congr 1
section
variable {p t : List Nat} (hp : p.length ≤ 50) (ht : t.length ≤ 100) {g : Store} {Q : Out → Store → Prop}
include hp ht
theorem has_inner {k : Nat} (hk : k ≤ t.length) : ∀ (js : List Nat) (b : Option SV), (∀ j ∈ js, k ≤ j ∧ j ≤ t.length) → ((∃ j ∈ js, Mt p (seg t k j)) → Q (.rt (.bl true)) g) → ((¬ ∃ j ∈ js, Mt p (seg t k j)) → ∀ b, Q (.nx [some (.d (.str p)), some (.d (.str t)), some (.d (.int (k : Int))), b]) g) →
    Ok (forD (tgName 3) lb__law_has_0 (nI js) [some (.d (.str p)), some (.d (.str t)), some (.d (.int (k : Int))), b] g) Q
  | [], b, _, _, hF => by
    show Ok (forD _ _ [] _ _) _
    rw [ok_forNil]
    exact hF (by simp) b
  | j :: r, b, hj, hT, hF => by
    obtain ⟨j1, j2⟩ := hj j List.mem_cons_self
    show Ok (forD _ _ (D.int (j : Int) :: nI r) _ _) _
    rw [ok_forCons]
    refine ⟨_, rfl, ?_⟩
    unfold lb__law_has_0
    simp only [ok_forNil, ok_forCons, forK_nx, forK_ct, forK_bk, forK_rt, ok_eOp, ok_eUn, ok_aNil, ok_aCons, ok_eFn, ok_aFn, ok_eApp, ok_eC, ok_eL, ok_eSt, ok_eM1, ok_aM1, ok_oNone, ok_oSome, ok_eSl, ok_tOf, ok_tTru, ok_tNot, ok_tAnd, ok_tOr, ok_eAnd, ok_eOr, ok_eIf, ok_eChain, ok_eVar, ok_eVarB, ok_sSeq, seqK_rt, seqK_bk, seqK_ct, ok_sSet, ok_sRet, ok_sIf, ok_sNext, ok_sDrop, ok_sApp, ok_sFreeze, ok_sUnp, ok_sAug, ok_sFor, ok_aLcE, ok_aItems, runK_rt, runK_nx, ok_runD, okO_some, okO_map, valD_d, valB_d, valB_o, valB_w, ownOf_o, asInt_i, asBl_b, start3, frz, sets, tgName, tgTup, tgsCons, tgsNil, wipe3, List.set_cons_zero, List.set_cons_succ, List.getElem?_cons_zero, List.getElem?_cons_succ, List.map_cons, List.map_nil, List.length_cons, List.length_nil, List.cons_append, List.nil_append, List.replicate_succ, List.replicate_zero, Nat.reduceSub, Nat.reduceAdd, Nat.reduceLT, okO_if, dAddA_ii, dAddA_ss, dAddA_ll, dAddA_tt, dAdd_ii, dAdd_ss, dSub_ii, dMul_ii, dMul_si, dMod_ii, dDiv_ii, dLt_ii, dLt_ss, dLe_ii, dLe_ss, dGt_ii, dGt_ss, dGe_ii, dGe_ss, dEq_ii, dEq_ss, dEq_bb, dEq_nn, dEq_ns, dEq_sn, dEq_ni, dEq_in, dNe_ii, dNe_ss, dNe_bb, dNe_nn, dNe_ns, dNe_sn, dNe_ni, dNe_in, dIs_n, dIsNot_n, dIs_b, dIsNot_b, dIs_i, dIsNot_i, dIs_s, dIsNot_s, dIs_l, dIsNot_l, dIs_t, dIsNot_t, dIs_d, dIsNot_d, dIs_o, dIsNot_o, dLen_s, dLen_l, dLen_t, dTup_d, dLst_d, truD_n, truD_b, truD_i, truD_s, truD_l, truD_t, dNot_b, dNeg_i, asInt_i, asBl_b, dSl_s, dSl_l, dSl_t, isStr_s, items_l, items_t, items_s, dInt_i, dInt_b, dIx_li, dIx_ti, dStarts_ss, dTuple_l, dTuple_t, aList_l, aList_t, dIn_cs, dNotIn_cs, valD_d, valB_d, valB_o, valB_w, ownOf_o, isi_int_n, isi_int_b, isi_int_i, isi_int_s, isi_int_l, isi_int_t, isi_int_d, isi_str_n, isi_str_b, isi_str_i, isi_str_s, isi_str_l, isi_str_t, isi_str_d, isi_bool_n, isi_bool_b, isi_bool_i, isi_bool_s, isi_bool_l, isi_bool_t, isi_bool_d, isi_list_n, isi_list_b, isi_list_i, isi_list_s, isi_list_l, isi_list_t, isi_list_d, isi_tuple_n, isi_tuple_b, isi_tuple_i, isi_tuple_s, isi_tuple_l, isi_tuple_t, isi_tuple_d, isi_dict_n, isi_dict_b, isi_dict_i, isi_dict_s, isi_dict_l, isi_dict_t, isi_dict_d, decide_eq_true_eq, Bool.not_eq_true, Bool.not_true, Bool.not_false, if_true, if_false, Bool.false_eq_true, and_true, true_and, decide_true, decide_false, ite_true, ite_false, reduceCtorEq]
    refine ⟨by unfold BIG; omega, ?_⟩
    rw [cut_seg j1 j2]
    have hl : (seg t k j).length ≤ 1000 := by unfold seg; rw [List.length_take, List.length_drop]; omega
    refine _law_is_ok (by omega) hl ?_
    simp only [ok_forNil, ok_forCons, forK_nx, forK_ct, forK_bk, forK_rt, ok_eOp, ok_eUn, ok_aNil, ok_aCons, ok_eFn, ok_aFn, ok_eApp, ok_eC, ok_eL, ok_eSt, ok_eM1, ok_aM1, ok_oNone, ok_oSome, ok_eSl, ok_tOf, ok_tTru, ok_tNot, ok_tAnd, ok_tOr, ok_eAnd, ok_eOr, ok_eIf, ok_eChain, ok_eVar, ok_eVarB, ok_sSeq, seqK_rt, seqK_bk, seqK_ct, ok_sSet, ok_sRet, ok_sIf, ok_sNext, ok_sDrop, ok_sApp, ok_sFreeze, ok_sUnp, ok_sAug, ok_sFor, ok_aLcE, ok_aItems, runK_rt, runK_nx, ok_runD, okO_some, okO_map, valD_d, valB_d, valB_o, valB_w, ownOf_o, asInt_i, asBl_b, start3, frz, sets, tgName, tgTup, tgsCons, tgsNil, wipe3, List.set_cons_zero, List.set_cons_succ, List.getElem?_cons_zero, List.getElem?_cons_succ, List.map_cons, List.map_nil, List.length_cons, List.length_nil, List.cons_append, List.nil_append, List.replicate_succ, List.replicate_zero, Nat.reduceSub, Nat.reduceAdd, Nat.reduceLT, okO_if, dAddA_ii, dAddA_ss, dAddA_ll, dAddA_tt, dAdd_ii, dAdd_ss, dSub_ii, dMul_ii, dMul_si, dMod_ii, dDiv_ii, dLt_ii, dLt_ss, dLe_ii, dLe_ss, dGt_ii, dGt_ss, dGe_ii, dGe_ss, dEq_ii, dEq_ss, dEq_bb, dEq_nn, dEq_ns, dEq_sn, dEq_ni, dEq_in, dNe_ii, dNe_ss, dNe_bb, dNe_nn, dNe_ns, dNe_sn, dNe_ni, dNe_in, dIs_n, dIsNot_n, dIs_b, dIsNot_b, dIs_i, dIsNot_i, dIs_s, dIsNot_s, dIs_l, dIsNot_l, dIs_t, dIsNot_t, dIs_d, dIsNot_d, dIs_o, dIsNot_o, dLen_s, dLen_l, dLen_t, dTup_d, dLst_d, truD_n, truD_b, truD_i, truD_s, truD_l, truD_t, dNot_b, dNeg_i, asInt_i, asBl_b, dSl_s, dSl_l, dSl_t, isStr_s, items_l, items_t, items_s, dInt_i, dInt_b, dIx_li, dIx_ti, dStarts_ss, dTuple_l, dTuple_t, aList_l, aList_t, dIn_cs, dNotIn_cs, valD_d, valB_d, valB_o, valB_w, ownOf_o, isi_int_n, isi_int_b, isi_int_i, isi_int_s, isi_int_l, isi_int_t, isi_int_d, isi_str_n, isi_str_b, isi_str_i, isi_str_s, isi_str_l, isi_str_t, isi_str_d, isi_bool_n, isi_bool_b, isi_bool_i, isi_bool_s, isi_bool_l, isi_bool_t, isi_bool_d, isi_list_n, isi_list_b, isi_list_i, isi_list_s, isi_list_l, isi_list_t, isi_list_d, isi_tuple_n, isi_tuple_b, isi_tuple_i, isi_tuple_s, isi_tuple_l, isi_tuple_t, isi_tuple_d, isi_dict_n, isi_dict_b, isi_dict_i, isi_dict_s, isi_dict_l, isi_dict_t, isi_dict_d, decide_eq_true_eq, Bool.not_eq_true, Bool.not_true, Bool.not_false, if_true, if_false, Bool.false_eq_true, and_true, true_and, decide_true, decide_false, ite_true, ite_false, reduceCtorEq]
    by_cases hm : Mt p (seg t k j)
    · rw [if_pos ((fit_iff _ _).mpr hm)]
      exact hT ⟨j, List.mem_cons_self, hm⟩
    · rw [if_neg fun e => hm ((fit_iff _ _).mp e)]
      refine has_inner hk r _ (fun j h => hj j (List.mem_cons_of_mem _ h)) (fun ⟨j, h, m⟩ => hT ⟨j, List.mem_cons_of_mem _ h, m⟩) fun hn => hF ?_
      rintro ⟨j', h, m⟩
      rcases List.mem_cons.mp h with rfl | h
      · exact hm m
      · exact hn ⟨j', h, m⟩
theorem has_outer : ∀ (ks : List Nat) (a b : Option SV), (∀ k ∈ ks, k ≤ t.length) → ((∃ k ∈ ks, ∃ j, k ≤ j ∧ j ≤ t.length ∧ Mt p (seg t k j)) → Q (.rt (.bl true)) g) → ((¬ ∃ k ∈ ks, ∃ j, k ≤ j ∧ j ≤ t.length ∧ Mt p (seg t k j)) → ∀ a b, Q (.nx [some (.d (.str p)), some (.d (.str t)), a, b]) g) →
    Ok (forD (tgName 2) lb__law_has_1 (nI ks) [some (.d (.str p)), some (.d (.str t)), a, b] g) Q
  | [], a, b, _, _, hF => by
    show Ok (forD _ _ [] _ _) _
    rw [ok_forNil]
    exact hF (by simp) a b
  | k :: r, a, b, hk, hT, hF => by
    have h1 := hk k List.mem_cons_self
    show Ok (forD _ _ (D.int (k : Int) :: nI r) _ _) _
    rw [ok_forCons]
    refine ⟨_, rfl, ?_⟩
    unfold lb__law_has_1
    simp only [ok_forNil, ok_forCons, forK_nx, forK_ct, forK_bk, forK_rt, ok_eOp, ok_eUn, ok_aNil, ok_aCons, ok_eFn, ok_aFn, ok_eApp, ok_eC, ok_eL, ok_eSt, ok_eM1, ok_aM1, ok_oNone, ok_oSome, ok_eSl, ok_tOf, ok_tTru, ok_tNot, ok_tAnd, ok_tOr, ok_eAnd, ok_eOr, ok_eIf, ok_eChain, ok_eVar, ok_eVarB, ok_sSeq, seqK_rt, seqK_bk, seqK_ct, ok_sSet, ok_sRet, ok_sIf, ok_sNext, ok_sDrop, ok_sApp, ok_sFreeze, ok_sUnp, ok_sAug, ok_sFor, ok_aLcE, ok_aItems, runK_rt, runK_nx, ok_runD, okO_some, okO_map, valD_d, valB_d, valB_o, valB_w, ownOf_o, asInt_i, asBl_b, start3, frz, sets, tgName, tgTup, tgsCons, tgsNil, wipe3, List.set_cons_zero, List.set_cons_succ, List.getElem?_cons_zero, List.getElem?_cons_succ, List.map_cons, List.map_nil, List.length_cons, List.length_nil, List.cons_append, List.nil_append, List.replicate_succ, List.replicate_zero, Nat.reduceSub, Nat.reduceAdd, Nat.reduceLT, okO_if, dAddA_ii, dAddA_ss, dAddA_ll, dAddA_tt, dAdd_ii, dAdd_ss, dSub_ii, dMul_ii, dMul_si, dMod_ii, dDiv_ii, dLt_ii, dLt_ss, dLe_ii, dLe_ss, dGt_ii, dGt_ss, dGe_ii, dGe_ss, dEq_ii, dEq_ss, dEq_bb, dEq_nn, dEq_ns, dEq_sn, dEq_ni, dEq_in, dNe_ii, dNe_ss, dNe_bb, dNe_nn, dNe_ns, dNe_sn, dNe_ni, dNe_in, dIs_n, dIsNot_n, dIs_b, dIsNot_b, dIs_i, dIsNot_i, dIs_s, dIsNot_s, dIs_l, dIsNot_l, dIs_t, dIsNot_t, dIs_d, dIsNot_d, dIs_o, dIsNot_o, dLen_s, dLen_l, dLen_t, dTup_d, dLst_d, truD_n, truD_b, truD_i, truD_s, truD_l, truD_t, dNot_b, dNeg_i, asInt_i, asBl_b, dSl_s, dSl_l, dSl_t, isStr_s, items_l, items_t, items_s, dInt_i, dInt_b, dIx_li, dIx_ti, dStarts_ss, dTuple_l, dTuple_t, aList_l, aList_t, dIn_cs, dNotIn_cs, valD_d, valB_d, valB_o, valB_w, ownOf_o, isi_int_n, isi_int_b, isi_int_i, isi_int_s, isi_int_l, isi_int_t, isi_int_d, isi_str_n, isi_str_b, isi_str_i, isi_str_s, isi_str_l, isi_str_t, isi_str_d, isi_bool_n, isi_bool_b, isi_bool_i, isi_bool_s, isi_bool_l, isi_bool_t, isi_bool_d, isi_list_n, isi_list_b, isi_list_i, isi_list_s, isi_list_l, isi_list_t, isi_list_d, isi_tuple_n, isi_tuple_b, isi_tuple_i, isi_tuple_s, isi_tuple_l, isi_tuple_t, isi_tuple_d, isi_dict_n, isi_dict_b, isi_dict_i, isi_dict_s, isi_dict_l, isi_dict_t, isi_dict_d, decide_eq_true_eq, Bool.not_eq_true, Bool.not_true, Bool.not_false, if_true, if_false, Bool.false_eq_true, and_true, true_and, decide_true, decide_false, ite_true, ite_false, reduceCtorEq]
    refine ⟨by unfold BIG; omega, _, range2_nI h1 (by omega), ?_⟩
    have mem : ∀ j, j ∈ List.range' k (t.length + 1 - k) ↔ k ≤ j ∧ j ≤ t.length := fun j => by
      rw [List.mem_range'_1]
      constructor
      · intro h; omega
      · intro h; omega
    refine has_inner hp ht h1 _ b (fun j h => (mem j).mp h) ?_ ?_
    · rintro ⟨j, h, m⟩
      simp only [ok_forNil, ok_forCons, forK_nx, forK_ct, forK_bk, forK_rt, ok_eOp, ok_eUn, ok_aNil, ok_aCons, ok_eFn, ok_aFn, ok_eApp, ok_eC, ok_eL, ok_eSt, ok_eM1, ok_aM1, ok_oNone, ok_oSome, ok_eSl, ok_tOf, ok_tTru, ok_tNot, ok_tAnd, ok_tOr, ok_eAnd, ok_eOr, ok_eIf, ok_eChain, ok_eVar, ok_eVarB, ok_sSeq, seqK_rt, seqK_bk, seqK_ct, ok_sSet, ok_sRet, ok_sIf, ok_sNext, ok_sDrop, ok_sApp, ok_sFreeze, ok_sUnp, ok_sAug, ok_sFor, ok_aLcE, ok_aItems, runK_rt, runK_nx, ok_runD, okO_some, okO_map, valD_d, valB_d, valB_o, valB_w, ownOf_o, asInt_i, asBl_b, start3, frz, sets, tgName, tgTup, tgsCons, tgsNil, wipe3, List.set_cons_zero, List.set_cons_succ, List.getElem?_cons_zero, List.getElem?_cons_succ, List.map_cons, List.map_nil, List.length_cons, List.length_nil, List.cons_append, List.nil_append, List.replicate_succ, List.replicate_zero, Nat.reduceSub, Nat.reduceAdd, Nat.reduceLT, okO_if, dAddA_ii, dAddA_ss, dAddA_ll, dAddA_tt, dAdd_ii, dAdd_ss, dSub_ii, dMul_ii, dMul_si, dMod_ii, dDiv_ii, dLt_ii, dLt_ss, dLe_ii, dLe_ss, dGt_ii, dGt_ss, dGe_ii, dGe_ss, dEq_ii, dEq_ss, dEq_bb, dEq_nn, dEq_ns, dEq_sn, dEq_ni, dEq_in, dNe_ii, dNe_ss, dNe_bb, dNe_nn, dNe_ns, dNe_sn, dNe_ni, dNe_in, dIs_n, dIsNot_n, dIs_b, dIsNot_b, dIs_i, dIsNot_i, dIs_s, dIsNot_s, dIs_l, dIsNot_l, dIs_t, dIsNot_t, dIs_d, dIsNot_d, dIs_o, dIsNot_o, dLen_s, dLen_l, dLen_t, dTup_d, dLst_d, truD_n, truD_b, truD_i, truD_s, truD_l, truD_t, dNot_b, dNeg_i, asInt_i, asBl_b, dSl_s, dSl_l, dSl_t, isStr_s, items_l, items_t, items_s, dInt_i, dInt_b, dIx_li, dIx_ti, dStarts_ss, dTuple_l, dTuple_t, aList_l, aList_t, dIn_cs, dNotIn_cs, valD_d, valB_d, valB_o, valB_w, ownOf_o, isi_int_n, isi_int_b, isi_int_i, isi_int_s, isi_int_l, isi_int_t, isi_int_d, isi_str_n, isi_str_b, isi_str_i, isi_str_s, isi_str_l, isi_str_t, isi_str_d, isi_bool_n, isi_bool_b, isi_bool_i, isi_bool_s, isi_bool_l, isi_bool_t, isi_bool_d, isi_list_n, isi_list_b, isi_list_i, isi_list_s, isi_list_l, isi_list_t, isi_list_d, isi_tuple_n, isi_tuple_b, isi_tuple_i, isi_tuple_s, isi_tuple_l, isi_tuple_t, isi_tuple_d, isi_dict_n, isi_dict_b, isi_dict_i, isi_dict_s, isi_dict_l, isi_dict_t, isi_dict_d, decide_eq_true_eq, Bool.not_eq_true, Bool.not_true, Bool.not_false, if_true, if_false, Bool.false_eq_true, and_true, true_and, decide_true, decide_false, ite_true, ite_false, reduceCtorEq]
      exact hT ⟨k, List.mem_cons_self, j, ((mem j).mp h).1, ((mem j).mp h).2, m⟩
    · intro hn b
      simp only [ok_forNil, ok_forCons, forK_nx, forK_ct, forK_bk, forK_rt, ok_eOp, ok_eUn, ok_aNil, ok_aCons, ok_eFn, ok_aFn, ok_eApp, ok_eC, ok_eL, ok_eSt, ok_eM1, ok_aM1, ok_oNone, ok_oSome, ok_eSl, ok_tOf, ok_tTru, ok_tNot, ok_tAnd, ok_tOr, ok_eAnd, ok_eOr, ok_eIf, ok_eChain, ok_eVar, ok_eVarB, ok_sSeq, seqK_rt, seqK_bk, seqK_ct, ok_sSet, ok_sRet, ok_sIf, ok_sNext, ok_sDrop, ok_sApp, ok_sFreeze, ok_sUnp, ok_sAug, ok_sFor, ok_aLcE, ok_aItems, runK_rt, runK_nx, ok_runD, okO_some, okO_map, valD_d, valB_d, valB_o, valB_w, ownOf_o, asInt_i, asBl_b, start3, frz, sets, tgName, tgTup, tgsCons, tgsNil, wipe3, List.set_cons_zero, List.set_cons_succ, List.getElem?_cons_zero, List.getElem?_cons_succ, List.map_cons, List.map_nil, List.length_cons, List.length_nil, List.cons_append, List.nil_append, List.replicate_succ, List.replicate_zero, Nat.reduceSub, Nat.reduceAdd, Nat.reduceLT, okO_if, dAddA_ii, dAddA_ss, dAddA_ll, dAddA_tt, dAdd_ii, dAdd_ss, dSub_ii, dMul_ii, dMul_si, dMod_ii, dDiv_ii, dLt_ii, dLt_ss, dLe_ii, dLe_ss, dGt_ii, dGt_ss, dGe_ii, dGe_ss, dEq_ii, dEq_ss, dEq_bb, dEq_nn, dEq_ns, dEq_sn, dEq_ni, dEq_in, dNe_ii, dNe_ss, dNe_bb, dNe_nn, dNe_ns, dNe_sn, dNe_ni, dNe_in, dIs_n, dIsNot_n, dIs_b, dIsNot_b, dIs_i, dIsNot_i, dIs_s, dIsNot_s, dIs_l, dIsNot_l, dIs_t, dIsNot_t, dIs_d, dIsNot_d, dIs_o, dIsNot_o, dLen_s, dLen_l, dLen_t, dTup_d, dLst_d, truD_n, truD_b, truD_i, truD_s, truD_l, truD_t, dNot_b, dNeg_i, asInt_i, asBl_b, dSl_s, dSl_l, dSl_t, isStr_s, items_l, items_t, items_s, dInt_i, dInt_b, dIx_li, dIx_ti, dStarts_ss, dTuple_l, dTuple_t, aList_l, aList_t, dIn_cs, dNotIn_cs, valD_d, valB_d, valB_o, valB_w, ownOf_o, isi_int_n, isi_int_b, isi_int_i, isi_int_s, isi_int_l, isi_int_t, isi_int_d, isi_str_n, isi_str_b, isi_str_i, isi_str_s, isi_str_l, isi_str_t, isi_str_d, isi_bool_n, isi_bool_b, isi_bool_i, isi_bool_s, isi_bool_l, isi_bool_t, isi_bool_d, isi_list_n, isi_list_b, isi_list_i, isi_list_s, isi_list_l, isi_list_t, isi_list_d, isi_tuple_n, isi_tuple_b, isi_tuple_i, isi_tuple_s, isi_tuple_l, isi_tuple_t, isi_tuple_d, isi_dict_n, isi_dict_b, isi_dict_i, isi_dict_s, isi_dict_l, isi_dict_t, isi_dict_d, decide_eq_true_eq, Bool.not_eq_true, Bool.not_true, Bool.not_false, if_true, if_false, Bool.false_eq_true, and_true, true_and, decide_true, decide_false, ite_true, ite_false, reduceCtorEq]
      refine has_outer r _ _ (fun j h => hk j (List.mem_cons_of_mem _ h)) (fun ⟨j, h, m⟩ => hT ⟨j, List.mem_cons_of_mem _ h, m⟩) fun hn2 => hF ?_
      rintro ⟨k', h, j, m1, m2, m⟩
      rcases List.mem_cons.mp h with rfl | h
      · exact hn ⟨j, (mem j).mpr ⟨m1, m2⟩, m⟩
      · exact hn2 ⟨k', h, j, m1, m2, m⟩
end
theorem seg_iff (p t : List Nat) : (∃ k ∈ List.range (t.length + 1), ∃ j, k ≤ j ∧ j ≤ t.length ∧ Mt p (seg t k j)) ↔ Hs p t := by
  constructor
  · rintro ⟨k, _, j, h1, h2, h⟩
    refine ⟨t.take k, seg t k j, t.drop j, ?_, h⟩
    unfold seg
    rw [List.append_assoc]
    have : (t.drop k).take (j - k) ++ t.drop j = t.drop k := by
      have := List.take_append_drop (j - k) (t.drop k)
      rw [List.drop_drop, show k + (j - k) = j by omega] at this
      exact this
    rw [this, List.take_append_drop]
  · rintro ⟨a, m, b, rfl, h⟩
    refine ⟨a.length, by rw [List.mem_range]; simp; omega, a.length + m.length, by omega, by simp, ?_⟩
    unfold seg
    rw [List.append_assoc, List.drop_left, show a.length + m.length - a.length = m.length by omega, List.take_left]
    exact h
open Classical in
theorem law_has_ok {p t : List Nat} (hp : p.length ≤ 50) (ht : t.length ≤ 100) {g : Store} {Q : D → Store → Prop} (h : Q (.bl (decide (Hs p t))) g) : Ok (f__law_has [.str p, .str t] g) Q := by
  unfold f__law_has d__law_has
  simp only [ok_forNil, ok_forCons, forK_nx, forK_ct, forK_bk, forK_rt, ok_eOp, ok_eUn, ok_aNil, ok_aCons, ok_eFn, ok_aFn, ok_eApp, ok_eC, ok_eL, ok_eSt, ok_eM1, ok_aM1, ok_oNone, ok_oSome, ok_eSl, ok_tOf, ok_tTru, ok_tNot, ok_tAnd, ok_tOr, ok_eAnd, ok_eOr, ok_eIf, ok_eChain, ok_eVar, ok_eVarB, ok_sSeq, seqK_rt, seqK_bk, seqK_ct, ok_sSet, ok_sRet, ok_sIf, ok_sNext, ok_sDrop, ok_sApp, ok_sFreeze, ok_sUnp, ok_sAug, ok_sFor, ok_aLcE, ok_aItems, runK_rt, runK_nx, ok_runD, okO_some, okO_map, valD_d, valB_d, valB_o, valB_w, ownOf_o, asInt_i, asBl_b, start3, frz, sets, tgName, tgTup, tgsCons, tgsNil, wipe3, List.set_cons_zero, List.set_cons_succ, List.getElem?_cons_zero, List.getElem?_cons_succ, List.map_cons, List.map_nil, List.length_cons, List.length_nil, List.cons_append, List.nil_append, List.replicate_succ, List.replicate_zero, Nat.reduceSub, Nat.reduceAdd, Nat.reduceLT, okO_if, dAddA_ii, dAddA_ss, dAddA_ll, dAddA_tt, dAdd_ii, dAdd_ss, dSub_ii, dMul_ii, dMul_si, dMod_ii, dDiv_ii, dLt_ii, dLt_ss, dLe_ii, dLe_ss, dGt_ii, dGt_ss, dGe_ii, dGe_ss, dEq_ii, dEq_ss, dEq_bb, dEq_nn, dEq_ns, dEq_sn, dEq_ni, dEq_in, dNe_ii, dNe_ss, dNe_bb, dNe_nn, dNe_ns, dNe_sn, dNe_ni, dNe_in, dIs_n, dIsNot_n, dIs_b, dIsNot_b, dIs_i, dIsNot_i, dIs_s, dIsNot_s, dIs_l, dIsNot_l, dIs_t, dIsNot_t, dIs_d, dIsNot_d, dIs_o, dIsNot_o, dLen_s, dLen_l, dLen_t, dTup_d, dLst_d, truD_n, truD_b, truD_i, truD_s, truD_l, truD_t, dNot_b, dNeg_i, asInt_i, asBl_b, dSl_s, dSl_l, dSl_t, isStr_s, items_l, items_t, items_s, dInt_i, dInt_b, dIx_li, dIx_ti, dStarts_ss, dTuple_l, dTuple_t, aList_l, aList_t, dIn_cs, dNotIn_cs, valD_d, valB_d, valB_o, valB_w, ownOf_o, isi_int_n, isi_int_b, isi_int_i, isi_int_s, isi_int_l, isi_int_t, isi_int_d, isi_str_n, isi_str_b, isi_str_i, isi_str_s, isi_str_l, isi_str_t, isi_str_d, isi_bool_n, isi_bool_b, isi_bool_i, isi_bool_s, isi_bool_l, isi_bool_t, isi_bool_d, isi_list_n, isi_list_b, isi_list_i, isi_list_s, isi_list_l, isi_list_t, isi_list_d, isi_tuple_n, isi_tuple_b, isi_tuple_i, isi_tuple_s, isi_tuple_l, isi_tuple_t, isi_tuple_d, isi_dict_n, isi_dict_b, isi_dict_i, isi_dict_s, isi_dict_l, isi_dict_t, isi_dict_d, decide_eq_true_eq, Bool.not_eq_true, Bool.not_true, Bool.not_false, if_true, if_false, Bool.false_eq_true, and_true, true_and, decide_true, decide_false, ite_true, ite_false, reduceCtorEq]
  refine ⟨by unfold BIG; omega, _, range1_nI (by omega), ?_⟩
  refine has_outer hp ht _ none none (fun k hk => by rw [List.mem_range] at hk; omega) ?_ ?_
  · intro hh
    rw [decide_eq_true ((seg_iff p t).mp hh)] at h
    simp only [ok_forNil, ok_forCons, forK_nx, forK_ct, forK_bk, forK_rt, ok_eOp, ok_eUn, ok_aNil, ok_aCons, ok_eFn, ok_aFn, ok_eApp, ok_eC, ok_eL, ok_eSt, ok_eM1, ok_aM1, ok_oNone, ok_oSome, ok_eSl, ok_tOf, ok_tTru, ok_tNot, ok_tAnd, ok_tOr, ok_eAnd, ok_eOr, ok_eIf, ok_eChain, ok_eVar, ok_eVarB, ok_sSeq, seqK_rt, seqK_bk, seqK_ct, ok_sSet, ok_sRet, ok_sIf, ok_sNext, ok_sDrop, ok_sApp, ok_sFreeze, ok_sUnp, ok_sAug, ok_sFor, ok_aLcE, ok_aItems, runK_rt, runK_nx, ok_runD, okO_some, okO_map, valD_d, valB_d, valB_o, valB_w, ownOf_o, asInt_i, asBl_b, start3, frz, sets, tgName, tgTup, tgsCons, tgsNil, wipe3, List.set_cons_zero, List.set_cons_succ, List.getElem?_cons_zero, List.getElem?_cons_succ, List.map_cons, List.map_nil, List.length_cons, List.length_nil, List.cons_append, List.nil_append, List.replicate_succ, List.replicate_zero, Nat.reduceSub, Nat.reduceAdd, Nat.reduceLT, okO_if, dAddA_ii, dAddA_ss, dAddA_ll, dAddA_tt, dAdd_ii, dAdd_ss, dSub_ii, dMul_ii, dMul_si, dMod_ii, dDiv_ii, dLt_ii, dLt_ss, dLe_ii, dLe_ss, dGt_ii, dGt_ss, dGe_ii, dGe_ss, dEq_ii, dEq_ss, dEq_bb, dEq_nn, dEq_ns, dEq_sn, dEq_ni, dEq_in, dNe_ii, dNe_ss, dNe_bb, dNe_nn, dNe_ns, dNe_sn, dNe_ni, dNe_in, dIs_n, dIsNot_n, dIs_b, dIsNot_b, dIs_i, dIsNot_i, dIs_s, dIsNot_s, dIs_l, dIsNot_l, dIs_t, dIsNot_t, dIs_d, dIsNot_d, dIs_o, dIsNot_o, dLen_s, dLen_l, dLen_t, dTup_d, dLst_d, truD_n, truD_b, truD_i, truD_s, truD_l, truD_t, dNot_b, dNeg_i, asInt_i, asBl_b, dSl_s, dSl_l, dSl_t, isStr_s, items_l, items_t, items_s, dInt_i, dInt_b, dIx_li, dIx_ti, dStarts_ss, dTuple_l, dTuple_t, aList_l, aList_t, dIn_cs, dNotIn_cs, valD_d, valB_d, valB_o, valB_w, ownOf_o, isi_int_n, isi_int_b, isi_int_i, isi_int_s, isi_int_l, isi_int_t, isi_int_d, isi_str_n, isi_str_b, isi_str_i, isi_str_s, isi_str_l, isi_str_t, isi_str_d, isi_bool_n, isi_bool_b, isi_bool_i, isi_bool_s, isi_bool_l, isi_bool_t, isi_bool_d, isi_list_n, isi_list_b, isi_list_i, isi_list_s, isi_list_l, isi_list_t, isi_list_d, isi_tuple_n, isi_tuple_b, isi_tuple_i, isi_tuple_s, isi_tuple_l, isi_tuple_t, isi_tuple_d, isi_dict_n, isi_dict_b, isi_dict_i, isi_dict_s, isi_dict_l, isi_dict_t, isi_dict_d, decide_eq_true_eq, Bool.not_eq_true, Bool.not_true, Bool.not_false, if_true, if_false, Bool.false_eq_true, and_true, true_and, decide_true, decide_false, ite_true, ite_false, reduceCtorEq]
    exact h
  · intro hh a b
    rw [decide_eq_false fun z => hh ((seg_iff p t).mpr z)] at h
    rw [seqK_nx]
    simp only [ok_forNil, ok_forCons, forK_nx, forK_ct, forK_bk, forK_rt, ok_eOp, ok_eUn, ok_aNil, ok_aCons, ok_eFn, ok_aFn, ok_eApp, ok_eC, ok_eL, ok_eSt, ok_eM1, ok_aM1, ok_oNone, ok_oSome, ok_eSl, ok_tOf, ok_tTru, ok_tNot, ok_tAnd, ok_tOr, ok_eAnd, ok_eOr, ok_eIf, ok_eChain, ok_eVar, ok_eVarB, ok_sSeq, seqK_rt, seqK_bk, seqK_ct, ok_sSet, ok_sRet, ok_sIf, ok_sNext, ok_sDrop, ok_sApp, ok_sFreeze, ok_sUnp, ok_sAug, ok_sFor, ok_aLcE, ok_aItems, runK_rt, runK_nx, ok_runD, okO_some, okO_map, valD_d, valB_d, valB_o, valB_w, ownOf_o, asInt_i, asBl_b, start3, frz, sets, tgName, tgTup, tgsCons, tgsNil, wipe3, List.set_cons_zero, List.set_cons_succ, List.getElem?_cons_zero, List.getElem?_cons_succ, List.map_cons, List.map_nil, List.length_cons, List.length_nil, List.cons_append, List.nil_append, List.replicate_succ, List.replicate_zero, Nat.reduceSub, Nat.reduceAdd, Nat.reduceLT, okO_if, dAddA_ii, dAddA_ss, dAddA_ll, dAddA_tt, dAdd_ii, dAdd_ss, dSub_ii, dMul_ii, dMul_si, dMod_ii, dDiv_ii, dLt_ii, dLt_ss, dLe_ii, dLe_ss, dGt_ii, dGt_ss, dGe_ii, dGe_ss, dEq_ii, dEq_ss, dEq_bb, dEq_nn, dEq_ns, dEq_sn, dEq_ni, dEq_in, dNe_ii, dNe_ss, dNe_bb, dNe_nn, dNe_ns, dNe_sn, dNe_ni, dNe_in, dIs_n, dIsNot_n, dIs_b, dIsNot_b, dIs_i, dIsNot_i, dIs_s, dIsNot_s, dIs_l, dIsNot_l, dIs_t, dIsNot_t, dIs_d, dIsNot_d, dIs_o, dIsNot_o, dLen_s, dLen_l, dLen_t, dTup_d, dLst_d, truD_n, truD_b, truD_i, truD_s, truD_l, truD_t, dNot_b, dNeg_i, asInt_i, asBl_b, dSl_s, dSl_l, dSl_t, isStr_s, items_l, items_t, items_s, dInt_i, dInt_b, dIx_li, dIx_ti, dStarts_ss, dTuple_l, dTuple_t, aList_l, aList_t, dIn_cs, dNotIn_cs, valD_d, valB_d, valB_o, valB_w, ownOf_o, isi_int_n, isi_int_b, isi_int_i, isi_int_s, isi_int_l, isi_int_t, isi_int_d, isi_str_n, isi_str_b, isi_str_i, isi_str_s, isi_str_l, isi_str_t, isi_str_d, isi_bool_n, isi_bool_b, isi_bool_i, isi_bool_s, isi_bool_l, isi_bool_t, isi_bool_d, isi_list_n, isi_list_b, isi_list_i, isi_list_s, isi_list_l, isi_list_t, isi_list_d, isi_tuple_n, isi_tuple_b, isi_tuple_i, isi_tuple_s, isi_tuple_l, isi_tuple_t, isi_tuple_d, isi_dict_n, isi_dict_b, isi_dict_i, isi_dict_s, isi_dict_l, isi_dict_t, isi_dict_d, decide_eq_true_eq, Bool.not_eq_true, Bool.not_true, Bool.not_false, if_true, if_false, Bool.false_eq_true, and_true, true_and, decide_true, decide_false, ite_true, ite_false, reduceCtorEq]
    exact h
def rowOk (d : D) : Prop := ∃ p t, d = .tup [.str p, .str t] ∧ p.length ≤ 6 ∧ t.length ≤ 12
open Classical in
theorem law_ok (ns : List Int) (hl : ns.length ≤ 63) : Ok (f_law [.lst (ns.map .int)] []) fun d _ => d = .bl true := by
  unfold f_law d_law
  simp only [ok_forNil, ok_forCons, forK_nx, forK_ct, forK_bk, forK_rt, ok_eOp, ok_eUn, ok_aNil, ok_aCons, ok_eFn, ok_aFn, ok_eApp, ok_eC, ok_eL, ok_eSt, ok_eM1, ok_aM1, ok_oNone, ok_oSome, ok_eSl, ok_tOf, ok_tTru, ok_tNot, ok_tAnd, ok_tOr, ok_eAnd, ok_eOr, ok_eIf, ok_eChain, ok_eVar, ok_eVarB, ok_sSeq, seqK_rt, seqK_bk, seqK_ct, ok_sSet, ok_sRet, ok_sIf, ok_sNext, ok_sDrop, ok_sApp, ok_sFreeze, ok_sUnp, ok_sAug, ok_sFor, ok_aLcE, ok_aItems, runK_rt, runK_nx, ok_runD, okO_some, okO_map, valD_d, valB_d, valB_o, valB_w, ownOf_o, asInt_i, asBl_b, start3, frz, sets, tgName, tgTup, tgsCons, tgsNil, wipe3, List.set_cons_zero, List.set_cons_succ, List.getElem?_cons_zero, List.getElem?_cons_succ, List.map_cons, List.map_nil, List.length_cons, List.length_nil, List.cons_append, List.nil_append, List.replicate_succ, List.replicate_zero, Nat.reduceSub, Nat.reduceAdd, Nat.reduceLT, okO_if, dAddA_ii, dAddA_ss, dAddA_ll, dAddA_tt, dAdd_ii, dAdd_ss, dSub_ii, dMul_ii, dMul_si, dMod_ii, dDiv_ii, dLt_ii, dLt_ss, dLe_ii, dLe_ss, dGt_ii, dGt_ss, dGe_ii, dGe_ss, dEq_ii, dEq_ss, dEq_bb, dEq_nn, dEq_ns, dEq_sn, dEq_ni, dEq_in, dNe_ii, dNe_ss, dNe_bb, dNe_nn, dNe_ns, dNe_sn, dNe_ni, dNe_in, dIs_n, dIsNot_n, dIs_b, dIsNot_b, dIs_i, dIsNot_i, dIs_s, dIsNot_s, dIs_l, dIsNot_l, dIs_t, dIsNot_t, dIs_d, dIsNot_d, dIs_o, dIsNot_o, dLen_s, dLen_l, dLen_t, dTup_d, dLst_d, truD_n, truD_b, truD_i, truD_s, truD_l, truD_t, dNot_b, dNeg_i, asInt_i, asBl_b, dSl_s, dSl_l, dSl_t, isStr_s, items_l, items_t, items_s, dInt_i, dInt_b, dIx_li, dIx_ti, dStarts_ss, dTuple_l, dTuple_t, aList_l, aList_t, dIn_cs, dNotIn_cs, valD_d, valB_d, valB_o, valB_w, ownOf_o, isi_int_n, isi_int_b, isi_int_i, isi_int_s, isi_int_l, isi_int_t, isi_int_d, isi_str_n, isi_str_b, isi_str_i, isi_str_s, isi_str_l, isi_str_t, isi_str_d, isi_bool_n, isi_bool_b, isi_bool_i, isi_bool_s, isi_bool_l, isi_bool_t, isi_bool_d, isi_list_n, isi_list_b, isi_list_i, isi_list_s, isi_list_l, isi_list_t, isi_list_d, isi_tuple_n, isi_tuple_b, isi_tuple_i, isi_tuple_s, isi_tuple_l, isi_tuple_t, isi_tuple_d, isi_dict_n, isi_dict_b, isi_dict_i, isi_dict_s, isi_dict_l, isi_dict_t, isi_dict_d, decide_eq_true_eq, Bool.not_eq_true, Bool.not_true, Bool.not_false, if_true, if_false, Bool.false_eq_true, and_true, true_and, decide_true, decide_false, ite_true, ite_false, reduceCtorEq]
  refine (deck_ok ns hl).mono ?_
  rintro d g ⟨rfl, hg⟩
  rw [seqK_nx]
  simp only [ok_forNil, ok_forCons, forK_nx, forK_ct, forK_bk, forK_rt, ok_eOp, ok_eUn, ok_aNil, ok_aCons, ok_eFn, ok_aFn, ok_eApp, ok_eC, ok_eL, ok_eSt, ok_eM1, ok_aM1, ok_oNone, ok_oSome, ok_eSl, ok_tOf, ok_tTru, ok_tNot, ok_tAnd, ok_tOr, ok_eAnd, ok_eOr, ok_eIf, ok_eChain, ok_eVar, ok_eVarB, ok_sSeq, seqK_rt, seqK_bk, seqK_ct, ok_sSet, ok_sRet, ok_sIf, ok_sNext, ok_sDrop, ok_sApp, ok_sFreeze, ok_sUnp, ok_sAug, ok_sFor, ok_aLcE, ok_aItems, runK_rt, runK_nx, ok_runD, okO_some, okO_map, valD_d, valB_d, valB_o, valB_w, ownOf_o, asInt_i, asBl_b, start3, frz, sets, tgName, tgTup, tgsCons, tgsNil, wipe3, List.set_cons_zero, List.set_cons_succ, List.getElem?_cons_zero, List.getElem?_cons_succ, List.map_cons, List.map_nil, List.length_cons, List.length_nil, List.cons_append, List.nil_append, List.replicate_succ, List.replicate_zero, Nat.reduceSub, Nat.reduceAdd, Nat.reduceLT, okO_if, dAddA_ii, dAddA_ss, dAddA_ll, dAddA_tt, dAdd_ii, dAdd_ss, dSub_ii, dMul_ii, dMul_si, dMod_ii, dDiv_ii, dLt_ii, dLt_ss, dLe_ii, dLe_ss, dGt_ii, dGt_ss, dGe_ii, dGe_ss, dEq_ii, dEq_ss, dEq_bb, dEq_nn, dEq_ns, dEq_sn, dEq_ni, dEq_in, dNe_ii, dNe_ss, dNe_bb, dNe_nn, dNe_ns, dNe_sn, dNe_ni, dNe_in, dIs_n, dIsNot_n, dIs_b, dIsNot_b, dIs_i, dIsNot_i, dIs_s, dIsNot_s, dIs_l, dIsNot_l, dIs_t, dIsNot_t, dIs_d, dIsNot_d, dIs_o, dIsNot_o, dLen_s, dLen_l, dLen_t, dTup_d, dLst_d, truD_n, truD_b, truD_i, truD_s, truD_l, truD_t, dNot_b, dNeg_i, asInt_i, asBl_b, dSl_s, dSl_l, dSl_t, isStr_s, items_l, items_t, items_s, dInt_i, dInt_b, dIx_li, dIx_ti, dStarts_ss, dTuple_l, dTuple_t, aList_l, aList_t, dIn_cs, dNotIn_cs, valD_d, valB_d, valB_o, valB_w, ownOf_o, isi_int_n, isi_int_b, isi_int_i, isi_int_s, isi_int_l, isi_int_t, isi_int_d, isi_str_n, isi_str_b, isi_str_i, isi_str_s, isi_str_l, isi_str_t, isi_str_d, isi_bool_n, isi_bool_b, isi_bool_i, isi_bool_s, isi_bool_l, isi_bool_t, isi_bool_d, isi_list_n, isi_list_b, isi_list_i, isi_list_s, isi_list_l, isi_list_t, isi_list_d, isi_tuple_n, isi_tuple_b, isi_tuple_i, isi_tuple_s, isi_tuple_l, isi_tuple_t, isi_tuple_d, isi_dict_n, isi_dict_b, isi_dict_i, isi_dict_s, isi_dict_l, isi_dict_t, isi_dict_d, decide_eq_true_eq, Bool.not_eq_true, Bool.not_true, Bool.not_false, if_true, if_false, Bool.false_eq_true, and_true, true_and, decide_true, decide_false, ite_true, ite_false, reduceCtorEq]
  rw [ok_sOwn _ _ _ (by simp)]
  simp only [ok_forNil, ok_forCons, forK_nx, forK_ct, forK_bk, forK_rt, ok_eOp, ok_eUn, ok_aNil, ok_aCons, ok_eFn, ok_aFn, ok_eApp, ok_eC, ok_eL, ok_eSt, ok_eM1, ok_aM1, ok_oNone, ok_oSome, ok_eSl, ok_tOf, ok_tTru, ok_tNot, ok_tAnd, ok_tOr, ok_eAnd, ok_eOr, ok_eIf, ok_eChain, ok_eVar, ok_eVarB, ok_sSeq, seqK_rt, seqK_bk, seqK_ct, ok_sSet, ok_sRet, ok_sIf, ok_sNext, ok_sDrop, ok_sApp, ok_sFreeze, ok_sUnp, ok_sAug, ok_sFor, ok_aLcE, ok_aItems, runK_rt, runK_nx, ok_runD, okO_some, okO_map, valD_d, valB_d, valB_o, valB_w, ownOf_o, asInt_i, asBl_b, start3, frz, sets, tgName, tgTup, tgsCons, tgsNil, wipe3, List.set_cons_zero, List.set_cons_succ, List.getElem?_cons_zero, List.getElem?_cons_succ, List.map_cons, List.map_nil, List.length_cons, List.length_nil, List.cons_append, List.nil_append, List.replicate_succ, List.replicate_zero, Nat.reduceSub, Nat.reduceAdd, Nat.reduceLT, okO_if, dAddA_ii, dAddA_ss, dAddA_ll, dAddA_tt, dAdd_ii, dAdd_ss, dSub_ii, dMul_ii, dMul_si, dMod_ii, dDiv_ii, dLt_ii, dLt_ss, dLe_ii, dLe_ss, dGt_ii, dGt_ss, dGe_ii, dGe_ss, dEq_ii, dEq_ss, dEq_bb, dEq_nn, dEq_ns, dEq_sn, dEq_ni, dEq_in, dNe_ii, dNe_ss, dNe_bb, dNe_nn, dNe_ns, dNe_sn, dNe_ni, dNe_in, dIs_n, dIsNot_n, dIs_b, dIsNot_b, dIs_i, dIsNot_i, dIs_s, dIsNot_s, dIs_l, dIsNot_l, dIs_t, dIsNot_t, dIs_d, dIsNot_d, dIs_o, dIsNot_o, dLen_s, dLen_l, dLen_t, dTup_d, dLst_d, truD_n, truD_b, truD_i, truD_s, truD_l, truD_t, dNot_b, dNeg_i, asInt_i, asBl_b, dSl_s, dSl_l, dSl_t, isStr_s, items_l, items_t, items_s, dInt_i, dInt_b, dIx_li, dIx_ti, dStarts_ss, dTuple_l, dTuple_t, aList_l, aList_t, dIn_cs, dNotIn_cs, valD_d, valB_d, valB_o, valB_w, ownOf_o, isi_int_n, isi_int_b, isi_int_i, isi_int_s, isi_int_l, isi_int_t, isi_int_d, isi_str_n, isi_str_b, isi_str_i, isi_str_s, isi_str_l, isi_str_t, isi_str_d, isi_bool_n, isi_bool_b, isi_bool_i, isi_bool_s, isi_bool_l, isi_bool_t, isi_bool_d, isi_list_n, isi_list_b, isi_list_i, isi_list_s, isi_list_l, isi_list_t, isi_list_d, isi_tuple_n, isi_tuple_b, isi_tuple_i, isi_tuple_s, isi_tuple_l, isi_tuple_t, isi_tuple_d, isi_dict_n, isi_dict_b, isi_dict_i, isi_dict_s, isi_dict_l, isi_dict_t, isi_dict_d, decide_eq_true_eq, Bool.not_eq_true, Bool.not_true, Bool.not_false, if_true, if_false, Bool.false_eq_true, and_true, true_and, decide_true, decide_false, ite_true, ite_false, reduceCtorEq]
  refine ⟨by decide, ?_⟩
  rw [seqK_nx]
  simp only [ok_forNil, ok_forCons, forK_nx, forK_ct, forK_bk, forK_rt, ok_eOp, ok_eUn, ok_aNil, ok_aCons, ok_eFn, ok_aFn, ok_eApp, ok_eC, ok_eL, ok_eSt, ok_eM1, ok_aM1, ok_oNone, ok_oSome, ok_eSl, ok_tOf, ok_tTru, ok_tNot, ok_tAnd, ok_tOr, ok_eAnd, ok_eOr, ok_eIf, ok_eChain, ok_eVar, ok_eVarB, ok_sSeq, seqK_rt, seqK_bk, seqK_ct, ok_sSet, ok_sRet, ok_sIf, ok_sNext, ok_sDrop, ok_sApp, ok_sFreeze, ok_sUnp, ok_sAug, ok_sFor, ok_aLcE, ok_aItems, runK_rt, runK_nx, ok_runD, okO_some, okO_map, valD_d, valB_d, valB_o, valB_w, ownOf_o, asInt_i, asBl_b, start3, frz, sets, tgName, tgTup, tgsCons, tgsNil, wipe3, List.set_cons_zero, List.set_cons_succ, List.getElem?_cons_zero, List.getElem?_cons_succ, List.map_cons, List.map_nil, List.length_cons, List.length_nil, List.cons_append, List.nil_append, List.replicate_succ, List.replicate_zero, Nat.reduceSub, Nat.reduceAdd, Nat.reduceLT, okO_if, dAddA_ii, dAddA_ss, dAddA_ll, dAddA_tt, dAdd_ii, dAdd_ss, dSub_ii, dMul_ii, dMul_si, dMod_ii, dDiv_ii, dLt_ii, dLt_ss, dLe_ii, dLe_ss, dGt_ii, dGt_ss, dGe_ii, dGe_ss, dEq_ii, dEq_ss, dEq_bb, dEq_nn, dEq_ns, dEq_sn, dEq_ni, dEq_in, dNe_ii, dNe_ss, dNe_bb, dNe_nn, dNe_ns, dNe_sn, dNe_ni, dNe_in, dIs_n, dIsNot_n, dIs_b, dIsNot_b, dIs_i, dIsNot_i, dIs_s, dIsNot_s, dIs_l, dIsNot_l, dIs_t, dIsNot_t, dIs_d, dIsNot_d, dIs_o, dIsNot_o, dLen_s, dLen_l, dLen_t, dTup_d, dLst_d, truD_n, truD_b, truD_i, truD_s, truD_l, truD_t, dNot_b, dNeg_i, asInt_i, asBl_b, dSl_s, dSl_l, dSl_t, isStr_s, items_l, items_t, items_s, dInt_i, dInt_b, dIx_li, dIx_ti, dStarts_ss, dTuple_l, dTuple_t, aList_l, aList_t, dIn_cs, dNotIn_cs, valD_d, valB_d, valB_o, valB_w, ownOf_o, isi_int_n, isi_int_b, isi_int_i, isi_int_s, isi_int_l, isi_int_t, isi_int_d, isi_str_n, isi_str_b, isi_str_i, isi_str_s, isi_str_l, isi_str_t, isi_str_d, isi_bool_n, isi_bool_b, isi_bool_i, isi_bool_s, isi_bool_l, isi_bool_t, isi_bool_d, isi_list_n, isi_list_b, isi_list_i, isi_list_s, isi_list_l, isi_list_t, isi_list_d, isi_tuple_n, isi_tuple_b, isi_tuple_i, isi_tuple_s, isi_tuple_l, isi_tuple_t, isi_tuple_d, isi_dict_n, isi_dict_b, isi_dict_i, isi_dict_s, isi_dict_l, isi_dict_t, isi_dict_d, decide_eq_true_eq, Bool.not_eq_true, Bool.not_true, Bool.not_false, if_true, if_false, Bool.false_eq_true, and_true, true_and, decide_true, decide_false, ite_true, ite_false, reduceCtorEq]
  refine ⟨_, range1_ok (by decide) (by decide), ?_⟩
  refine ok_forN (fun ds ρ g' => DeckOk 1 g' ∧ ∃ xs a b c d, ρ = [some (.d (.lst (ns.map .int))), some (.d (.obj 1)), some (.own xs), a, b, c, d] ∧ xs.length + ds.length ≤ 10 ∧ ∀ x ∈ xs, rowOk x) ⟨hg, [], none, none, none, none, rfl, by rw [rangeD_len]; decide, by simp⟩ (fun d0 r ρ g' hJ => ?_) (fun ρ g' hJ => ?_)
  · obtain ⟨hg, xs, a, b, c, d, rfl, hx, hr⟩ := hJ
    rw [List.length_cons] at hx
    refine ⟨_, rfl, ?_⟩
    unfold lb_law_0
    simp only [ok_forNil, ok_forCons, forK_nx, forK_ct, forK_bk, forK_rt, ok_eOp, ok_eUn, ok_aNil, ok_aCons, ok_eFn, ok_aFn, ok_eApp, ok_eC, ok_eL, ok_eSt, ok_eM1, ok_aM1, ok_oNone, ok_oSome, ok_eSl, ok_tOf, ok_tTru, ok_tNot, ok_tAnd, ok_tOr, ok_eAnd, ok_eOr, ok_eIf, ok_eChain, ok_eVar, ok_eVarB, ok_sSeq, seqK_rt, seqK_bk, seqK_ct, ok_sSet, ok_sRet, ok_sIf, ok_sNext, ok_sDrop, ok_sApp, ok_sFreeze, ok_sUnp, ok_sAug, ok_sFor, ok_aLcE, ok_aItems, runK_rt, runK_nx, ok_runD, okO_some, okO_map, valD_d, valB_d, valB_o, valB_w, ownOf_o, asInt_i, asBl_b, start3, frz, sets, tgName, tgTup, tgsCons, tgsNil, wipe3, List.set_cons_zero, List.set_cons_succ, List.getElem?_cons_zero, List.getElem?_cons_succ, List.map_cons, List.map_nil, List.length_cons, List.length_nil, List.cons_append, List.nil_append, List.replicate_succ, List.replicate_zero, Nat.reduceSub, Nat.reduceAdd, Nat.reduceLT, okO_if, dAddA_ii, dAddA_ss, dAddA_ll, dAddA_tt, dAdd_ii, dAdd_ss, dSub_ii, dMul_ii, dMul_si, dMod_ii, dDiv_ii, dLt_ii, dLt_ss, dLe_ii, dLe_ss, dGt_ii, dGt_ss, dGe_ii, dGe_ss, dEq_ii, dEq_ss, dEq_bb, dEq_nn, dEq_ns, dEq_sn, dEq_ni, dEq_in, dNe_ii, dNe_ss, dNe_bb, dNe_nn, dNe_ns, dNe_sn, dNe_ni, dNe_in, dIs_n, dIsNot_n, dIs_b, dIsNot_b, dIs_i, dIsNot_i, dIs_s, dIsNot_s, dIs_l, dIsNot_l, dIs_t, dIsNot_t, dIs_d, dIsNot_d, dIs_o, dIsNot_o, dLen_s, dLen_l, dLen_t, dTup_d, dLst_d, truD_n, truD_b, truD_i, truD_s, truD_l, truD_t, dNot_b, dNeg_i, asInt_i, asBl_b, dSl_s, dSl_l, dSl_t, isStr_s, items_l, items_t, items_s, dInt_i, dInt_b, dIx_li, dIx_ti, dStarts_ss, dTuple_l, dTuple_t, aList_l, aList_t, dIn_cs, dNotIn_cs, valD_d, valB_d, valB_o, valB_w, ownOf_o, isi_int_n, isi_int_b, isi_int_i, isi_int_s, isi_int_l, isi_int_t, isi_int_d, isi_str_n, isi_str_b, isi_str_i, isi_str_s, isi_str_l, isi_str_t, isi_str_d, isi_bool_n, isi_bool_b, isi_bool_i, isi_bool_s, isi_bool_l, isi_bool_t, isi_bool_d, isi_list_n, isi_list_b, isi_list_i, isi_list_s, isi_list_l, isi_list_t, isi_list_d, isi_tuple_n, isi_tuple_b, isi_tuple_i, isi_tuple_s, isi_tuple_l, isi_tuple_t, isi_tuple_d, isi_dict_n, isi_dict_b, isi_dict_i, isi_dict_s, isi_dict_l, isi_dict_t, isi_dict_d, decide_eq_true_eq, Bool.not_eq_true, Bool.not_true, Bool.not_false, if_true, if_false, Bool.false_eq_true, and_true, true_and, decide_true, decide_false, ite_true, ite_false, reduceCtorEq]
    refine ⟨by decide, pickS [[97, 98, 32, 42, 63], [97, 98], [97, 63], [97, 98, 42]] hg fun z hz g1 hg1 => ?_⟩
    have zk : z ≠ [] ∧ z.length ≤ 1000 := (by decide : ∀ z ∈ [[97, 98, 32, 42, 63], [97, 98], [97, 63], [97, 98, 42]], z ≠ [] ∧ z.length ≤ 1000) z hz
    refine signs_ok hg1 (by decide) (by decide) zk.1 zk.2 fun p g2 hg2 hp _ => ?_
    have hp : p.length ≤ 6 := hp
    rw [seqK_nx]
    simp only [ok_forNil, ok_forCons, forK_nx, forK_ct, forK_bk, forK_rt, ok_eOp, ok_eUn, ok_aNil, ok_aCons, ok_eFn, ok_aFn, ok_eApp, ok_eC, ok_eL, ok_eSt, ok_eM1, ok_aM1, ok_oNone, ok_oSome, ok_eSl, ok_tOf, ok_tTru, ok_tNot, ok_tAnd, ok_tOr, ok_eAnd, ok_eOr, ok_eIf, ok_eChain, ok_eVar, ok_eVarB, ok_sSeq, seqK_rt, seqK_bk, seqK_ct, ok_sSet, ok_sRet, ok_sIf, ok_sNext, ok_sDrop, ok_sApp, ok_sFreeze, ok_sUnp, ok_sAug, ok_sFor, ok_aLcE, ok_aItems, runK_rt, runK_nx, ok_runD, okO_some, okO_map, valD_d, valB_d, valB_o, valB_w, ownOf_o, asInt_i, asBl_b, start3, frz, sets, tgName, tgTup, tgsCons, tgsNil, wipe3, List.set_cons_zero, List.set_cons_succ, List.getElem?_cons_zero, List.getElem?_cons_succ, List.map_cons, List.map_nil, List.length_cons, List.length_nil, List.cons_append, List.nil_append, List.replicate_succ, List.replicate_zero, Nat.reduceSub, Nat.reduceAdd, Nat.reduceLT, okO_if, dAddA_ii, dAddA_ss, dAddA_ll, dAddA_tt, dAdd_ii, dAdd_ss, dSub_ii, dMul_ii, dMul_si, dMod_ii, dDiv_ii, dLt_ii, dLt_ss, dLe_ii, dLe_ss, dGt_ii, dGt_ss, dGe_ii, dGe_ss, dEq_ii, dEq_ss, dEq_bb, dEq_nn, dEq_ns, dEq_sn, dEq_ni, dEq_in, dNe_ii, dNe_ss, dNe_bb, dNe_nn, dNe_ns, dNe_sn, dNe_ni, dNe_in, dIs_n, dIsNot_n, dIs_b, dIsNot_b, dIs_i, dIsNot_i, dIs_s, dIsNot_s, dIs_l, dIsNot_l, dIs_t, dIsNot_t, dIs_d, dIsNot_d, dIs_o, dIsNot_o, dLen_s, dLen_l, dLen_t, dTup_d, dLst_d, truD_n, truD_b, truD_i, truD_s, truD_l, truD_t, dNot_b, dNeg_i, asInt_i, asBl_b, dSl_s, dSl_l, dSl_t, isStr_s, items_l, items_t, items_s, dInt_i, dInt_b, dIx_li, dIx_ti, dStarts_ss, dTuple_l, dTuple_t, aList_l, aList_t, dIn_cs, dNotIn_cs, valD_d, valB_d, valB_o, valB_w, ownOf_o, isi_int_n, isi_int_b, isi_int_i, isi_int_s, isi_int_l, isi_int_t, isi_int_d, isi_str_n, isi_str_b, isi_str_i, isi_str_s, isi_str_l, isi_str_t, isi_str_d, isi_bool_n, isi_bool_b, isi_bool_i, isi_bool_s, isi_bool_l, isi_bool_t, isi_bool_d, isi_list_n, isi_list_b, isi_list_i, isi_list_s, isi_list_l, isi_list_t, isi_list_d, isi_tuple_n, isi_tuple_b, isi_tuple_i, isi_tuple_s, isi_tuple_l, isi_tuple_t, isi_tuple_d, isi_dict_n, isi_dict_b, isi_dict_i, isi_dict_s, isi_dict_l, isi_dict_t, isi_dict_d, decide_eq_true_eq, Bool.not_eq_true, Bool.not_true, Bool.not_false, if_true, if_false, Bool.false_eq_true, and_true, true_and, decide_true, decide_false, ite_true, ite_false, reduceCtorEq]
    refine ⟨by decide, pickS [[97, 98, 32, 42, 63], [97, 98], [97, 32]] hg2 fun z hz g3 hg3 => ?_⟩
    have zk : z ≠ [] ∧ z.length ≤ 1000 := (by decide : ∀ z ∈ [[97, 98, 32, 42, 63], [97, 98], [97, 32]], z ≠ [] ∧ z.length ≤ 1000) z hz
    refine signs_ok hg3 (by decide) (by decide) zk.1 zk.2 fun t g4 hg4 ht _ => ?_
    have ht : t.length ≤ 9 := ht
    rw [seqK_nx]
    generalize hQ : nxt _ = QQ
    have last : ∀ (t : List Nat) (d : Option SV) (g5 : Store), DeckOk 1 g5 → t.length ≤ 12 → seqK (sApp 2 (eFn dTup (aCons (eVar 4) (aCons (eVar 5) aNil)))) QQ (.nx [some (.d (.lst (ns.map .int))), some (.d (.obj 1)), some (.own xs), some (.d d0), some (.d (.str p)), some (.d (.str t)), d]) g5 := by
      intro t d g5 hg5 ht
      subst hQ
      rw [seqK_nx]
      simp only [ok_forNil, ok_forCons, forK_nx, forK_ct, forK_bk, forK_rt, ok_eOp, ok_eUn, ok_aNil, ok_aCons, ok_eFn, ok_aFn, ok_eApp, ok_eC, ok_eL, ok_eSt, ok_eM1, ok_aM1, ok_oNone, ok_oSome, ok_eSl, ok_tOf, ok_tTru, ok_tNot, ok_tAnd, ok_tOr, ok_eAnd, ok_eOr, ok_eIf, ok_eChain, ok_eVar, ok_eVarB, ok_sSeq, seqK_rt, seqK_bk, seqK_ct, ok_sSet, ok_sRet, ok_sIf, ok_sNext, ok_sDrop, ok_sApp, ok_sFreeze, ok_sUnp, ok_sAug, ok_sFor, ok_aLcE, ok_aItems, runK_rt, runK_nx, ok_runD, okO_some, okO_map, valD_d, valB_d, valB_o, valB_w, ownOf_o, asInt_i, asBl_b, start3, frz, sets, tgName, tgTup, tgsCons, tgsNil, wipe3, List.set_cons_zero, List.set_cons_succ, List.getElem?_cons_zero, List.getElem?_cons_succ, List.map_cons, List.map_nil, List.length_cons, List.length_nil, List.cons_append, List.nil_append, List.replicate_succ, List.replicate_zero, Nat.reduceSub, Nat.reduceAdd, Nat.reduceLT, okO_if, dAddA_ii, dAddA_ss, dAddA_ll, dAddA_tt, dAdd_ii, dAdd_ss, dSub_ii, dMul_ii, dMul_si, dMod_ii, dDiv_ii, dLt_ii, dLt_ss, dLe_ii, dLe_ss, dGt_ii, dGt_ss, dGe_ii, dGe_ss, dEq_ii, dEq_ss, dEq_bb, dEq_nn, dEq_ns, dEq_sn, dEq_ni, dEq_in, dNe_ii, dNe_ss, dNe_bb, dNe_nn, dNe_ns, dNe_sn, dNe_ni, dNe_in, dIs_n, dIsNot_n, dIs_b, dIsNot_b, dIs_i, dIsNot_i, dIs_s, dIsNot_s, dIs_l, dIsNot_l, dIs_t, dIsNot_t, dIs_d, dIsNot_d, dIs_o, dIsNot_o, dLen_s, dLen_l, dLen_t, dTup_d, dLst_d, truD_n, truD_b, truD_i, truD_s, truD_l, truD_t, dNot_b, dNeg_i, asInt_i, asBl_b, dSl_s, dSl_l, dSl_t, isStr_s, items_l, items_t, items_s, dInt_i, dInt_b, dIx_li, dIx_ti, dStarts_ss, dTuple_l, dTuple_t, aList_l, aList_t, dIn_cs, dNotIn_cs, valD_d, valB_d, valB_o, valB_w, ownOf_o, isi_int_n, isi_int_b, isi_int_i, isi_int_s, isi_int_l, isi_int_t, isi_int_d, isi_str_n, isi_str_b, isi_str_i, isi_str_s, isi_str_l, isi_str_t, isi_str_d, isi_bool_n, isi_bool_b, isi_bool_i, isi_bool_s, isi_bool_l, isi_bool_t, isi_bool_d, isi_list_n, isi_list_b, isi_list_i, isi_list_s, isi_list_l, isi_list_t, isi_list_d, isi_tuple_n, isi_tuple_b, isi_tuple_i, isi_tuple_s, isi_tuple_l, isi_tuple_t, isi_tuple_d, isi_dict_n, isi_dict_b, isi_dict_i, isi_dict_s, isi_dict_l, isi_dict_t, isi_dict_d, decide_eq_true_eq, Bool.not_eq_true, Bool.not_true, Bool.not_false, if_true, if_false, Bool.false_eq_true, and_true, true_and, decide_true, decide_false, ite_true, ite_false, reduceCtorEq, nxt_nx]
      refine ⟨by decide, by unfold BIG; omega, hg5, _, _, _, _, _, rfl, by rw [List.length_append, List.length_singleton]; omega, fun x hm => ?_⟩
      rcases List.mem_append.mp hm with hm | hm
      · exact hr x hm
      · rw [List.mem_singleton] at hm
        exact ⟨p, t, hm, by omega, by omega⟩
    simp only [ok_forNil, ok_forCons, forK_nx, forK_ct, forK_bk, forK_rt, ok_eOp, ok_eUn, ok_aNil, ok_aCons, ok_eFn, ok_aFn, ok_eApp, ok_eC, ok_eL, ok_eSt, ok_eM1, ok_aM1, ok_oNone, ok_oSome, ok_eSl, ok_tOf, ok_tTru, ok_tNot, ok_tAnd, ok_tOr, ok_eAnd, ok_eOr, ok_eIf, ok_eChain, ok_eVar, ok_eVarB, ok_sSeq, seqK_rt, seqK_bk, seqK_ct, ok_sSet, ok_sRet, ok_sIf, ok_sNext, ok_sDrop, ok_sApp, ok_sFreeze, ok_sUnp, ok_sAug, ok_sFor, ok_aLcE, ok_aItems, runK_rt, runK_nx, ok_runD, okO_some, okO_map, valD_d, valB_d, valB_o, valB_w, ownOf_o, asInt_i, asBl_b, start3, frz, sets, tgName, tgTup, tgsCons, tgsNil, wipe3, List.set_cons_zero, List.set_cons_succ, List.getElem?_cons_zero, List.getElem?_cons_succ, List.map_cons, List.map_nil, List.length_cons, List.length_nil, List.cons_append, List.nil_append, List.replicate_succ, List.replicate_zero, Nat.reduceSub, Nat.reduceAdd, Nat.reduceLT, okO_if, dAddA_ii, dAddA_ss, dAddA_ll, dAddA_tt, dAdd_ii, dAdd_ss, dSub_ii, dMul_ii, dMul_si, dMod_ii, dDiv_ii, dLt_ii, dLt_ss, dLe_ii, dLe_ss, dGt_ii, dGt_ss, dGe_ii, dGe_ss, dEq_ii, dEq_ss, dEq_bb, dEq_nn, dEq_ns, dEq_sn, dEq_ni, dEq_in, dNe_ii, dNe_ss, dNe_bb, dNe_nn, dNe_ns, dNe_sn, dNe_ni, dNe_in, dIs_n, dIsNot_n, dIs_b, dIsNot_b, dIs_i, dIsNot_i, dIs_s, dIsNot_s, dIs_l, dIsNot_l, dIs_t, dIsNot_t, dIs_d, dIsNot_d, dIs_o, dIsNot_o, dLen_s, dLen_l, dLen_t, dTup_d, dLst_d, truD_n, truD_b, truD_i, truD_s, truD_l, truD_t, dNot_b, dNeg_i, asInt_i, asBl_b, dSl_s, dSl_l, dSl_t, isStr_s, items_l, items_t, items_s, dInt_i, dInt_b, dIx_li, dIx_ti, dStarts_ss, dTuple_l, dTuple_t, aList_l, aList_t, dIn_cs, dNotIn_cs, valD_d, valB_d, valB_o, valB_w, ownOf_o, isi_int_n, isi_int_b, isi_int_i, isi_int_s, isi_int_l, isi_int_t, isi_int_d, isi_str_n, isi_str_b, isi_str_i, isi_str_s, isi_str_l, isi_str_t, isi_str_d, isi_bool_n, isi_bool_b, isi_bool_i, isi_bool_s, isi_bool_l, isi_bool_t, isi_bool_d, isi_list_n, isi_list_b, isi_list_i, isi_list_s, isi_list_l, isi_list_t, isi_list_d, isi_tuple_n, isi_tuple_b, isi_tuple_i, isi_tuple_s, isi_tuple_l, isi_tuple_t, isi_tuple_d, isi_dict_n, isi_dict_b, isi_dict_i, isi_dict_s, isi_dict_l, isi_dict_t, isi_dict_d, decide_eq_true_eq, Bool.not_eq_true, Bool.not_true, Bool.not_false, if_true, if_false, Bool.false_eq_true, and_true, true_and, decide_true, decide_false, ite_true, ite_false, reduceCtorEq]
    refine Ok.next hg4 (by decide) (by decide) fun v g5 b0 b1 hg5 => ?_
    simp only [ok_forNil, ok_forCons, forK_nx, forK_ct, forK_bk, forK_rt, ok_eOp, ok_eUn, ok_aNil, ok_aCons, ok_eFn, ok_aFn, ok_eApp, ok_eC, ok_eL, ok_eSt, ok_eM1, ok_aM1, ok_oNone, ok_oSome, ok_eSl, ok_tOf, ok_tTru, ok_tNot, ok_tAnd, ok_tOr, ok_eAnd, ok_eOr, ok_eIf, ok_eChain, ok_eVar, ok_eVarB, ok_sSeq, seqK_rt, seqK_bk, seqK_ct, ok_sSet, ok_sRet, ok_sIf, ok_sNext, ok_sDrop, ok_sApp, ok_sFreeze, ok_sUnp, ok_sAug, ok_sFor, ok_aLcE, ok_aItems, runK_rt, runK_nx, ok_runD, okO_some, okO_map, valD_d, valB_d, valB_o, valB_w, ownOf_o, asInt_i, asBl_b, start3, frz, sets, tgName, tgTup, tgsCons, tgsNil, wipe3, List.set_cons_zero, List.set_cons_succ, List.getElem?_cons_zero, List.getElem?_cons_succ, List.map_cons, List.map_nil, List.length_cons, List.length_nil, List.cons_append, List.nil_append, List.replicate_succ, List.replicate_zero, Nat.reduceSub, Nat.reduceAdd, Nat.reduceLT, okO_if, dAddA_ii, dAddA_ss, dAddA_ll, dAddA_tt, dAdd_ii, dAdd_ss, dSub_ii, dMul_ii, dMul_si, dMod_ii, dDiv_ii, dLt_ii, dLt_ss, dLe_ii, dLe_ss, dGt_ii, dGt_ss, dGe_ii, dGe_ss, dEq_ii, dEq_ss, dEq_bb, dEq_nn, dEq_ns, dEq_sn, dEq_ni, dEq_in, dNe_ii, dNe_ss, dNe_bb, dNe_nn, dNe_ns, dNe_sn, dNe_ni, dNe_in, dIs_n, dIsNot_n, dIs_b, dIsNot_b, dIs_i, dIsNot_i, dIs_s, dIsNot_s, dIs_l, dIsNot_l, dIs_t, dIsNot_t, dIs_d, dIsNot_d, dIs_o, dIsNot_o, dLen_s, dLen_l, dLen_t, dTup_d, dLst_d, truD_n, truD_b, truD_i, truD_s, truD_l, truD_t, dNot_b, dNeg_i, asInt_i, asBl_b, dSl_s, dSl_l, dSl_t, isStr_s, items_l, items_t, items_s, dInt_i, dInt_b, dIx_li, dIx_ti, dStarts_ss, dTuple_l, dTuple_t, aList_l, aList_t, dIn_cs, dNotIn_cs, valD_d, valB_d, valB_o, valB_w, ownOf_o, isi_int_n, isi_int_b, isi_int_i, isi_int_s, isi_int_l, isi_int_t, isi_int_d, isi_str_n, isi_str_b, isi_str_i, isi_str_s, isi_str_l, isi_str_t, isi_str_d, isi_bool_n, isi_bool_b, isi_bool_i, isi_bool_s, isi_bool_l, isi_bool_t, isi_bool_d, isi_list_n, isi_list_b, isi_list_i, isi_list_s, isi_list_l, isi_list_t, isi_list_d, isi_tuple_n, isi_tuple_b, isi_tuple_i, isi_tuple_s, isi_tuple_l, isi_tuple_t, isi_tuple_d, isi_dict_n, isi_dict_b, isi_dict_i, isi_dict_s, isi_dict_l, isi_dict_t, isi_dict_d, decide_eq_true_eq, Bool.not_eq_true, Bool.not_true, Bool.not_false, if_true, if_false, Bool.false_eq_true, and_true, true_and, decide_true, decide_false, ite_true, ite_false, reduceCtorEq]
    split
    · refine ⟨by unfold BIG; omega, one_of_ok hg5 (by omega) fun u g6 hg6 hu => ?_⟩
      have l1 := cut_len t none (some 3)
      have l2 := cut_len t (some 3) (some 6)
      simp only [ok_forNil, ok_forCons, forK_nx, forK_ct, forK_bk, forK_rt, ok_eOp, ok_eUn, ok_aNil, ok_aCons, ok_eFn, ok_aFn, ok_eApp, ok_eC, ok_eL, ok_eSt, ok_eM1, ok_aM1, ok_oNone, ok_oSome, ok_eSl, ok_tOf, ok_tTru, ok_tNot, ok_tAnd, ok_tOr, ok_eAnd, ok_eOr, ok_eIf, ok_eChain, ok_eVar, ok_eVarB, ok_sSeq, seqK_rt, seqK_bk, seqK_ct, ok_sSet, ok_sRet, ok_sIf, ok_sNext, ok_sDrop, ok_sApp, ok_sFreeze, ok_sUnp, ok_sAug, ok_sFor, ok_aLcE, ok_aItems, runK_rt, runK_nx, ok_runD, okO_some, okO_map, valD_d, valB_d, valB_o, valB_w, ownOf_o, asInt_i, asBl_b, start3, frz, sets, tgName, tgTup, tgsCons, tgsNil, wipe3, List.set_cons_zero, List.set_cons_succ, List.getElem?_cons_zero, List.getElem?_cons_succ, List.map_cons, List.map_nil, List.length_cons, List.length_nil, List.cons_append, List.nil_append, List.replicate_succ, List.replicate_zero, Nat.reduceSub, Nat.reduceAdd, Nat.reduceLT, okO_if, dAddA_ii, dAddA_ss, dAddA_ll, dAddA_tt, dAdd_ii, dAdd_ss, dSub_ii, dMul_ii, dMul_si, dMod_ii, dDiv_ii, dLt_ii, dLt_ss, dLe_ii, dLe_ss, dGt_ii, dGt_ss, dGe_ii, dGe_ss, dEq_ii, dEq_ss, dEq_bb, dEq_nn, dEq_ns, dEq_sn, dEq_ni, dEq_in, dNe_ii, dNe_ss, dNe_bb, dNe_nn, dNe_ns, dNe_sn, dNe_ni, dNe_in, dIs_n, dIsNot_n, dIs_b, dIsNot_b, dIs_i, dIsNot_i, dIs_s, dIsNot_s, dIs_l, dIsNot_l, dIs_t, dIsNot_t, dIs_d, dIsNot_d, dIs_o, dIsNot_o, dLen_s, dLen_l, dLen_t, dTup_d, dLst_d, truD_n, truD_b, truD_i, truD_s, truD_l, truD_t, dNot_b, dNeg_i, asInt_i, asBl_b, dSl_s, dSl_l, dSl_t, isStr_s, items_l, items_t, items_s, dInt_i, dInt_b, dIx_li, dIx_ti, dStarts_ss, dTuple_l, dTuple_t, aList_l, aList_t, dIn_cs, dNotIn_cs, valD_d, valB_d, valB_o, valB_w, ownOf_o, isi_int_n, isi_int_b, isi_int_i, isi_int_s, isi_int_l, isi_int_t, isi_int_d, isi_str_n, isi_str_b, isi_str_i, isi_str_s, isi_str_l, isi_str_t, isi_str_d, isi_bool_n, isi_bool_b, isi_bool_i, isi_bool_s, isi_bool_l, isi_bool_t, isi_bool_d, isi_list_n, isi_list_b, isi_list_i, isi_list_s, isi_list_l, isi_list_t, isi_list_d, isi_tuple_n, isi_tuple_b, isi_tuple_i, isi_tuple_s, isi_tuple_l, isi_tuple_t, isi_tuple_d, isi_dict_n, isi_dict_b, isi_dict_i, isi_dict_s, isi_dict_l, isi_dict_t, isi_dict_d, decide_eq_true_eq, Bool.not_eq_true, Bool.not_true, Bool.not_false, if_true, if_false, Bool.false_eq_true, and_true, true_and, decide_true, decide_false, ite_true, ite_false, reduceCtorEq]
      refine ⟨by unfold BIG; omega, by unfold BIG; omega, by rw [List.length_append]; unfold BIG; omega, by rw [List.length_append, List.length_append]; unfold BIG; omega, ?_⟩
      refine last _ _ g6 hg6 ?_
      unfold cutL
      rw [List.length_take]
      exact Nat.le_trans (Nat.min_le_left _ _) (by show min 12 _ - 0 ≤ 12; omega)
    · exact last t _ g5 hg5 (by omega)
  · obtain ⟨hg, xs, a, b, c, d, rfl, hx, hr⟩ := hJ
    rw [List.length_nil] at hx
    rw [seqK_nx]
    simp only [ok_forNil, ok_forCons, forK_nx, forK_ct, forK_bk, forK_rt, ok_eOp, ok_eUn, ok_aNil, ok_aCons, ok_eFn, ok_aFn, ok_eApp, ok_eC, ok_eL, ok_eSt, ok_eM1, ok_aM1, ok_oNone, ok_oSome, ok_eSl, ok_tOf, ok_tTru, ok_tNot, ok_tAnd, ok_tOr, ok_eAnd, ok_eOr, ok_eIf, ok_eChain, ok_eVar, ok_eVarB, ok_sSeq, seqK_rt, seqK_bk, seqK_ct, ok_sSet, ok_sRet, ok_sIf, ok_sNext, ok_sDrop, ok_sApp, ok_sFreeze, ok_sUnp, ok_sAug, ok_sFor, ok_aLcE, ok_aItems, runK_rt, runK_nx, ok_runD, okO_some, okO_map, valD_d, valB_d, valB_o, valB_w, ownOf_o, asInt_i, asBl_b, start3, frz, sets, tgName, tgTup, tgsCons, tgsNil, wipe3, List.set_cons_zero, List.set_cons_succ, List.getElem?_cons_zero, List.getElem?_cons_succ, List.map_cons, List.map_nil, List.length_cons, List.length_nil, List.cons_append, List.nil_append, List.replicate_succ, List.replicate_zero, Nat.reduceSub, Nat.reduceAdd, Nat.reduceLT, okO_if, dAddA_ii, dAddA_ss, dAddA_ll, dAddA_tt, dAdd_ii, dAdd_ss, dSub_ii, dMul_ii, dMul_si, dMod_ii, dDiv_ii, dLt_ii, dLt_ss, dLe_ii, dLe_ss, dGt_ii, dGt_ss, dGe_ii, dGe_ss, dEq_ii, dEq_ss, dEq_bb, dEq_nn, dEq_ns, dEq_sn, dEq_ni, dEq_in, dNe_ii, dNe_ss, dNe_bb, dNe_nn, dNe_ns, dNe_sn, dNe_ni, dNe_in, dIs_n, dIsNot_n, dIs_b, dIsNot_b, dIs_i, dIsNot_i, dIs_s, dIsNot_s, dIs_l, dIsNot_l, dIs_t, dIsNot_t, dIs_d, dIsNot_d, dIs_o, dIsNot_o, dLen_s, dLen_l, dLen_t, dTup_d, dLst_d, truD_n, truD_b, truD_i, truD_s, truD_l, truD_t, dNot_b, dNeg_i, asInt_i, asBl_b, dSl_s, dSl_l, dSl_t, isStr_s, items_l, items_t, items_s, dInt_i, dInt_b, dIx_li, dIx_ti, dStarts_ss, dTuple_l, dTuple_t, aList_l, aList_t, dIn_cs, dNotIn_cs, valD_d, valB_d, valB_o, valB_w, ownOf_o, isi_int_n, isi_int_b, isi_int_i, isi_int_s, isi_int_l, isi_int_t, isi_int_d, isi_str_n, isi_str_b, isi_str_i, isi_str_s, isi_str_l, isi_str_t, isi_str_d, isi_bool_n, isi_bool_b, isi_bool_i, isi_bool_s, isi_bool_l, isi_bool_t, isi_bool_d, isi_list_n, isi_list_b, isi_list_i, isi_list_s, isi_list_l, isi_list_t, isi_list_d, isi_tuple_n, isi_tuple_b, isi_tuple_i, isi_tuple_s, isi_tuple_l, isi_tuple_t, isi_tuple_d, isi_dict_n, isi_dict_b, isi_dict_i, isi_dict_s, isi_dict_l, isi_dict_t, isi_dict_d, decide_eq_true_eq, Bool.not_eq_true, Bool.not_true, Bool.not_false, if_true, if_false, Bool.false_eq_true, and_true, true_and, decide_true, decide_false, ite_true, ite_false, reduceCtorEq]
    refine ⟨by unfold BIG; omega, ?_⟩
    refine ok_forN (fun ds ρ g' => ∃ a b c d, ρ = [some (.d (.lst (ns.map .int))), some (.d (.obj 1)), some (.own xs), a, b, c, d] ∧ ∀ x ∈ ds, rowOk x) ⟨_, _, _, _, rfl, fun x hm => ?_⟩ (fun d r ρ g' hJ => ?_) (fun ρ g' hJ => ?_)
    · rcases List.mem_append.mp hm with hm | hm <;> exact hr x hm
    · obtain ⟨a, b, c, d, rfl, hr⟩ := hJ
      obtain ⟨p, t, rfl, hp, ht⟩ := hr _ (List.mem_cons_self ..)
      have any1 : Hs [] t := ⟨[], [], t, rfl, rfl⟩
      have any2 : Hs [42] t := ⟨[], [], t, rfl, Mt_star _⟩
      have own1 : Mt p t → Hs p t := fun h => ⟨[], t, [], by simp, h⟩
      refine ⟨_, rfl, ?_⟩
      unfold lb_law_1
      simp only [ok_forNil, ok_forCons, forK_nx, forK_ct, forK_bk, forK_rt, ok_eOp, ok_eUn, ok_aNil, ok_aCons, ok_eFn, ok_aFn, ok_eApp, ok_eC, ok_eL, ok_eSt, ok_eM1, ok_aM1, ok_oNone, ok_oSome, ok_eSl, ok_tOf, ok_tTru, ok_tNot, ok_tAnd, ok_tOr, ok_eAnd, ok_eOr, ok_eIf, ok_eChain, ok_eVar, ok_eVarB, ok_sSeq, seqK_rt, seqK_bk, seqK_ct, ok_sSet, ok_sRet, ok_sIf, ok_sNext, ok_sDrop, ok_sApp, ok_sFreeze, ok_sUnp, ok_sAug, ok_sFor, ok_aLcE, ok_aItems, runK_rt, runK_nx, ok_runD, okO_some, okO_map, valD_d, valB_d, valB_o, valB_w, ownOf_o, asInt_i, asBl_b, start3, frz, sets, tgName, tgTup, tgsCons, tgsNil, wipe3, List.set_cons_zero, List.set_cons_succ, List.getElem?_cons_zero, List.getElem?_cons_succ, List.map_cons, List.map_nil, List.length_cons, List.length_nil, List.cons_append, List.nil_append, List.replicate_succ, List.replicate_zero, Nat.reduceSub, Nat.reduceAdd, Nat.reduceLT, okO_if, dAddA_ii, dAddA_ss, dAddA_ll, dAddA_tt, dAdd_ii, dAdd_ss, dSub_ii, dMul_ii, dMul_si, dMod_ii, dDiv_ii, dLt_ii, dLt_ss, dLe_ii, dLe_ss, dGt_ii, dGt_ss, dGe_ii, dGe_ss, dEq_ii, dEq_ss, dEq_bb, dEq_nn, dEq_ns, dEq_sn, dEq_ni, dEq_in, dNe_ii, dNe_ss, dNe_bb, dNe_nn, dNe_ns, dNe_sn, dNe_ni, dNe_in, dIs_n, dIsNot_n, dIs_b, dIsNot_b, dIs_i, dIsNot_i, dIs_s, dIsNot_s, dIs_l, dIsNot_l, dIs_t, dIsNot_t, dIs_d, dIsNot_d, dIs_o, dIsNot_o, dLen_s, dLen_l, dLen_t, dTup_d, dLst_d, truD_n, truD_b, truD_i, truD_s, truD_l, truD_t, dNot_b, dNeg_i, asInt_i, asBl_b, dSl_s, dSl_l, dSl_t, isStr_s, items_l, items_t, items_s, dInt_i, dInt_b, dIx_li, dIx_ti, dStarts_ss, dTuple_l, dTuple_t, aList_l, aList_t, dIn_cs, dNotIn_cs, valD_d, valB_d, valB_o, valB_w, ownOf_o, isi_int_n, isi_int_b, isi_int_i, isi_int_s, isi_int_l, isi_int_t, isi_int_d, isi_str_n, isi_str_b, isi_str_i, isi_str_s, isi_str_l, isi_str_t, isi_str_d, isi_bool_n, isi_bool_b, isi_bool_i, isi_bool_s, isi_bool_l, isi_bool_t, isi_bool_d, isi_list_n, isi_list_b, isi_list_i, isi_list_s, isi_list_l, isi_list_t, isi_list_d, isi_tuple_n, isi_tuple_b, isi_tuple_i, isi_tuple_s, isi_tuple_l, isi_tuple_t, isi_tuple_d, isi_dict_n, isi_dict_b, isi_dict_i, isi_dict_s, isi_dict_l, isi_dict_t, isi_dict_d, decide_eq_true_eq, Bool.not_eq_true, Bool.not_true, Bool.not_false, if_true, if_false, Bool.false_eq_true, and_true, true_and, decide_true, decide_false, ite_true, ite_false, reduceCtorEq]
      refine has_ok (by omega) ?_
      rw [seqK_nx]
      simp only [ok_forNil, ok_forCons, forK_nx, forK_ct, forK_bk, forK_rt, ok_eOp, ok_eUn, ok_aNil, ok_aCons, ok_eFn, ok_aFn, ok_eApp, ok_eC, ok_eL, ok_eSt, ok_eM1, ok_aM1, ok_oNone, ok_oSome, ok_eSl, ok_tOf, ok_tTru, ok_tNot, ok_tAnd, ok_tOr, ok_eAnd, ok_eOr, ok_eIf, ok_eChain, ok_eVar, ok_eVarB, ok_sSeq, seqK_rt, seqK_bk, seqK_ct, ok_sSet, ok_sRet, ok_sIf, ok_sNext, ok_sDrop, ok_sApp, ok_sFreeze, ok_sUnp, ok_sAug, ok_sFor, ok_aLcE, ok_aItems, runK_rt, runK_nx, ok_runD, okO_some, okO_map, valD_d, valB_d, valB_o, valB_w, ownOf_o, asInt_i, asBl_b, start3, frz, sets, tgName, tgTup, tgsCons, tgsNil, wipe3, List.set_cons_zero, List.set_cons_succ, List.getElem?_cons_zero, List.getElem?_cons_succ, List.map_cons, List.map_nil, List.length_cons, List.length_nil, List.cons_append, List.nil_append, List.replicate_succ, List.replicate_zero, Nat.reduceSub, Nat.reduceAdd, Nat.reduceLT, okO_if, dAddA_ii, dAddA_ss, dAddA_ll, dAddA_tt, dAdd_ii, dAdd_ss, dSub_ii, dMul_ii, dMul_si, dMod_ii, dDiv_ii, dLt_ii, dLt_ss, dLe_ii, dLe_ss, dGt_ii, dGt_ss, dGe_ii, dGe_ss, dEq_ii, dEq_ss, dEq_bb, dEq_nn, dEq_ns, dEq_sn, dEq_ni, dEq_in, dNe_ii, dNe_ss, dNe_bb, dNe_nn, dNe_ns, dNe_sn, dNe_ni, dNe_in, dIs_n, dIsNot_n, dIs_b, dIsNot_b, dIs_i, dIsNot_i, dIs_s, dIsNot_s, dIs_l, dIsNot_l, dIs_t, dIsNot_t, dIs_d, dIsNot_d, dIs_o, dIsNot_o, dLen_s, dLen_l, dLen_t, dTup_d, dLst_d, truD_n, truD_b, truD_i, truD_s, truD_l, truD_t, dNot_b, dNeg_i, asInt_i, asBl_b, dSl_s, dSl_l, dSl_t, isStr_s, items_l, items_t, items_s, dInt_i, dInt_b, dIx_li, dIx_ti, dStarts_ss, dTuple_l, dTuple_t, aList_l, aList_t, dIn_cs, dNotIn_cs, valD_d, valB_d, valB_o, valB_w, ownOf_o, isi_int_n, isi_int_b, isi_int_i, isi_int_s, isi_int_l, isi_int_t, isi_int_d, isi_str_n, isi_str_b, isi_str_i, isi_str_s, isi_str_l, isi_str_t, isi_str_d, isi_bool_n, isi_bool_b, isi_bool_i, isi_bool_s, isi_bool_l, isi_bool_t, isi_bool_d, isi_list_n, isi_list_b, isi_list_i, isi_list_s, isi_list_l, isi_list_t, isi_list_d, isi_tuple_n, isi_tuple_b, isi_tuple_i, isi_tuple_s, isi_tuple_l, isi_tuple_t, isi_tuple_d, isi_dict_n, isi_dict_b, isi_dict_i, isi_dict_s, isi_dict_l, isi_dict_t, isi_dict_d, decide_eq_true_eq, Bool.not_eq_true, Bool.not_true, Bool.not_false, if_true, if_false, Bool.false_eq_true, and_true, true_and, decide_true, decide_false, ite_true, ite_false, reduceCtorEq]
      refine law_has_ok (by omega) (by omega) ?_
      simp only [ok_forNil, ok_forCons, forK_nx, forK_ct, forK_bk, forK_rt, ok_eOp, ok_eUn, ok_aNil, ok_aCons, ok_eFn, ok_aFn, ok_eApp, ok_eC, ok_eL, ok_eSt, ok_eM1, ok_aM1, ok_oNone, ok_oSome, ok_eSl, ok_tOf, ok_tTru, ok_tNot, ok_tAnd, ok_tOr, ok_eAnd, ok_eOr, ok_eIf, ok_eChain, ok_eVar, ok_eVarB, ok_sSeq, seqK_rt, seqK_bk, seqK_ct, ok_sSet, ok_sRet, ok_sIf, ok_sNext, ok_sDrop, ok_sApp, ok_sFreeze, ok_sUnp, ok_sAug, ok_sFor, ok_aLcE, ok_aItems, runK_rt, runK_nx, ok_runD, okO_some, okO_map, valD_d, valB_d, valB_o, valB_w, ownOf_o, asInt_i, asBl_b, start3, frz, sets, tgName, tgTup, tgsCons, tgsNil, wipe3, List.set_cons_zero, List.set_cons_succ, List.getElem?_cons_zero, List.getElem?_cons_succ, List.map_cons, List.map_nil, List.length_cons, List.length_nil, List.cons_append, List.nil_append, List.replicate_succ, List.replicate_zero, Nat.reduceSub, Nat.reduceAdd, Nat.reduceLT, okO_if, dAddA_ii, dAddA_ss, dAddA_ll, dAddA_tt, dAdd_ii, dAdd_ss, dSub_ii, dMul_ii, dMul_si, dMod_ii, dDiv_ii, dLt_ii, dLt_ss, dLe_ii, dLe_ss, dGt_ii, dGt_ss, dGe_ii, dGe_ss, dEq_ii, dEq_ss, dEq_bb, dEq_nn, dEq_ns, dEq_sn, dEq_ni, dEq_in, dNe_ii, dNe_ss, dNe_bb, dNe_nn, dNe_ns, dNe_sn, dNe_ni, dNe_in, dIs_n, dIsNot_n, dIs_b, dIsNot_b, dIs_i, dIsNot_i, dIs_s, dIsNot_s, dIs_l, dIsNot_l, dIs_t, dIsNot_t, dIs_d, dIsNot_d, dIs_o, dIsNot_o, dLen_s, dLen_l, dLen_t, dTup_d, dLst_d, truD_n, truD_b, truD_i, truD_s, truD_l, truD_t, dNot_b, dNeg_i, asInt_i, asBl_b, dSl_s, dSl_l, dSl_t, isStr_s, items_l, items_t, items_s, dInt_i, dInt_b, dIx_li, dIx_ti, dStarts_ss, dTuple_l, dTuple_t, aList_l, aList_t, dIn_cs, dNotIn_cs, valD_d, valB_d, valB_o, valB_w, ownOf_o, isi_int_n, isi_int_b, isi_int_i, isi_int_s, isi_int_l, isi_int_t, isi_int_d, isi_str_n, isi_str_b, isi_str_i, isi_str_s, isi_str_l, isi_str_t, isi_str_d, isi_bool_n, isi_bool_b, isi_bool_i, isi_bool_s, isi_bool_l, isi_bool_t, isi_bool_d, isi_list_n, isi_list_b, isi_list_i, isi_list_s, isi_list_l, isi_list_t, isi_list_d, isi_tuple_n, isi_tuple_b, isi_tuple_i, isi_tuple_s, isi_tuple_l, isi_tuple_t, isi_tuple_d, isi_dict_n, isi_dict_b, isi_dict_i, isi_dict_s, isi_dict_l, isi_dict_t, isi_dict_d, decide_eq_true_eq, Bool.not_eq_true, Bool.not_true, Bool.not_false, if_true, if_false, Bool.false_eq_true, and_true, true_and, decide_true, decide_false, ite_true, ite_false, reduceCtorEq]
      rw [seqK_nx]
      simp only [ok_forNil, ok_forCons, forK_nx, forK_ct, forK_bk, forK_rt, ok_eOp, ok_eUn, ok_aNil, ok_aCons, ok_eFn, ok_aFn, ok_eApp, ok_eC, ok_eL, ok_eSt, ok_eM1, ok_aM1, ok_oNone, ok_oSome, ok_eSl, ok_tOf, ok_tTru, ok_tNot, ok_tAnd, ok_tOr, ok_eAnd, ok_eOr, ok_eIf, ok_eChain, ok_eVar, ok_eVarB, ok_sSeq, seqK_rt, seqK_bk, seqK_ct, ok_sSet, ok_sRet, ok_sIf, ok_sNext, ok_sDrop, ok_sApp, ok_sFreeze, ok_sUnp, ok_sAug, ok_sFor, ok_aLcE, ok_aItems, runK_rt, runK_nx, ok_runD, okO_some, okO_map, valD_d, valB_d, valB_o, valB_w, ownOf_o, asInt_i, asBl_b, start3, frz, sets, tgName, tgTup, tgsCons, tgsNil, wipe3, List.set_cons_zero, List.set_cons_succ, List.getElem?_cons_zero, List.getElem?_cons_succ, List.map_cons, List.map_nil, List.length_cons, List.length_nil, List.cons_append, List.nil_append, List.replicate_succ, List.replicate_zero, Nat.reduceSub, Nat.reduceAdd, Nat.reduceLT, okO_if, dAddA_ii, dAddA_ss, dAddA_ll, dAddA_tt, dAdd_ii, dAdd_ss, dSub_ii, dMul_ii, dMul_si, dMod_ii, dDiv_ii, dLt_ii, dLt_ss, dLe_ii, dLe_ss, dGt_ii, dGt_ss, dGe_ii, dGe_ss, dEq_ii, dEq_ss, dEq_bb, dEq_nn, dEq_ns, dEq_sn, dEq_ni, dEq_in, dNe_ii, dNe_ss, dNe_bb, dNe_nn, dNe_ns, dNe_sn, dNe_ni, dNe_in, dIs_n, dIsNot_n, dIs_b, dIsNot_b, dIs_i, dIsNot_i, dIs_s, dIsNot_s, dIs_l, dIsNot_l, dIs_t, dIsNot_t, dIs_d, dIsNot_d, dIs_o, dIsNot_o, dLen_s, dLen_l, dLen_t, dTup_d, dLst_d, truD_n, truD_b, truD_i, truD_s, truD_l, truD_t, dNot_b, dNeg_i, asInt_i, asBl_b, dSl_s, dSl_l, dSl_t, isStr_s, items_l, items_t, items_s, dInt_i, dInt_b, dIx_li, dIx_ti, dStarts_ss, dTuple_l, dTuple_t, aList_l, aList_t, dIn_cs, dNotIn_cs, valD_d, valB_d, valB_o, valB_w, ownOf_o, isi_int_n, isi_int_b, isi_int_i, isi_int_s, isi_int_l, isi_int_t, isi_int_d, isi_str_n, isi_str_b, isi_str_i, isi_str_s, isi_str_l, isi_str_t, isi_str_d, isi_bool_n, isi_bool_b, isi_bool_i, isi_bool_s, isi_bool_l, isi_bool_t, isi_bool_d, isi_list_n, isi_list_b, isi_list_i, isi_list_s, isi_list_l, isi_list_t, isi_list_d, isi_tuple_n, isi_tuple_b, isi_tuple_i, isi_tuple_s, isi_tuple_l, isi_tuple_t, isi_tuple_d, isi_dict_n, isi_dict_b, isi_dict_i, isi_dict_s, isi_dict_l, isi_dict_t, isi_dict_d, decide_eq_true_eq, Bool.not_eq_true, Bool.not_true, Bool.not_false, if_true, if_false, Bool.false_eq_true, and_true, true_and, decide_true, decide_false, ite_true, ite_false, reduceCtorEq]
      refine fits_ok (small_of (by omega)) ?_
      have fin : ∀ A B : Store → Prop, B g' → Ok (f_has [.str [], .str t] g') fun d g2 => OkO (truD d) fun b => if (!b) = true then A g2 else Ok (f_has [.str [42], .str t] g2) fun d g3 => OkO (truD d) fun b => if (!b) = true then A g3 else B g3 := by
        intro A B hB
        refine has_ok (by decide) ?_
        simp only [ok_forNil, ok_forCons, forK_nx, forK_ct, forK_bk, forK_rt, ok_eOp, ok_eUn, ok_aNil, ok_aCons, ok_eFn, ok_aFn, ok_eApp, ok_eC, ok_eL, ok_eSt, ok_eM1, ok_aM1, ok_oNone, ok_oSome, ok_eSl, ok_tOf, ok_tTru, ok_tNot, ok_tAnd, ok_tOr, ok_eAnd, ok_eOr, ok_eIf, ok_eChain, ok_eVar, ok_eVarB, ok_sSeq, seqK_rt, seqK_bk, seqK_ct, ok_sSet, ok_sRet, ok_sIf, ok_sNext, ok_sDrop, ok_sApp, ok_sFreeze, ok_sUnp, ok_sAug, ok_sFor, ok_aLcE, ok_aItems, runK_rt, runK_nx, ok_runD, okO_some, okO_map, valD_d, valB_d, valB_o, valB_w, ownOf_o, asInt_i, asBl_b, start3, frz, sets, tgName, tgTup, tgsCons, tgsNil, wipe3, List.set_cons_zero, List.set_cons_succ, List.getElem?_cons_zero, List.getElem?_cons_succ, List.map_cons, List.map_nil, List.length_cons, List.length_nil, List.cons_append, List.nil_append, List.replicate_succ, List.replicate_zero, Nat.reduceSub, Nat.reduceAdd, Nat.reduceLT, okO_if, dAddA_ii, dAddA_ss, dAddA_ll, dAddA_tt, dAdd_ii, dAdd_ss, dSub_ii, dMul_ii, dMul_si, dMod_ii, dDiv_ii, dLt_ii, dLt_ss, dLe_ii, dLe_ss, dGt_ii, dGt_ss, dGe_ii, dGe_ss, dEq_ii, dEq_ss, dEq_bb, dEq_nn, dEq_ns, dEq_sn, dEq_ni, dEq_in, dNe_ii, dNe_ss, dNe_bb, dNe_nn, dNe_ns, dNe_sn, dNe_ni, dNe_in, dIs_n, dIsNot_n, dIs_b, dIsNot_b, dIs_i, dIsNot_i, dIs_s, dIsNot_s, dIs_l, dIsNot_l, dIs_t, dIsNot_t, dIs_d, dIsNot_d, dIs_o, dIsNot_o, dLen_s, dLen_l, dLen_t, dTup_d, dLst_d, truD_n, truD_b, truD_i, truD_s, truD_l, truD_t, dNot_b, dNeg_i, asInt_i, asBl_b, dSl_s, dSl_l, dSl_t, isStr_s, items_l, items_t, items_s, dInt_i, dInt_b, dIx_li, dIx_ti, dStarts_ss, dTuple_l, dTuple_t, aList_l, aList_t, dIn_cs, dNotIn_cs, valD_d, valB_d, valB_o, valB_w, ownOf_o, isi_int_n, isi_int_b, isi_int_i, isi_int_s, isi_int_l, isi_int_t, isi_int_d, isi_str_n, isi_str_b, isi_str_i, isi_str_s, isi_str_l, isi_str_t, isi_str_d, isi_bool_n, isi_bool_b, isi_bool_i, isi_bool_s, isi_bool_l, isi_bool_t, isi_bool_d, isi_list_n, isi_list_b, isi_list_i, isi_list_s, isi_list_l, isi_list_t, isi_list_d, isi_tuple_n, isi_tuple_b, isi_tuple_i, isi_tuple_s, isi_tuple_l, isi_tuple_t, isi_tuple_d, isi_dict_n, isi_dict_b, isi_dict_i, isi_dict_s, isi_dict_l, isi_dict_t, isi_dict_d, decide_eq_true_eq, Bool.not_eq_true, Bool.not_true, Bool.not_false, if_true, if_false, Bool.false_eq_true, and_true, true_and, decide_true, decide_false, ite_true, ite_false, reduceCtorEq, any1]
        refine has_ok (by decide) ?_
        simp only [ok_forNil, ok_forCons, forK_nx, forK_ct, forK_bk, forK_rt, ok_eOp, ok_eUn, ok_aNil, ok_aCons, ok_eFn, ok_aFn, ok_eApp, ok_eC, ok_eL, ok_eSt, ok_eM1, ok_aM1, ok_oNone, ok_oSome, ok_eSl, ok_tOf, ok_tTru, ok_tNot, ok_tAnd, ok_tOr, ok_eAnd, ok_eOr, ok_eIf, ok_eChain, ok_eVar, ok_eVarB, ok_sSeq, seqK_rt, seqK_bk, seqK_ct, ok_sSet, ok_sRet, ok_sIf, ok_sNext, ok_sDrop, ok_sApp, ok_sFreeze, ok_sUnp, ok_sAug, ok_sFor, ok_aLcE, ok_aItems, runK_rt, runK_nx, ok_runD, okO_some, okO_map, valD_d, valB_d, valB_o, valB_w, ownOf_o, asInt_i, asBl_b, start3, frz, sets, tgName, tgTup, tgsCons, tgsNil, wipe3, List.set_cons_zero, List.set_cons_succ, List.getElem?_cons_zero, List.getElem?_cons_succ, List.map_cons, List.map_nil, List.length_cons, List.length_nil, List.cons_append, List.nil_append, List.replicate_succ, List.replicate_zero, Nat.reduceSub, Nat.reduceAdd, Nat.reduceLT, okO_if, dAddA_ii, dAddA_ss, dAddA_ll, dAddA_tt, dAdd_ii, dAdd_ss, dSub_ii, dMul_ii, dMul_si, dMod_ii, dDiv_ii, dLt_ii, dLt_ss, dLe_ii, dLe_ss, dGt_ii, dGt_ss, dGe_ii, dGe_ss, dEq_ii, dEq_ss, dEq_bb, dEq_nn, dEq_ns, dEq_sn, dEq_ni, dEq_in, dNe_ii, dNe_ss, dNe_bb, dNe_nn, dNe_ns, dNe_sn, dNe_ni, dNe_in, dIs_n, dIsNot_n, dIs_b, dIsNot_b, dIs_i, dIsNot_i, dIs_s, dIsNot_s, dIs_l, dIsNot_l, dIs_t, dIsNot_t, dIs_d, dIsNot_d, dIs_o, dIsNot_o, dLen_s, dLen_l, dLen_t, dTup_d, dLst_d, truD_n, truD_b, truD_i, truD_s, truD_l, truD_t, dNot_b, dNeg_i, asInt_i, asBl_b, dSl_s, dSl_l, dSl_t, isStr_s, items_l, items_t, items_s, dInt_i, dInt_b, dIx_li, dIx_ti, dStarts_ss, dTuple_l, dTuple_t, aList_l, aList_t, dIn_cs, dNotIn_cs, valD_d, valB_d, valB_o, valB_w, ownOf_o, isi_int_n, isi_int_b, isi_int_i, isi_int_s, isi_int_l, isi_int_t, isi_int_d, isi_str_n, isi_str_b, isi_str_i, isi_str_s, isi_str_l, isi_str_t, isi_str_d, isi_bool_n, isi_bool_b, isi_bool_i, isi_bool_s, isi_bool_l, isi_bool_t, isi_bool_d, isi_list_n, isi_list_b, isi_list_i, isi_list_s, isi_list_l, isi_list_t, isi_list_d, isi_tuple_n, isi_tuple_b, isi_tuple_i, isi_tuple_s, isi_tuple_l, isi_tuple_t, isi_tuple_d, isi_dict_n, isi_dict_b, isi_dict_i, isi_dict_s, isi_dict_l, isi_dict_t, isi_dict_d, decide_eq_true_eq, Bool.not_eq_true, Bool.not_true, Bool.not_false, if_true, if_false, Bool.false_eq_true, and_true, true_and, decide_true, decide_false, ite_true, ite_false, reduceCtorEq, any2]
        exact hB
      simp only [ok_forNil, ok_forCons, forK_nx, forK_ct, forK_bk, forK_rt, ok_eOp, ok_eUn, ok_aNil, ok_aCons, ok_eFn, ok_aFn, ok_eApp, ok_eC, ok_eL, ok_eSt, ok_eM1, ok_aM1, ok_oNone, ok_oSome, ok_eSl, ok_tOf, ok_tTru, ok_tNot, ok_tAnd, ok_tOr, ok_eAnd, ok_eOr, ok_eIf, ok_eChain, ok_eVar, ok_eVarB, ok_sSeq, seqK_rt, seqK_bk, seqK_ct, ok_sSet, ok_sRet, ok_sIf, ok_sNext, ok_sDrop, ok_sApp, ok_sFreeze, ok_sUnp, ok_sAug, ok_sFor, ok_aLcE, ok_aItems, runK_rt, runK_nx, ok_runD, okO_some, okO_map, valD_d, valB_d, valB_o, valB_w, ownOf_o, asInt_i, asBl_b, start3, frz, sets, tgName, tgTup, tgsCons, tgsNil, wipe3, List.set_cons_zero, List.set_cons_succ, List.getElem?_cons_zero, List.getElem?_cons_succ, List.map_cons, List.map_nil, List.length_cons, List.length_nil, List.cons_append, List.nil_append, List.replicate_succ, List.replicate_zero, Nat.reduceSub, Nat.reduceAdd, Nat.reduceLT, okO_if, dAddA_ii, dAddA_ss, dAddA_ll, dAddA_tt, dAdd_ii, dAdd_ss, dSub_ii, dMul_ii, dMul_si, dMod_ii, dDiv_ii, dLt_ii, dLt_ss, dLe_ii, dLe_ss, dGt_ii, dGt_ss, dGe_ii, dGe_ss, dEq_ii, dEq_ss, dEq_bb, dEq_nn, dEq_ns, dEq_sn, dEq_ni, dEq_in, dNe_ii, dNe_ss, dNe_bb, dNe_nn, dNe_ns, dNe_sn, dNe_ni, dNe_in, dIs_n, dIsNot_n, dIs_b, dIsNot_b, dIs_i, dIsNot_i, dIs_s, dIsNot_s, dIs_l, dIsNot_l, dIs_t, dIsNot_t, dIs_d, dIsNot_d, dIs_o, dIsNot_o, dLen_s, dLen_l, dLen_t, dTup_d, dLst_d, truD_n, truD_b, truD_i, truD_s, truD_l, truD_t, dNot_b, dNeg_i, asInt_i, asBl_b, dSl_s, dSl_l, dSl_t, isStr_s, items_l, items_t, items_s, dInt_i, dInt_b, dIx_li, dIx_ti, dStarts_ss, dTuple_l, dTuple_t, aList_l, aList_t, dIn_cs, dNotIn_cs, valD_d, valB_d, valB_o, valB_w, ownOf_o, isi_int_n, isi_int_b, isi_int_i, isi_int_s, isi_int_l, isi_int_t, isi_int_d, isi_str_n, isi_str_b, isi_str_i, isi_str_s, isi_str_l, isi_str_t, isi_str_d, isi_bool_n, isi_bool_b, isi_bool_i, isi_bool_s, isi_bool_l, isi_bool_t, isi_bool_d, isi_list_n, isi_list_b, isi_list_i, isi_list_s, isi_list_l, isi_list_t, isi_list_d, isi_tuple_n, isi_tuple_b, isi_tuple_i, isi_tuple_s, isi_tuple_l, isi_tuple_t, isi_tuple_d, isi_dict_n, isi_dict_b, isi_dict_i, isi_dict_s, isi_dict_l, isi_dict_t, isi_dict_d, decide_eq_true_eq, Bool.not_eq_true, Bool.not_true, Bool.not_false, if_true, if_false, Bool.false_eq_true, and_true, true_and, decide_true, decide_false, ite_true, ite_false, reduceCtorEq, nxt_nx]
      by_cases hm : gm p t p.length t.length = true
      · have := own1 ((fit_iff p t).mp hm)
        rw [if_pos hm, decide_eq_true this, if_neg (by simp)]
        exact fin _ _ ⟨_, _, _, _, rfl, fun x hm => hr x (List.mem_cons_of_mem _ hm)⟩
      · rw [if_neg hm]
        exact fin _ _ ⟨_, _, _, _, rfl, fun x hm => hr x (List.mem_cons_of_mem _ hm)⟩
    · obtain ⟨a, b, c, d, rfl, hr⟩ := hJ
      rw [seqK_nx]
      simp only [ok_forNil, ok_forCons, forK_nx, forK_ct, forK_bk, forK_rt, ok_eOp, ok_eUn, ok_aNil, ok_aCons, ok_eFn, ok_aFn, ok_eApp, ok_eC, ok_eL, ok_eSt, ok_eM1, ok_aM1, ok_oNone, ok_oSome, ok_eSl, ok_tOf, ok_tTru, ok_tNot, ok_tAnd, ok_tOr, ok_eAnd, ok_eOr, ok_eIf, ok_eChain, ok_eVar, ok_eVarB, ok_sSeq, seqK_nx, seqK_rt, seqK_bk, seqK_ct, ok_sSet, ok_sRet, ok_sIf, ok_sNext, ok_sDrop, ok_sApp, ok_sFreeze, ok_sUnp, ok_sAug, ok_sFor, ok_aLcE, ok_aItems, runK_rt, runK_nx, ok_runD, okO_some, okO_map, valD_d, valB_d, valB_o, valB_w, ownOf_o, asInt_i, asBl_b, start3, frz, sets, tgName, tgTup, tgsCons, tgsNil, wipe3, List.set_cons_zero, List.set_cons_succ, List.getElem?_cons_zero, List.getElem?_cons_succ, List.map_cons, List.map_nil, List.length_cons, List.length_nil, List.cons_append, List.nil_append, List.replicate_succ, List.replicate_zero, Nat.reduceSub, Nat.reduceAdd, Nat.reduceLT, okO_if, dAddA_ii, dAddA_ss, dAddA_ll, dAddA_tt, dAdd_ii, dAdd_ss, dSub_ii, dMul_ii, dMul_si, dMod_ii, dDiv_ii, dLt_ii, dLt_ss, dLe_ii, dLe_ss, dGt_ii, dGt_ss, dGe_ii, dGe_ss, dEq_ii, dEq_ss, dEq_bb, dEq_nn, dEq_ns, dEq_sn, dEq_ni, dEq_in, dNe_ii, dNe_ss, dNe_bb, dNe_nn, dNe_ns, dNe_sn, dNe_ni, dNe_in, dIs_n, dIsNot_n, dIs_b, dIsNot_b, dIs_i, dIsNot_i, dIs_s, dIsNot_s, dIs_l, dIsNot_l, dIs_t, dIsNot_t, dIs_d, dIsNot_d, dIs_o, dIsNot_o, dLen_s, dLen_l, dLen_t, dTup_d, dLst_d, truD_n, truD_b, truD_i, truD_s, truD_l, truD_t, dNot_b, dNeg_i, asInt_i, asBl_b, dSl_s, dSl_l, dSl_t, isStr_s, items_l, items_t, items_s, dInt_i, dInt_b, dIx_li, dIx_ti, dStarts_ss, dTuple_l, dTuple_t, aList_l, aList_t, dIn_cs, dNotIn_cs, valD_d, valB_d, valB_o, valB_w, ownOf_o, isi_int_n, isi_int_b, isi_int_i, isi_int_s, isi_int_l, isi_int_t, isi_int_d, isi_str_n, isi_str_b, isi_str_i, isi_str_s, isi_str_l, isi_str_t, isi_str_d, isi_bool_n, isi_bool_b, isi_bool_i, isi_bool_s, isi_bool_l, isi_bool_t, isi_bool_d, isi_list_n, isi_list_b, isi_list_i, isi_list_s, isi_list_l, isi_list_t, isi_list_d, isi_tuple_n, isi_tuple_b, isi_tuple_i, isi_tuple_s, isi_tuple_l, isi_tuple_t, isi_tuple_d, isi_dict_n, isi_dict_b, isi_dict_i, isi_dict_s, isi_dict_l, isi_dict_t, isi_dict_d, decide_eq_true_eq, Bool.not_eq_true, Bool.not_true, Bool.not_false, if_true, if_false, Bool.false_eq_true, and_true, true_and, decide_true, decide_false, ite_true, ite_false, reduceCtorEq]
end W

namespace W
open PySem PySem.Spec PyProof.Rows L2 L3
def df__law_deck : He.DefD := ⟨("_law_deck", none), "_law_deck", "_law_deck", defArgs (topS 8), defBody (topS 8), defScope (topS 8), [], []⟩
def df__law_next : He.DefD := ⟨("_law_next", none), "_law_next", "_law_next", defArgs (topS 9), defBody (topS 9), defScope (topS 9), [], []⟩
def df__law_signs : He.DefD := ⟨("_law_signs", none), "_law_signs", "_law_signs", defArgs (topS 11), defBody (topS 11), defScope (topS 11), [], []⟩
def df_over_stars : He.DefD := ⟨("over_stars", none), "over_stars", "over_stars", defArgs (topS 3), defBody (topS 3), defScope (topS 3), [], []⟩
def df_stepped : He.DefD := ⟨("stepped", none), "stepped", "stepped", defArgs (topS 4), defBody (topS 4), defScope (topS 4), [], []⟩
def df_fits : He.DefD := ⟨("fits", none), "fits", "fits", defArgs (topS 5), defBody (topS 5), defScope (topS 5), [], []⟩
def df_has : He.DefD := ⟨("has", none), "has", "has", defArgs (topS 6), defBody (topS 6), defScope (topS 6), [], []⟩
def df__law_is : He.DefD := ⟨("_law_is", none), "_law_is", "_law_is", defArgs (topS 13), defBody (topS 13), defScope (topS 13), [], []⟩
def df__law_has : He.DefD := ⟨("_law_has", none), "_law_has", "_law_has", defArgs (topS 14), defBody (topS 14), defScope (topS 14), [], []⟩
def df__law_one_of : He.DefD := ⟨("_law_one_of", none), "_law_one_of", "_law_one_of", defArgs (topS 12), defBody (topS 12), defScope (topS 12), [], []⟩
def df_law : He.DefD := ⟨("law", none), "law", "law", defArgs (topS 15), defBody (topS 15), defScope (topS 15), [], []⟩
def fnL : List He.DefD := [df__law_deck, df__law_next, df__law_signs, df_over_stars, df_stepped, df_fits, df_has, df__law_is, df__law_has, df__law_one_of, df_law]
def faL : List He.Fa := [.glo "_law_deck", .glo "_law_next", .glo "_law_signs", .glo "over_stars", .glo "stepped", .glo "fits", .glo "has", .glo "_law_is", .glo "_law_has", .glo "_law_one_of", .glo "law", .free "list", .free "len", .free "int", .free "range", .str "ANY" (S [42]), .free "sorted", .free "set", .str "ONE" (S [63]), .free "isinstance", .free "bool"]
abbrev RR : PySem.W.OpenRow := PySem.W.OpenLaw.row PySem.Challenge.rw_rowshell_k03_patterns_within
abbrev hkL : PySem.W.Hook := hookL 4 faL fnL
def obL (s : PySem.W.SharedT) : He.AlD := obsLG 4 faL fnL (HandSHeadRun.getT s)
theorem obL_eq (s : PySem.W.SharedT) : obL s = hkL.obs s.abs := obsLG_eq (HandSHeadRun.getT_eq s)
theorem runL (w : World) : HandSHeadRun.RunEq RR (PySem.W.view RR.prog [15]) hkL obL 4000 ["ANY", "ONE", "over_stars", "stepped", "fits", "has", "_law_deck", "_law_next", "_law_whole", "_law_signs", "_law_one_of", "_law_is", "_law_has"] w := by
  intro os
  kernel_rfl
theorem tx {K : PySem.W.Frag} {h : Heap} {mg : Str → Option Value} (X : K.In h) (G : h.Ns mainGlobals mg) (c : SaysL faL fnL K) : Tx K mg where
  z_list := He.free_ok X G (c.1.fact 11 (f := .free "list") rfl)
  z_len := He.free_ok X G (c.1.fact 12 (f := .free "len") rfl)
  z_int := He.free_ok X G (c.1.fact 13 (f := .free "int") rfl)
  z_range := He.free_ok X G (c.1.fact 14 (f := .free "range") rfl)
  c_ANY := He.str_ok X G (c.1.fact 15 (f := .str "ANY" (S [42])) rfl)
  z_sorted := He.free_ok X G (c.1.fact 16 (f := .free "sorted") rfl)
  z_set := He.free_ok X G (c.1.fact 17 (f := .free "set") rfl)
  c_ONE := He.str_ok X G (c.1.fact 18 (f := .str "ONE" (S [63])) rfl)
  z_isinstance := He.free_ok X G (c.1.fact 19 (f := .free "isinstance") rfl)
  z_bool := He.free_ok X G (c.1.fact 20 (f := .free "bool") rfl)
  F__law_deck := by
    obtain ⟨fd, F⟩ := c.1.def_ 0 (d := df__law_deck) rfl
    exact ⟨⟨fd, F, F.bindsN fun _ _ _ _ _ _ us hl => match us, hl with | [_], _ => rfl⟩, He.glo_ok X G (c.1.fact 0 (f := .glo "_law_deck") rfl)⟩
  F__law_next := by
    obtain ⟨fd, F⟩ := c.1.def_ 1 (d := df__law_next) rfl
    exact ⟨⟨fd, F, F.bindsN fun _ _ _ _ _ _ us hl => match us, hl with | [_, _], _ => rfl⟩, He.glo_ok X G (c.1.fact 1 (f := .glo "_law_next") rfl)⟩
  F__law_signs := by
    obtain ⟨fd, F⟩ := c.1.def_ 2 (d := df__law_signs) rfl
    exact ⟨⟨fd, F, F.bindsN fun _ _ _ _ _ _ us hl => match us, hl with | [_, _, _], _ => rfl⟩, He.glo_ok X G (c.1.fact 2 (f := .glo "_law_signs") rfl)⟩
  F_over_stars := by
    obtain ⟨fd, F⟩ := c.1.def_ 3 (d := df_over_stars) rfl
    exact ⟨⟨fd, F, F.bindsN fun _ _ _ _ _ _ us hl => match us, hl with | [_, _], _ => rfl⟩, He.glo_ok X G (c.1.fact 3 (f := .glo "over_stars") rfl)⟩
  F_stepped := by
    obtain ⟨fd, F⟩ := c.1.def_ 4 (d := df_stepped) rfl
    exact ⟨⟨fd, F, F.bindsN fun _ _ _ _ _ _ us hl => match us, hl with | [_, _, _], _ => rfl⟩, He.glo_ok X G (c.1.fact 4 (f := .glo "stepped") rfl)⟩
  F_fits := by
    obtain ⟨fd, F⟩ := c.1.def_ 5 (d := df_fits) rfl
    exact ⟨⟨fd, F, F.bindsN fun _ _ _ _ _ _ us hl => match us, hl with | [_, _], _ => rfl⟩, He.glo_ok X G (c.1.fact 5 (f := .glo "fits") rfl)⟩
  F_has := by
    obtain ⟨fd, F⟩ := c.1.def_ 6 (d := df_has) rfl
    exact ⟨⟨fd, F, F.bindsN fun _ _ _ _ _ _ us hl => match us, hl with | [_, _], _ => rfl⟩, He.glo_ok X G (c.1.fact 6 (f := .glo "has") rfl)⟩
  F__law_is := by
    obtain ⟨fd, F⟩ := c.1.def_ 7 (d := df__law_is) rfl
    exact ⟨⟨fd, F, F.bindsN fun _ _ _ _ _ _ us hl => match us, hl with | [_, _], _ => rfl⟩, He.glo_ok X G (c.1.fact 7 (f := .glo "_law_is") rfl)⟩
  F__law_has := by
    obtain ⟨fd, F⟩ := c.1.def_ 8 (d := df__law_has) rfl
    exact ⟨⟨fd, F, F.bindsN fun _ _ _ _ _ _ us hl => match us, hl with | [_, _], _ => rfl⟩, He.glo_ok X G (c.1.fact 8 (f := .glo "_law_has") rfl)⟩
  F__law_one_of := by
    obtain ⟨fd, F⟩ := c.1.def_ 9 (d := df__law_one_of) rfl
    exact ⟨⟨fd, F, F.bindsN fun _ _ _ _ _ _ us hl => match us, hl with | [_, _], _ => rfl⟩, He.glo_ok X G (c.1.fact 9 (f := .glo "_law_one_of") rfl)⟩
  F_law := by
    obtain ⟨fd, F⟩ := c.1.def_ 10 (d := df_law) rfl
    exact ⟨⟨fd, F, F.bindsN fun _ _ _ _ _ _ us hl => match us, hl with | [_], _ => rfl⟩, He.glo_ok X G (c.1.fact 10 (f := .glo "law") rfl)⟩
theorem facts {P : Program} {w : World} {K : PySem.W.Frag} {h : Heap} {mg : Str → Option Value} {f : Addr} (X : K.In h) (G : h.Ns mainGlobals mg) (hfa : mg ("law" : Str) = some (.ref f)) (c : SaysL faL fnL K) :
    ∃ fd : FuncData, (∀ (s : Shared) (v : Value), BindsTo s fd ⟨[v], []⟩ [("_law_script", v)]) ∧ ∀ base : Heap, K.In base → base.Ns mainGlobals mg → FnOk P w K mg base CX0 5 f fd ["_law_script"] (spD K 1 f_law) := by
  have T := tx X G c
  obtain ⟨fd, F⟩ := c.1.def_ 10 (d := df_law) rfl
  have e := hfa.symm.trans T.F_law.g
  cases e
  have b := FunD.bindsA (ps := ["_law_script"]) F fun _ _ _ _ _ _ us hl => match us, hl with | [_], _ => rfl
  refine ⟨fd, fun s v => b s [v] rfl, fun base _ _ => ?_⟩
  exact lawFn F (ok_law T)
end W
open PySem PySem.W PySem.Calls PyProof.Rows
theorem PySem.Challenge.cw_rowshell_k03_patterns_within_holds : PySem.Challenge.rw_rowshell_k03_patterns_within.Holds := by
  w_on; o_law
  refine HandSHeadRun.head_any (r := OpenLaw.row PySem.Challenge.rw_rowshell_k03_patterns_within) (q := view (OpenLaw.row PySem.Challenge.rw_rowshell_k03_patterns_within).prog [15]) (H := W.hkL) (ob := W.obL) (M := 4000) (loose := ["ANY", "ONE", "over_stars", "stepped", "fits", "has", "_law_deck", "_law_next", "_law_whole", "_law_signs", "_law_one_of", "_law_is", "_law_has"]) (d := HandSHeadRun.topDef (OpenLaw.row PySem.Challenge.rw_rowshell_k03_patterns_within).prog 15) (kwd := []) W.obL_eq
    (by kernel_rfl) (fun s => by kernel_rfl) W.runL (by kernel_rfl) (by kernel_rfl) (by kernel_rfl) (by rfl) (by first | assumption | decide +kernel) (by decide +kernel) ⟨rfl, rfl, rfl, rfl, rfl, by decide +kernel⟩ ?hw ?hc
  case hw => w_witness2
  case hc =>
    refine L2.walk_ofE (l := PySem.Challenge.rw_rowshell_k03_patterns_within) (n := 63) (k := 5) (x := "_law_script") (CX := L2.CX0) rfl (by decide) (by kernel_rfl) ⟨rfl, by decide, by decide⟩ ?F (fun _ _ _ _ z => z)
    intro w mg fa h Y G hmg0
    obtain ⟨K, KX, c⟩ := Y
    have hmg : mg ("law" : PySem.Str) = some (.ref fa) := by
      have e : (HandSHeadRun.topDef (OpenLaw.row PySem.Challenge.rw_rowshell_k03_patterns_within).prog 15).name = ("law" : PySem.Str) := by kernel_rfl
      rw [← e]
      exact hmg0
    obtain ⟨fd, hb, hF⟩ := W.facts (P := (PySem.Challenge.rw_rowshell_k03_patterns_within).prog) (w := w) KX G hmg c
    exact ⟨K, fd, L3.spD K 1 W.f_law, KX, hb, fun H a ns hl _ hS => L3.endD c.2 W.law_ok hl hS, hF⟩
