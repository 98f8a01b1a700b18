import PyProof.Rows.All
import Wide.All
import OpenK.AllK
import Wide.FinOn
import KE.KStateDown
import Lean
import HandS.Base
import HandS.Call
import HandS.Ends
import HandS.Words
import KE.IntTextLaws
import HandS.ForMost
import HandS.Walk
import HandS.IsInst
import HandS.Replace
import HandS.ReplaceList
import HandS.TupAny
import HandS.ReplaceLit
import HandS.NoneIn
import HandS.Defaults
import HandS.Head0
import HandS.Head1
import HandS.Head2
import HandS.HeadEnd
import HandS.HeadHook1
import HandS.HeadHook2
import HandS.More
import HandS.WordsExc
import PySem.Challenge.RW_rowshell_k01_numbers_and_fields
set_option Elab.async false
set_option linter.all false
set_option maxRecDepth 100000
set_option maxHeartbeats 0
/-! L3a: data trees over the hand layer's heap: what stands for what, and what an expression, a statement, a def is worth as a function of data. -/
namespace L3
open PySem PySem.Spec PyProof.Rows L2

abbrev DKey := Sum Int (List Nat)
def S (s : List Nat) : Str := ⟨s.toArray⟩
def dkey : DKey → Key
  | .inl i => .inl i
  | .inr s => .inr (S s)

inductive D where
  | non | bl (b : Bool) | int (i : Int) | str (s : List Nat)
  | lst (xs : List D) | tup (xs : List D) | dic (kvs : List (DKey × D))
  | obj (n : Nat) | sta (a : Addr)

inductive SV where
  | d (x : D) | own (xs : List D) | ownd (kvs : List (DKey × D))

def SV.isOwn : SV → Bool
  | .d _ => false
  | _ => true

inductive SO where
  | lst (xs : List D)

abbrev Env3 := List (Option SV)
abbrev Store := List SO

/-! ### what stands for what -/
def staT (K : PySem.W.Frag) (a : Addr) (xs : List V) : Prop :=
  ∃ (o : Obj) (its : Array Value) (n : Nat), K.lookup a = some o ∧ o.cls = .type "tuple" ∧ o.data = .seq its n ∧ its.size ≤ sizeLine ∧ Vals xs its.toList
def ST (A : Addr → Prop) (K : PySem.W.Frag) (H : Hp) (a : Addr) (xs : List V) : Prop := (A a ∧ Rd H a (.tup xs)) ∨ staT K a xs
theorem ST.sq {A : Addr → Prop} {K : PySem.W.Frag} {H : Hp} {a : Addr} {xs : List V} (h : ST A K H a xs) : SqT K H a xs := by
  rcases h with h | h
  · exact .inl h.2
  · exact .inr h

inductive Rep (A : Addr → Prop) (α : List Addr) (K : PySem.W.Frag) (H : Hp) : V → D → Prop
  | non : Rep A α K H .non .non
  | bl (b : Bool) : Rep A α K H (.bl b) (.bl b)
  | int (i : Int) : Rep A α K H (.int i) (.int i)
  | str (s : List Nat) : Rep A α K H (.str (S s)) (.str s)
  | lst {a : Addr} {xs : List V} {ds : List D} (hA : A a) (h : Rd H a (.lst xs)) (hl : xs.length = ds.length) (hi : ∀ (i : Nat) v d, xs[i]? = some v → ds[i]? = some d → Rep A α K H v d) : Rep A α K H (.ref a) (.lst ds)
  | tup {a : Addr} {xs : List V} {ds : List D} (h : ST A K H a xs) (hl : xs.length = ds.length) (hi : ∀ (i : Nat) v d, xs[i]? = some v → ds[i]? = some d → Rep A α K H v d) : Rep A α K H (.ref a) (.tup ds)
  | dic {a : Addr} {kvs : List (Key × V)} {ds : List (DKey × D)} (hA : A a) (h : Rd H a (.dK kvs)) (hk : kvs.map (·.1) = ds.map (fun p => dkey p.1)) (hi : ∀ (i : Nat) p q, kvs[i]? = some p → ds[i]? = some q → Rep A α K H p.2 q.2) : Rep A α K H (.ref a) (.dic ds)
  | obj {n : Nat} {a : Addr} (h : α[n]? = some a) : Rep A α K H (.ref a) (.obj n)
  | sta (a : Addr) : Rep A α K H (.ref a) (.sta a)

def RepAll (A : Addr → Prop) (α : List Addr) (K : PySem.W.Frag) (H : Hp) (vs : List V) (ds : List D) : Prop :=
  vs.length = ds.length ∧ ∀ (i : Nat) v d, vs[i]? = some v → ds[i]? = some d → Rep A α K H v d

section
variable {A A' : Addr → Prop} {α α' : List Addr} {K : PySem.W.Frag} {H H' : Hp}
theorem prefix_get {α α' : List Addr} {n : Nat} {a : Addr} (p : α <+: α') (h : α[n]? = some a) : α'[n]? = some a := by
  obtain ⟨t, rfl⟩ := p
  rw [List.getElem?_append_left (List.getElem?_eq_some_iff.mp h).1]
  exact h
theorem Rd.stay {a : Addr} {u : HO} (hh : ∀ o, H a = some o → H' a = some o) (h : Rd H a u) : Rd H' a u := by
  rcases h with h | ⟨o, h⟩
  · exact .inl (hh _ h)
  · exact .inr ⟨o, hh _ h⟩
/-- what stands for data stays: objects that are let in keep what they hold -/
theorem Rep.mono {v : V} {d : D} (h : Rep A α K H v d) (hA : ∀ a o, A a → H a = some o → A' a ∧ H' a = some o) (p : α <+: α') : Rep A' α' K H' v d := by
  have rd : ∀ {a : Addr} {u : HO}, A a → Rd H a u → A' a ∧ Rd H' a u := fun {a u} ha hr => by
    rcases hr with hr | ⟨o, hr⟩
    · exact ⟨(hA a _ ha hr).1, .inl (hA a _ ha hr).2⟩
    · exact ⟨(hA a _ ha hr).1, .inr ⟨o, (hA a _ ha hr).2⟩⟩
  induction h with
  | non => exact .non
  | bl b => exact .bl b
  | int i => exact .int i
  | str s => exact .str s
  | lst ha h hl _ ih => exact .lst (rd ha h).1 (rd ha h).2 hl ih
  | tup h hl _ ih =>
    refine .tup ?_ hl ih
    rcases h with h | h
    · exact .inl (rd h.1 h.2)
    · exact .inr h
  | dic ha h hk _ ih =>
    exact .dic (rd ha h).1 (rd ha h).2 hk ih
  | obj h => exact .obj (prefix_get p h)
  | sta a => exact .sta a
theorem RepAll.mono {vs : List V} {ds : List D} (h : RepAll A α K H vs ds) (hA : ∀ a o, A a → H a = some o → A' a ∧ H' a = some o) (p : α <+: α') : RepAll A' α' K H' vs ds :=
  ⟨h.1, fun i v d e1 e2 => (h.2 i v d e1 e2).mono hA p⟩
theorem RepAll.nil : RepAll A α K H [] [] := ⟨rfl, fun i v d e => by simp at e⟩
theorem RepAll.cons {v : V} {d : D} {vs : List V} {ds : List D} (h : Rep A α K H v d) (t : RepAll A α K H vs ds) : RepAll A α K H (v :: vs) (d :: ds) :=
  ⟨by rw [List.length_cons, List.length_cons, t.1], fun i x e h1 h2 => by
    cases i with
    | zero => simp at h1 h2; subst h1 h2; exact h
    | succ i => exact t.2 i x e (by simpa using h1) (by simpa using h2)⟩
theorem RepAll.uncons {vs : List V} {d : D} {ds : List D} (h : RepAll A α K H vs (d :: ds)) : ∃ v r, vs = v :: r ∧ Rep A α K H v d ∧ RepAll A α K H r ds := by
  obtain ⟨hl, hi⟩ := h
  cases vs with
  | nil => simp at hl
  | cons v r => exact ⟨v, r, rfl, hi 0 v d rfl rfl, ⟨by simpa using hl, fun i x e h1 h2 => hi (i + 1) x e (by simpa using h1) (by simpa using h2)⟩⟩
theorem RepAll.unnil {vs : List V} (h : RepAll A α K H vs []) : vs = [] := by
  have := h.1
  cases vs with
  | nil => rfl
  | cons v r => simp at this
theorem RepAll.append {vs ws : List V} {ds es : List D} (h : RepAll A α K H vs ds) (t : RepAll A α K H ws es) : RepAll A α K H (vs ++ ws) (ds ++ es) := by
  refine ⟨by rw [List.length_append, List.length_append, h.1, t.1], fun i v d h1 h2 => ?_⟩
  by_cases hi : i < vs.length
  · rw [List.getElem?_append_left hi] at h1
    rw [List.getElem?_append_left (by rw [← h.1]; exact hi)] at h2
    exact h.2 i v d h1 h2
  · rw [List.getElem?_append_right (by omega)] at h1
    rw [List.getElem?_append_right (by rw [← h.1]; omega), ← h.1] at h2
    exact t.2 _ v d h1 h2
theorem RepAll.get {vs : List V} {ds : List D} {i : Nat} {d : D} (h : RepAll A α K H vs ds) (e : ds[i]? = some d) : ∃ v, vs[i]? = some v ∧ Rep A α K H v d := by
  have hi := (List.getElem?_eq_some_iff.mp e).1
  refine ⟨vs[i]'(by rw [h.1]; exact hi), List.getElem?_eq_getElem _, h.2 i _ d (List.getElem?_eq_getElem _) e⟩
theorem RepAll.one {v : V} {d : D} (h : Rep A α K H v d) : RepAll A α K H [v] [d] := RepAll.cons h RepAll.nil
theorem RepAll.take {vs : List V} {ds : List D} (n : Nat) (h : RepAll A α K H vs ds) : RepAll A α K H (vs.take n) (ds.take n) :=
  ⟨by simp [h.1], fun i v d h1 h2 => by
    rw [List.getElem?_take] at h1 h2
    split at h1
    · rw [if_pos (by assumption)] at h2; exact h.2 i v d h1 h2
    · cases h1⟩
theorem RepAll.drop {vs : List V} {ds : List D} (n : Nat) (h : RepAll A α K H vs ds) : RepAll A α K H (vs.drop n) (ds.drop n) :=
  ⟨by simp [h.1], fun i v d h1 h2 => by
    rw [List.getElem?_drop] at h1 h2; exact h.2 _ v d h1 h2⟩
end

/-! ### the frame -/
def Al (B : Addr → Prop) (α : List Addr) (ow : Nat → Option Addr) (a : Addr) : Prop := a ∉ α ∧ ¬ B a ∧ ∀ i, ow i ≠ some a
def Ext (α : List Addr) (H : Hp) (α' : List Addr) (H' : Hp) : Prop := (∀ a o, H a = some o → a ∉ α → H' a = some o) ∧ α <+: α' ∧ ∀ a ∈ α', a ∈ α ∨ H a = none
def no : Nat → Option Addr := fun _ => none
def SOk (A : Addr → Prop) (α : List Addr) (K : PySem.W.Frag) (H : Hp) (a : Addr) : SO → Prop
  | .lst xs => ∃ vs, H a = some (.lst vs) ∧ RepAll A α K H vs xs
structure GOk (A : Addr → Prop) (α : List Addr) (g : Store) (K : PySem.W.Frag) (H : Hp) : Prop where
  len : α.length = g.length
  nd : α.Nodup
  so : ∀ (n : Nat) a o, α[n]? = some a → g[n]? = some o → SOk A α K H a o
structure Gh where
  B : Addr → Prop
  H0 : Hp
  α0 : List Addr
def SlotOk (A : Addr → Prop) (α : List Addr) (K : PySem.W.Frag) (H : Hp) (ow : Option Addr) (v : Option (Option V)) : SV → Prop
  | .d x => ∃ y, v = some (some y) ∧ Rep A α K H y x
  | .own xs => ∃ a vs, ow = some a ∧ v = some (some (.ref a)) ∧ H a = some (.lst vs) ∧ RepAll A α K H vs xs
  | .ownd ds => ∃ a kvs, ow = some a ∧ v = some (some (.ref a)) ∧ H a = some (.dK kvs) ∧ kvs.map (·.1) = ds.map (fun p => dkey p.1) ∧ RepAll A α K H (kvs.map (·.2)) (ds.map (·.2))
structure Sat (K : PySem.W.Frag) (G : Gh) (α : List Addr) (ow : Nat → Option Addr) (σ : L2.St) (H : Hp) (ρ : Env3) (g : Store) : Prop where
  ext : Ext G.α0 G.H0 α H
  blk : ∀ a, G.B a → (∃ o, H a = some o) ∧ a ∉ α
  len : σ.length = ρ.length
  gok : GOk (Al G.B α ow) α g K H
  own : ∀ i a, ow i = some a → G.H0 a = none ∧ a ∉ α ∧ ¬ G.B a ∧ (∃ o, H a = some o) ∧ ∃ x, ρ[i]? = some (some x) ∧ x.isOwn = true
  oinj : ∀ i j a, ow i = some a → ow j = some a → i = j
  slot : ∀ (i : Nat) x, ρ[i]? = some (some x) → SlotOk (Al G.B α ow) α K H (ow i) σ[i]? x

section
variable {α α1 α2 : List Addr} {H H1 H2 : Hp}
theorem Ext.refl : Ext α H α H := ⟨fun _ _ h _ => h, List.prefix_refl _, fun _ h => .inl h⟩
theorem Ext.trans (a : Ext α H α1 H1) (b : Ext α1 H1 α2 H2) : Ext α H α2 H2 := by
  refine ⟨fun x o h hn => b.1 x o (a.1 x o h hn) fun hx => ?_, a.2.1.trans b.2.1, fun x hx => ?_⟩
  · rcases a.2.2 x hx with z | z
    · exact hn z
    · rw [h] at z; cases z
  · rcases b.2.2 x hx with z | z
    · exact a.2.2 x z
    · by_cases hn : x ∈ α
      · exact .inl hn
      · cases q : H x with
        | none => exact .inr rfl
        | some o => rw [a.1 x o q hn] at z; cases z
theorem Ext.new {p : Addr} {o : HO} (h : H p = none) : Ext α H α (upd H p o) :=
  ⟨fun a u e _ => by rw [upd_ne (ne_of_none e h)]; exact e, List.prefix_refl _, fun _ h => .inl h⟩
theorem Ext.fresh {p : Addr} (e : Ext α H α1 H1) (hp : H1 p = none) (hn : p ∉ α1) : H p = none := by
  cases q : H p with
  | none => rfl
  | some o => rw [e.1 p o q fun z => hn (by obtain ⟨t, rfl⟩ := e.2.1; exact List.mem_append_left _ z)] at hp; cases hp
end
section
variable {K : PySem.W.Frag} {G : Gh} {α α' : List Addr} {ow : Nat → Option Addr} {σ : L2.St} {H H' : Hp} {ρ : Env3} {g g' : Store} {v : V} {d : D} {vs : List V} {ds : List D}
theorem Ext.al {B : Addr → Prop} (e : Ext α H α' H') : ∀ a o, Al B α ow a → H a = some o → Al B α' ow a ∧ H' a = some o := fun a o ha ho =>
  ⟨⟨fun hx => (e.2.2 a hx).elim ha.1 (fun z => by rw [ho] at z; cases z), ha.2.1, ha.2.2⟩, e.1 a o ho ha.1⟩
theorem Rep.ext {B : Addr → Prop} (h : Rep (Al B α ow) α K H v d) (e : Ext α H α' H') : Rep (Al B α' ow) α' K H' v d := h.mono e.al e.2.1
theorem RepAll.ext {B : Addr → Prop} (h : RepAll (Al B α ow) α K H vs ds) (e : Ext α H α' H') : RepAll (Al B α' ow) α' K H' vs ds := h.mono e.al e.2.1
/-- the state behind an expression -/
theorem Sat.step (s : Sat K G α ow σ H ρ g) (e : Ext α H α' H') (gk : GOk (Al G.B α' ow) α' g' K H') : Sat K G α' ow σ H' ρ g' := by
  have nn : ∀ {a : Addr} {o : HO}, H a = some o → a ∉ α → a ∉ α' := fun {a o} ho hn z => by
    rcases e.2.2 a z with z | z
    · exact hn z
    · rw [ho] at z; cases z
  refine ⟨s.ext.trans e, fun a h => ?_, s.len, gk, fun i a h => ?_, s.oinj, fun i x hx => ?_⟩
  · obtain ⟨⟨o, h1⟩, h2⟩ := s.blk a h
    exact ⟨⟨o, e.1 a o h1 h2⟩, nn h1 h2⟩
  · obtain ⟨h1, h2, h4, ⟨o, h3⟩, h5⟩ := s.own i a h
    exact ⟨h1, nn h3 h2, h4, ⟨o, e.1 a o h3 h2⟩, h5⟩
  · have q := s.slot i x hx
    cases x with
    | d x => obtain ⟨y, h1, h2⟩ := q; exact ⟨y, h1, h2.ext e⟩
    | own xs =>
      obtain ⟨a, vs, h1, h2, h3, h4⟩ := q
      exact ⟨a, vs, h1, h2, e.1 a _ h3 (s.own i a h1).2.1, h4.ext e⟩
    | ownd ds =>
      obtain ⟨a, vs, h1, h2, h3, h4, h5⟩ := q
      exact ⟨a, vs, h1, h2, e.1 a _ h3 (s.own i a h1).2.1, h4, h5.ext e⟩
theorem SOk.ext {B : Addr → Prop} {a : Addr} {o : SO} (h : SOk (Al B α ow) α K H a o) (e : Ext α H α' H') (he : ∀ o, H a = some o → H' a = some o) : SOk (Al B α' ow) α' K H' a o := by
  cases o with
  | lst xs => obtain ⟨vs, h1, h2⟩ := h; exact ⟨vs, he _ h1, h2.ext e⟩
theorem SOk.there {A : Addr → Prop} {a : Addr} {o : SO} (h : SOk A α K H a o) : ∃ u, H a = some u := by
  cases o with
  | lst xs => obtain ⟨vs, h1, h2⟩ := h; exact ⟨_, h1⟩
theorem GOk.tracked {A : Addr → Prop} (s : GOk A α g K H) {a : Addr} (h : a ∈ α) : ∃ o, H a = some o := by
  obtain ⟨n, hn, e⟩ := List.getElem_of_mem h
  have h2 : α[n]? = some a := by rw [List.getElem?_eq_getElem hn, e]
  exact (s.so n a _ h2 (List.getElem?_eq_getElem (by rw [← s.len]; exact hn))).there
theorem GOk.new {B : Addr → Prop} (s : GOk (Al B α ow) α g K H) {p : Addr} {o : HO} (h : H p = none) : GOk (Al B α ow) α g K (upd H p o) :=
  ⟨s.len, s.nd, fun n a u h1 h2 => (s.so n a u h1 h2).ext (Ext.new h) fun o e => by rw [upd_ne (ne_of_none e h)]; exact e⟩
/-- a new object -/
theorem Sat.new (s : Sat K G α ow σ H ρ g) {p : Addr} {o : HO} (h : H p = none) : Sat K G α ow σ (upd H p o) ρ g := s.step (Ext.new h) (s.gok.new h)
/-- a new object may stand for data -/
theorem Sat.al (s : Sat K G α ow σ H ρ g) {p : Addr} (h : H p = none) : Al G.B α ow p := by
  refine ⟨fun hp => ?_, fun hb => ?_, fun i hi => ?_⟩
  · obtain ⟨o, e⟩ := s.gok.tracked hp
    rw [h] at e; cases e
  · obtain ⟨⟨o, h1⟩, h2⟩ := s.blk p hb
    rw [h1] at h; cases h
  · obtain ⟨_, _, _, ⟨o, h3⟩, _⟩ := s.own i p hi
    rw [h] at h3; cases h3
/-- a new list, a new tuple -/
theorem Sat.newL (s : Sat K G α ow σ H ρ g) {p : Addr} (h : H p = none) (r : RepAll (Al G.B α ow) α K H vs ds) : Rep (Al G.B α ow) α K (upd H p (.lst vs)) (.ref p) (.lst ds) := by
  have r' := r.ext (Ext.new (α := α) (o := .lst vs) h)
  exact .lst (s.al h) (.inl upd_same) r'.1 r'.2
theorem Sat.newT (s : Sat K G α ow σ H ρ g) {p : Addr} (h : H p = none) (r : RepAll (Al G.B α ow) α K H vs ds) : Rep (Al G.B α ow) α K (upd H p (.tup vs)) (.ref p) (.tup ds) := by
  have r' := r.ext (Ext.new (α := α) (o := .tup vs) h)
  exact .tup (.inl ⟨s.al h, .inl upd_same⟩) r'.1 r'.2

end
/-! ### borrowed: data, or a list or dict that a slot owns -/
inductive BRep (B : Addr → Prop) (α : List Addr) (ow : Nat → Option Addr) (K : PySem.W.Frag) (H : Hp) : V → D → Prop
  | of {v : V} {d : D} (h : Rep (Al B α ow) α K H v d) : BRep B α ow K H v d
  | own {i : Nat} {a : Addr} {vs : List V} {xs : List D} (h : ow i = some a) (hn : a ∉ α) (ho : H a = some (.lst vs)) (r : RepAll (Al B α ow) α K H vs xs) : BRep B α ow K H (.ref a) (.lst xs)
  | ownd {i : Nat} {a : Addr} {kvs : List (Key × V)} {ds : List (DKey × D)} (h : ow i = some a) (hn : a ∉ α) (ho : H a = some (.dK kvs)) (hk : kvs.map (·.1) = ds.map (fun p => dkey p.1)) (r : RepAll (Al B α ow) α K H (kvs.map (·.2)) (ds.map (·.2))) : BRep B α ow K H (.ref a) (.dic ds)
section
variable {K : PySem.W.Frag} {G : Gh} {α α' : List Addr} {ow : Nat → Option Addr} {σ : L2.St} {H H' : Hp} {ρ : Env3} {g g' : Store} {v : V} {d : D} {vs : List V} {ds : List D}
theorem BRep.ext {B : Addr → Prop} (h : BRep B α ow K H v d) (e : Ext α H α' H') : BRep B α' ow K H' v d := by
  have nn : ∀ {a : Addr} {o : HO}, H a = some o → a ∉ α → a ∉ α' := fun {a o} ho hn z => by
    rcases e.2.2 a z with z | z
    · exact hn z
    · rw [ho] at z; cases z
  cases h with
  | of h => exact .of (h.ext e)
  | own h hn ho r => exact .own h (nn ho hn) (e.1 _ _ ho hn) (r.ext e)
  | ownd h hn ho hk r => exact .ownd h (nn ho hn) (e.1 _ _ ho hn) hk (r.ext e)
def BRepAll (B : Addr → Prop) (α : List Addr) (ow : Nat → Option Addr) (K : PySem.W.Frag) (H : Hp) (vs : List V) (ds : List D) : Prop :=
  vs.length = ds.length ∧ ∀ (i : Nat) v d, vs[i]? = some v → ds[i]? = some d → BRep B α ow K H v d
section
variable {B : Addr → Prop}
theorem BRepAll.ext (h : BRepAll B α ow K H vs ds) (e : Ext α H α' H') : BRepAll B α' ow K H' vs ds := ⟨h.1, fun i v d h1 h2 => (h.2 i v d h1 h2).ext e⟩
theorem BRepAll.nil : BRepAll B α ow K H [] [] := ⟨rfl, fun i v d e => by simp at e⟩
theorem BRepAll.cons (h : BRep B α ow K H v d) (t : BRepAll B α ow K H vs ds) : BRepAll B α ow K H (v :: vs) (d :: ds) :=
  ⟨by rw [List.length_cons, List.length_cons, t.1], fun i x e h1 h2 => by
    cases i with
    | zero => simp at h1 h2; subst h1 h2; exact h
    | succ i => exact t.2 i x e (by simpa using h1) (by simpa using h2)⟩
theorem BRepAll.uncons (h : BRepAll B α ow K H vs (d :: ds)) : ∃ v r, vs = v :: r ∧ BRep B α ow K H v d ∧ BRepAll B α ow K H r ds := by
  obtain ⟨hl, hi⟩ := h
  cases vs with
  | nil => simp at hl
  | cons v r => exact ⟨v, r, rfl, hi 0 v d rfl rfl, ⟨by simpa using hl, fun i x e h1 h2 => hi (i + 1) x e (by simpa using h1) (by simpa using h2)⟩⟩
theorem BRepAll.unnil (h : BRepAll B α ow K H vs []) : vs = [] := by
  have := h.1
  cases vs with
  | nil => rfl
  | cons v r => simp at this
theorem BRepAll.of (h : RepAll (Al B α ow) α K H vs ds) : BRepAll B α ow K H vs ds := ⟨h.1, fun i v d h1 h2 => .of (h.2 i v d h1 h2)⟩
/-- reading it -/
theorem BRep.lst {xs : List D} (h : BRep B α ow K H v (.lst xs)) : ∃ a vs, v = .ref a ∧ Rd H a (.lst vs) ∧ RepAll (Al B α ow) α K H vs xs := by
  cases h with
  | of h => cases h with | lst hA h hl hi => exact ⟨_, _, rfl, h, hl, hi⟩
  | own h hn ho r => exact ⟨_, _, rfl, .inl ho, r⟩
theorem BRep.tup {xs : List D} (h : BRep B α ow K H v (.tup xs)) : ∃ a vs, v = .ref a ∧ SqT K H a vs ∧ RepAll (Al B α ow) α K H vs xs := by
  cases h with
  | of h => cases h with | tup h hl hi => exact ⟨_, _, rfl, h.sq, hl, hi⟩
theorem BRep.dic {ds : List (DKey × D)} (h : BRep B α ow K H v (.dic ds)) : ∃ a kvs, v = .ref a ∧ Rd H a (.dK kvs) ∧ kvs.map (·.1) = ds.map (fun p => dkey p.1) ∧ RepAll (Al B α ow) α K H (kvs.map (·.2)) (ds.map (·.2)) := by
  cases h with
  | of h =>
    cases h with
    | dic hA h hk hi =>
      refine ⟨_, _, rfl, h, hk, by rw [List.length_map, List.length_map]; simpa using congrArg List.length hk, fun i v d h1 h2 => ?_⟩
      rw [List.getElem?_map, Option.map_eq_some_iff] at h1 h2
      obtain ⟨p, h1, rfl⟩ := h1
      obtain ⟨q, h2, rfl⟩ := h2
      exact hi i p q h1 h2
  | ownd h hn ho hk r => exact ⟨_, _, rfl, .inl ho, hk, r⟩
theorem BRep.int {i : Int} (h : BRep B α ow K H v (.int i)) : v = .int i := by cases h with | of h => cases h; rfl
theorem BRep.bl {b : Bool} (h : BRep B α ow K H v (.bl b)) : v = .bl b := by cases h with | of h => cases h; rfl
theorem BRep.str {s : List Nat} (h : BRep B α ow K H v (.str s)) : v = .str (S s) := by cases h with | of h => cases h; rfl
theorem BRep.non (h : BRep B α ow K H v .non) : v = .non := by cases h with | of h => cases h; rfl
end
end
end L3

/-! L3b: what an expression, a test, a list of arguments is worth. -/
namespace L3
open PySem PySem.Spec PyProof.Rows L2

abbrev M (β : Type) := Env3 → Store → Option (β × Store)
abbrev DE := M D
abbrev DA := M (List D)
abbrev DT := M Bool
def BIG : Nat := 100000
theorem big_line : BIG ≤ sizeLine := by decide

/-- what is wanted of a value that needs no new store -/
def Wants (K : PySem.W.Frag) (G : Gh) (α : List Addr) (ow : Nat → Option Addr) (σ : L2.St) (H : Hp) (ρ : Env3) (g : Store) (d : D) (Q : VK) : Prop :=
  ∀ v H', Ext α H α H' → Sat K G α ow σ H' ρ g → Rep (Al G.B α ow) α K H' v d → Q v H'
/-- .. of one that may change the store -/
def WantsG (K : PySem.W.Frag) (G : Gh) (α : List Addr) (ow : Nat → Option Addr) (σ : L2.St) (H : Hp) (ρ : Env3) (g' : Store) (d : D) (Q : VK) : Prop :=
  ∀ v H' α', Ext α H α' H' → Sat K G α' ow σ H' ρ g' → Rep (Al G.B α' ow) α' K H' v d → Q v H'
def WantsB (K : PySem.W.Frag) (G : Gh) (α : List Addr) (ow : Nat → Option Addr) (σ : L2.St) (H : Hp) (ρ : Env3) (g' : Store) (d : D) (Q : VK) : Prop :=
  ∀ v H' α', Ext α H α' H' → Sat K G α' ow σ H' ρ g' → BRep G.B α' ow K H' v d → Q v H'
def WantsT (K : PySem.W.Frag) (G : Gh) (α : List Addr) (ow : Nat → Option Addr) (σ : L2.St) (H : Hp) (ρ : Env3) (g' : Store) (b : Bool) (Q : Bool → Hp → Prop) : Prop :=
  ∀ H' α', Ext α H α' H' → Sat K G α' ow σ H' ρ g' → Q b H'
def WantsA (K : PySem.W.Frag) (G : Gh) (α : List Addr) (ow : Nat → Option Addr) (σ : L2.St) (H : Hp) (ρ : Env3) (g' : Store) (ds : List D) (Q : List V → Hp → Prop) : Prop :=
  ∀ vs H' α', Ext α H α' H' → Sat K G α' ow σ H' ρ g' → BRepAll G.B α' ow K H' vs ds → Q vs H'
def WantsR (K : PySem.W.Frag) (G : Gh) (α : List Addr) (ow : Nat → Option Addr) (σ : L2.St) (H : Hp) (ρ : Env3) (g' : Store) (ds : List D) (Q : List V → Hp → Prop) : Prop :=
  ∀ vs H' α', Ext α H α' H' → Sat K G α' ow σ H' ρ g' → RepAll (Al G.B α' ow) α' K H' vs ds → Q vs H'

def EC (X : Cx) (e : Expr) (f : DE) : Prop := ∃ t, PE X e t ∧ ∀ G α ow σ H ρ g d g' Q, Sat X.K G α ow σ H ρ g → f ρ g = some (d, g') → WantsG X.K G α ow σ H ρ g' d Q → t σ H Q
def EB (X : Cx) (e : Expr) (f : DE) : Prop := ∃ t, PE X e t ∧ ∀ G α ow σ H ρ g d g' Q, Sat X.K G α ow σ H ρ g → f ρ g = some (d, g') → WantsB X.K G α ow σ H ρ g' d Q → t σ H Q
def TC (X : Cx) (e : Expr) (f : DT) : Prop := ∃ t, PT X e t ∧ ∀ G α ow σ H ρ g b g' Q, Sat X.K G α ow σ H ρ g → f ρ g = some (b, g') → WantsT X.K G α ow σ H ρ g' b Q → t σ H Q
def TW (X : Cx) (e : Expr) (f : DT) : Prop := ∃ t, PW X e t ∧ ∀ G α ow σ H ρ g b g' Q, Sat X.K G α ow σ H ρ g → f ρ g = some (b, g') → WantsT X.K G α ow σ H ρ g' b Q → t σ H Q
def AB (X : Cx) (es : List Expr) (f : DA) : Prop := ∃ t, PA X es t ∧ ∀ G α ow σ H ρ g ds g' Q, Sat X.K G α ow σ H ρ g → f ρ g = some (ds, g') → WantsA X.K G α ow σ H ρ g' ds Q → t σ H Q
def AC (X : Cx) (es : List Expr) (f : DA) : Prop := (∀ ρ g ds g', f ρ g = some (ds, g') → ds.length = es.length) ∧ ∃ t, PA X es t ∧ ∀ G α ow σ H ρ g ds g' Q, Sat X.K G α ow σ H ρ g → f ρ g = some (ds, g') → WantsR X.K G α ow σ H ρ g' ds Q → t σ H Q

/-! ### the functions -/
def eVar (i : Nat) : DE := fun ρ g => match ρ[i]? with
  | some (some (.d x)) => some (x, g)
  | _ => none
def eVarB (i : Nat) : DE := fun ρ g => match ρ[i]? with
  | some (some (.d x)) => some (x, g)
  | some (some (.own xs)) => some (.lst xs, g)
  | some (some (.ownd ds)) => some (.dic ds, g)
  | _ => none
def eC (d : D) : DE := fun _ g => some (d, g)
def bindM {β γ : Type} (m : M β) (k : β → M γ) : M γ := fun ρ g => match m ρ g with
  | some (x, g1) => k x ρ g1
  | none => none
def liftM {β : Type} (o : Option β) : M β := fun _ g => match o with
  | some x => some (x, g)
  | none => none
def eOp (op : D → D → Option D) (a b : DE) : DE := bindM a fun x => bindM b fun y => liftM (op x y)
def eUn (op : D → Option D) (a : DE) : DE := bindM a fun x => liftM (op x)
def aNil : DA := fun _ g => some ([], g)
def aCons (a : DE) (r : DA) : DA := bindM a fun x => bindM r fun xs => liftM (some (x :: xs))
def eFn (φ : List D → Option D) (a : DA) : DE := bindM a fun xs => liftM (φ xs)
def eApp (φ : List D → Store → Option (D × Store)) (a : DA) : DE := bindM a fun xs => fun _ g => φ xs g
def tOf (a : DE) : DT := bindM a fun x => liftM (match x with | .bl b => some b | _ => none)
def tAndD (a b : DT) : DT := bindM a fun c => if c then b else fun _ g => some (false, g)
def tOrD (a b : DT) : DT := bindM a fun c => if c then (fun _ g => some (true, g)) else b
def tNotD (a : DT) : DT := bindM a fun c => liftM (some (!c))
def eAndD (a b : DE) : DE := bindM a fun x => match x with
  | .bl true => b
  | .bl false => eC (.bl false)
  | _ => fun _ _ => none
def eOrD (a b : DE) : DE := bindM a fun x => match x with
  | .bl false => b
  | .bl true => eC (.bl true)
  | _ => fun _ _ => none
def eIfD (c : DT) (a b : DE) : DE := bindM c fun k => if k then a else b
def flat : D → Bool
  | .non => true | .bl _ => true | .int _ => true | .str _ => true | .sta _ => true | _ => false
def eFlat (a : DE) : DE := bindM a fun x => liftM (if flat x then some x else none)

theorem bindM_some {β γ : Type} {m : M β} {k : β → M γ} {ρ : Env3} {g : Store} {z : γ} {g' : Store} (h : bindM m k ρ g = some (z, g')) : ∃ x g1, m ρ g = some (x, g1) ∧ k x ρ g1 = some (z, g') := by
  unfold bindM at h
  split at h
  · rename_i x g1 e; exact ⟨x, g1, e, h⟩
  · cases h
theorem liftM_some {β : Type} {o : Option β} {ρ : Env3} {g : Store} {z : β} {g' : Store} (h : liftM o ρ g = some (z, g')) : o = some z ∧ g = g' := by
  unfold liftM at h
  split at h
  · cases h; exact ⟨rfl, rfl⟩
  · cases h

section
variable {X : Cx} {e a b c : Expr} {f fa fb fc : DE}
theorem EC.bo (h : EC X e f) : EB X e f := by
  obtain ⟨t, ht, hq⟩ := h
  exact ⟨t, ht, fun G α ow σ H ρ g d g' Q s e w => hq G α ow σ H ρ g d g' Q s e fun v H' α' x s' r => w v H' α' x s' (.of r)⟩
theorem EB.flat (h : EB X e f) : EC X e (eFlat f) := by
  obtain ⟨t, ht, hq⟩ := h
  refine ⟨t, ht, fun G α ow σ H ρ g d g' Q s e w => ?_⟩
  obtain ⟨x, g1, e1, e2⟩ := bindM_some e
  obtain ⟨e3, rfl⟩ := liftM_some e2
  split at e3
  · rename_i hf
    cases e3
    refine hq G α ow σ H ρ g _ g1 Q s e1 fun v H' α' x s' r => w v H' α' x s' ?_
    cases r with
    | of r => exact r
    | own => cases hf
    | ownd => cases hf
  · cases e3

/-! ### names, constants -/
theorem Sat.var {K : PySem.W.Frag} {G : Gh} {α : List Addr} {ow : Nat → Option Addr} {σ : L2.St} {H : Hp} {ρ : Env3} {g : Store} (s : Sat K G α ow σ H ρ g) {i : Nat} {x : SV} (h : ρ[i]? = some (some x)) : SlotOk (Al G.B α ow) α K H (ow i) σ[i]? x := s.slot i x h
theorem ec_var (i : Nat) {x : Str} {pos : Pos} (hN : X.N[i]? = some x := by rfl) (hv : Vis X.env.scope x := by first | exact Or.inl rfl | exact Or.inr (Or.inl rfl) | exact Or.inr (Or.inr rfl)) (hd : (x == ("__debug__" : Str)) = false := by decide) (hcd : (x == ("__classdict__" : Str)) = false := by decide) :
    EC X (.Name x pos) (eVar i) := by
  refine ⟨tVar i, pe_var hN hv hd hcd, fun G α ow σ H ρ g d g' Q s e w => ?_⟩
  unfold eVar at e
  split at e
  · rename_i y hy
    cases e
    obtain ⟨v, h1, h2⟩ := s.slot i _ hy
    exact ⟨v, h1, w v H α Ext.refl s h2⟩
  · cases e
theorem eb_var (i : Nat) {x : Str} {pos : Pos} (hN : X.N[i]? = some x := by rfl) (hv : Vis X.env.scope x := by first | exact Or.inl rfl | exact Or.inr (Or.inl rfl) | exact Or.inr (Or.inr rfl)) (hd : (x == ("__debug__" : Str)) = false := by decide) (hcd : (x == ("__classdict__" : Str)) = false := by decide) :
    EB X (.Name x pos) (eVarB i) := by
  refine ⟨tVar i, pe_var hN hv hd hcd, fun G α ow σ H ρ g d g' Q s e w => ?_⟩
  unfold eVarB at e
  split at e
  · rename_i y hy
    cases e
    obtain ⟨v, h1, h2⟩ := s.slot i _ hy
    exact ⟨v, h1, w v H α Ext.refl s (.of h2)⟩
  · rename_i xs hy
    cases e
    obtain ⟨a, vs, h1, h2, h3, h4⟩ := s.slot i _ hy
    exact ⟨_, h2, w _ H α Ext.refl s (.own h1 (s.own i a h1).2.1 h3 h4)⟩
  · rename_i xs hy
    cases e
    obtain ⟨a, vs, h1, h2, h3, h4, h5⟩ := s.slot i _ hy
    exact ⟨_, h2, w _ H α Ext.refl s (.ownd h1 (s.own i a h1).2.1 h3 h4 h5)⟩
  · cases e
theorem ec_imm {v : V} {d : D} (h : PE X e (tC v)) (r : ∀ A α K H, Rep A α K H v d) : EC X e (eC d) :=
  ⟨_, h, fun G α ow σ H ρ g d' g' Q s e w => by cases e; exact w v H α Ext.refl s (r _ _ _ _)⟩
theorem ec_int {i : Int} {j pos} : EC X (.Constant (.int i) j pos) (eC (.int i)) := ec_imm pe_int fun _ _ _ _ => .int i
theorem ec_bl {i : Bool} {j pos} : EC X (.Constant (.bool i) j pos) (eC (.bl i)) := ec_imm pe_bl fun _ _ _ _ => .bl i
theorem ec_non {j pos} : EC X (.Constant .none j pos) (eC .non) := ec_imm pe_non fun _ _ _ _ => .non
theorem ec_str {x : Str} {s : List Nat} {j pos} (h : x = S s := by rfl) : EC X (.Constant (.str x) j pos) (eC (.str s)) := by
  subst h
  exact ec_imm pe_str fun _ _ _ _ => .str s
/-- a module's constant -/
theorem ec_gint {x : Str} {i : Int} {t : Tok} {pos : Pos} (hm : X.mg x = some (.int i t)) (hg : Gl X x := by rfl) (hd : (x == ("__debug__" : Str)) = false := by decide) : EC X (.Name x pos) (eC (.int i)) :=
  ec_imm (pe_glob (v := .int i) hg hm ⟨t, rfl⟩ hd) fun _ _ _ _ => .int i
theorem ec_gstr {x : Str} {z : List Nat} {t : Tok} {pos : Pos} (hm : X.mg x = some (.str (S z) t)) (hg : Gl X x := by rfl) (hd : (x == ("__debug__" : Str)) = false := by decide) : EC X (.Name x pos) (eC (.str z)) :=
  ec_imm (pe_glob (v := .str (S z)) hg hm ⟨t, rfl⟩ hd) fun _ _ _ _ => .str z

/-! ### operators -/
def OpD (X : Cx) (f : Value → Value → Sem Value) (op : D → D → Option D) : Prop := ∃ r, OpR X f r ∧ ∀ G α ow σ H ρ g x y dx dy d Q, Sat X.K G α ow σ H ρ g → BRep G.B α ow X.K H x dx → BRep G.B α ow X.K H y dy →
  op dx dy = some d → Wants X.K G α ow σ H ρ g d Q → r x y H Q
theorem eb_bin {ta tb : TE} (ha : ∀ G α ow σ H ρ g d g' Q, Sat X.K G α ow σ H ρ g → fa ρ g = some (d, g') → WantsB X.K G α ow σ H ρ g' d Q → ta σ H Q) (hb : ∀ G α ow σ H ρ g d g' Q, Sat X.K G α ow σ H ρ g → fb ρ g = some (d, g') → WantsB X.K G α ow σ H ρ g' d Q → tb σ H Q)
    {G α ow σ H ρ g op d g'} (s : Sat X.K G α ow σ H ρ g) (he : eOp op fa fb ρ g = some (d, g')) {R : V → V → Hp → Prop}
    (w : ∀ x y dx dy H' α', Ext α H α' H' → Sat X.K G α' ow σ H' ρ g' → BRep G.B α' ow X.K H' x dx → BRep G.B α' ow X.K H' y dy → op dx dy = some d → R x y H') : ta σ H fun x H1 => tb σ H1 fun y H2 => R x y H2 := by
  obtain ⟨dx, g1, e1, he⟩ := bindM_some he
  obtain ⟨dy, g2, e2, he⟩ := bindM_some he
  obtain ⟨e3, rfl⟩ := liftM_some he
  refine ha G α ow σ H ρ g dx g1 _ s e1 fun x H1 α1 x1 s1 r1 => ?_
  refine hb G α1 ow σ H1 ρ g1 dy g2 _ s1 e2 fun y H2 α2 x2 s2 r2 => ?_
  exact w x y dx dy H2 α2 (x1.trans x2) s2 (r1.ext x2) r2 e3
theorem ec_op {op : Operator} {o : D → D → Option D} {pos : Pos} (ho : OpD X (binaryOp op) o) (ha : EB X a fa) (hb : EB X b fb) : EC X (.BinOp a op b pos) (eOp o fa fb) := by
  obtain ⟨r, hr, hq⟩ := ho
  obtain ⟨ta, pa, ha⟩ := ha
  obtain ⟨tb, pb, hb⟩ := hb
  refine ⟨_, pe_op hr pa pb, fun G α ow σ H ρ g d g' Q s e w => ?_⟩
  exact eb_bin ha hb s e fun x y dx dy H' α' x1 s1 r1 r2 e2 => hq G α' ow σ H' ρ g' x y dx dy d Q s1 r1 r2 e2 fun v H2 x2 s2 r => w v H2 α' (x1.trans x2) s2 r
theorem ec_cmp {op : CmpOp} {o : D → D → Option D} {pos : Pos} (ho : OpD X (compareOp op) o) (ha : EB X a fa) (hb : EB X b fb) (hm : behindInMarks op b = false := by first | exact nomark _ | rfl) : EC X (.Compare a [op] [b] pos) (eOp o fa fb) := by
  obtain ⟨r, hr, hq⟩ := ho
  obtain ⟨ta, pa, ha⟩ := ha
  obtain ⟨tb, pb, hb⟩ := hb
  refine ⟨_, pe_cmpR hr pa pb hm, fun G α ow σ H ρ g d g' Q s e w => ?_⟩
  exact eb_bin ha hb s e fun x y dx dy H' α' x1 s1 r1 r2 e2 => hq G α' ow σ H' ρ g' x y dx dy d Q s1 r1 r2 e2 fun v H2 x2 s2 r => w v H2 α' (x1.trans x2) s2 r
theorem tc_cmp {op : CmpOp} {o : D → D → Option D} {pos : Pos} (ho : OpD X (compareOp op) o) (ha : EB X a fa) (hb : EB X b fb) (hm : behindInMarks op b = false := by first | exact nomark _ | rfl) : TC X (.Compare a [op] [b] pos) (tOf (eOp o fa fb)) := by
  obtain ⟨r, hr, hq⟩ := ho
  obtain ⟨ta, pa, ha⟩ := ha
  obtain ⟨tb, pb, hb⟩ := hb
  refine ⟨_, pt_cmpR hr pa pb hm, fun G α ow σ H ρ g k g' Q s e w => ?_⟩
  obtain ⟨d, g1, e1, e2⟩ := bindM_some e
  obtain ⟨e3, rfl⟩ := liftM_some e2
  split at e3
  · cases e3
    exact eb_bin ha hb s e1 fun x y dx dy H' α' x1 s1 r1 r2 e2 => hq G α' ow σ H' ρ g1 x y dx dy _ _ s1 r1 r2 e2 fun v H2 x2 s2 r => by
      cases r
      exact ⟨_, rfl, w H2 α' (x1.trans x2) s2⟩
  · cases e3
/-- an expression whose value is a bool, as a test -/
theorem tc_val (h : EC X e f) (he : ∀ whole, isTrue e X.env whole = (do let v ← whole; standAt e.pos; holding [v] (truthy v)) := by intro _; rfl) : TC X e (tOf f) := by
  obtain ⟨t, pt, hq⟩ := h
  refine ⟨_, pt_val pt he, fun G α ow σ H ρ g k g' Q s e w => ?_⟩
  obtain ⟨d, g1, e1, e2⟩ := bindM_some e
  obtain ⟨e3, rfl⟩ := liftM_some e2
  split at e3
  · cases e3
    exact hq G α ow σ H ρ g _ g1 _ s e1 fun v H2 α2 x2 s2 r => by
      cases r
      exact ⟨_, rfl, w H2 α2 x2 s2⟩
  · cases e3
/-! ### and, or, not -/
section
variable {ta tb : DT} {rest : List Expr} {pos : Pos}
theorem TW.tc (h : TW X e ta) : TC X e ta := by
  obtain ⟨t, pt, hq⟩ := h
  exact ⟨t, pt.pt, hq⟩
theorem tw_and1 (ha : TC X a ta) : TW X (.BoolOp .And [a] pos) ta := by
  obtain ⟨t, pt, hq⟩ := ha
  exact ⟨t, pw_and1 pt, hq⟩
theorem tw_or1 (ha : TC X a ta) : TW X (.BoolOp .Or [a] pos) ta := by
  obtain ⟨t, pt, hq⟩ := ha
  exact ⟨t, pw_or1 pt, hq⟩
theorem tw_and (ha : TC X a ta) (hb : TW X (.BoolOp .And (b :: rest) pos) tb) : TW X (.BoolOp .And (a :: b :: rest) pos) (tAndD ta tb) := by
  obtain ⟨t, pt, hq⟩ := ha
  obtain ⟨t2, pt2, hq2⟩ := hb
  refine ⟨_, pw_and pt pt2, fun G α ow σ H ρ g k g' Q s e w => ?_⟩
  obtain ⟨c, g1, e1, e2⟩ := bindM_some e
  refine hq G α ow σ H ρ g c g1 _ s e1 fun H1 α1 x1 s1 => ?_
  cases c with
  | true => rw [if_pos rfl] at e2 ⊢; exact hq2 G α1 ow σ H1 ρ g1 k g' Q s1 e2 fun H2 α2 x2 s2 => w H2 α2 (x1.trans x2) s2
  | false => rw [if_neg (by decide)] at e2 ⊢; cases e2; exact w H1 α1 x1 s1
theorem tw_or (ha : TC X a ta) (hb : TW X (.BoolOp .Or (b :: rest) pos) tb) : TW X (.BoolOp .Or (a :: b :: rest) pos) (tOrD ta tb) := by
  obtain ⟨t, pt, hq⟩ := ha
  obtain ⟨t2, pt2, hq2⟩ := hb
  refine ⟨_, pw_or pt pt2, fun G α ow σ H ρ g k g' Q s e w => ?_⟩
  obtain ⟨c, g1, e1, e2⟩ := bindM_some e
  refine hq G α ow σ H ρ g c g1 _ s e1 fun H1 α1 x1 s1 => ?_
  cases c with
  | false => rw [if_neg (by decide)] at e2 ⊢; exact hq2 G α1 ow σ H1 ρ g1 k g' Q s1 e2 fun H2 α2 x2 s2 => w H2 α2 (x1.trans x2) s2
  | true => rw [if_pos rfl] at e2 ⊢; cases e2; exact w H1 α1 x1 s1
theorem tc_not (ha : TC X a ta) : TC X (.UnaryOp .Not a pos) (tNotD ta) := by
  obtain ⟨t, pt, hq⟩ := ha
  refine ⟨_, pt_not pt, fun G α ow σ H ρ g k g' Q s e w => ?_⟩
  obtain ⟨c, g1, e1, e2⟩ := bindM_some e
  obtain ⟨e3, rfl⟩ := liftM_some e2
  cases e3
  exact hq G α ow σ H ρ g c g1 _ s e1 w
theorem ec_one {op} (h : EC X a f) : EC X (.BoolOp op [a] pos) f := by
  obtain ⟨t, pt, hq⟩ := h
  exact ⟨t, pe_one pt, hq⟩
theorem ec_and (ha : EC X a fa) (hb : EC X (.BoolOp .And (b :: rest) pos) fb) : EC X (.BoolOp .And (a :: b :: rest) pos) (eAndD fa fb) := by
  obtain ⟨t, pt, hq⟩ := ha
  obtain ⟨t2, pt2, hq2⟩ := hb
  refine ⟨_, pe_and pt pt2, fun G α ow σ H ρ g k g' Q s e w => ?_⟩
  obtain ⟨c, g1, e1, e2⟩ := bindM_some e
  refine hq G α ow σ H ρ g c g1 _ s e1 fun v H1 α1 x1 s1 r => ?_
  split at e2
  · cases r; exact ⟨_, rfl, by rw [if_pos rfl]; exact hq2 G α1 ow σ H1 ρ g1 k g' Q s1 e2 fun v H2 α2 x2 s2 => w v H2 α2 (x1.trans x2) s2⟩
  · cases r; cases e2; exact ⟨_, rfl, by rw [if_neg (by decide)]; exact w _ H1 α1 x1 s1 (.bl _)⟩
  · cases e2
theorem ec_or (ha : EC X a fa) (hb : EC X (.BoolOp .Or (b :: rest) pos) fb) : EC X (.BoolOp .Or (a :: b :: rest) pos) (eOrD fa fb) := by
  obtain ⟨t, pt, hq⟩ := ha
  obtain ⟨t2, pt2, hq2⟩ := hb
  refine ⟨_, pe_or pt pt2, fun G α ow σ H ρ g k g' Q s e w => ?_⟩
  obtain ⟨c, g1, e1, e2⟩ := bindM_some e
  refine hq G α ow σ H ρ g c g1 _ s e1 fun v H1 α1 x1 s1 r => ?_
  split at e2
  · cases r; exact ⟨_, rfl, by rw [if_neg (by decide)]; exact hq2 G α1 ow σ H1 ρ g1 k g' Q s1 e2 fun v H2 α2 x2 s2 => w v H2 α2 (x1.trans x2) s2⟩
  · cases r; cases e2; exact ⟨_, rfl, by rw [if_pos rfl]; exact w _ H1 α1 x1 s1 (.bl _)⟩
  · cases e2
def dNot : D → Option D
  | .bl b => some (.bl (!b))
  | _ => none
theorem ec_not (ha : EC X a fa) : EC X (.UnaryOp .Not a pos) (eUn dNot fa) := by
  obtain ⟨t, pt, hq⟩ := ha
  refine ⟨_, pe_not pt, fun G α ow σ H ρ g k g' Q s e w => ?_⟩
  obtain ⟨c, g1, e1, e2⟩ := bindM_some e
  obtain ⟨e3, rfl⟩ := liftM_some e2
  refine hq G α ow σ H ρ g c g1 _ s e1 fun v H1 α1 x1 s1 r => ?_
  unfold dNot at e3
  split at e3
  · cases r; cases e3; exact ⟨_, rfl, w _ H1 α1 x1 s1 (.bl _)⟩
  · cases e3
theorem ec_if (hc : TC X c ta) (ha : EC X a fa) (hb : EC X b fb) : EC X (.IfExp c a b pos) (eIfD ta fa fb) := by
  obtain ⟨t, pt, hq⟩ := hc
  obtain ⟨t1, pt1, hq1⟩ := ha
  obtain ⟨t2, pt2, hq2⟩ := hb
  refine ⟨_, pe_ifExp pt pt1 pt2, fun G α ow σ H ρ g k g' Q s e w => ?_⟩
  obtain ⟨c, g1, e1, e2⟩ := bindM_some e
  refine hq G α ow σ H ρ g c g1 _ s e1 fun H1 α1 x1 s1 => ?_
  cases c with
  | true => rw [if_pos rfl] at e2 ⊢; exact hq1 G α1 ow σ H1 ρ g1 k g' Q s1 e2 fun v H2 α2 x2 s2 => w v H2 α2 (x1.trans x2) s2
  | false => rw [if_neg (by decide)] at e2 ⊢; exact hq2 G α1 ow σ H1 ρ g1 k g' Q s1 e2 fun v H2 α2 x2 s2 => w v H2 α2 (x1.trans x2) s2
end

/-! ### arguments, displays -/
section
variable {es : List Expr} {fs : DA} {pos : Pos}
theorem ab_nil : AB X [] aNil := ⟨_, pa_nil, fun G α ow σ H ρ g ds g' Q s e w => by cases e; exact w [] H α Ext.refl s BRepAll.nil⟩
theorem ac_nil : AC X [] aNil := ⟨fun ρ g ds g' e => by cases e; rfl, _, pa_nil, fun G α ow σ H ρ g ds g' Q s e w => by cases e; exact w [] H α Ext.refl s RepAll.nil⟩
theorem ab_cons (ha : EB X e f) (hr : AB X es fs) (hs : starEach (e :: es) X.env = (false, eval e X.env) :: starEach es X.env := by rfl) : AB X (e :: es) (aCons f fs) := by
  obtain ⟨t, pt, hq⟩ := ha
  obtain ⟨t1, pt1, hq1⟩ := hr
  refine ⟨_, pa_cons pt pt1 hs, fun G α ow σ H ρ g ds g' Q s e w => ?_⟩
  obtain ⟨x, g1, e1, e2⟩ := bindM_some e
  obtain ⟨xs, g2, e4, e3⟩ := bindM_some e2
  obtain ⟨e3, rfl⟩ := liftM_some e3
  cases e3
  refine hq G α ow σ H ρ g x g1 _ s e1 fun v H1 α1 x1 s1 r1 => ?_
  refine hq1 G α1 ow σ H1 ρ g1 xs g2 _ s1 e4 fun vs H2 α2 x2 s2 r2 => ?_
  exact w _ H2 α2 (x1.trans x2) s2 (.cons (r1.ext x2) r2)
theorem ac_cons (ha : EC X e f) (hr : AC X es fs) (hs : starEach (e :: es) X.env = (false, eval e X.env) :: starEach es X.env := by rfl) : AC X (e :: es) (aCons f fs) := by
  obtain ⟨t, pt, hq⟩ := ha
  obtain ⟨l1, t1, pt1, hq1⟩ := hr
  refine ⟨fun ρ g ds g' e => ?_, _, pa_cons pt pt1 hs, fun G α ow σ H ρ g ds g' Q s e w => ?_⟩
  · obtain ⟨x, g1, e1, e2⟩ := bindM_some e
    obtain ⟨xs, g2, e4, e3⟩ := bindM_some e2
    obtain ⟨e3, rfl⟩ := liftM_some e3
    cases e3
    rw [List.length_cons, List.length_cons, l1 _ _ _ _ e4]
  obtain ⟨x, g1, e1, e2⟩ := bindM_some e
  obtain ⟨xs, g2, e4, e3⟩ := bindM_some e2
  obtain ⟨e3, rfl⟩ := liftM_some e3
  cases e3
  refine hq G α ow σ H ρ g x g1 _ s e1 fun v H1 α1 x1 s1 r1 => ?_
  refine hq1 G α1 ow σ H1 ρ g1 xs g2 _ s1 e4 fun vs H2 α2 x2 s2 r2 => ?_
  exact w _ H2 α2 (x1.trans x2) s2 (.cons (r1.ext x2) r2)
def dTup (xs : List D) : Option D := if xs.length ≤ BIG then some (.tup xs) else none
def dLst (xs : List D) : Option (List D) := if xs.length ≤ BIG then some xs else none
theorem ec_tup {x1} (h : AC X es fs) : EC X (.Tuple es x1 pos) (eFn dTup fs) := by
  obtain ⟨_, t, pt, hq⟩ := h
  refine ⟨_, pe_tup pt, fun G α ow σ H ρ g ds g' Q s e w => ?_⟩
  obtain ⟨xs, g1, e1, e2⟩ := bindM_some e
  obtain ⟨e3, rfl⟩ := liftM_some e2
  unfold dTup at e3
  split at e3
  · rename_i hl
    cases e3
    refine hq G α ow σ H ρ g xs g1 _ s e1 fun vs H1 α1 x1 s1 r1 => ⟨by rw [r1.1]; exact Nat.le_trans hl big_line, fun p hp => ?_⟩
    exact w _ _ α1 (x1.trans (Ext.new hp)) (s1.new hp) (s1.newT hp r1)
  · cases e3

/-! ### new lists: values that a slot may own -/
def WantsF (K : PySem.W.Frag) (G : Gh) (α : List Addr) (ow : Nat → Option Addr) (σ : L2.St) (H : Hp) (ρ : Env3) (g' : Store) (ds : List D) (Q : VK) : Prop :=
  ∀ p vs H' α', Ext α H α' H' → Sat K G α' ow σ H' ρ g' → H' p = none → RepAll (Al G.B α' ow) α' K H' vs ds → ∀ H2, H2 = upd H' p (.lst vs) → Q (.ref p) H2
/-- a new list -/
def EF (X : Cx) (e : Expr) (f : DA) : Prop := ∃ t, PE X e t ∧ ∀ G α ow σ H ρ g ds g' Q, Sat X.K G α ow σ H ρ g → f ρ g = some (ds, g') → WantsF X.K G α ow σ H ρ g' ds Q → t σ H Q
def eL (f : DA) : DE := bindM f fun xs => liftM (some (.lst xs))
theorem EF.ec {fs : DA} (h : EF X e fs) : EC X e (eL fs) := by
  obtain ⟨t, pt, hq⟩ := h
  refine ⟨t, pt, fun G α ow σ H ρ g d g' Q s e w => ?_⟩
  obtain ⟨xs, g1, e1, e2⟩ := bindM_some e
  obtain ⟨e3, rfl⟩ := liftM_some e2
  cases e3
  refine hq G α ow σ H ρ g xs g1 _ s e1 fun p vs H1 α1 x1 s1 hp r H2 e => ?_
  subst e
  exact w _ _ α1 (x1.trans (Ext.new hp)) (s1.new hp) (s1.newL hp r)
def aFn (φ : List D → Option (List D)) (a : DA) : DA := bindM a fun xs => liftM (φ xs)
theorem ef_lst (h : AC X es fs) : EF X (.List es pos) (aFn dLst fs) := by
  obtain ⟨_, t, pt, hq⟩ := h
  refine ⟨_, pe_lst pt, fun G α ow σ H ρ g ds g' Q s e w => ?_⟩
  obtain ⟨xs, g1, e1, e2⟩ := bindM_some e
  obtain ⟨e3, rfl⟩ := liftM_some e2
  unfold dLst at e3
  split at e3
  · rename_i hl
    cases e3
    refine hq G α ow σ H ρ g ds g1 _ s e1 fun vs H1 α1 x1 s1 r1 => ⟨by rw [r1.1]; exact Nat.le_trans hl big_line, fun p hp => ?_⟩
    exact w p vs H1 α1 x1 s1 hp r1 _ rfl
  · cases e3
end
end
end L3

/-! L3c: statements, blocks, loops, comprehensions, defs. -/
namespace L3
open PySem PySem.Spec PyProof.Rows L2

inductive Out where
  | nx (ρ : Env3) | rt (d : D) | bk (ρ : Env3) | ct (ρ : Env3)
abbrev DS := Env3 → Store → Option (Out × Store)

/-- what is let in stays -/
def Fz (B : Addr → Prop) (α : List Addr) (ow : Nat → Option Addr) (H : Hp) (α' : List Addr) (ow' : Nat → Option Addr) (H' : Hp) : Prop :=
  (∀ a o, Al B α ow a → H a = some o → Al B α' ow' a ∧ H' a = some o) ∧ α <+: α'
theorem Fz.refl {B : Addr → Prop} {α : List Addr} {ow : Nat → Option Addr} {H : Hp} : Fz B α ow H α ow H := ⟨fun _ _ h e => ⟨h, e⟩, List.prefix_refl _⟩
theorem Fz.trans {B : Addr → Prop} {α α1 α2 : List Addr} {ow ow1 ow2 : Nat → Option Addr} {H H1 H2 : Hp} (a : Fz B α ow H α1 ow1 H1) (b : Fz B α1 ow1 H1 α2 ow2 H2) : Fz B α ow H α2 ow2 H2 :=
  ⟨fun x o h e => b.1 x o (a.1 x o h e).1 (a.1 x o h e).2, a.2.trans b.2⟩
theorem Ext.fz {B : Addr → Prop} {α α1 : List Addr} {ow : Nat → Option Addr} {H H1 : Hp} (e : Ext α H α1 H1) : Fz B α ow H α1 ow H1 := ⟨e.al, e.2.1⟩
theorem Rep.fz {B : Addr → Prop} {α α1 : List Addr} {ow ow1 : Nat → Option Addr} {H H1 : Hp} {K : PySem.W.Frag} {v : V} {d : D} (h : Rep (Al B α ow) α K H v d) (e : Fz B α ow H α1 ow1 H1) : Rep (Al B α1 ow1) α1 K H1 v d := h.mono e.1 e.2
theorem RepAll.fz {B : Addr → Prop} {α α1 : List Addr} {ow ow1 : Nat → Option Addr} {H H1 : Hp} {K : PySem.W.Frag} {v : List V} {d : List D} (h : RepAll (Al B α ow) α K H v d) (e : Fz B α ow H α1 ow1 H1) : RepAll (Al B α1 ow1) α1 K H1 v d := h.mono e.1 e.2

def WantsN (K : PySem.W.Frag) (G : Gh) (α : List Addr) (ow : Nat → Option Addr) (H : Hp) (ρ' : Env3) (g' : Store) (R : L2.St → Hp → Prop) : Prop :=
  ∀ σ' H' α' ow', Sat K G α' ow' σ' H' ρ' g' → Fz G.B α ow H α' ow' H' → R σ' H'
def Post (K : PySem.W.Frag) (G : Gh) (α : List Addr) (ow : Nat → Option Addr) (H : Hp) (out : Out) (g' : Store) (Dn : Ends) : Prop := match out with
  | .nx ρ' => WantsN K G α ow H ρ' g' Dn.nx
  | .bk ρ' => WantsN K G α ow H ρ' g' Dn.bk
  | .ct ρ' => WantsN K G α ow H ρ' g' Dn.ct
  | .rt d => ∀ v H' α', Ext G.α0 G.H0 α' H' → (∀ a, G.B a → (∃ o, H' a = some o) ∧ a ∉ α') → GOk (Al G.B α' no) α' g' K H' → Rep (Al G.B α' no) α' K H' v d → Dn.rt v H'
def SC (X : Cx) (st : Stmt) (f : DS) : Prop := ∃ t, PS X st t ∧ ∀ G α ow σ H ρ g out g' Dn, Sat X.K G α ow σ H ρ g → f ρ g = some (out, g') → Post X.K G α ow H out g' Dn → t Dn σ H
def BC (X : Cx) (sts : List Stmt) (f : DS) : Prop := ∃ t, PSs X sts t ∧ ∀ G α ow σ H ρ g out g' Dn, Sat X.K G α ow σ H ρ g → f ρ g = some (out, g') → Post X.K G α ow H out g' Dn → t Dn σ H
theorem Post.fz {K : PySem.W.Frag} {G : Gh} {α α1 : List Addr} {ow ow1 : Nat → Option Addr} {H H1 : Hp} {out : Out} {g' : Store} {Dn : Ends} (e : Fz G.B α ow H α1 ow1 H1) (p : Post K G α ow H out g' Dn) : Post K G α1 ow1 H1 out g' Dn := by
  cases out with
  | nx ρ' => exact fun σ' H' α' ow' s f => p σ' H' α' ow' s (e.trans f)
  | bk ρ' => exact fun σ' H' α' ow' s f => p σ' H' α' ow' s (e.trans f)
  | ct ρ' => exact fun σ' H' α' ow' s f => p σ' H' α' ow' s (e.trans f)
  | rt d => exact p

/-! ### the functions -/
def sNext : DS := fun ρ g => some (.nx ρ, g)
def sSeq (a b : DS) : DS := fun ρ g => match a ρ g with
  | some (.nx ρ1, g1) => b ρ1 g1
  | r => r
def sSet (i : Nat) (f : DE) : DS := fun ρ g => match f ρ g with
  | some (d, g1) => some (.nx (ρ.set i (some (.d d))), g1)
  | none => none
def sOwn (i : Nat) (f : DA) : DS := fun ρ g => match f ρ g with
  | some (ds, g1) => if i < ρ.length then some (.nx (ρ.set i (some (.own ds))), g1) else none
  | none => none
def sRet (f : DE) : DS := fun ρ g => match f ρ g with
  | some (d, g1) => some (.rt d, g1)
  | none => none
def sIf (c : DT) (a b : DS) : DS := fun ρ g => match c ρ g with
  | some (true, g1) => a ρ g1
  | some (false, g1) => b ρ g1
  | none => none
def sDrop (f : DE) : DS := fun ρ g => match f ρ g with
  | some (_, g1) => some (.nx ρ, g1)
  | none => none
def sFreeze (i : Nat) (f : DS) : DS := fun ρ g => match ρ[i]? with
  | some (some (.own xs)) => f (ρ.set i (some (.d (.lst xs)))) g
  | some (some (.ownd ds)) => f (ρ.set i (some (.d (.dic ds)))) g
  | _ => f ρ g
def sApp (i : Nat) (f : DE) : DS := fun ρ g => match ρ[i]? with
  | some (some (.own xs)) => match f ρ g with
    | some (d, g1) => if xs.length < BIG then some (.nx (ρ.set i (some (.own (xs ++ [d])))), g1) else none
    | none => none
  | _ => none
def sets (ρ : Env3) : List (Nat × D) → Env3
  | [] => ρ
  | (i, d) :: r => sets (ρ.set i (some (.d d))) r
def setsV (σ : L2.St) : List (Nat × V) → L2.St
  | [] => σ
  | (i, d) :: r => setsV (σ.set i (some d)) r
def forD (tg : D → Option (List (Nat × D))) (body : DS) : List D → DS
  | [], ρ, g => some (.nx ρ, g)
  | d :: ds, ρ, g => match tg d with
    | none => none
    | some as => match body (sets ρ as) g with
      | some (.nx ρ1, g1) => forD tg body ds ρ1 g1
      | some (.ct ρ1, g1) => forD tg body ds ρ1 g1
      | some (.bk ρ1, g1) => some (.nx ρ1, g1)
      | some (.rt d, g1) => some (.rt d, g1)
      | none => none
def sFor (it : DA) (tg : D → Option (List (Nat × D))) (body : DS) : DS := fun ρ g => match it ρ g with
  | some (ds, g1) => forD tg body ds ρ g1
  | none => none
def whileD (c : DT) (body : DS) : Nat → DS
  | 0, _, _ => none
  | n + 1, ρ, g => match c ρ g with
    | some (true, g1) => match body ρ g1 with
      | some (.nx ρ1, g2) => whileD c body n ρ1 g2
      | some (.ct ρ1, g2) => whileD c body n ρ1 g2
      | some (.bk ρ1, g2) => some (.nx ρ1, g2)
      | some (.rt d, g2) => some (.rt d, g2)
      | none => none
    | some (false, g1) => some (.nx ρ, g1)
    | none => none
def tgName (i : Nat) : D → Option (List (Nat × D)) := fun d => some [(i, d)]
def tgTup (ts : List D → Option (List (Nat × D))) : D → Option (List (Nat × D))
  | .tup xs => ts xs
  | _ => none
def tgsNil : List D → Option (List (Nat × D))
  | [] => some []
  | _ => none
def tgsCons (t : D → Option (List (Nat × D))) (ts : List D → Option (List (Nat × D))) : List D → Option (List (Nat × D))
  | x :: xs => match t x, ts xs with
    | some a, some b => some (a ++ b)
    | _, _ => none
  | [] => none
def sUnp (f : DE) (tg : D → Option (List (Nat × D))) : DS := fun ρ g => match f ρ g with
  | some (d, g1) => match tg d with
    | some as => some (.nx (sets ρ as), g1)
    | none => none
  | none => none

/-! ### what a store into a slot does -/
def off (ow : Nat → Option Addr) (i : Nat) : Nat → Option Addr := fun j => if j = i then none else ow j
def put (ow : Nat → Option Addr) (i : Nat) (p : Addr) : Nat → Option Addr := fun j => if j = i then some p else ow j
section
variable {K : PySem.W.Frag} {G : Gh} {α α' : List Addr} {ow : Nat → Option Addr} {σ : L2.St} {H H' : Hp} {ρ : Env3} {g g' : Store} {v : V} {d : D} {vs : List V} {ds : List D} {i : Nat}
theorem al_off {B : Addr → Prop} {a : Addr} (h : Al B α ow a) : Al B α (off ow i) a := ⟨h.1, h.2.1, fun j => by
  unfold off
  split
  · exact fun z => by cases z
  · exact h.2.2 j⟩
theorem al_no {B : Addr → Prop} {a : Addr} (h : Al B α ow a) : Al B α no a := ⟨h.1, h.2.1, fun j z => by cases z⟩
theorem Fz.off {B : Addr → Prop} : Fz B α ow H α (off ow i) H := ⟨fun a o h e => ⟨al_off h, e⟩, List.prefix_refl _⟩
theorem GOk.mono {A A' : Addr → Prop} (s : GOk A α g K H) (hA : ∀ a o, A a → H a = some o → A' a ∧ H' a = some o) (hs : ∀ a o, a ∈ α → H a = some o → H' a = some o) : GOk A' α g K H' :=
  ⟨s.len, s.nd, fun n a u h1 h2 => by
    have q := s.so n a u h1 h2
    cases u with
    | lst xs => obtain ⟨vs, q1, q2⟩ := q; exact ⟨vs, hs a _ (List.mem_of_getElem? h1) q1, q2.mono hA (List.prefix_refl _)⟩⟩
theorem SlotOk.mono {A A' : Addr → Prop} {o : Option Addr} {w : Option (Option V)} {x : SV} (h : SlotOk A α K H o w x) (hA : ∀ a u, A a → H a = some u → A' a ∧ H' a = some u) (ho : ∀ a u, o = some a → H a = some u → H' a = some u) : SlotOk A' α K H' o w x := by
  cases x with
  | d x => obtain ⟨y, h1, h2⟩ := h; exact ⟨y, h1, h2.mono hA (List.prefix_refl _)⟩
  | own xs => obtain ⟨a, vs, h1, h2, h3, h4⟩ := h; exact ⟨a, vs, h1, h2, ho a _ h1 h3, h4.mono hA (List.prefix_refl _)⟩
  | ownd xs => obtain ⟨a, vs, h1, h2, h3, h4, h5⟩ := h; exact ⟨a, vs, h1, h2, ho a _ h1 h3, h4, h5.mono hA (List.prefix_refl _)⟩
theorem Sat.set (s : Sat K G α ow σ H ρ g) (r : Rep (Al G.B α ow) α K H v d) : Sat K G α (off ow i) (σ.set i (some v)) H (ρ.set i (some (.d d))) g := by
  have hA : ∀ a (o : HO), Al G.B α ow a → H a = some o → Al G.B α (off ow i) a ∧ H a = some o := fun a o h e => ⟨al_off h, e⟩
  have ho : ∀ {j a}, off ow i j = some a → ow j = some a ∧ j ≠ i := fun {j a} h => by
    unfold off at h
    split at h
    · cases h
    · exact ⟨h, by assumption⟩
  refine ⟨s.ext, s.blk, by rw [List.length_set, List.length_set, s.len], s.gok.mono hA fun _ _ _ e => e, fun j a h => (by
    obtain ⟨q1, q2, q3, q4, q5⟩ := s.own j a (ho h).1
    exact ⟨q1, q2, q3, q4, by rw [List.getElem?_set_ne (Ne.symm (ho h).2)]; exact q5⟩), fun j k a h1 h2 => s.oinj j k a (ho h1).1 (ho h2).1, fun j x hx => ?_⟩
  by_cases hj : j = i
  · subst hj
    by_cases hl : j < ρ.length
    · rw [List.getElem?_set_self hl] at hx
      cases hx
      exact ⟨v, by rw [List.getElem?_set_self (by rw [s.len]; exact hl)], r.mono hA (List.prefix_refl _)⟩
    · rw [List.getElem?_eq_none (by rw [List.length_set]; omega)] at hx
      cases hx
  · rw [List.getElem?_set_ne (Ne.symm hj)] at hx
    rw [List.getElem?_set_ne (Ne.symm hj)]
    have q := s.slot j x hx
    have e : off ow i j = ow j := by unfold off; rw [if_neg hj]
    rw [e]
    exact q.mono hA fun _ _ _ e => e
theorem Sat.ret (s : Sat K G α ow σ H ρ g) : GOk (Al G.B α no) α g K H := s.gok.mono (fun a o h e => ⟨al_no h, e⟩) fun _ _ _ e => e
theorem Sat.brep (s : Sat K G α ow σ H ρ g) (r : BRep G.B α ow K H v d) : Rep (Al G.B α no) α K H v d := by
  have hA : ∀ a (o : HO), Al G.B α ow a → H a = some o → Al G.B α no a ∧ H a = some o := fun a o h e => ⟨al_no h, e⟩
  cases r with
  | of r => exact r.mono hA (List.prefix_refl _)
  | own h hn ho r =>
    have r' := r.mono hA (List.prefix_refl _)
    exact .lst ⟨hn, (s.own _ _ h).2.2.1, fun j z => by cases z⟩ (.inl ho) r'.1 r'.2
  | ownd h hn ho hk r =>
    have r' := r.mono hA (List.prefix_refl _)
    refine .dic ⟨hn, (s.own _ _ h).2.2.1, fun j z => by cases z⟩ (.inl ho) hk fun i p q h1 h2 => r'.2 i _ _ (by rw [List.getElem?_map, h1]; rfl) (by rw [List.getElem?_map, h2]; rfl)
/-- a slot owns a new list -/
theorem Sat.own1 (s : Sat K G α ow σ H ρ g) {p : Addr} (hi : i < ρ.length) (hp : H p = none) (r : RepAll (Al G.B α ow) α K H vs ds) :
    Sat K G α (put ow i p) (σ.set i (some (.ref p))) (upd H p (.lst vs)) (ρ.set i (some (.own ds))) g ∧ Fz G.B α ow H α (put ow i p) (upd H p (.lst vs)) := by
  have ne : ∀ {a : Addr} {o : HO}, H a = some o → a ≠ p := fun e => ne_of_none e hp
  have hA : ∀ a (o : HO), Al G.B α ow a → H a = some o → Al G.B α (put ow i p) a ∧ upd H p (.lst vs) a = some o := fun a o h e => by
    refine ⟨⟨h.1, h.2.1, fun j => ?_⟩, by rw [upd_ne (ne e)]; exact e⟩
    unfold put
    split
    · exact fun z => ne e (Option.some.inj z).symm
    · exact h.2.2 j
  have al := s.al hp
  refine ⟨⟨s.ext.trans (Ext.new hp), fun a h => ?_, by rw [List.length_set, List.length_set, s.len], s.gok.mono hA fun a o _ e => by rw [upd_ne (ne e)]; exact e, fun j a h => ?_, fun j k a h1 h2 => ?_, fun j x hx => ?_⟩, hA, List.prefix_refl _⟩
  · obtain ⟨⟨o, h1⟩, h2⟩ := s.blk a h
    exact ⟨⟨o, by rw [upd_ne (ne h1)]; exact h1⟩, h2⟩
  · unfold put at h
    split at h
    · cases h
      rename_i hj
      exact ⟨s.ext.fresh hp al.1, al.1, al.2.1, ⟨_, upd_same⟩, .own ds, by rw [hj, List.getElem?_set_self hi], rfl⟩
    · rename_i hj
      obtain ⟨h1, h2, h3, ⟨o, h4⟩, h5⟩ := s.own j a h
      exact ⟨h1, h2, h3, ⟨o, by rw [upd_ne (ne h4)]; exact h4⟩, by rw [List.getElem?_set_ne (Ne.symm hj)]; exact h5⟩
  · unfold put at h1 h2
    split at h1
    · split at h2
      · omega
      · cases h1
        exact absurd h2 (al.2.2 k)
    · split at h2
      · cases h2
        exact absurd h1 (al.2.2 j)
      · exact s.oinj j k a h1 h2
  · by_cases hj : j = i
    · subst hj
      by_cases hl : j < ρ.length
      · rw [List.getElem?_set_self hl] at hx
        cases hx
        exact ⟨p, vs, by unfold put; rw [if_pos rfl], by rw [List.getElem?_set_self (by rw [s.len]; exact hl)], upd_same, r.mono hA (List.prefix_refl _)⟩
      · rw [List.getElem?_eq_none (by rw [List.length_set]; omega)] at hx
        cases hx
    · rw [List.getElem?_set_ne (Ne.symm hj)] at hx
      rw [List.getElem?_set_ne (Ne.symm hj)]
      have q := s.slot j x hx
      have e : put ow i p j = ow j := by unfold put; rw [if_neg hj]
      rw [e]
      exact q.mono hA fun a u _ e => by rw [upd_ne (ne e)]; exact e
/-- the list that a slot owns is changed -/
theorem Sat.mut (s : Sat K G α ow σ H ρ g) {a : Addr} {xs : List D} (ho : ow i = some a) (hi : i < ρ.length) (hv : σ[i]? = some (some (.ref a))) (r : RepAll (Al G.B α ow) α K H vs ds) :
    Sat K G α ow σ (upd H a (.lst vs)) (ρ.set i (some (.own ds))) g ∧ Fz G.B α ow H α ow (upd H a (.lst vs)) := by
  obtain ⟨o1, o2, o3, ⟨o, o4⟩, o5⟩ := s.own i a ho
  have hA : ∀ b (o : HO), Al G.B α ow b → H b = some o → Al G.B α ow b ∧ upd H a (.lst vs) b = some o := fun b o h e => ⟨h, by
    rw [upd_ne fun z => h.2.2 i (by rw [z]; exact ho)]; exact e⟩
  have tr : ∀ {b : Addr}, (∃ o, H b = some o) → ∃ o, upd H a (.lst vs) b = some o := fun {b} ⟨o, h⟩ => by
    by_cases e : b = a
    · rw [e]; exact ⟨_, upd_same⟩
    · exact ⟨o, by rw [upd_ne e]; exact h⟩
  refine ⟨⟨⟨fun b o h hn => ?_, s.ext.2.1, s.ext.2.2⟩, fun b h => ⟨tr (s.blk b h).1, (s.blk b h).2⟩, by rw [List.length_set, s.len], s.gok.mono hA fun b o hb e => by rw [upd_ne fun z => o2 (by rw [← z]; exact hb)]; exact e, fun j b h => ?_, s.oinj, fun j x hx => ?_⟩, hA, List.prefix_refl _⟩
  · rw [upd_ne fun z => by rw [z, o1] at h; cases h]
    exact s.ext.1 b o h hn
  · obtain ⟨h1, h2, h3, h4, h5⟩ := s.own j b h
    refine ⟨h1, h2, h3, tr h4, ?_⟩
    by_cases hj : j = i
    · subst hj
      exact ⟨.own ds, by rw [List.getElem?_set_self hi], rfl⟩
    · rw [List.getElem?_set_ne (Ne.symm hj)]
      exact h5
  · by_cases hj : j = i
    · subst hj
      rw [List.getElem?_set_self hi] at hx
      cases hx
      exact ⟨a, vs, ho, hv, upd_same, r.mono hA (List.prefix_refl _)⟩
    · rw [List.getElem?_set_ne (Ne.symm hj)] at hx
      have q := s.slot j x hx
      exact q.mono hA fun b u hb e => by
        rw [upd_ne fun z => hj (s.oinj j i a (by rw [← z]; exact hb) ho)]
        exact e
/-- a slot's list becomes data -/
theorem Sat.freeze (s : Sat K G α ow σ H ρ g) {xs : List D} (h : ρ[i]? = some (some (.own xs))) : Sat K G α (off ow i) σ H (ρ.set i (some (.d (.lst xs)))) g := by
  obtain ⟨a, vs, h1, h2, h3, h4⟩ := s.slot i _ h
  obtain ⟨o1, o2, o3, o4⟩ := s.own i a h1
  have hA : ∀ a (o : HO), Al G.B α ow a → H a = some o → Al G.B α (off ow i) a ∧ H a = some o := fun a o h e => ⟨al_off h, e⟩
  have ho : ∀ {j a}, off ow i j = some a → ow j = some a ∧ j ≠ i := fun {j a} h => by
    unfold off at h
    split at h
    · cases h
    · exact ⟨h, by assumption⟩
  have hi : i < ρ.length := (List.getElem?_eq_some_iff.mp h).1
  refine ⟨s.ext, s.blk, by rw [List.length_set, s.len], s.gok.mono hA fun _ _ _ e => e, fun j a h => (by
    obtain ⟨q1, q2, q3, q4, q5⟩ := s.own j a (ho h).1
    exact ⟨q1, q2, q3, q4, by rw [List.getElem?_set_ne (Ne.symm (ho h).2)]; exact q5⟩), fun j k a h1 h2 => s.oinj j k a (ho h1).1 (ho h2).1, fun j x hx => ?_⟩
  by_cases hj : j = i
  · subst hj
    rw [List.getElem?_set_self hi] at hx
    cases hx
    have r' := h4.mono hA (List.prefix_refl _)
    refine ⟨_, h2, .lst ⟨o2, o3, fun k z => ?_⟩ (.inl h3) r'.1 r'.2⟩
    exact (ho z).2 (s.oinj k j a (ho z).1 h1)
  · rw [List.getElem?_set_ne (Ne.symm hj)] at hx
    have q := s.slot j x hx
    have e : off ow i j = ow j := by unfold off; rw [if_neg hj]
    rw [e]
    exact q.mono hA fun _ _ _ e => e
theorem Sat.freezed (s : Sat K G α ow σ H ρ g) {xs : List (DKey × D)} (h : ρ[i]? = some (some (.ownd xs))) : Sat K G α (off ow i) σ H (ρ.set i (some (.d (.dic xs)))) g := by
  obtain ⟨a, kvs, h1, h2, h3, hk, h4⟩ := s.slot i _ h
  obtain ⟨o1, o2, o3, o4⟩ := s.own i a h1
  have hA : ∀ a (o : HO), Al G.B α ow a → H a = some o → Al G.B α (off ow i) a ∧ H a = some o := fun a o h e => ⟨al_off h, e⟩
  have ho : ∀ {j a}, off ow i j = some a → ow j = some a ∧ j ≠ i := fun {j a} h => by
    unfold off at h
    split at h
    · cases h
    · exact ⟨h, by assumption⟩
  have hi : i < ρ.length := (List.getElem?_eq_some_iff.mp h).1
  refine ⟨s.ext, s.blk, by rw [List.length_set, s.len], s.gok.mono hA fun _ _ _ e => e, fun j a h => (by
    obtain ⟨q1, q2, q3, q4, q5⟩ := s.own j a (ho h).1
    exact ⟨q1, q2, q3, q4, by rw [List.getElem?_set_ne (Ne.symm (ho h).2)]; exact q5⟩), fun j k a h1 h2 => s.oinj j k a (ho h1).1 (ho h2).1, fun j x hx => ?_⟩
  by_cases hj : j = i
  · subst hj
    rw [List.getElem?_set_self hi] at hx
    cases hx
    have r' := h4.mono hA (List.prefix_refl _)
    refine ⟨_, h2, .dic ⟨o2, o3, fun k z => ?_⟩ (.inl h3) hk fun i p q h1 h2 => r'.2 i _ _ (by rw [List.getElem?_map, h1]; rfl) (by rw [List.getElem?_map, h2]; rfl)⟩
    exact (ho z).2 (s.oinj k j a (ho z).1 h1)
  · rw [List.getElem?_set_ne (Ne.symm hj)] at hx
    have q := s.slot j x hx
    have e : off ow i j = ow j := by unfold off; rw [if_neg hj]
    rw [e]
    exact q.mono hA fun _ _ _ e => e
end

/-! ### statements -/
section
variable {X : Cx} {st : Stmt} {sts : List Stmt} {e c : Expr} {fe : DE} {fa : DA} {fc : DT} {f f1 f2 : DS} {pos : Pos}
theorem bc_nil : BC X [] sNext := ⟨_, pss_nil, fun G α ow σ H ρ g out g' Dn s e p => by cases e; exact p σ H α ow s Fz.refl⟩
theorem bc_cons (h1 : SC X st f1) (h2 : BC X sts f2) : BC X (st :: sts) (sSeq f1 f2) := by
  obtain ⟨t1, p1, q1⟩ := h1
  obtain ⟨t2, p2, q2⟩ := h2
  refine ⟨_, pss_cons p1 p2, fun G α ow σ H ρ g out g' Dn s e p => ?_⟩
  unfold sSeq at e
  split at e
  · rename_i ρ1 g1 e1
    exact q1 G α ow σ H ρ g _ g1 { Dn with nx := t2 Dn } s e1 fun σ' H' α' ow' s' z => q2 G α' ow' σ' H' ρ1 g1 out g' Dn s' e (p.fz z)
  · rename_i hn
    refine q1 G α ow σ H ρ g out g' { Dn with nx := t2 Dn } s e ?_
    cases out with
    | nx ρ' => exact absurd e (hn ρ' g')
    | bk ρ' => exact p
    | ct ρ' => exact p
    | rt d => exact p
theorem bc_one (h1 : SC X st f1) : BC X [st] f1 := by
  obtain ⟨t1, p1, q1⟩ := h1
  exact ⟨_, pss_one p1, q1⟩
theorem bc_freeze (i : Nat) (h : BC X sts f) : BC X sts (sFreeze i f) := by
  obtain ⟨t, p, q⟩ := h
  refine ⟨t, p, fun G α ow σ H ρ g out g' Dn s e w => ?_⟩
  unfold sFreeze at e
  split at e
  · rename_i xs hx
    exact q G α (off ow i) σ H _ g out g' Dn (s.freeze hx) e (w.fz Fz.off)
  · rename_i xs hx
    exact q G α (off ow i) σ H _ g out g' Dn (s.freezed hx) e (w.fz Fz.off)
  · exact q G α ow σ H ρ g out g' Dn s e w
theorem sc_pass : SC X (.Pass pos) sNext := ⟨_, ps_pass, fun G α ow σ H ρ g out g' Dn s e p => by cases e; exact p σ H α ow s Fz.refl⟩
theorem sc_break : SC X (.Break pos) (fun ρ g => some (.bk ρ, g)) := ⟨_, ps_break, fun G α ow σ H ρ g out g' Dn s e p => by cases e; exact p σ H α ow s Fz.refl⟩
theorem sc_continue : SC X (.Continue pos) (fun ρ g => some (.ct ρ, g)) := ⟨_, ps_continue, fun G α ow σ H ρ g out g' Dn s e p => by cases e; exact p σ H α ow s Fz.refl⟩
theorem sc_ret (h : EB X e fe) : SC X (.Return (some e) pos) (sRet fe) := by
  obtain ⟨t, pt, hq⟩ := h
  refine ⟨_, ps_ret pt, fun G α ow σ H ρ g out g' Dn s e p => ?_⟩
  unfold sRet at e
  split at e
  · rename_i d g1 e1
    cases e
    exact hq G α ow σ H ρ g d g' _ s e1 fun v H' α' x s' r => p v H' α' s'.ext s'.blk s'.ret (s'.brep r)
  · cases e
theorem sc_retN : SC X (.Return none pos) (sRet (eC .non)) := by
  refine ⟨_, ps_retN, fun G α ow σ H ρ g out g' Dn s e p => ?_⟩
  cases e
  exact p .non H α s.ext s.blk s.ret .non
theorem sc_set {i : Nat} {x : Str} {pos' : Pos} (hN : X.N.Nodup) (he : EC X e fe) (hi : X.N[i]? = some x := by rfl) (hx : Loc X.env.scope x := by first | exact Or.inl rfl | exact Or.inr rfl) (hs : swapsWith e (some (.Name x pos')) pos.line X.env = pure false := by rfl)
    (hf : X.fn x = true ∨ X.env.scope.names.lookup x = some .local := by first | exact .inl rfl | exact .inr rfl | assumption) : SC X (.Assign [.Name x pos'] e pos) (sSet i fe) := by
  obtain ⟨t, pt, hq⟩ := he
  refine ⟨_, ps_set hN hi hx pt hs hf, fun G α ow σ H ρ g out g' Dn s e p => ?_⟩
  unfold sSet at e
  split at e
  · rename_i d g1 e1
    cases e
    exact hq G α ow σ H ρ g d g' _ s e1 fun v H' α' x s' r => p _ _ _ _ (s'.set r) (x.fz.trans Fz.off)
  · cases e
theorem sc_own {i : Nat} {x : Str} {pos' : Pos} (hN : X.N.Nodup) (he : EF X e fa) (hi : X.N[i]? = some x := by rfl) (hx : Loc X.env.scope x := by first | exact Or.inl rfl | exact Or.inr rfl) (hs : swapsWith e (some (.Name x pos')) pos.line X.env = pure false := by rfl)
    (hf : X.fn x = true ∨ X.env.scope.names.lookup x = some .local := by first | exact .inl rfl | exact .inr rfl | assumption) : SC X (.Assign [.Name x pos'] e pos) (sOwn i fa) := by
  obtain ⟨t, pt, hq⟩ := he
  refine ⟨_, ps_set hN hi hx pt hs hf, fun G α ow σ H ρ g out g' Dn s e p => ?_⟩
  unfold sOwn at e
  split at e
  · rename_i ds g1 e1
    split at e
    · rename_i hi
      cases e
      refine hq G α ow σ H ρ g ds g' _ s e1 fun q vs H' α' x s' hp r H2 e2 => ?_
      subst e2
      exact p _ _ _ _ (s'.own1 hi hp r).1 (x.fz.trans (s'.own1 hi hp r).2)
    · cases e
  · cases e
theorem sc_if {a b : List Stmt} (hc : TC X c fc) (ha : BC X a f1) (hb : BC X b f2) : SC X (.If c a b pos) (sIf fc f1 f2) := by
  obtain ⟨t, pt, hq⟩ := hc
  obtain ⟨t1, p1, q1⟩ := ha
  obtain ⟨t2, p2, q2⟩ := hb
  refine ⟨_, ps_if pt p1 p2, fun G α ow σ H ρ g out g' Dn s e p => ?_⟩
  unfold sIf at e
  split at e
  · rename_i g1 e1
    exact hq G α ow σ H ρ g true g1 _ s e1 fun H1 α1 x1 s1 => by
      rw [if_pos rfl]
      exact q1 G α1 ow σ H1 ρ g1 out g' Dn s1 e (p.fz x1.fz)
  · rename_i g1 e1
    exact hq G α ow σ H ρ g false g1 _ s e1 fun H1 α1 x1 s1 => by
      rw [if_neg (by decide)]
      exact q2 G α1 ow σ H1 ρ g1 out g' Dn s1 e (p.fz x1.fz)
  · cases e
theorem sc_drop (he : EB X e fe) (hs : swapsWith e none pos.line X.env = pure false := by rfl) : SC X (.Expr e pos) (sDrop fe) := by
  obtain ⟨t, pt, hq⟩ := he
  refine ⟨_, ps_expr pt hs, fun G α ow σ H ρ g out g' Dn s e p => ?_⟩
  unfold sDrop at e
  split at e
  · rename_i d g1 e1
    cases e
    exact hq G α ow σ H ρ g d g' _ s e1 fun v H' α' x s' r => p _ _ _ _ s' x.fz
  · cases e
/-- xs.append(e), xs a slot's own list -/
theorem sc_app {i : Nat} {x : Str} {p1 p2 p3 : Pos} (he : EC X e fe) (hN : X.N[i]? = some x := by rfl) (hv : Vis X.env.scope x := by first | exact Or.inl rfl | exact Or.inr (Or.inl rfl) | exact Or.inr (Or.inr rfl)) (hd : (x == ("__debug__" : Str)) = false := by decide) (hcd : (x == ("__classdict__" : Str)) = false := by decide)
    (hs1 : starEach [e] X.env = (false, eval e X.env) :: starEach [] X.env := by rfl)
    (hbase : attributeBase (.Name x p1) "append" X.env (eval (.Name x p1) X.env) = eval (.Name x p1) X.env := by rfl)
    (hfew : ((backTo p3 (starEach [e] X.env)).all (fun x => !x.1) && (backToKw p3 (keywordEach [] X.env)).all (fun x => x.1.isSome)
      && decide ([e].length + ([] : List Keyword).length + (if ([] : List Keyword).isEmpty then 0 else 1) < 30)) = true := by rfl)
    (hline : (p2.endLine == p3.line) = true := by rfl) (hplain : (backTo p3 (starEach [] X.env)).any (·.1) = false := by rfl)
    (hs : swapsWith (.Call (.Attribute (.Name x p1) "append" p2) [e] [] p3) none pos.line X.env = pure false := by rfl) :
    SC X (.Expr (.Call (.Attribute (.Name x p1) "append" p2) [e] [] p3) pos) (sApp i fe) := by
  obtain ⟨t, pt, hq⟩ := he
  refine ⟨_, ps_expr (pe_bm PySem.F.plainAttrs_list PySem.F.slot_list_append PySem.F.type_list_append mt_append (pe_var hN hv hd hcd) (pa_cons pt pa_nil hs1) hbase hfew hline hs1 hplain) hs, fun G α ow σ H ρ g out g' Dn s e p => ?_⟩
  unfold sApp at e
  split at e
  · rename_i xs hx
    split at e
    · rename_i d g1 e1
      split at e
      · rename_i hl
        cases e
        obtain ⟨a, vs, h1, h2, h3, h4⟩ := s.slot i _ hx
        refine ⟨_, h2, .inl ⟨rfl, vs, .inl (.inl h3)⟩, ?_⟩
        refine hq G α ow σ H ρ g d g' _ s e1 fun v H1 α1 x1 s1 r1 => ?_
        have h3' := x1.1 a _ h3 (s.own i a h1).2.1
        have r2 := (h4.ext x1).append (RepAll.one r1)
        refine ⟨a, vs, v, rfl, rfl, h3', by rw [h4.1]; exact Nat.lt_of_lt_of_le hl big_line, ?_⟩
        have m := s1.mut (xs := xs) h1 (List.getElem?_eq_some_iff.mp hx).1 h2 r2
        exact p _ _ _ _ m.1 (x1.fz.trans m.2)
      · cases e
    · cases e
  · cases e
end
end L3

/-! L3d: targets, what is walked, loops, comprehensions, defs. -/
namespace L3
open PySem PySem.Spec PyProof.Rows L2

/-! ### targets -/
def RepSets (A : Addr → Prop) (α : List Addr) (K : PySem.W.Frag) (H : Hp) (ws : List (Nat × V)) (as : List (Nat × D)) : Prop :=
  ws.map (·.1) = as.map (·.1) ∧ RepAll A α K H (ws.map (·.2)) (as.map (·.2))
theorem RepSets.append {A : Addr → Prop} {α : List Addr} {K : PySem.W.Frag} {H : Hp} {w1 w2 : List (Nat × V)} {a1 a2 : List (Nat × D)} (h1 : RepSets A α K H w1 a1) (h2 : RepSets A α K H w2 a2) : RepSets A α K H (w1 ++ w2) (a1 ++ a2) :=
  ⟨by rw [List.map_append, List.map_append, h1.1, h2.1], by rw [List.map_append, List.map_append]; exact h1.2.append h2.2⟩
theorem setsV_append (σ : L2.St) : ∀ w1 w2 : List (Nat × V), setsV σ (w1 ++ w2) = setsV (setsV σ w1) w2 := by
  intro w1
  induction w1 generalizing σ with
  | nil => intro w2; rfl
  | cons p r ih => intro w2; exact ih _ w2
def GC (X : Cx) (tg : Expr) (p : D → Option (List (Nat × D))) : Prop := ∃ t, PG X tg t ∧ ∀ A α σ H v d as Q, Rep A α X.K H v d → p d = some as → (∀ ws, RepSets A α X.K H ws as → Q (setsV σ ws) H) → t v σ H Q
def GCs (X : Cx) (es : List Expr) (p : List D → Option (List (Nat × D))) : Prop := (∀ ds as, p ds = some as → ds.length = (assignEach es X.env).length) ∧ ∃ t, PGs X es t ∧ ∀ A α σ H vs ds as Q, RepAll A α X.K H vs ds → p ds = some as → (∀ ws, RepSets A α X.K H ws as → Q (setsV σ ws) H) → t vs σ H Q
section
variable {X : Cx} {e : Expr} {es : List Expr} {pos : Pos}
theorem gc_name (i : Nat) {x : Str} (hN : X.N.Nodup) (hi : X.N[i]? = some x := by rfl) (hx : Loc X.env.scope x := by first | exact Or.inl rfl | exact Or.inr rfl) (hf : X.fn x = true ∨ X.env.scope.names.lookup x = some .local := by first | exact .inl rfl | exact .inr rfl | assumption) : GC X (.Name x pos) (tgName i) :=
  ⟨_, pg_name hN hi hx hf, fun A α σ H v d as Q r e w => by
    cases e
    exact w [(i, v)] ⟨rfl, RepAll.one r⟩⟩
theorem gcs_nil : GCs X [] tgsNil := by
  refine ⟨fun ds as e => ?_, _, pgs_nil, fun A α σ H vs ds as Q r e w => ?_⟩
  · cases ds with
    | nil => rfl
    | cons x r => cases e
  · cases ds with
    | nil => cases e; exact ⟨r.unnil, w [] ⟨rfl, RepAll.nil⟩⟩
    | cons x r => cases e
theorem tgsCons_some {t : D → Option (List (Nat × D))} {ts : List D → Option (List (Nat × D))} {ds : List D} {as : List (Nat × D)} (h : tgsCons t ts ds = some as) : ∃ x xs a b, ds = x :: xs ∧ t x = some a ∧ ts xs = some b ∧ as = a ++ b := by
  unfold tgsCons at h
  split at h
  · rename_i x xs
    split at h
    · rename_i a b h1 h2
      cases h
      exact ⟨x, xs, a, b, rfl, h1, h2, rfl⟩
    · cases h
  · cases h
theorem gcs_cons {p : D → Option (List (Nat × D))} {ps : List D → Option (List (Nat × D))} (h1 : GC X e p) (h2 : GCs X es ps) (hs : (assignEach (e :: es) X.env).map (·.2) = assign e X.env :: (assignEach es X.env).map (·.2) := by rfl)
    (hl : (assignEach (e :: es) X.env).length = (assignEach es X.env).length + 1 := by rfl) : GCs X (e :: es) (tgsCons p ps) := by
  obtain ⟨t1, p1, q1⟩ := h1
  obtain ⟨l2, t2, p2, q2⟩ := h2
  refine ⟨fun ds as e => ?_, _, pgs_cons p1 p2 hs, fun A α σ H vs ds as Q r e w => ?_⟩
  · obtain ⟨x, xs, a, b, rfl, e1, e2, rfl⟩ := tgsCons_some e
    rw [hl, List.length_cons, l2 _ _ e2]
  · obtain ⟨x, xs, a, b, rfl, e1, e2, rfl⟩ := tgsCons_some e
    obtain ⟨v, vr, rfl, r1, r2⟩ := r.uncons
    refine ⟨v, vr, rfl, q1 A α σ H v x a _ r1 e1 fun w1 s1 => q2 A α _ H vr xs b _ r2 e2 fun w2 s2 => ?_⟩
    rw [← setsV_append]
    exact w _ (s1.append s2)
theorem gc_tup {k : Nat} {ps : List D → Option (List (Nat × D))} (hc : X.calm = true) (h : GCs X es ps) (hst : (assignEach es X.env).findIdx? (·.1) = none := by rfl) : GC X (.Tuple es k pos) (tgTup ps) := by
  obtain ⟨l, t, pt, q⟩ := h
  refine ⟨_, pg_tup hc pt rfl hst, fun A α σ H v d as Q r e w => ?_⟩
  unfold tgTup at e
  split at e
  · cases r with
    | tup hs hl hi => exact ⟨_, _, rfl, hs.sq, by rw [hl]; exact l _ _ e, q A α σ H _ _ as Q ⟨hl, hi⟩ e w⟩
  · cases e
end
section
variable {K : PySem.W.Frag} {G : Gh} {α : List Addr} {H : Hp} {g : Store}
theorem Sat.sets : ∀ {as : List (Nat × D)} {ws : List (Nat × V)} {ow : Nat → Option Addr} {σ : L2.St} {ρ : Env3}, Sat K G α ow σ H ρ g → RepSets (Al G.B α ow) α K H ws as →
    ∃ ow', Sat K G α ow' (setsV σ ws) H (L3.sets ρ as) g ∧ Fz G.B α ow H α ow' H
  | [], ws, ow, σ, ρ, s, r => by
    have e : ws = [] := by
      cases ws with
      | nil => rfl
      | cons x r => exact absurd r.1 (by simp)
    subst e
    exact ⟨ow, s, Fz.refl⟩
  | (i, d) :: as, ws, ow, σ, ρ, s, r => by
    cases ws with
    | nil => exact absurd r.1 (by simp)
    | cons w ws =>
      obtain ⟨j, v⟩ := w
      obtain ⟨r1, r2⟩ := r
      rw [List.map_cons, List.map_cons] at r1 r2
      obtain ⟨v', vr, ev, r3, r4⟩ := r2.uncons
      have ej : j = i := (List.cons.inj r1).1
      have e1 := (List.cons.inj ev).1
      have e2 := (List.cons.inj ev).2
      subst ej e1 e2
      obtain ⟨ow', s', f'⟩ := Sat.sets (s.set (i := j) r3) ⟨(List.cons.inj r1).2, r4.fz Fz.off⟩
      exact ⟨ow', s', Fz.off.trans f'⟩
end

/-! ### what is walked -/
def FzB (B : Addr → Prop) (α : List Addr) (ow : Nat → Option Addr) (H : Hp) (B' : Addr → Prop) (α' : List Addr) (ow' : Nat → Option Addr) (H' : Hp) : Prop :=
  (∀ a o, Al B α ow a → H a = some o → Al B' α' ow' a ∧ H' a = some o) ∧ α <+: α'
def WalkD (K : PySem.W.Frag) (B : Addr → Prop) (α : List Addr) (ow : Nat → Option Addr) (H : Hp) (J : It) (ds : List D) : Prop :=
  ∀ G2 α2 ow2 σ2 H2 ρ2 g2 (i : Nat), Sat K G2 α2 ow2 σ2 H2 ρ2 g2 → FzB B α ow H G2.B α2 ow2 H2 → (ds.length ≤ i → J.stop i H2) ∧
    ∀ d, ds[i]? = some d → J.go i H2 ∧ ∀ x H3, J.yld i H2 x H3 → Ext α2 H2 α2 H3 ∧ Sat K G2 α2 ow2 σ2 H3 ρ2 g2 ∧ Rep (Al G2.B α2 ow2) α2 K H3 x d
def IC (X : Cx) (tg iter : Expr) (f : DA) : Prop := ∃ wi, PI X tg iter wi ∧ ∀ G α ow σ H ρ g ds g' (R : It → Hp → Prop), Sat X.K G α ow σ H ρ g → f ρ g = some (ds, g') →
  (∀ J H' α', Ext α H α' H' → Sat X.K G α' ow σ H' ρ g' → WalkD X.K G.B α' ow H' J ds → R J H') → wi σ H R
theorem PI.or {X : Cx} {tg iter : Expr} {w1 w2 : TI} (h1 : PI X tg iter w1) (h2 : PI X tg iter w2) : PI X tg iter (fun σ H R => w1 σ H R ∨ w2 σ H R) :=
  ⟨fun pins s σ H R I h => h.elim (h1.run pins s σ H R I) (h2.run pins s σ H R I)⟩
def items : D → Option (List D)
  | .lst xs => some xs
  | .tup xs => some xs
  | .str s => some (s.map fun c => .str [c])
  | _ => none
def aItems (f : DE) : DA := bindM f fun x => liftM (items x)
section
variable {X : Cx} {tg e : Expr} {f : DE} {fs : DA}
theorem Rd.fzb {B B' : Addr → Prop} {α α' : List Addr} {ow ow' : Nat → Option Addr} {H H' : Hp} {a : Addr} {u : HO} (z : FzB B α ow H B' α' ow' H') (hA : Al B α ow a) (h : Rd H a u) : Rd H' a u := by
  rcases h with h | ⟨o, h⟩
  · exact .inl (z.1 a _ hA h).2
  · exact .inr ⟨o, (z.1 a _ hA h).2⟩
theorem ic_seq (he : EC X e f) : IC X tg e (aItems f) := by
  obtain ⟨t, pt, q⟩ := he
  refine ⟨_, (PI.or (pi_list pt) (PI.or (pi_tup pt) (pi_str pt))), fun G α ow σ H ρ g ds g' R s e w => ?_⟩
  obtain ⟨x, g1, e1, e2⟩ := bindM_some e
  obtain ⟨e3, rfl⟩ := liftM_some e2
  unfold items at e3
  split at e3
  · cases e3
    refine .inl (q G α ow σ H ρ g _ g1 _ s e1 fun v H' α' x s' r => ?_)
    cases r with
    | lst hA h hl hi =>
      rename_i a xs
      refine ⟨a, rfl, ⟨xs, .inl h⟩, w _ H' α' x s' fun G2 α2 ow2 σ2 H2 ρ2 g2 i s2 z => ⟨fun hi => ⟨xs, .inl (Rd.fzb z hA h), by rw [hl]; exact hi⟩, fun d hd => ?_⟩⟩
      obtain ⟨v, hv, rv⟩ := RepAll.get (show RepAll _ _ _ _ xs _ from ⟨hl, hi⟩) hd
      refine ⟨⟨xs, v, .inl (Rd.fzb z hA h), hv⟩, fun y H3 hy => ?_⟩
      obtain ⟨rfl, hy⟩ := hy
      have ey : y = v := Option.some.inj ((hy xs (.inl (Rd.fzb z hA h))).symm.trans hv)
      subst ey
      exact ⟨Ext.refl, s2, rv.mono z.1 z.2⟩
  · cases e3
    refine .inr (.inl (q G α ow σ H ρ g _ g1 _ s e1 fun v H' α' x s' r => ?_))
    cases r with
    | tup h hl hi =>
      rename_i a xs
      have st : ∀ {G2 : Gh} {α2 : List Addr} {ow2 : Nat → Option Addr} {H2 : Hp}, FzB G.B α' ow H' G2.B α2 ow2 H2 → SqT X.K H2 a xs := fun {G2 α2 ow2 H2} z => by
        rcases h with h | h
        · exact .inl (Rd.fzb z h.1 h.2)
        · exact .inr h
      refine ⟨a, rfl, ⟨xs, h.sq⟩, w _ H' α' x s' fun G2 α2 ow2 σ2 H2 ρ2 g2 i s2 z => ⟨fun hi => ⟨xs, st z, by rw [hl]; exact hi⟩, fun d hd => ?_⟩⟩
      obtain ⟨v, hv, rv⟩ := RepAll.get (show RepAll _ _ _ _ xs _ from ⟨hl, hi⟩) hd
      refine ⟨⟨xs, v, st z, hv⟩, fun y H3 hy => ?_⟩
      obtain ⟨rfl, hy⟩ := hy
      have ey : y = v := Option.some.inj ((hy xs (st z)).symm.trans hv)
      subst ey
      exact ⟨Ext.refl, s2, rv.mono z.1 z.2⟩
  · rename_i z
    cases e3
    refine .inr (.inr (q G α ow σ H ρ g _ g1 _ s e1 fun v H' α' x s' r => ?_))
    cases r
    refine ⟨_, rfl, w _ H' α' x s' fun G2 α2 ow2 σ2 H2 ρ2 g2 i s2 zz => ⟨fun hi => ?_, fun d hd => ?_⟩⟩
    · rw [List.length_map] at hi
      show (S z).cps.size ≤ i
      simpa [S] using hi
    · rw [List.getElem?_map, Option.map_eq_some_iff] at hd
      obtain ⟨c, hc, rfl⟩ := hd
      have hi := (List.getElem?_eq_some_iff.mp hc).1
      refine ⟨by show i < (S z).cps.size; simpa [S] using hi, fun y H3 hy => ?_⟩
      obtain ⟨rfl, c', hc', rfl⟩ := hy
      have ec : c' = c := by
        have q : (S z).cps[i]? = some c := by simpa [S] using hc
        exact Option.some.inj (hc'.symm.trans q)
      subst ec
      exact ⟨Ext.refl, s2, .str [c']⟩
  · cases e3
def rangeD (lo : Int) (n : Nat) : List D := (List.range n).map fun (i : Nat) => .int (lo + (i : Int))
theorem walk_rangeD {K : PySem.W.Frag} {B : Addr → Prop} {α : List Addr} {ow : Nat → Option Addr} {H : Hp} (lo : Int) (n : Nat) : WalkD K B α ow H (Itr lo n) (rangeD lo n) := fun G2 α2 ow2 σ2 H2 ρ2 g2 i s2 z => by
  refine ⟨fun hi => ?_, fun d hd => ?_⟩
  · unfold rangeD at hi
    rw [List.length_map, List.length_range] at hi
    exact hi
  · unfold rangeD at hd
    rw [List.getElem?_map, Option.map_eq_some_iff] at hd
    obtain ⟨c, hc, rfl⟩ := hd
    obtain ⟨hi, ec⟩ := List.getElem?_eq_some_iff.mp hc
    rw [List.length_range] at hi
    rw [List.getElem_range] at ec
    subst ec
    refine ⟨hi, fun y H3 hy => ?_⟩
    obtain ⟨rfl, rfl⟩ := hy
    exact ⟨Ext.refl, s2, .int _⟩
def dRange1 : List D → Option (List D)
  | [.int j] => if -1000000 ≤ j ∧ j ≤ 1000000 then some (rangeD 0 j.toNat) else none
  | _ => none
def dRange2 : List D → Option (List D)
  | [.int i, .int j] => if -1000000 ≤ i ∧ i ≤ 1000000 ∧ -1000000 ≤ j ∧ j ≤ 1000000 then some (rangeD i (j - i).toNat) else none
  | _ => none
theorem BRepAll.one1 {B : Addr → Prop} {α : List Addr} {ow : Nat → Option Addr} {K : PySem.W.Frag} {H : Hp} {vs : List V} {d : D} (h : BRepAll B α ow K H vs [d]) : ∃ v, vs = [v] ∧ BRep B α ow K H v d := by
  obtain ⟨v, r, rfl, h1, h2⟩ := h.uncons
  rw [h2.unnil]
  exact ⟨v, rfl, h1⟩
theorem BRepAll.two {B : Addr → Prop} {α : List Addr} {ow : Nat → Option Addr} {K : PySem.W.Frag} {H : Hp} {vs : List V} {d d2 : D} (h : BRepAll B α ow K H vs [d, d2]) : ∃ v w, vs = [v, w] ∧ BRep B α ow K H v d ∧ BRep B α ow K H w d2 := by
  obtain ⟨v, r, rfl, h1, h2⟩ := h.uncons
  obtain ⟨w, rfl, h3⟩ := h2.one1
  exact ⟨v, w, rfl, h1, h3⟩
theorem ic_range1 {a : Expr} {p pos : Pos} (hm : X.mg "range" = none) (ha : AB X [a] fs) (hg : Gl X "range" := by rfl) (hs : starEach [a] X.env = [(false, eval a X.env)] := by rfl) : IC X tg (.Call (.Name "range" p) [a] [] pos) (aFn dRange1 fs) := by
  obtain ⟨t, pt, q⟩ := ha
  refine ⟨_, pi_range1 hg hm pt hs, fun G α ow σ H ρ g ds g' R s e w => ?_⟩
  obtain ⟨xs, g1, e1, e2⟩ := bindM_some e
  obtain ⟨e3, rfl⟩ := liftM_some e2
  refine q G α ow σ H ρ g xs g1 _ s e1 fun vs H' α' x s' r => ?_
  unfold dRange1 at e3
  split at e3
  · split at e3
    · rename_i hj
      cases e3
      obtain ⟨v, rfl, r1⟩ := BRepAll.one1 r
      rw [r1.int]
      refine ⟨_, rfl, ?_, ?_, w _ H' α' x s' (walk_rangeD 0 _)⟩
      · exact Int.le_trans (by decide) hj.1
      · exact Int.lt_of_le_of_lt hj.2 (by decide)
    · cases e3
  · cases e3
theorem ic_range2 {a b : Expr} {p pos : Pos} (hm : X.mg "range" = none) (ha : AB X [a, b] fs) (hg : Gl X "range" := by rfl) (hs : starEach [a, b] X.env = [(false, eval a X.env), (false, eval b X.env)] := by rfl) (hs2 : starEach [b] X.env = [(false, eval b X.env)] := by rfl) : IC X tg (.Call (.Name "range" p) [a, b] [] pos) (aFn dRange2 fs) := by
  obtain ⟨t, pt, q⟩ := ha
  refine ⟨_, pi_range2 hg hm pt hs hs2, fun G α ow σ H ρ g ds g' R s e w => ?_⟩
  obtain ⟨xs, g1, e1, e2⟩ := bindM_some e
  obtain ⟨e3, rfl⟩ := liftM_some e2
  refine q G α ow σ H ρ g xs g1 _ s e1 fun vs H' α' x s' r => ?_
  unfold dRange2 at e3
  split at e3
  · split at e3
    · rename_i hj
      cases e3
      obtain ⟨v, v2, rfl, r1, r2⟩ := BRepAll.two r
      rw [r1.int, r2.int]
      refine ⟨_, _, rfl, ⟨Int.le_trans (by decide) hj.1, Int.lt_of_le_of_lt hj.2.1 (by decide), Int.le_trans (by decide) hj.2.2.1, Int.lt_of_le_of_lt hj.2.2.2 (by decide)⟩, w _ H' α' x s' (walk_rangeD _ _)⟩
    · cases e3
  · cases e3
end

/-! ### loops -/
section
variable {X : Cx} {tg iter c : Expr} {body : List Stmt} {it : DA} {p : D → Option (List (Nat × D))} {fb : DS} {fc : DT} {pos : Pos}
theorem sc_for (hi : IC X tg iter it) (hg : GC X tg p) (hb : BC X body fb) (hp : PassesOwn (model X.prog X.w) X.A X.env X.xe := by exact PassesOwn.never) (hc : X.calm = true := by rfl) (hs : ∀ x, foldedSetIterable iter X.env x = pure x := by intro _; rfl) :
    SC X (.For tg iter body [] pos) (sFor it p fb) := by
  obtain ⟨wi, pwi, qi⟩ := hi
  obtain ⟨tg', pg, qg⟩ := hg
  obtain ⟨tb, pb, qb⟩ := hb
  refine ⟨_, ps_for hp hc pwi pg pb hs, fun G α ow σ H ρ g out g' Dn s e w => ?_⟩
  unfold sFor at e
  split at e
  · rename_i ds g1 e1
    refine qi G α ow σ H ρ g ds g1 _ s e1 fun J H1 α1 x1 s1 wk => ?_
    have w1 : Post X.K G α1 ow H1 out g' Dn := w.fz x1.fz
    refine ⟨fun i m σ2 H2 => m = ds.length - i ∧ i ≤ ds.length ∧ ∃ α2 ow2 ρ2 g2, Sat X.K G α2 ow2 σ2 H2 ρ2 g2 ∧ Fz G.B α1 ow H1 α2 ow2 H2 ∧ forD p fb (ds.drop i) ρ2 g2 = some (out, g'),
      ⟨_, rfl, Nat.zero_le _, α1, ow, ρ, g1, s1, Fz.refl, e⟩, ?_⟩
    rintro i m σ2 H2 ⟨rfl, hi, α2, ow2, ρ2, g2, s2, z2, e2⟩
    have wk2 := wk G α2 ow2 σ2 H2 ρ2 g2 i s2 z2
    by_cases hlt : i < ds.length
    · have ed : ds[i]? = some ds[i] := List.getElem?_eq_getElem hlt
      obtain ⟨go, yl⟩ := wk2.2 _ ed
      rw [List.drop_eq_getElem_cons hlt] at e2
      refine .inr ⟨go, fun σ3 H3 => ∃ α3 ow3 ρ3 g3, Sat X.K G α3 ow3 σ3 H3 ρ3 g3 ∧ Fz G.B α1 ow H1 α3 ow3 H3 ∧ forD p fb (ds.drop (i + 1)) ρ3 g3 = some (out, g'), fun σ3 H3 ⟨α3, ow3, ρ3, g3, s3, z3, e3⟩ => ⟨ds.length - (i + 1), by omega, rfl, hlt, α3, ow3, ρ3, g3, s3, z3, e3⟩, fun x H3 hy => ?_⟩
      obtain ⟨x3, s3, r3⟩ := yl x H3 hy
      unfold forD at e2
      split at e2
      · cases e2
      · rename_i as has
        refine qg _ _ σ2 H3 x _ as _ r3 has fun ws rs => ?_
        obtain ⟨ow4, s4, z4⟩ := s3.sets rs
        have z34 : Fz G.B α1 ow H1 α2 ow4 H3 := (z2.trans x3.fz).trans z4
        split at e2
        · rename_i ρ5 g5 e5
          exact qb G α2 ow4 _ H3 _ g2 _ g5 _ s4 e5 fun σ' H' α' ow' s' z' => ⟨α', ow', ρ5, g5, s', z34.trans z', e2⟩
        · rename_i ρ5 g5 e5
          exact qb G α2 ow4 _ H3 _ g2 _ g5 _ s4 e5 fun σ' H' α' ow' s' z' => ⟨α', ow', ρ5, g5, s', z34.trans z', e2⟩
        · rename_i ρ5 g5 e5
          cases e2
          exact qb G α2 ow4 _ H3 _ g2 _ _ _ s4 e5 fun σ' H' α' ow' s' z' => w1 σ' H' α' ow' s' (z34.trans z')
        · rename_i d5 g5 e5
          cases e2
          exact qb G α2 ow4 _ H3 _ g2 _ _ _ s4 e5 w1
        · cases e2
    · have ei : i = ds.length := by omega
      subst ei
      rw [List.drop_length] at e2
      cases e2
      exact .inl ⟨wk2.1 (Nat.le_refl _), w1 σ2 H2 α2 ow2 s2 z2⟩
  · cases e
theorem sc_while (n : Nat) (hc : TC X c fc) (hb : BC X body fb) (hp : PassesOwn (model X.prog X.w) X.A X.env X.xe := by exact PassesOwn.never) : SC X (.While c body [] pos) (whileD fc fb n) := by
  obtain ⟨tc, pc, qc⟩ := hc
  obtain ⟨tb, pb, qb⟩ := hb
  refine ⟨_, ps_while hp pc pb, fun G α ow σ H ρ g out g' Dn s e w => ?_⟩
  refine ⟨fun m σ2 H2 => ∃ α2 ow2 ρ2 g2, Sat X.K G α2 ow2 σ2 H2 ρ2 g2 ∧ Fz G.B α ow H α2 ow2 H2 ∧ whileD fc fb m ρ2 g2 = some (out, g'), ⟨n, α, ow, ρ, g, s, Fz.refl, e⟩, ?_⟩
  rintro m σ2 H2 ⟨α2, ow2, ρ2, g2, s2, z2, e2⟩
  cases m with
  | zero => cases e2
  | succ m =>
    unfold whileD at e2
    split at e2
    · rename_i g3 e3
      refine qc G α2 ow2 σ2 H2 ρ2 g2 true g3 _ s2 e3 fun H3 α3 x3 s3 => ?_
      rw [if_pos rfl]
      have z3 : Fz G.B α ow H α3 ow2 H3 := z2.trans x3.fz
      refine ⟨fun σ4 H4 => ∃ α4 ow4 ρ4 g4, Sat X.K G α4 ow4 σ4 H4 ρ4 g4 ∧ Fz G.B α ow H α4 ow4 H4 ∧ whileD fc fb m ρ4 g4 = some (out, g'), fun σ4 H4 ⟨α4, ow4, ρ4, g4, s4, z4, e4⟩ => ⟨m, Nat.lt_succ_self m, α4, ow4, ρ4, g4, s4, z4, e4⟩, ?_⟩
      split at e2
      · rename_i ρ5 g5 e5
        exact qb G α3 ow2 σ2 H3 ρ2 g3 _ g5 _ s3 e5 fun σ' H' α' ow' s' z' => ⟨α', ow', ρ5, g5, s', z3.trans z', e2⟩
      · rename_i ρ5 g5 e5
        exact qb G α3 ow2 σ2 H3 ρ2 g3 _ g5 _ s3 e5 fun σ' H' α' ow' s' z' => ⟨α', ow', ρ5, g5, s', z3.trans z', e2⟩
      · rename_i ρ5 g5 e5
        cases e2
        exact qb G α3 ow2 σ2 H3 ρ2 g3 _ _ _ s3 e5 fun σ' H' α' ow' s' z' => w σ' H' α' ow' s' (z3.trans z')
      · rename_i d5 g5 e5
        cases e2
        exact qb G α3 ow2 σ2 H3 ρ2 g3 _ _ _ s3 e5 w
      · cases e2
    · rename_i g3 e3
      cases e2
      refine qc G α2 ow2 σ2 H2 ρ2 g2 false _ _ s2 e3 fun H3 α3 x3 s3 => ?_
      rw [if_neg (by decide)]
      exact w σ2 H3 α3 ow2 s3 (z2.trans x3.fz)
    · cases e2
theorem sc_unp {e : Expr} {fe : DE} (he : EC X e fe) (hg : GC X tg p) (hs : swapsWithSole [tg] e pos.line X.env = pure false := by rfl) (hw : swappedStores [tg] e X.env = pure none := by rfl)
    (h1 : (assignEach [tg] X.env).map (·.2) = [assign tg X.env] := by rfl) : SC X (.Assign [tg] e pos) (sUnp fe p) := by
  obtain ⟨t, pt, hq⟩ := he
  obtain ⟨tg', pg, qg⟩ := hg
  refine ⟨_, ps_asg pt pg hs hw h1, fun G α ow σ H ρ g out g' Dn s e w => ?_⟩
  unfold sUnp at e
  split at e
  · rename_i d g1 e1
    split at e
    · rename_i as has
      cases e
      refine hq G α ow σ H ρ g d g' _ s e1 fun v H1 α1 x1 s1 r1 => ?_
      refine qg _ _ σ H1 v d as _ r1 has fun ws rs => ?_
      obtain ⟨ow2, s2, z2⟩ := s1.sets rs
      exact w _ _ _ _ s2 (x1.fz.trans z2)
    · cases e
  · cases e
end

/-! ### a def -/
def spD (K : PySem.W.Frag) (n : Nat) (φ : List D → Store → Option (D × Store)) : Sp := fun vs H Q _ => ∃ (B : Addr → Prop) (α : List Addr) (g : Store) (ds : List D) (d : D) (g' : Store), vs.length = n ∧ (∀ a, B a → (∃ o, H a = some o) ∧ a ∉ α) ∧
  GOk (Al B α no) α g K H ∧ RepAll (Al B α no) α K H vs ds ∧ φ ds g = some (d, g') ∧ ∀ v H' α', Ext α H α' H' → GOk (Al B α' no) α' g' K H' → Rep (Al B α' no) α' K H' v d → Q v H'
def start3 (n : Nat) (ds : List D) : Env3 := ds.map (fun d => some (.d d)) ++ List.replicate (n - ds.length) none
def runD (n : Nat) (f : DS) (ds : List D) (g : Store) : Option (D × Store) := match f (start3 n ds) g with
  | some (.rt d, g') => some (d, g')
  | some (.nx _, g') => some (.non, g')
  | _ => none
theorem start_sat {K : PySem.W.Frag} {N : List Str} {B : Addr → Prop} {α : List Addr} {g : Store} {H : Hp} {vs : List V} {ds : List D} (hb : ∀ a, B a → (∃ o, H a = some o) ∧ a ∉ α) (gk : GOk (Al B α no) α g K H) (r : RepAll (Al B α no) α K H vs ds) :
    Sat K ⟨B, H, α⟩ α no (L2.start N vs) H (start3 N.length ds) g := by
  refine ⟨Ext.refl, hb, ?_, gk, fun i a z => (by cases z), fun i j a z => (by cases z), fun i x hx => ?_⟩
  · unfold L2.start start3
    rw [List.length_append, List.length_append, List.length_map, List.length_map, List.length_replicate, List.length_replicate, r.1]
  · unfold start3 at hx
    unfold L2.start
    by_cases hi : i < ds.length
    · rw [List.getElem?_append_left (by simpa using hi), List.getElem?_map, Option.map_eq_some_iff] at hx
      obtain ⟨d, hd, e⟩ := hx
      cases e
      obtain ⟨v, hv, rv⟩ := r.get hd
      refine ⟨v, ?_, rv⟩
      rw [List.getElem?_append_left (by rw [List.length_map, r.1]; exact hi), List.getElem?_map, hv]
      rfl
    · rw [List.getElem?_append_right (by simpa using hi), List.getElem?_replicate] at hx
      split at hx <;> cases hx
theorem fn_ok {P : Program} {w : World} {K : PySem.W.Frag} {mg : Str → Option Value} {base : Heap} {x qual : Str} {st : Stmt} {f : Addr} {fd : FuncData} {N ps : List Str} {k : Nat} {fB : DS} (F : Fun K x qual st f fd) (Sc : FnScope N ps (defScope st))
    (hb : ∀ (cdv : Value) (A : Around) (outer : List Env) (s : Shared) (H : Hp) (E : XK), Room k (A.deeper (envOfC qual (defScope st) s.heap.objs.size f cdv)) → BC (cxOf CX0 P w K mg base N qual (defScope st) f cdv A outer s H E).nox (defBody st) fB) :
    FnOk P w K mg base CX0 (k + 1) f fd ps (spD K ps.length (runD N.length fB)) := by
  refine F.ok Sc (fun vs H Q E h => ?_) (fun cdv A outer s H vs Q E hr h => ?_)
  · obtain ⟨_, _, _, _, _, _, h, _⟩ := h
    exact h
  · obtain ⟨B, α, g, ds, d, g', hl, hB, gk, r, e, q⟩ := h
    obtain ⟨t, pt, qt⟩ := hb cdv A outer s H E hr
    refine ⟨t, pt, ?_⟩
    have s0 := start_sat (N := N) hB gk r
    unfold runD at e
    split at e
    · rename_i d' g1 e1
      cases e
      exact qt _ α no _ H _ g _ _ _ s0 e1 fun v H' α' x _ gk' r' => q v H' α' x gk' r'
    · rename_i ρ1 g1 e1
      cases e
      exact qt _ α no _ H _ g _ _ _ s0 e1 fun σ' H' α' ow' s' z => q .non H' α' s'.ext s'.ret .non
    · cases e
theorem ec_call {X : Cx} {k : Nat} {f : Addr} {fd : FuncData} {ps : List Str} {n : Nat} {φ : List D → Store → Option (D × Store)} {x : Str} {e : Expr} {es : List Expr} {fs : DA} {p pos : Pos}
    (F : FnOk X.prog X.w X.K X.mg X.base CX0 k f fd ps (spD X.K n φ)) (hr : Room k X.A) (hm : X.mg x = some (.ref f)) (hk : PySem.W.keepIn X.K (.ref f) = true) (hb : Binds X.K fd ps []) (ha : AC X (e :: es) fs)
    (hg : Gl X x := by rfl) (hdb : (x == ("__debug__" : Str)) = false := by decide) (he : starEach (e :: es) X.env = (false, eval e X.env) :: starEach es X.env := by rfl) (hpl : (backTo pos (starEach es X.env)).any (·.1) = false := by rfl) (hl : (e :: es).length = n := by rfl) :
    EC X (.Call (.Name x p) (e :: es) [] pos) (eApp φ fs) := by
  obtain ⟨hal, t, pt, q⟩ := ha
  refine ⟨_, pe_call F hr hg hm hk hb .nil pass0 pt hdb he hpl, fun G α ow σ H ρ g d g' Q s e w => ?_⟩
  obtain ⟨xs, g1, e1, e2⟩ := bindM_some e
  refine q G α ow σ H ρ g xs g1 _ s e1 fun vs H1 α1 x1 s1 r1 => ?_
  have hA : ∀ a (o : HO), Al G.B α1 ow a → H1 a = some o → Al (fun a => G.B a ∨ ∃ i, ow i = some a) α1 no a ∧ H1 a = some o := fun a o h e => ⟨⟨h.1, fun z => z.elim h.2.1 fun ⟨i, hi⟩ => h.2.2 i hi, fun i z => by cases z⟩, e⟩
  rw [List.append_nil]
  refine ⟨fun a => G.B a ∨ ∃ i, ow i = some a, α1, g1, xs, d, g', by rw [r1.1, hal _ _ _ _ e1]; exact hl, fun a h => ?_, s1.gok.mono hA fun _ _ _ e => e, r1.mono hA (List.prefix_refl _), e2, fun v H2 α2 x2 gk2 r2 => ?_⟩
  · rcases h with h | ⟨i, h⟩
    · exact s1.blk a h
    · obtain ⟨_, h2, _, h4, _⟩ := s1.own i a h
      exact ⟨h4, h2⟩
  · have hA2 : ∀ a (o : HO), Al (fun a => G.B a ∨ ∃ i, ow i = some a) α2 no a → H2 a = some o → Al G.B α2 ow a ∧ H2 a = some o := fun a o h e => ⟨⟨h.1, fun z => h.2.1 (.inl z), fun i z => h.2.1 (.inr ⟨i, z⟩)⟩, e⟩
    exact w v H2 α2 (x1.trans x2) (s1.step x2 (gk2.mono hA2 fun _ _ _ e => e)) (r2.mono hA2 (List.prefix_refl _))
end L3

/-! L3e: list comprehensions. -/
namespace L3
open PySem PySem.Spec PyProof.Rows L2

def wipe3 (ρ : Env3) : List Nat → Env3
  | [] => ρ
  | v :: vs => (wipe3 ρ vs).set v none
def noOwn (ρ : Env3) (vs : List Nat) : Bool := vs.all fun i => match ρ[i]? with
  | some (some x) => !x.isOwn
  | _ => true
def lcD (tg : D → Option (List (Nat × D))) (c : DT) (e : DE) : List D → DA
  | [], _, g => some ([], g)
  | d :: ds, ρ, g => match tg d with
    | none => none
    | some as => match c (sets ρ as) g with
      | some (true, g1) => match e (sets ρ as) g1 with
        | some (y, g2) => match lcD tg c e ds ρ g2 with
          | some (ys, g3) => some (y :: ys, g3)
          | none => none
        | none => none
      | some (false, g1) => lcD tg c e ds ρ g1
      | none => none
def aLc (it : DA) (vs : List Nat) (tg : D → Option (List (Nat × D))) (c : DT) (e : DE) : DA := fun ρ g => match it ρ g with
  | some (ds, g1) => if ds.length ≤ BIG ∧ noOwn ρ vs = true then lcD tg c e ds (wipe3 ρ vs) g1 else none
  | none => none
def tYesD : DT := fun _ g => some (true, g)
def TgIn (p : D → Option (List (Nat × D))) (vs : List Nat) : Prop := ∀ d as, p d = some as → ∀ i ∈ as.map (·.1), i ∈ vs
def TgsIn (p : List D → Option (List (Nat × D))) (vs : List Nat) : Prop := ∀ d as, p d = some as → ∀ i ∈ as.map (·.1), i ∈ vs
theorem tgin_name {i : Nat} {vs : List Nat} (h : vs.contains i = true := by rfl) : TgIn (tgName i) vs := fun d as e j hj => by
  cases e
  have : j = i := by simpa using hj
  subst this
  simpa using h
theorem tgin_tup {ps : List D → Option (List (Nat × D))} {vs : List Nat} (h : TgsIn ps vs) : TgIn (tgTup ps) vs := fun d as e => by
  unfold tgTup at e
  split at e
  · exact h _ _ e
  · cases e
theorem tgsin_nil {vs : List Nat} : TgsIn tgsNil vs := fun d as e j hj => by
  cases d with
  | nil => cases e; simp at hj
  | cons x r => cases e
theorem tgsin_cons {p : D → Option (List (Nat × D))} {ps : List D → Option (List (Nat × D))} {vs : List Nat} (h1 : TgIn p vs) (h2 : TgsIn ps vs) : TgsIn (tgsCons p ps) vs := fun d as e j hj => by
  obtain ⟨x, xs, a, b, rfl, e1, e2, rfl⟩ := tgsCons_some e
  rw [List.map_append, List.mem_append] at hj
  exact hj.elim (h1 _ _ e1 j) (h2 _ _ e2 j)
def TCs (X : Cx) (ifs : List Expr) (f : DT) : Prop := ∃ t, PTs X ifs t ∧ ∀ G α ow σ H ρ g b g' Q, Sat X.K G α ow σ H ρ g → f ρ g = some (b, g') → WantsT X.K G α ow σ H ρ g' b Q → t σ H Q
theorem tcs_nil {X : Cx} : TCs X [] tYesD := ⟨_, pts_nil, fun G α ow σ H ρ g b g' Q s e w => by cases e; exact w H α Ext.refl s⟩
theorem tcs_one {X : Cx} {c : Expr} {f : DT} (h : TC X c f) : TCs X [c] f := by
  obtain ⟨t, p, q⟩ := h
  exact ⟨t, pts_one p, q⟩

theorem wipe_set_in {σ : L2.St} {i : Nat} {v : Option V} : ∀ {vs : List Nat}, i ∈ vs → wipe (σ.set i v) vs = wipe σ vs := by
  intro vs
  induction vs with
  | nil => intro h; cases h
  | cons u r ih =>
    intro h
    show (wipe (σ.set i v) r).set u none = (wipe σ r).set u none
    by_cases hr : i ∈ r
    · rw [ih hr]
    · have e : i = u := by
        rcases List.mem_cons.mp h with z | z
        · exact z
        · exact absurd z hr
      subst e
      have key : ∀ (r : List Nat) (σ : L2.St), i ∉ r → wipe (σ.set i v) r = (wipe σ r).set i v := by
        intro r
        induction r with
        | nil => intro σ _; rfl
        | cons u r ih2 =>
          intro σ hn
          show (wipe (σ.set i v) r).set u none = ((wipe σ r).set u none).set i v
          rw [ih2 σ fun z => hn (List.mem_cons_of_mem _ z), List.set_comm _ _ (fun e => hn (by rw [e]; exact List.mem_cons_self))]
      rw [key r σ hr, List.set_set]
theorem wipe_wipe (σ : L2.St) : ∀ vs : List Nat, wipe (wipe σ vs) vs = wipe σ vs := by
  have gen : ∀ (us vs : List Nat), (∀ i ∈ us, i ∈ vs) → wipe (wipe σ us) vs = wipe σ vs := by
    intro us
    induction us with
    | nil => intro vs _; rfl
    | cons u r ih =>
      intro vs h
      show wipe ((wipe σ r).set u none) vs = wipe σ vs
      rw [wipe_set_in (h u List.mem_cons_self), ih vs fun i hi => h i (List.mem_cons_of_mem _ hi)]
  intro vs
  exact gen vs vs fun _ h => h
theorem wipe_sets {vs : List Nat} : ∀ {ws : List (Nat × V)} {σ : L2.St}, (∀ i ∈ ws.map (·.1), i ∈ vs) → wipe (setsV σ ws) vs = wipe σ vs := by
  intro ws
  induction ws with
  | nil => intro σ _; rfl
  | cons w r ih =>
    intro σ h
    obtain ⟨i, v⟩ := w
    show wipe (setsV (σ.set i (some v)) r) vs = _
    rw [ih fun j hj => h j (by rw [List.map_cons]; exact List.mem_cons_of_mem _ hj), wipe_set_in (h i (by simp))]
theorem wipe3_len (ρ : Env3) : ∀ vs : List Nat, (wipe3 ρ vs).length = ρ.length
  | [] => rfl
  | v :: vs => by
    show ((wipe3 ρ vs).set v none).length = _
    rw [List.length_set, wipe3_len ρ vs]
theorem wipe3_some {ρ : Env3} {i : Nat} {x : SV} : ∀ {vs : List Nat}, (wipe3 ρ vs)[i]? = some (some x) → ρ[i]? = some (some x) ∧ i ∉ vs
  | [], h => ⟨h, by simp⟩
  | v :: vs, h => by
    have h : ((wipe3 ρ vs).set v none)[i]? = some (some x) := h
    by_cases hi : v = i
    · subst hi
      by_cases hv : v < (wipe3 ρ vs).length
      · rw [List.getElem?_set_self hv] at h; cases h
      · rw [List.getElem?_eq_none (by simpa using hv)] at h; cases h
    · rw [List.getElem?_set_ne hi] at h
      obtain ⟨h1, h2⟩ := wipe3_some h
      exact ⟨h1, by simp only [List.mem_cons, not_or]; exact ⟨fun e => hi e.symm, h2⟩⟩
theorem wipe3_out {ρ : Env3} {i : Nat} : ∀ {vs : List Nat}, i ∉ vs → (wipe3 ρ vs)[i]? = ρ[i]?
  | [], _ => rfl
  | v :: vs, h => by
    show ((wipe3 ρ vs).set v none)[i]? = _
    rw [List.getElem?_set_ne (fun e => h (by rw [e]; exact List.mem_cons_self)), wipe3_out fun z => h (List.mem_cons_of_mem _ z)]
section
variable {K : PySem.W.Frag} {G : Gh} {α : List Addr} {ow : Nat → Option Addr} {σ : L2.St} {H : Hp} {ρ : Env3} {g : Store}
theorem noOwn_ow (s : Sat K G α ow σ H ρ g) {vs : List Nat} (h : noOwn ρ vs = true) {i : Nat} (hi : i ∈ vs) : ow i = none := by
  cases e : ow i with
  | none => rfl
  | some a =>
    obtain ⟨_, _, _, _, x, hx, ho⟩ := s.own i a e
    have q := List.all_eq_true.mp h i hi
    rw [hx] at q
    simp [ho] at q
theorem Sat.wipe (s : Sat K G α ow σ H ρ g) {vs : List Nat} (h : noOwn ρ vs = true) : Sat K G α ow (L2.wipe σ vs) H (wipe3 ρ vs) g := by
  refine ⟨s.ext, s.blk, by rw [wipe_length, wipe3_len, s.len], s.gok, fun i a hi => ?_, s.oinj, fun i x hx => ?_⟩
  · obtain ⟨q1, q2, q3, q4, q5⟩ := s.own i a hi
    refine ⟨q1, q2, q3, q4, ?_⟩
    rw [wipe3_out fun z => by rw [noOwn_ow s h z] at hi; cases hi]
    exact q5
  · obtain ⟨h1, h2⟩ := wipe3_some hx
    rw [wipe_out h2]
    exact s.slot i x h1
/-- inside a comprehension: the growing list is shut out -/
theorem Sat.shut (s : Sat K G α ow σ H ρ g) {p : Addr} (hp : H p = none) (vs : List V) : Sat K ⟨fun a => G.B a ∨ a = p, G.H0, G.α0⟩ α ow σ (upd H p (.lst vs)) ρ g := by
  have ne : ∀ {a : Addr} {o : HO}, H a = some o → a ≠ p := fun e => ne_of_none e hp
  have hA : ∀ a (o : HO), Al G.B α ow a → H a = some o → Al (fun a => G.B a ∨ a = p) α ow a ∧ upd H p (.lst vs) a = some o := fun a o h e => ⟨⟨h.1, fun z => z.elim h.2.1 (ne e), h.2.2⟩, by rw [upd_ne (ne e)]; exact e⟩
  have al := s.al hp
  refine ⟨s.ext.trans (Ext.new hp), fun a h => ?_, s.len, s.gok.mono hA fun a o _ e => by rw [upd_ne (ne e)]; exact e, fun j a h => ?_, s.oinj, fun j x hx => ?_⟩
  · rcases h with h | h
    · obtain ⟨⟨o, h1⟩, h2⟩ := s.blk a h
      exact ⟨⟨o, by rw [upd_ne (ne h1)]; exact h1⟩, h2⟩
    · rw [h]
      exact ⟨⟨_, upd_same⟩, al.1⟩
  · obtain ⟨h1, h2, h3, ⟨o, h4⟩, h5⟩ := s.own j a h
    exact ⟨h1, h2, fun z => z.elim h3 (ne h4), ⟨o, by rw [upd_ne (ne h4)]; exact h4⟩, h5⟩
  · exact (s.slot j x hx).mono hA fun a u _ e => by rw [upd_ne (ne e)]; exact e
/-- the growing list changes -/
theorem Sat.shutMut {p : Addr} (s : Sat K ⟨fun a => G.B a ∨ a = p, G.H0, G.α0⟩ α ow σ H ρ g) (h0 : G.H0 p = none) (vs : List V) : Sat K ⟨fun a => G.B a ∨ a = p, G.H0, G.α0⟩ α ow σ (upd H p (.lst vs)) ρ g := by
  have hA : ∀ a (o : HO), Al (fun a => G.B a ∨ a = p) α ow a → H a = some o → Al (fun a => G.B a ∨ a = p) α ow a ∧ upd H p (.lst vs) a = some o := fun a o h e => ⟨h, by rw [upd_ne fun z => h.2.1 (.inr z)]; exact e⟩
  have tr : ∀ {b : Addr}, (∃ o, H b = some o) → ∃ o, upd H p (.lst vs) b = some o := fun {b} ⟨o, h⟩ => by
    by_cases e : b = p
    · rw [e]; exact ⟨_, upd_same⟩
    · exact ⟨o, by rw [upd_ne e]; exact h⟩
  have pn : p ∉ α := (s.blk p (.inr rfl)).2
  refine ⟨⟨fun b o h hn => ?_, s.ext.2.1, s.ext.2.2⟩, fun a h => ⟨tr (s.blk a h).1, (s.blk a h).2⟩, s.len, s.gok.mono hA fun a o ha e => by rw [upd_ne fun z => pn (by rw [← z]; exact ha)]; exact e, fun j a h => ?_, s.oinj, fun j x hx => ?_⟩
  · rw [upd_ne fun z => by rw [z] at h; rw [show (Gh.mk (fun a => G.B a ∨ a = p) G.H0 G.α0).H0 p = none from h0] at h; cases h]
    exact s.ext.1 b o h hn
  · obtain ⟨h1, h2, h3, h4, h5⟩ := s.own j a h
    exact ⟨h1, h2, h3, tr h4, h5⟩
  · exact (s.slot j x hx).mono hA fun a u ha e => by
      rw [upd_ne fun z => (s.own j a ha).2.2.1 (.inr z)]
      exact e
/-- .. and is let in: the heap without it -/
def cutH (H : Hp) (p : Addr) : Hp := fun a => if a = p then none else H a
theorem cutH_upd {p : Addr} {o : HO} (h : H p = some o) : H = upd (cutH H p) p o := by
  funext a
  unfold upd cutH
  by_cases e : a = p
  · rw [if_pos e, e, h]
  · rw [if_neg e, if_neg e]
theorem Sat.open {p : Addr} (s : Sat K ⟨fun a => G.B a ∨ a = p, G.H0, G.α0⟩ α ow σ H ρ g) (h0 : G.H0 p = none) (hb : ¬ G.B p) : Sat K G α ow σ (cutH H p) ρ g := by
  have hA : ∀ a (o : HO), Al (fun a => G.B a ∨ a = p) α ow a → H a = some o → Al G.B α ow a ∧ cutH H p a = some o := fun a o h e => ⟨⟨h.1, fun z => h.2.1 (.inl z), h.2.2⟩, by unfold cutH; rw [if_neg fun z => h.2.1 (.inr z)]; exact e⟩
  have pn : p ∉ α := (s.blk p (.inr rfl)).2
  have ke : ∀ {a : Addr} {o : HO}, a ≠ p → H a = some o → cutH H p a = some o := fun {a o} n e => by unfold cutH; rw [if_neg n]; exact e
  refine ⟨⟨fun b o h hn => ?_, s.ext.2.1, s.ext.2.2⟩, fun a h => ?_, s.len, s.gok.mono hA fun a o ha e => ke (fun z => pn (by rw [← z]; exact ha)) e, fun j a h => ?_, s.oinj, fun j x hx => ?_⟩
  · exact ke (fun z => by rw [z, h0] at h; cases h) (s.ext.1 b o h hn)
  · obtain ⟨⟨o, h1⟩, h2⟩ := s.blk a (.inl h)
    exact ⟨⟨o, ke (fun z => hb (by rw [← z]; exact h)) h1⟩, h2⟩
  · obtain ⟨h1, h2, h3, ⟨o, h4⟩, h5⟩ := s.own j a h
    exact ⟨h1, h2, fun z => h3 (.inl z), ⟨o, ke (fun z => h3 (.inr z)) h4⟩, h5⟩
  · exact (s.slot j x hx).mono hA fun a u ha e => ke (fun z => (s.own j a ha).2.2.1 (.inr z)) e
theorem Sat.setsN : ∀ {as : List (Nat × D)} {ws : List (Nat × V)} {σ : L2.St} {ρ : Env3}, Sat K G α ow σ H ρ g → RepSets (Al G.B α ow) α K H ws as → (∀ i ∈ as.map (·.1), ow i = none) →
    Sat K G α ow (setsV σ ws) H (L3.sets ρ as) g
  | [], ws, σ, ρ, s, r, _ => by
    have e : ws = [] := by
      cases ws with
      | nil => rfl
      | cons x r => exact absurd r.1 (by simp)
    subst e
    exact s
  | (i, d) :: as, ws, σ, ρ, s, r, hn => by
    cases ws with
    | nil => exact absurd r.1 (by simp)
    | cons w ws =>
      obtain ⟨j, v⟩ := w
      obtain ⟨r1, r2⟩ := r
      rw [List.map_cons, List.map_cons] at r1 r2
      obtain ⟨v', vr, ev, r3, r4⟩ := r2.uncons
      have ej : j = i := (List.cons.inj r1).1
      have e1 := (List.cons.inj ev).1
      have e2 := (List.cons.inj ev).2
      subst ej e1 e2
      have eo : off ow j = ow := by
        funext k
        unfold off
        split
        · rename_i hk
          rw [hk, hn j (by simp)]
        · rfl
      have s' := s.set (i := j) r3
      rw [eo] at s'
      show Sat K G α ow (setsV (σ.set j (some v)) ws) H (L3.sets (ρ.set j (some (.d d))) as) g
      exact Sat.setsN (as := as) (ws := ws) s' ⟨(List.cons.inj r1).2, r4⟩ fun k hk => hn k (by rw [List.map_cons]; exact List.mem_cons_of_mem _ hk)
end

theorem lcD_len {tg : D → Option (List (Nat × D))} {c : DT} {e : DE} : ∀ {ds : List D} {ρ : Env3} {g : Store} {ys : List D} {g' : Store}, lcD tg c e ds ρ g = some (ys, g') → ys.length ≤ ds.length := by
  intro ds
  induction ds with
  | nil => intro ρ g ys g' h; cases h; exact Nat.le_refl _
  | cons d ds ih =>
    intro ρ g ys g' h
    unfold lcD at h
    split at h
    · cases h
    · split at h
      · split at h
        · split at h
          · rename_i ys' g3 e3
            cases h
            rw [List.length_cons, List.length_cons]
            exact Nat.succ_le_succ (ih e3)
          · cases h
        · cases h
      · exact Nat.le_succ_of_le (ih h)
      · cases h
section
variable {X : Cx} {elt tg iter : Expr} {ifs : List Expr} {it : DA} {p : D → Option (List (Nat × D))} {fc : DT} {fe : DE} {pos : Pos} {scope : Scope} {own : List (Str × Nat)}
theorem lc_read {wi : TI} {g1 : TG} {tt : TT} {te : TE} {vs : List Nat}
    (qi : ∀ G α ow σ H ρ g ds g' (R : It → Hp → Prop), Sat X.K G α ow σ H ρ g → it ρ g = some (ds, g') → (∀ J H' α', Ext α H α' H' → Sat X.K G α' ow σ H' ρ g' → WalkD X.K G.B α' ow H' J ds → R J H') → wi σ H R)
    (qg : ∀ A α σ H v d as Q, Rep A α X.K H v d → p d = some as → (∀ ws, RepSets A α X.K H ws as → Q (setsV σ ws) H) → g1 v σ H Q)
    (qt : ∀ G α ow σ H ρ g b g' Q, Sat X.K G α ow σ H ρ g → fc ρ g = some (b, g') → WantsT X.K G α ow σ H ρ g' b Q → tt σ H Q)
    (qe : ∀ G α ow σ H ρ g d g' Q, Sat X.K G α ow σ H ρ g → fe ρ g = some (d, g') → WantsG X.K G α ow σ H ρ g' d Q → te σ H Q) (hv : TgIn p vs)
    {G α ow σ H ρ g ds g' Q} (s : Sat X.K G α ow σ H ρ g) (e : aLc it vs p fc fe ρ g = some (ds, g')) (w : WantsF X.K G α ow σ H ρ g' ds Q) : tLc wi g1 tt te vs σ H Q := by
  unfold aLc at e
  split at e
  · rename_i xs g1' e1
    split at e
    · rename_i hh
      obtain ⟨hbig, hno⟩ := hh
      refine qi G α ow σ H ρ g xs g1' _ s e1 fun J H1 α1 x1 s1 wk => fun Dp hD => ?_
      have hD0 : G.H0 Dp = none := s1.ext.fresh hD (s1.al hD).1
      have hDb : ¬ G.B Dp := (s1.al hD).2.1
      have s2 := (s1.shut hD []).wipe (vs := vs) hno
      have fz0 : ∀ a (o : HO), Al G.B α1 ow a → H1 a = some o → Al (fun a => G.B a ∨ a = Dp) α1 ow a ∧ upd H1 Dp (.lst []) a = some o := fun a o h e => ⟨⟨h.1, fun z => z.elim h.2.1 (ne_of_none e hD), h.2.2⟩, by rw [upd_ne (ne_of_none e hD)]; exact e⟩
      refine ⟨fun i m H2 => m = xs.length - i ∧ i ≤ xs.length ∧ ∃ α2 g2 acc done rest, Sat X.K ⟨fun a => G.B a ∨ a = Dp, G.H0, G.α0⟩ α2 ow (L2.wipe σ vs) H2 (wipe3 ρ vs) g2 ∧
          FzB G.B α1 ow H1 (fun a => G.B a ∨ a = Dp) α2 ow H2 ∧ Ext α1 H1 α2 H2 ∧ H2 Dp = some (.lst acc) ∧ RepAll (Al (fun a => G.B a ∨ a = Dp) α2 ow) α2 X.K H2 acc done ∧ acc.length ≤ i ∧ lcD p fc fe (xs.drop i) (wipe3 ρ vs) g2 = some (rest, g') ∧ ds = done ++ rest,
        ⟨xs.length, by simp, Nat.zero_le _, α1, g1', [], [], ds, s2, ⟨fz0, List.prefix_refl _⟩, Ext.new hD, upd_same, RepAll.nil, Nat.le_refl _, e, rfl⟩, ?_⟩
      rintro i m H2 ⟨rfl, hi, α2, g2, acc, done, rest, s2, z2, x2, hacc, racc, hal, e2, eds⟩
      have wk2 := wk _ α2 ow _ H2 _ g2 i s2 z2
      by_cases hlt : i < xs.length
      · have ed : xs[i]? = some xs[i] := List.getElem?_eq_getElem hlt
        obtain ⟨go, yl⟩ := wk2.2 _ ed
        rw [List.drop_eq_getElem_cons hlt] at e2
        refine .inr ⟨go, fun H3 => ∃ α3 g3 acc done rest, Sat X.K ⟨fun a => G.B a ∨ a = Dp, G.H0, G.α0⟩ α3 ow (L2.wipe σ vs) H3 (wipe3 ρ vs) g3 ∧
          FzB G.B α1 ow H1 (fun a => G.B a ∨ a = Dp) α3 ow H3 ∧ Ext α1 H1 α3 H3 ∧ H3 Dp = some (.lst acc) ∧ RepAll (Al (fun a => G.B a ∨ a = Dp) α3 ow) α3 X.K H3 acc done ∧ acc.length ≤ i + 1 ∧ lcD p fc fe (xs.drop (i + 1)) (wipe3 ρ vs) g3 = some (rest, g') ∧ ds = done ++ rest,
          fun H3 h3 => ⟨xs.length - (i + 1), by omega, rfl, hlt, h3⟩, fun x H3 hy => ?_⟩
        obtain ⟨x3, s3, r3⟩ := yl x H3 hy
        have nD : ∀ {α' : List Addr} {H' : Hp}, Ext α2 H3 α' H' → H' Dp = some (.lst acc) := fun {α' H'} xx => xx.1 _ _ (x3.1 _ _ hacc (s2.blk Dp (.inr rfl)).2) (s3.blk Dp (.inr rfl)).2
        unfold lcD at e2
        split at e2
        · cases e2
        · rename_i as has
          refine qg _ _ (L2.wipe σ vs) H3 x _ as _ r3 has fun ws rs => ⟨?_, ?_⟩
          · rw [wipe_sets fun j hj => hv _ _ has j (by rw [← rs.1]; exact hj), wipe_wipe]
          · have s4 := s3.setsN rs fun j hj => noOwn_ow s1 hno (hv _ _ has j hj)
            have fzx : ∀ {α' : List Addr} {H' : Hp}, Ext α2 H3 α' H' → FzB G.B α1 ow H1 (fun a => G.B a ∨ a = Dp) α' ow H' := fun {α' H'} xx => ⟨fun a o h e => by
                have q := z2.1 a o h e
                have q2 := x3.al a o q.1 q.2
                exact xx.al a o q2.1 q2.2, z2.2.trans xx.2.1⟩
            split at e2
            · rename_i g5 e5
              split at e2
              · rename_i y g6 e6
                split at e2
                · rename_i ys g7 e7
                  cases e2
                  refine qt _ α2 ow _ H3 _ g2 true g5 _ s4 e5 fun H5 α5 x5 s5 => ?_
                  rw [if_pos rfl]
                  refine qe _ α5 ow _ H5 _ g5 y g6 _ s5 e6 fun v H6 α6 x6 s6 r6 => ?_
                  have xx := x5.trans x6
                  have hD6 := nD xx
                  refine ⟨acc, hD6, Nat.lt_of_lt_of_le (Nat.lt_of_lt_of_le (Nat.lt_of_le_of_lt hal hlt) hbig) big_line, ?_⟩
                  have g6k : GOk (Al (fun a => G.B a ∨ a = Dp) α6 ow) α6 g6 X.K H6 := s6.gok
                  have s7 : Sat X.K ⟨fun a => G.B a ∨ a = Dp, G.H0, G.α0⟩ α6 ow (L2.wipe σ vs) H6 (wipe3 ρ vs) g6 := s2.step (x3.trans xx) g6k
                  have s8 := s7.shutMut hD0 (acc ++ [v])
                  have hA8 : ∀ a (o : HO), Al (fun a => G.B a ∨ a = Dp) α6 ow a → H6 a = some o → Al (fun a => G.B a ∨ a = Dp) α6 ow a ∧ upd H6 Dp (.lst (acc ++ [v])) a = some o := fun a o h e => ⟨h, by rw [upd_ne fun z => h.2.1 (.inr z)]; exact e⟩
                  refine ⟨α6, g6, acc ++ [v], done ++ [y], ys, s8, ⟨fun a o h e => hA8 a o ((fzx xx).1 a o h e).1 ((fzx xx).1 a o h e).2, (fzx xx).2⟩, ?_, upd_same, (((racc.ext x3).ext xx).append (RepAll.one r6)).mono hA8 (List.prefix_refl _), by rw [List.length_append]; exact Nat.succ_le_succ hal, e7, by rw [eds, List.append_assoc]; rfl⟩
                  have xa := (x2.trans x3).trans xx
                  exact ⟨fun a o h hn => by rw [upd_ne (ne_of_none h hD)]; exact xa.1 a o h hn, xa.2.1, xa.2.2⟩
                · cases e2
              · cases e2
            · rename_i g5 e5
              refine qt _ α2 ow _ H3 _ g2 false g5 _ s4 e5 fun H5 α5 x5 s5 => ?_
              rw [if_neg (by decide)]
              exact ⟨α5, g5, acc, done, rest, s2.step (x3.trans x5) s5.gok, fzx x5, (x2.trans x3).trans x5, nD x5, (racc.ext x3).ext x5, Nat.le_succ_of_le hal, e2, eds⟩
            · cases e2
      · have ei : i = xs.length := by omega
        subst ei
        rw [List.drop_length] at e2
        cases e2
        rw [List.append_nil] at eds
        subst eds
        refine .inl ⟨wk2.1 (Nat.le_refl _), ?_⟩
        have so := s2.open hD0 hDb
        have xc : Ext α1 H1 α2 (cutH H2 Dp) := ⟨fun a o h hn => by
          unfold cutH
          rw [if_neg (ne_of_none h hD)]
          exact x2.1 a o h hn, x2.2.1, x2.2.2⟩
        have hA : ∀ a (o : HO), Al (fun a => G.B a ∨ a = Dp) α2 ow a → H2 a = some o → Al G.B α2 ow a ∧ cutH H2 Dp a = some o := fun a o h e => ⟨⟨h.1, fun z => h.2.1 (.inl z), h.2.2⟩, by unfold cutH; rw [if_neg fun z => h.2.1 (.inr z)]; exact e⟩
        exact w Dp acc (cutH H2 Dp) α2 (x1.trans xc) (s1.step xc so.gok) (by unfold cutH; rw [if_pos rfl]) (racc.mono hA (List.prefix_refl _)) H2 (cutH_upd hacc)
    · cases e
  · cases e
def tE (K : PySem.W.Frag) (f : DE) : TE := fun σ H Q => ∃ G α ow ρ g d g', Sat K G α ow σ H ρ g ∧ f ρ g = some (d, g') ∧ WantsG K G α ow σ H ρ g' d Q
def tTs (K : PySem.W.Frag) (f : DT) : TT := fun σ H Q => ∃ G α ow ρ g d g', Sat K G α ow σ H ρ g ∧ f ρ g = some (d, g') ∧ WantsT K G α ow σ H ρ g' d Q
def tGs (K : PySem.W.Frag) (p : D → Option (List (Nat × D))) : TG := fun v σ H Q => ∃ A α d as, Rep A α K H v d ∧ p d = some as ∧ ∀ ws, RepSets A α K H ws as → Q (setsV σ ws) H
theorem EC.canon {Y : Cx} {e : Expr} {f : DE} (h : EC Y e f) : PE Y e (tE Y.K f) := by
  obtain ⟨t, p, q⟩ := h
  exact ⟨fun pins s σ H Q I ⟨G, α, ow, ρ, g, d, g', h1, h2, h3⟩ => p.run pins s σ H Q I (q G α ow σ H ρ g d g' Q h1 h2 h3)⟩
theorem TCs.canon {Y : Cx} {e : List Expr} {f : DT} (h : TCs Y e f) : PTs Y e (tTs Y.K f) := by
  obtain ⟨t, p, q⟩ := h
  exact ⟨fun pins s σ H Q I ⟨G, α, ow, ρ, g, d, g', h1, h2, h3⟩ => p.run pins s σ H Q I (q G α ow σ H ρ g d g' Q h1 h2 h3)⟩
theorem GC.canon {Y : Cx} {e : Expr} (h : GC Y e p) : PG Y e (tGs Y.K p) := by
  obtain ⟨t, pt, q⟩ := h
  exact ⟨fun pins s σ H v u Q I r ⟨A, α, d, as, h1, h2, h3⟩ => pt.run pins s σ H v u Q I r (q A α σ H v d as Q h1 h2 h3)⟩
theorem ef_lc (hN : X.N.Nodup) (own : List (Str × Nat)) (hi : IC X tg iter it) (hv : TgIn p (own.map (·.2)))
    (hg : ∀ (s : Shared) (H : Hp) (C : Addr) (cl : List (Str × Addr)) (fp : List Addr), GC (X.blk s H scope (compEnvC scope cl C X.env) fp) tg p)
    (ht : ∀ (s : Shared) (H : Hp) (C : Addr) (cl : List (Str × Addr)) (fp : List Addr), TCs (X.blk s H scope (compEnvC scope cl C X.env) fp) ifs fc)
    (he : ∀ (s : Shared) (H : Hp) (C : Addr) (cl : List (Str × Addr)) (fp : List Addr), EC (X.blk s H scope (compEnvC scope cl C X.env) fp) elt fe)
    (ok : BlkOk X.N X.env.scope scope own) (hc : X.calm = true := by rfl) (hs : ∀ x, foldedSetIterable iter X.env x = pure x := by intro _; rfl) : EF X (.ListComp elt [⟨tg, iter, ifs, 0⟩] scope pos) (aLc it (own.map (·.2)) p fc fe) := by
  obtain ⟨wi, pwi, qi⟩ := hi
  exact ⟨_, pe_lc (g := tGs X.K p) (tt := tTs X.K fc) (te := tE X.K fe) hc hN pwi ok (fun s H C cl fp => (hg s H C cl fp).canon) (fun s H C cl fp => (ht s H C cl fp).canon) (fun s H C cl fp => (he s H C cl fp).canon) hs, fun G α ow σ H ρ g ds g' Q s e w =>
    lc_read (X := X) (g1 := tGs X.K p) (tt := tTs X.K fc) (te := tE X.K fe) qi (fun A α σ H v d as Q h1 h2 h3 => ⟨A, α, d, as, h1, h2, h3⟩) (fun G α ow σ H ρ g b g' Q h1 h2 h3 => ⟨G, α, ow, ρ, g, b, g', h1, h2, h3⟩) (fun G α ow σ H ρ g b g' Q h1 h2 h3 => ⟨G, α, ow, ρ, g, b, g', h1, h2, h3⟩) hv s e w⟩
/-- y = [..] on one line -/
theorem sc_setLc {i : Nat} {y : Str} {py spos : Pos} (hN : X.N.Nodup) (own : List (Str × Nat)) (hi : IC X tg iter it) (hv : TgIn p (own.map (·.2)))
    (hg : ∀ (s : Shared) (H : Hp) (C : Addr) (cl : List (Str × Addr)) (fp : List Addr), GC (X.blk s H scope (compEnvC scope cl C X.env) fp) tg p)
    (ht : ∀ (s : Shared) (H : Hp) (C : Addr) (cl : List (Str × Addr)) (fp : List Addr), TCs (X.blk s H scope (compEnvC scope cl C X.env) fp) ifs fc)
    (he : ∀ (s : Shared) (H : Hp) (C : Addr) (cl : List (Str × Addr)) (fp : List Addr), EC (X.blk s H scope (compEnvC scope cl C X.env) fp) elt fe)
    (ok : BlkOk X.N X.env.scope scope own) (hsw : swapsWith (.ListComp elt [⟨tg, iter, ifs, 0⟩] scope pos) (some (.Name y py)) spos.line X.env = pure true)
    (hy : X.N[i]? = some y := by rfl) (hyl : X.env.scope.names.lookup y = some .local := by rfl) (hc : X.calm = true := by rfl) (hs : ∀ x, foldedSetIterable iter X.env x = pure x := by intro _; rfl) :
    SC X (.Assign [.Name y py] (.ListComp elt [⟨tg, iter, ifs, 0⟩] scope pos) spos) (sSet i (eL (aLc it (own.map (·.2)) p fc fe))) := by
  obtain ⟨wi, pwi, qi⟩ := hi
  refine ⟨_, ps_setLc (g := tGs X.K p) (tt := tTs X.K fc) (te := tE X.K fe) hc hN hy hyl hsw pwi ok (fun s H C cl fp => (hg s H C cl fp).canon) (fun s H C cl fp => (ht s H C cl fp).canon) (fun s H C cl fp => (he s H C cl fp).canon) hs, fun G α ow σ H ρ g out g' Dn s e w => ?_⟩
  unfold sSet at e
  split at e
  · rename_i d g1 e1
    cases e
    obtain ⟨xs, g2, e2, e3⟩ := bindM_some e1
    obtain ⟨e4, rfl⟩ := liftM_some e3
    cases e4
    refine lc_read (X := X) (g1 := tGs X.K p) (tt := tTs X.K fc) (te := tE X.K fe) qi (fun A α σ H v d as Q h1 h2 h3 => ⟨A, α, d, as, h1, h2, h3⟩) (fun G α ow σ H ρ g b g' Q h1 h2 h3 => ⟨G, α, ow, ρ, g, b, g', h1, h2, h3⟩) (fun G α ow σ H ρ g b g' Q h1 h2 h3 => ⟨G, α, ow, ρ, g, b, g', h1, h2, h3⟩) hv s e2 fun q vs H1 α1 x1 s1 hp r H2 eH => ?_
    subst eH
    exact w _ _ _ _ ((s1.new hp).set (s1.newL hp r)) ((x1.trans (Ext.new hp)).fz.trans Fz.off)
  · cases e
theorem sc_ownLc {i : Nat} {y : Str} {py spos : Pos} (hN : X.N.Nodup) (own : List (Str × Nat)) (hi : IC X tg iter it) (hv : TgIn p (own.map (·.2)))
    (hg : ∀ (s : Shared) (H : Hp) (C : Addr) (cl : List (Str × Addr)) (fp : List Addr), GC (X.blk s H scope (compEnvC scope cl C X.env) fp) tg p)
    (ht : ∀ (s : Shared) (H : Hp) (C : Addr) (cl : List (Str × Addr)) (fp : List Addr), TCs (X.blk s H scope (compEnvC scope cl C X.env) fp) ifs fc)
    (he : ∀ (s : Shared) (H : Hp) (C : Addr) (cl : List (Str × Addr)) (fp : List Addr), EC (X.blk s H scope (compEnvC scope cl C X.env) fp) elt fe)
    (ok : BlkOk X.N X.env.scope scope own) (hsw : swapsWith (.ListComp elt [⟨tg, iter, ifs, 0⟩] scope pos) (some (.Name y py)) spos.line X.env = pure true)
    (hy : X.N[i]? = some y := by rfl) (hyl : X.env.scope.names.lookup y = some .local := by rfl) (hc : X.calm = true := by rfl) (hs : ∀ x, foldedSetIterable iter X.env x = pure x := by intro _; rfl) :
    SC X (.Assign [.Name y py] (.ListComp elt [⟨tg, iter, ifs, 0⟩] scope pos) spos) (sOwn i (aLc it (own.map (·.2)) p fc fe)) := by
  obtain ⟨wi, pwi, qi⟩ := hi
  refine ⟨_, ps_setLc (g := tGs X.K p) (tt := tTs X.K fc) (te := tE X.K fe) hc hN hy hyl hsw pwi ok (fun s H C cl fp => (hg s H C cl fp).canon) (fun s H C cl fp => (ht s H C cl fp).canon) (fun s H C cl fp => (he s H C cl fp).canon) hs, fun G α ow σ H ρ g out g' Dn s e w => ?_⟩
  unfold sOwn at e
  split at e
  · rename_i xs g1 e1
    split at e
    · rename_i hi
      cases e
      refine lc_read (X := X) (g1 := tGs X.K p) (tt := tTs X.K fc) (te := tE X.K fe) qi (fun A α σ H v d as Q h1 h2 h3 => ⟨A, α, d, as, h1, h2, h3⟩) (fun G α ow σ H ρ g b g' Q h1 h2 h3 => ⟨G, α, ow, ρ, g, b, g', h1, h2, h3⟩) (fun G α ow σ H ρ g b g' Q h1 h2 h3 => ⟨G, α, ow, ρ, g, b, g', h1, h2, h3⟩) hv s e1 fun q vs H1 α1 x1 s1 hp r H2 eH => ?_
      subst eH
      exact w _ _ _ _ (s1.own1 hi hp r).1 (x1.fz.trans (s1.own1 hi hp r).2)
    · cases e
  · cases e
end
end L3

/-! L3f: operators, built-ins, methods. -/
namespace L3
open PySem PySem.Spec PyProof.Rows L2

/-! ### texts -/
theorem S_len (s : List Nat) : (S s).length = s.length := by simp [S, Str.length]
theorem S_list (s : List Nat) : (S s).cps.toList = s := by simp [S]
theorem S_app (s t : List Nat) : S s ++ S t = S (s ++ t) := by
  show Str.mk (s.toArray ++ t.toArray) = Str.mk (s ++ t).toArray
  simp
theorem S_inj {s t : List Nat} (h : S s = S t) : s = t := by
  have := congrArg (fun z : Str => z.cps.toList) h
  simpa [S] using this
theorem S_of (z : Str) : z = S z.cps.toList := by cases z; simp [S]

/-! ### numbers, texts, lists: + - * % // ** -/
def dAdd : D → D → Option D
  | .int a, .int b => some (.int (a + b))
  | .str a, .str b => if a.length + b.length ≤ BIG then some (.str (a ++ b)) else none
  | _, _ => none
def dSub : D → D → Option D
  | .int a, .int b => some (.int (a - b))
  | _, _ => none
def dMul : D → D → Option D
  | .int a, .int b => if (-(2 ^ 64) < a ∧ a < 2 ^ 64) ∨ (-(2 ^ 64) < b ∧ b < 2 ^ 64) then some (.int (a * b)) else none
  | .str a, .int n => if 0 ≤ n ∧ n ≤ 100000 ∧ a.length * n.toNat ≤ BIG then some (.str (List.replicate n.toNat a).flatten) else none
  | _, _ => none
def dMod : D → D → Option D
  | .int a, .int b => if 0 < b then some (.int (a % b)) else none
  | _, _ => none
def dDiv : D → D → Option D
  | .int a, .int b => if 0 < b ∧ b < 1073741824 then some (.int (a / b)) else none
  | _, _ => none
def dPow : D → D → Option D
  | .int a, .int b => if 0 ≤ b ∧ b ≤ 100 ∧ a.natAbs < 2 ^ 64 then some (.int (a ^ b.toNat)) else none
  | _, _ => none
section
variable {X : Cx}
theorem opd_add : OpD X (binaryOp .Add) dAdd := by
  refine ⟨_, op_add.or op_add_str, fun G α ow σ H ρ g x y dx dy d Q s rx ry e w => ?_⟩
  unfold dAdd at e
  split at e
  · cases e
    rw [rx.int, ry.int]
    exact .inl ⟨_, _, rfl, rfl, w _ H Ext.refl s (.int _)⟩
  · split at e
    · rename_i hl
      cases e
      rw [rx.str, ry.str]
      refine .inr ⟨_, _, rfl, rfl, by rw [S_len, S_len]; exact Nat.le_trans hl big_line, ?_⟩
      rw [S_app]
      exact w _ H Ext.refl s (.str _)
    · cases e
  · cases e
theorem opd_sub : OpD X (binaryOp .Sub) dSub := by
  refine ⟨_, op_sub, fun G α ow σ H ρ g x y dx dy d Q s rx ry e w => ?_⟩
  unfold dSub at e
  split at e
  · cases e
    rw [rx.int, ry.int]
    exact ⟨_, _, rfl, rfl, w _ H Ext.refl s (.int _)⟩
  · cases e
theorem foldl_rep (a : List Nat) : ∀ (n : Nat) (b : Array Nat), ((List.replicate n a.toArray).foldl (· ++ ·) b) = b ++ (List.replicate n a).flatten.toArray := by
  intro n
  induction n with
  | zero => intro b; simp
  | succ n ih => intro b; rw [List.replicate_succ, List.foldl_cons, ih, List.replicate_succ, List.flatten_cons]; simp
theorem mul_S (a : List Nat) (n : Int) (hn : 0 ≤ n) : Txt.mul (S a) n = S (List.replicate n.toNat a).flatten := by
  unfold Txt.mul
  split
  · have e : n.toNat = 0 := by omega
    rw [e]; rfl
  · split
    · rename_i h
      rcases (by simpa using h : n = 1 ∨ (S a).length = 0) with h | h
      · rw [h]; simp
      · rw [S_len] at h
        have e : a = [] := List.eq_nil_of_length_eq_zero h
        subst e
        simp
    · have := foldl_rep a n.toNat #[]
      show Str.mk _ = _
      unfold S
      rw [this]; simp
theorem op_mul_str : OpR X (binaryOp .Mult) (fun x y H Q => ∃ (z : Str) (n : Int), x = .str z ∧ y = .int n ∧ MulOk z n ∧ Q (.str (Txt.mul z n)) H) := by
  intro pins s σ H x y v u Q I rx ry h
  obtain ⟨z, n, rfl, rfl, hm, q⟩ := h
  obtain ⟨t, rfl⟩ := rx
  obtain ⟨t', rfl⟩ := ry
  exact SB.mul hm fun t' k => ⟨.str _, H, I.tok _, ⟨_, rfl⟩, q⟩
theorem opd_mul : OpD X (binaryOp .Mult) dMul := by
  refine ⟨_, op_mul.or op_mul_str, fun G α ow σ H ρ g x y dx dy d Q s rx ry e w => ?_⟩
  unfold dMul at e
  split at e
  · split at e
    · rename_i hc
      cases e
      rw [rx.int, ry.int]
      exact .inl ⟨_, _, rfl, rfl, hc, w _ H Ext.refl s (.int _)⟩
    · cases e
  · split at e
    · rename_i a n hc
      cases e
      rw [rx.str, ry.int]
      refine .inr ⟨_, _, rfl, rfl, ⟨?_, fun h1 h2 => ?_, fun h1 h2 => ?_⟩, ?_⟩
      · have h1 : ¬ n < -(2 ^ 63 : Int) := by omega
        have h2 : ¬ n ≥ 2 ^ 63 := by omega
        rw [decide_eq_false h1, decide_eq_false h2]; rfl
      · rw [S_len]
        have h3 : 1 ≤ n := by omega
        have h4 : a.length ≤ 100000 := by
          have h5 : 1 ≤ n.toNat := by omega
          have h6 : a.length * 1 ≤ a.length * n.toNat := Nat.mul_le_mul_left _ h5
          have h7 := hc.2.2
          unfold BIG at h7
          omega
        have h5 : (100000 : Int) ≤ (2 ^ 63 - 1) / n := by
          apply Int.le_ediv_of_mul_le (by omega)
          omega
        omega
      · rw [S_len]
        have h7 := hc.2.2
        unfold BIG at h7
        have : ¬ a.length * n.toNat > 2 ^ 24 := by omega
        simpa [Builtin.Str.tooLong, sizeLine] using this
      · rw [mul_S a n hc.1]
        exact w _ H Ext.refl s (.str _)
    · cases e
  · cases e
theorem opd_mod : OpD X (binaryOp .Mod) dMod := by
  refine ⟨_, op_mod, fun G α ow σ H ρ g x y dx dy d Q s rx ry e w => ?_⟩
  unfold dMod at e
  split at e
  · split at e
    · rename_i hc
      cases e
      rw [rx.int, ry.int]
      exact ⟨_, _, rfl, rfl, hc, w _ H Ext.refl s (.int _)⟩
    · cases e
  · cases e
theorem opd_div : OpD X (binaryOp .FloorDiv) dDiv := by
  refine ⟨_, op_fdiv, fun G α ow σ H ρ g x y dx dy d Q s rx ry e w => ?_⟩
  unfold dDiv at e
  split at e
  · split at e
    · rename_i hc
      cases e
      rw [rx.int, ry.int]
      exact ⟨_, _, rfl, rfl, hc, w _ H Ext.refl s (.int _)⟩
    · cases e
  · cases e
theorem opd_pow : OpD X (binaryOp .Pow) dPow := by
  refine ⟨_, op_pow, fun G α ow σ H ρ g x y dx dy d Q s rx ry e w => ?_⟩
  unfold dPow at e
  split at e
  · split at e
    · rename_i hc
      cases e
      rw [rx.int, ry.int]
      exact ⟨_, _, rfl, rfl, ⟨hc.1, by have := hc.2.1; omega, hc.2.2⟩, w _ H Ext.refl s (.int _)⟩
    · cases e
  · cases e
/-! ### comparisons -/
def dLt : D → D → Option D
  | .int a, .int b => some (.bl (decide (a < b)))
  | .str a, .str b => some (.bl (decide (a < b)))
  | _, _ => none
def dLe : D → D → Option D
  | .int a, .int b => some (.bl (decide (a ≤ b)))
  | .str a, .str b => some (.bl (!decide (b < a)))
  | _, _ => none
def dGt : D → D → Option D
  | .int a, .int b => some (.bl (decide (b < a)))
  | .str a, .str b => some (.bl (decide (b < a)))
  | _, _ => none
def dGe : D → D → Option D
  | .int a, .int b => some (.bl (decide (b ≤ a)))
  | .str a, .str b => some (.bl (!decide (a < b)))
  | _, _ => none
theorem opd_lt : OpD X (compareOp .Lt) dLt := by
  refine ⟨_, op_lt.or op_lt_str, fun G α ow σ H ρ g x y dx dy d Q s rx ry e w => ?_⟩
  unfold dLt at e
  split at e
  · cases e
    rw [rx.int, ry.int]
    exact .inl ⟨_, _, rfl, rfl, w _ H Ext.refl s (.bl _)⟩
  · cases e
    rw [rx.str, ry.str]
    refine .inr ⟨_, _, rfl, rfl, ?_⟩
    rw [S_list, S_list]
    exact w _ H Ext.refl s (.bl _)
  · cases e
theorem opd_le : OpD X (compareOp .LtE) dLe := by
  refine ⟨_, op_le.or op_le_str, fun G α ow σ H ρ g x y dx dy d Q s rx ry e w => ?_⟩
  unfold dLe at e
  split at e
  · cases e
    rw [rx.int, ry.int]
    exact .inl ⟨_, _, rfl, rfl, w _ H Ext.refl s (.bl _)⟩
  · cases e
    rw [rx.str, ry.str]
    refine .inr ⟨_, _, rfl, rfl, ?_⟩
    rw [S_list, S_list]
    exact w _ H Ext.refl s (.bl _)
  · cases e
theorem opd_gt : OpD X (compareOp .Gt) dGt := by
  refine ⟨_, op_gt.or op_gt_str, fun G α ow σ H ρ g x y dx dy d Q s rx ry e w => ?_⟩
  unfold dGt at e
  split at e
  · cases e
    rw [rx.int, ry.int]
    exact .inl ⟨_, _, rfl, rfl, w _ H Ext.refl s (.bl _)⟩
  · cases e
    rw [rx.str, ry.str]
    refine .inr ⟨_, _, rfl, rfl, ?_⟩
    rw [S_list, S_list]
    exact w _ H Ext.refl s (.bl _)
  · cases e
theorem opd_ge : OpD X (compareOp .GtE) dGe := by
  refine ⟨_, op_ge.or op_ge_str, fun G α ow σ H ρ g x y dx dy d Q s rx ry e w => ?_⟩
  unfold dGe at e
  split at e
  · cases e
    rw [rx.int, ry.int]
    exact .inl ⟨_, _, rfl, rfl, w _ H Ext.refl s (.bl _)⟩
  · cases e
    rw [rx.str, ry.str]
    refine .inr ⟨_, _, rfl, rfl, ?_⟩
    rw [S_list, S_list]
    exact w _ H Ext.refl s (.bl _)
  · cases e
end
end L3

/-! L3g: ==, in, is, subscripts, slices. -/
namespace L3
open PySem PySem.Spec PyProof.Rows L2

mutual
def toPy : D → Option PyData
  | .non => some .none
  | .bl b => some (.bool b)
  | .int i => some (.int i)
  | .str s => some (.str (S s))
  | .lst xs => (toPys xs).map .list
  | .tup xs => (toPys xs).map .tuple
  | .dic _ => none
  | .obj _ => none
  | .sta _ => none
def toPys : List D → Option (List PyData)
  | [] => some []
  | x :: xs => match toPy x, toPys xs with
    | some a, some b => some (a :: b)
    | _, _ => none
end
theorem toPys_len : ∀ {ds : List D} {ps : List PyData}, toPys ds = some ps → ps.length = ds.length := by
  intro ds
  induction ds with
  | nil => intro ps h; simp only [toPys, Option.some.injEq] at h; subst h; rfl
  | cons x r ih =>
    intro ps h
    simp only [toPys] at h
    split at h
    · rename_i a b h1 h2
      cases h
      simp [ih h2]
    · cases h
theorem dpAll_of {K : PySem.W.Frag} {H : Hp} : ∀ {ds : List D} {xs : List V} {ps : List PyData}, toPys ds = some ps → xs.length = ds.length → (∀ (i : Nat) v d, xs[i]? = some v → ds[i]? = some d → ∀ p, toPy d = some p → Dp K H v p) → DpAll K H xs ps := by
  intro ds
  induction ds with
  | nil =>
    intro xs ps h hl _
    simp only [toPys, Option.some.injEq] at h
    subst h
    cases xs with
    | nil => exact .nil
    | cons x r => simp at hl
  | cons d r ih =>
    intro xs ps h hl hi
    simp only [toPys] at h
    split at h
    · rename_i a b h1 h2
      cases h
      cases xs with
      | nil => simp at hl
      | cons x xr => exact .cons (hi 0 x d rfl rfl a h1) (ih h2 (by simpa using hl) fun i v d' e1 e2 => hi (i + 1) v d' (by simpa using e1) (by simpa using e2))
    · cases h
theorem Rep.dp {A : Addr → Prop} {α : List Addr} {K : PySem.W.Frag} {H : Hp} {v : V} {d : D} (h : Rep A α K H v d) : ∀ p, toPy d = some p → Dp K H v p := by
  induction h with
  | non => intro p e; simp only [toPy, Option.some.injEq] at e; subst e; exact .non
  | bl b => intro p e; simp only [toPy, Option.some.injEq] at e; subst e; exact .bl b
  | int i => intro p e; simp only [toPy, Option.some.injEq] at e; subst e; exact .int i
  | str s => intro p e; simp only [toPy, Option.some.injEq] at e; subst e; exact .str _
  | lst hA h hl _ ih =>
    intro p e
    simp only [toPy, Option.map_eq_some_iff] at e
    obtain ⟨ps, e1, rfl⟩ := e
    exact .lst (.inl h) (dpAll_of e1 hl ih)
  | tup h hl _ ih =>
    intro p e
    simp only [toPy, Option.map_eq_some_iff] at e
    obtain ⟨ps, e1, rfl⟩ := e
    exact .tup h.sq (dpAll_of e1 hl ih)
  | dic => intro p e; simp only [toPy] at e; cases e
  | obj => intro p e; simp only [toPy] at e; cases e
  | sta => intro p e; simp only [toPy] at e; cases e
theorem BRep.dp {B : Addr → Prop} {α : List Addr} {ow : Nat → Option Addr} {K : PySem.W.Frag} {H : Hp} {v : V} {d : D} (h : BRep B α ow K H v d) : ∀ p, toPy d = some p → Dp K H v p := by
  cases h with
  | of h => exact h.dp
  | own h hn ho r =>
    intro p e
    simp only [toPy, Option.map_eq_some_iff] at e
    obtain ⟨ps, e1, rfl⟩ := e
    exact .lst (.inl (.inl ho)) (dpAll_of e1 r.1 fun i v d e1 e2 => (r.2 i v d e1 e2).dp)
  | ownd => intro p e; simp only [toPy] at e; cases e

def dEqP (x y : D) : Option Bool := match toPy x, toPy y with
  | some p, some q => if SeqAt.shaped p = true ∧ SeqAt.shaped q = true then some (PyData.eqv p q) else none
  | _, _ => none
def dEqB : D → D → Option Bool
  | .int a, .int b => some (decide (a = b))
  | .str a, .str b => some (decide (a = b))
  | .bl a, .bl b => some (decide (a = b))
  | .non, .non => some true
  | .non, .str _ => some false
  | .str _, .non => some false
  | .non, .int _ => some false
  | .int _, .non => some false
  | x, y => dEqP x y
def dEq (x y : D) : Option D := (dEqB x y).map .bl
def dNe (x y : D) : Option D := (dEqB x y).map fun b => .bl (!b)
section
variable {X : Cx}
theorem dEqB_read {B : Addr → Prop} {α : List Addr} {ow : Nat → Option Addr} {K : PySem.W.Frag} {H : Hp} {x y : V} {dx dy : D} {b : Bool} (rx : BRep B α ow K H x dx) (ry : BRep B α ow K H y dy) (e : dEqB dx dy = some b) :
    (scal x y = true ∧ decide (x = y) = b) ∨ ∃ p q, Dp K H x p ∧ Dp K H y q ∧ SeqAt.shaped p = true ∧ SeqAt.shaped q = true ∧ PyData.eqv p q = b := by
  unfold dEqB at e
  split at e
  · cases e; rw [rx.int, ry.int]; exact .inl ⟨rfl, by simp⟩
  · cases e; rw [rx.str, ry.str]; exact .inl ⟨rfl, by rw [decide_eq_decide]; exact ⟨fun h => S_inj (V.str.inj h), fun h => by rw [h]⟩⟩
  · cases e; rw [rx.bl, ry.bl]; exact .inl ⟨rfl, by simp⟩
  · cases e; rw [rx.non, ry.non]; exact .inl ⟨rfl, by simp⟩
  · cases e; rw [rx.non, ry.str]; exact .inl ⟨rfl, by simp⟩
  · cases e; rw [rx.str, ry.non]; exact .inl ⟨rfl, by simp⟩
  · cases e; rw [rx.non, ry.int]; exact .inl ⟨rfl, by simp⟩
  · cases e; rw [rx.int, ry.non]; exact .inl ⟨rfl, by simp⟩
  · unfold dEqP at e
    split at e
    · rename_i p q h1 h2
      split at e
      · rename_i hs
        cases e
        exact .inr ⟨p, q, rx.dp p h1, ry.dp q h2, hs.1, hs.2, rfl⟩
      · cases e
    · cases e
theorem opd_eq (hu : X.A.units + 64 < cLine) : OpD X (compareOp .Eq) dEq := by
  refine ⟨_, op_eq.or (op_eqD hu), fun G α ow σ H ρ g x y dx dy d Q s rx ry e w => ?_⟩
  unfold dEq at e
  rw [Option.map_eq_some_iff] at e
  obtain ⟨b, e, rfl⟩ := e
  rcases dEqB_read rx ry e with ⟨h1, h2⟩ | ⟨p, q, h1, h2, h3, h4, h5⟩
  · exact .inl ⟨h1, by rw [h2]; exact w _ H Ext.refl s (.bl _)⟩
  · exact .inr ⟨p, q, h1, h2, h3, h4, by rw [h5]; exact w _ H Ext.refl s (.bl _)⟩
theorem opd_ne (hu : X.A.units + 64 < cLine) : OpD X (compareOp .NotEq) dNe := by
  refine ⟨_, op_ne.or (op_neD hu), fun G α ow σ H ρ g x y dx dy d Q s rx ry e w => ?_⟩
  unfold dNe at e
  rw [Option.map_eq_some_iff] at e
  obtain ⟨b, e, rfl⟩ := e
  rcases dEqB_read rx ry e with ⟨h1, h2⟩ | ⟨p, q, h1, h2, h3, h4, h5⟩
  · exact .inl ⟨h1, by rw [h2]; exact w _ H Ext.refl s (.bl _)⟩
  · exact .inr ⟨p, q, h1, h2, h3, h4, by rw [h5]; exact w _ H Ext.refl s (.bl _)⟩
/-! is None -/
def isNon : D → Bool
  | .non => true
  | _ => false
def dIs : D → D → Option D
  | x, .non => some (.bl (isNon x))
  | _, _ => none
def dIsNot : D → D → Option D
  | x, .non => some (.bl (!isNon x))
  | _, _ => none
theorem BRep.isNon {B : Addr → Prop} {α : List Addr} {ow : Nat → Option Addr} {K : PySem.W.Frag} {H : Hp} {x : V} {d : D} (h : BRep B α ow K H x d) : decide (x = .non) = isNon d := by
  cases h with
  | of h => cases h <;> simp [L3.isNon]
  | own => simp [L3.isNon]
  | ownd => simp [L3.isNon]
theorem opd_is : OpD X (compareOp .Is) dIs := by
  refine ⟨_, op_isN, fun G α ow σ H ρ g x y dx dy d Q s rx ry e w => ?_⟩
  unfold dIs at e
  split at e
  · cases e
    refine ⟨ry.non, ?_⟩
    rw [rx.isNon]
    exact w _ H Ext.refl s (.bl _)
  · cases e
theorem opd_isnot : OpD X (compareOp .IsNot) dIsNot := by
  refine ⟨_, op_notN, fun G α ow σ H ρ g x y dx dy d Q s rx ry e w => ?_⟩
  unfold dIsNot at e
  split at e
  · cases e
    refine ⟨ry.non, ?_⟩
    rw [rx.isNon]
    exact w _ H Ext.refl s (.bl _)
  · cases e
/-! in -/
def flatD : D → Bool
  | .non => true | .bl _ => true | .int _ => true | .str _ => true | _ => false
def eqFl : D → D → Bool
  | .non, .non => true
  | .bl a, .bl b => a == b
  | .bl a, .int b => (if a then 1 else 0) == b
  | .int a, .bl b => a == (if b then 1 else 0)
  | .int a, .int b => a == b
  | .str a, .str b => a == b
  | _, _ => false
def inD (x : D) (xs : List D) : Bool := xs.any fun y => eqFl y x
def dInB : D → D → Option Bool
  | .str [c], .str z => some (decide (c ∈ z))
  | x, .lst xs => if flatD x = true ∧ xs.all flatD = true then some (inD x xs) else none
  | x, .tup xs => if flatD x = true ∧ xs.all flatD = true then some (inD x xs) else none
  | _, _ => none
def dIn (x y : D) : Option D := (dInB x y).map .bl
def dNotIn (x y : D) : Option D := (dInB x y).map fun b => .bl (!b)
theorem Rep.flat {A : Addr → Prop} {α : List Addr} {K : PySem.W.Frag} {H : Hp} {v : V} {d : D} (h : Rep A α K H v d) (hf : flatD d = true) : flatV v = true := by
  cases h <;> first | rfl | cases hf
theorem Rep.eqFl {A A' : Addr → Prop} {α α' : List Addr} {K : PySem.W.Frag} {H : Hp} {v w : V} {d e : D} (h : Rep A α K H v d) (h2 : Rep A' α' K H w e) (hf : flatD d = true) (hg : flatD e = true) : eqV v w = L3.eqFl d e := by
  cases h <;> first | (exfalso; exact Bool.false_ne_true hf) | (cases h2 <;> first | (exfalso; exact Bool.false_ne_true hg) | rfl | (simp only [eqV, L3.eqFl]; rw [Bool.eq_iff_iff, beq_iff_eq, beq_iff_eq]; exact ⟨S_inj, fun h => by rw [h]⟩))
theorem RepAll.inV {A A' : Addr → Prop} {α α' : List Addr} {K : PySem.W.Frag} {H : Hp} {x : V} {d : D} (hx : Rep A' α' K H x d) (hf : flatD d = true) : ∀ {vs : List V} {ds : List D}, RepAll A α K H vs ds → ds.all flatD = true → vs.all flatV = true ∧ inV x vs = inD d ds
  | [], ds, r, _ => by
    have : ds = [] := List.eq_nil_of_length_eq_zero r.1.symm
    subst this
    exact ⟨rfl, rfl⟩
  | v :: vs, [], r, _ => absurd r.1 (by simp)
  | v :: vs, e :: ds, r, hg => by
    obtain ⟨v', r', ev, h1, h2⟩ := r.uncons
    cases ev
    simp only [List.all_cons, Bool.and_eq_true] at hg
    obtain ⟨i1, i2⟩ := RepAll.inV hx hf h2 hg.2
    refine ⟨by simp [h1.flat hg.1, i1], ?_⟩
    unfold L2.inV inD at *
    rw [List.any_cons, List.any_cons, i2, h1.eqFl hx hg.1 hf]
theorem flat_rep {B : Addr → Prop} {α : List Addr} {ow : Nat → Option Addr} {K : PySem.W.Frag} {H : Hp} {x : V} {d : D} (h : BRep B α ow K H x d) (hf : flatD d = true) : Rep (Al B α ow) α K H x d := by
  cases h with
  | of h => exact h
  | own => cases hf
  | ownd => cases hf
theorem dInB_read {B : Addr → Prop} {α : List Addr} {ow : Nat → Option Addr} {K : PySem.W.Frag} {H : Hp} {x y : V} {dx dy : D} {b : Bool} (rx : BRep B α ow K H x dx) (ry : BRep B α ow K H y dy) (e : dInB dx dy = some b) :
    (∃ (c : Nat) (z : Str), x = .str ⟨#[c]⟩ ∧ y = .str z ∧ decide (c ∈ z.cps.toList) = b) ∨ ∃ p xs, y = .ref p ∧ (SqL K H p xs ∨ SqT K H p xs) ∧ flatV x = true ∧ xs.all flatV = true ∧ inV x xs = b := by
  unfold dInB at e
  split at e
  · cases e
    rw [rx.str, ry.str]
    exact .inl ⟨_, _, rfl, rfl, by rw [S_list]⟩
  · split at e
    · rename_i hf
      cases e
      obtain ⟨a, vs, rfl, h1, h2⟩ := ry.lst
      have hx := flat_rep rx hf.1
      obtain ⟨i1, i2⟩ := RepAll.inV hx hf.1 h2 hf.2
      exact .inr ⟨a, vs, rfl, .inl (.inl h1), hx.flat hf.1, i1, i2⟩
    · cases e
  · split at e
    · rename_i hf
      cases e
      obtain ⟨a, vs, rfl, h1, h2⟩ := ry.tup
      have hx := flat_rep rx hf.1
      obtain ⟨i1, i2⟩ := RepAll.inV hx hf.1 h2 hf.2
      exact .inr ⟨a, vs, rfl, .inr h1, hx.flat hf.1, i1, i2⟩
    · cases e
  · cases e
theorem opd_in : OpD X (compareOp .In) dIn := by
  refine ⟨_, op_in_sign.or op_in_seq, fun G α ow σ H ρ g x y dx dy d Q s rx ry e w => ?_⟩
  unfold dIn at e
  rw [Option.map_eq_some_iff] at e
  obtain ⟨b, e, rfl⟩ := e
  rcases dInB_read rx ry e with ⟨c, z, h1, h2, h3⟩ | ⟨p, xs, h1, h2, h3, h4, h5⟩
  · exact .inl ⟨c, z, h1, h2, by rw [h3]; exact w _ H Ext.refl s (.bl _)⟩
  · exact .inr ⟨p, xs, h1, h2, h3, h4, by rw [if_neg (by decide), h5]; exact w _ H Ext.refl s (.bl _)⟩
theorem opd_notin : OpD X (compareOp .NotIn) dNotIn := by
  refine ⟨_, op_notIn_sign.or op_notIn_seq, fun G α ow σ H ρ g x y dx dy d Q s rx ry e w => ?_⟩
  unfold dNotIn at e
  rw [Option.map_eq_some_iff] at e
  obtain ⟨b, e, rfl⟩ := e
  rcases dInB_read rx ry e with ⟨c, z, h1, h2, h3⟩ | ⟨p, xs, h1, h2, h3, h4, h5⟩
  · exact .inl ⟨c, z, h1, h2, by rw [h3]; exact w _ H Ext.refl s (.bl _)⟩
  · exact .inr ⟨p, xs, h1, h2, h3, h4, by rw [if_pos rfl, h5]; exact w _ H Ext.refl s (.bl _)⟩
end
end L3

/-! L3h: subscripts, slices, chains, truth, built-in calls. -/
namespace L3
open PySem PySem.Spec PyProof.Rows L2

theorem RepAll.atI {A : Addr → Prop} {α : List Addr} {K : PySem.W.Frag} {H : Hp} {vs : List V} {ds : List D} {i : Int} {d : D} (h : RepAll A α K H vs ds) (e : atI ds i = some d) : ∃ v, atI vs i = some v ∧ Rep A α K H v d := by
  unfold L2.atI at e ⊢
  rw [h.1]
  cases q : ixN ds.length i with
  | none => rw [q] at e; cases e
  | some j =>
    rw [q] at e
    exact h.get e
def cutL {β : Type} (xs : List β) (lo hi : Option Int) : List β := (xs.drop (HT.sIx xs.length 0 lo)).take (HT.sIx xs.length xs.length hi - HT.sIx xs.length 0 lo)
theorem RepAll.cut {A : Addr → Prop} {α : List Addr} {K : PySem.W.Frag} {H : Hp} {vs : List V} {ds : List D} (lo hi : Option Int) (h : RepAll A α K H vs ds) : RepAll A α K H (cutV vs lo hi) (cutL ds lo hi) := by
  unfold cutV cutL
  rw [h.1]
  exact (h.drop _).take _
theorem cutS_S (s : List Nat) (lo hi : Option Int) : cutS (S s) lo hi = S (cutL s lo hi) := by
  unfold cutS cutL
  rw [S_list, S_len]
  rfl
def dIx : D → D → Option D
  | .lst xs, .int i => atI xs i
  | .tup xs, .int i => atI xs i
  | .str s, .int i => if s.length ≤ BIG then (atI s i).map fun c => .str [c] else none
  | _, _ => none
section
variable {X : Cx} {a b c : Expr} {fa fb fc : DE} {pos : Pos}
def IxD (X : Cx) (op : D → D → Option D) : Prop := ∃ r, IxR X r ∧ ∀ G α ow σ H ρ g x y dx dy d Q, Sat X.K G α ow σ H ρ g → BRep G.B α ow X.K H x dx → BRep G.B α ow X.K H y dy →
  op dx dy = some d → Wants X.K G α ow σ H ρ g d Q → r x y H Q
theorem ixd : IxD X dIx := by
  refine ⟨_, ix_list.or (ix_tup.or ix_str), fun G α ow σ H ρ g x y dx dy d Q s rx ry e w => ?_⟩
  unfold dIx at e
  split at e
  · obtain ⟨p, vs, rfl, h1, h2⟩ := rx.lst
    obtain ⟨v, e2, r2⟩ := h2.atI e
    rw [ry.int]
    exact .inl ⟨p, vs, _, v, rfl, rfl, .inl h1, e2, w _ H Ext.refl s r2⟩
  · obtain ⟨p, vs, rfl, h1, h2⟩ := rx.tup
    obtain ⟨v, e2, r2⟩ := h2.atI e
    rw [ry.int]
    exact .inr (.inl ⟨p, vs, _, v, rfl, rfl, h1, e2, w _ H Ext.refl s r2⟩)
  · split at e
    · rename_i hl
      rw [Option.map_eq_some_iff] at e
      obtain ⟨k, e, rfl⟩ := e
      rw [rx.str, ry.int]
      refine .inr (.inr ⟨_, _, k, rfl, rfl, by rw [S_len]; exact Nat.le_trans hl big_line, by rw [S_list]; exact e, w _ H Ext.refl s (.str [k])⟩)
    · cases e
  · cases e
theorem ec_ix {op : D → D → Option D} (ho : IxD X op) (ha : EB X a fa) (hb : EB X b fb) (hs : PlainIx b := by exact fun _ _ => rfl) : EC X (.Subscript a b pos) (eOp op fa fb) := by
  obtain ⟨r, hr, hq⟩ := ho
  obtain ⟨ta, pa, ha⟩ := ha
  obtain ⟨tb, pb, hb⟩ := hb
  refine ⟨_, pe_ix hr pa pb hs, fun G α ow σ H ρ g d g' Q s e w => ?_⟩
  exact eb_bin ha hb s e fun x y dx dy H' α' x1 s1 r1 r2 e2 => hq G α' ow σ H' ρ g' x y dx dy d Q s1 r1 r2 e2 fun v H2 x2 s2 r => w v H2 α' (x1.trans x2) s2 r

/-! ### slices -/
abbrev DO := M (Option Int)
def oNone : DO := fun _ g => some (none, g)
def oSome (f : DE) : DO := bindM f fun x => liftM (match x with | .int i => some (some i) | _ => none)
def OC (X : Cx) (e : Option Expr) (f : DO) : Prop := ∃ t, PO X e t ∧ ∀ G α ow σ H ρ g o g' Q, Sat X.K G α ow σ H ρ g → f ρ g = some (o, g') → (∀ H' α', Ext α H α' H' → Sat X.K G α' ow σ H' ρ g' → Q o H') → t σ H Q
theorem oc_none : OC X none oNone := ⟨_, po_none, fun G α ow σ H ρ g o g' Q s e w => by cases e; exact w H α Ext.refl s⟩
theorem oc_some (h : EC X a fa) : OC X (some a) (oSome fa) := by
  obtain ⟨t, pt, hq⟩ := h
  refine ⟨_, po_some pt, fun G α ow σ H ρ g o g' Q s e w => ?_⟩
  obtain ⟨x, g1, e1, e2⟩ := bindM_some e
  obtain ⟨e3, rfl⟩ := liftM_some e2
  split at e3
  · cases e3
    refine hq G α ow σ H ρ g _ g1 _ s e1 fun v H' α' x s' r => ?_
    cases r
    exact ⟨_, rfl, w H' α' x s'⟩
  · cases e3
def eSl (φ : D → Option Int → Option Int → Option D) (f : DE) (lo hi : DO) : DE := bindM f fun x => bindM lo fun l => bindM hi fun h => liftM (φ x l h)
def aSl (f : DE) (lo hi : DO) : DA := bindM f fun x => bindM lo fun l => bindM hi fun h => liftM (match x with | .lst xs => some (cutL xs l h) | _ => none)
def dSl : D → Option Int → Option Int → Option D
  | .str s, l, h => if s.length ≤ BIG then some (.str (cutL s l h)) else none
  | .lst xs, l, h => some (.lst (cutL xs l h))
  | .tup xs, l, h => some (.tup (cutL xs l h))
  | _, _, _ => none
theorem cut_whole {β : Type} {xs : List β} {lo hi : Option Int} (h : HT.sIx xs.length 0 lo = 0 ∧ HT.sIx xs.length xs.length hi = xs.length) : cutL xs lo hi = xs := by
  unfold cutL
  rw [h.1, h.2]
  simp
theorem ec_slice {lo hi : Option Expr} {fl fh : DO} {p2 : Pos} (ha : EB X a fa) (hl : OC X lo fl) (hh : OC X hi fh) : EC X (.Subscript a (.Slice lo hi none p2) pos) (eSl dSl fa fl fh) := by
  obtain ⟨t, pt, hq⟩ := ha
  obtain ⟨tl, pl, ql⟩ := hl
  obtain ⟨th, ph, qh⟩ := hh
  refine ⟨_, pe_slice (sl_str.or (sl_list.or sl_tupA)) pt pl ph, fun G α ow σ H ρ g d g' Q s e w => ?_⟩
  obtain ⟨x, g1, e1, e2⟩ := bindM_some e
  obtain ⟨l, g2, e3, e4⟩ := bindM_some e2
  obtain ⟨h, g3, e5, e6⟩ := bindM_some e4
  obtain ⟨e7, rfl⟩ := liftM_some e6
  refine hq G α ow σ H ρ g x g1 _ s e1 fun v H1 α1 x1 s1 r1 => ?_
  refine ql G α1 ow σ H1 ρ g1 l g2 _ s1 e3 fun H2 α2 x2 s2 => ?_
  refine qh G α2 ow σ H2 ρ g2 h g3 _ s2 e5 fun H3 α3 x3 s3 => ?_
  have r3 := (r1.ext x2).ext x3
  have xx := (x1.trans x2).trans x3
  unfold dSl at e7
  split at e7
  · split at e7
    · rename_i hb
      cases e7
      rw [r3.str]
      exact .inl ⟨_, rfl, by rw [S_len]; exact Nat.le_trans hb big_line, by rw [cutS_S]; exact w _ H3 α3 xx s3 (.str _)⟩
    · cases e7
  · cases e7
    obtain ⟨p, vs, rfl, h1, h2⟩ := r3.lst
    exact .inr (.inl ⟨p, vs, rfl, .inl h1, fun q hq => w _ _ α3 (xx.trans (Ext.new hq)) (s3.new hq) (s3.newL hq (h2.cut l h))⟩)
  · cases e7
    obtain ⟨p, vs, rfl, h1, h2⟩ := r3.tup
    refine .inr (.inr ⟨p, vs, rfl, h1, fun hw => ?_, fun hw q hq => w _ _ α3 (xx.trans (Ext.new hq)) (s3.new hq) (s3.newT hq (h2.cut l h))⟩)
    rw [h2.1] at hw
    rw [cut_whole hw] at w
    cases r3 with
    | of r3 => exact w _ H3 α3 xx s3 r3
  · cases e7
theorem ef_slice {lo hi : Option Expr} {fl fh : DO} {p2 : Pos} (ha : EB X a fa) (hl : OC X lo fl) (hh : OC X hi fh) : EF X (.Subscript a (.Slice lo hi none p2) pos) (aSl fa fl fh) := by
  obtain ⟨t, pt, hq⟩ := ha
  obtain ⟨tl, pl, ql⟩ := hl
  obtain ⟨th, ph, qh⟩ := hh
  refine ⟨_, pe_slice sl_list pt pl ph, fun G α ow σ H ρ g d g' Q s e w => ?_⟩
  obtain ⟨x, g1, e1, e2⟩ := bindM_some e
  obtain ⟨l, g2, e3, e4⟩ := bindM_some e2
  obtain ⟨h, g3, e5, e6⟩ := bindM_some e4
  obtain ⟨e7, rfl⟩ := liftM_some e6
  refine hq G α ow σ H ρ g x g1 _ s e1 fun v H1 α1 x1 s1 r1 => ?_
  refine ql G α1 ow σ H1 ρ g1 l g2 _ s1 e3 fun H2 α2 x2 s2 => ?_
  refine qh G α2 ow σ H2 ρ g2 h g3 _ s2 e5 fun H3 α3 x3 s3 => ?_
  have r3 := (r1.ext x2).ext x3
  have xx := (x1.trans x2).trans x3
  split at e7
  · cases e7
    obtain ⟨p, vs, rfl, h1, h2⟩ := r3.lst
    exact ⟨p, vs, rfl, .inl h1, fun q hq => w q _ H3 α3 xx s3 hq (h2.cut l h) _ rfl⟩
  · cases e7
/-! ### a < b < c -/
def eChain (o o' : D → D → Option D) (a b c : DE) : DE := bindM a fun x => bindM b fun y => bindM (liftM (o x y)) fun z => match z with
  | .bl true => bindM c fun u => liftM (o' y u)
  | .bl false => eC (.bl false)
  | _ => fun _ _ => none
theorem ec_chain {op op' : CmpOp} {o o' : D → D → Option D} (ho : OpD X (compareOp op) o) (ho' : OpD X (compareOp op') o') (ha : EB X a fa) (hb : EB X b fb) (hc : EB X c fc)
    (hm : lastMarks [op, op'] [b, c] = false := by with_unfolding_all rfl) : EC X (.Compare a [op, op'] [b, c] pos) (eChain o o' fa fb fc) := by
  obtain ⟨r, hr, hq⟩ := ho
  obtain ⟨r', hr', hq'⟩ := ho'
  obtain ⟨ta, pa, ha⟩ := ha
  obtain ⟨tb, pb, hb⟩ := hb
  obtain ⟨tc, pc, hc⟩ := hc
  refine ⟨_, pe_chain hr hr' pa pb pc hm, fun G α ow σ H ρ g d g' Q s e w => ?_⟩
  obtain ⟨x, g1, e1, e2⟩ := bindM_some e
  obtain ⟨y, g2, e3, e4⟩ := bindM_some e2
  obtain ⟨z, g3, e5, e6⟩ := bindM_some e4
  obtain ⟨e7, rfl⟩ := liftM_some e5
  refine ha G α ow σ H ρ g x g1 _ s e1 fun v H1 α1 x1 s1 r1 => ?_
  refine hb G α1 ow σ H1 ρ g1 y g2 _ s1 e3 fun u H2 α2 x2 s2 r2 => ?_
  refine hq G α2 ow σ H2 ρ g2 v u x y z _ s2 (r1.ext x2) r2 e7 fun k H3 x3 s3 r3 => ?_
  split at e6
  · cases r3
    refine ⟨_, rfl, ?_⟩
    rw [if_pos rfl]
    obtain ⟨u', g4, e8, e9⟩ := bindM_some e6
    obtain ⟨e10, rfl⟩ := liftM_some e9
    refine hc G α2 ow σ H3 ρ g2 u' g4 _ s3 e8 fun q H4 α4 x4 s4 r4 => ?_
    exact hq' G α4 ow σ H4 ρ g4 u q y u' d Q s4 ((r2.ext x3).ext x4) r4 e10 fun v5 H5 x5 s5 r5 => w v5 H5 α4 ((((x1.trans x2).trans x3).trans x4).trans x5) s5 r5
  · cases r3
    cases e6
    refine ⟨_, rfl, ?_⟩
    rw [if_neg (by decide)]
    exact w _ H3 α2 ((x1.trans x2).trans x3) s3 (.bl _)
  · cases e6
/-! ### truth of any value -/
def truD : D → Option Bool
  | .non => some false
  | .bl b => some b
  | .int i => some (i != 0)
  | .str s => if s.length ≤ BIG then some (!s.isEmpty) else none
  | .lst xs => some (!xs.isEmpty)
  | .tup xs => some (!xs.isEmpty)
  | _ => none
def tTru (f : DE) : DT := bindM f fun x => liftM (truD x)
theorem isEmpty_len {A : Addr → Prop} {α : List Addr} {K : PySem.W.Frag} {H : Hp} {vs : List V} {ds : List D} (h : RepAll A α K H vs ds) : (!ds.isEmpty) = !vs.isEmpty := by
  have := h.1
  cases vs <;> cases ds <;> simp_all
theorem truD_read {B : Addr → Prop} {α : List Addr} {ow : Nat → Option Addr} {K : PySem.W.Frag} {H : Hp} {x : V} {d : D} {k : Bool} (r : BRep B α ow K H x d) (e : truD d = some k) : TruV K x H k := by
  unfold truD at e
  split at e
  · cases e; rw [r.non]; rfl
  · cases e; rw [r.bl]; rfl
  · cases e; rw [r.int]; rfl
  · split at e
    · rename_i z hl
      cases e
      rw [r.str]
      refine ⟨by rw [S_len]; exact Nat.le_trans hl big_line, ?_⟩
      rw [S_len]
      cases z with
      | nil => rfl
      | cons c t =>
        rw [List.length_cons]
        simp only [List.isEmpty_cons, Bool.not_false]
        symm
        rw [bne_iff_ne]
        omega
    · cases e
  · cases e
    obtain ⟨p, vs, rfl, h1, h2⟩ := r.lst
    exact .inl ⟨vs, .inl h1, isEmpty_len h2⟩
  · cases e
    obtain ⟨p, vs, rfl, h1, h2⟩ := r.tup
    exact .inr (.inl ⟨vs, h1, isEmpty_len h2⟩)
  · cases e
theorem tc_tru (h : EB X a fa) (he : ∀ whole, isTrue a X.env whole = (do let v ← whole; standAt a.pos; holding [v] (truthy v)) := by intro _; rfl) : TC X a (tTru fa) := by
  obtain ⟨t, pt, hq⟩ := h
  refine ⟨_, pt_truth pt he, fun G α ow σ H ρ g k g' Q s e w => ?_⟩
  obtain ⟨d, g1, e1, e2⟩ := bindM_some e
  obtain ⟨e3, rfl⟩ := liftM_some e2
  exact hq G α ow σ H ρ g d g1 _ s e1 fun v H2 α2 x2 s2 r => ⟨k, truD_read r e3, w H2 α2 x2 s2⟩
end

/-! ### calls of built-ins -/
def CallD (X : Cx) (f : Value) (φ : List D → Option D) : Prop := ∃ r, CallR X f r ∧ ∀ G α ow σ H ρ g vs ds d Q, Sat X.K G α ow σ H ρ g → BRepAll G.B α ow X.K H vs ds → φ ds = some d → Wants X.K G α ow σ H ρ g d Q → r vs H Q
def CallF (X : Cx) (f : Value) (φ : List D → Option (List D)) : Prop := ∃ r, CallR X f r ∧ ∀ G α ow σ H ρ g vs ds d (Q : VK), Sat X.K G α ow σ H ρ g → BRepAll G.B α ow X.K H vs ds → φ ds = some d →
  (∀ p us, H p = none → RepAll (Al G.B α ow) α X.K H us d → Q (.ref p) (upd H p (.lst us))) → r vs H Q
section
variable {X : Cx} {x : Str} {p pos : Pos} {e : Expr} {es : List Expr} {fs : DA} {id T : String}
theorem ec_callB {φ : List D → Option D} (hc : CallD X (.builtin id) φ) (hm : X.mg x = none) (hv : bootBuiltins x = some (.builtin id)) (ha : AB X (e :: es) fs) (hg : Gl X x := by rfl) (hn : x ≠ "__name__" := by decide) (hdb : (x == ("__debug__" : Str)) = false := by decide)
    (he : starEach (e :: es) X.env = (false, eval e X.env) :: starEach es X.env := by rfl) (hpl : (backTo pos (starEach es X.env)).any (·.1) = false := by rfl) : EC X (.Call (.Name x p) (e :: es) [] pos) (eFn φ fs) := by
  obtain ⟨r, hr, hq⟩ := hc
  obtain ⟨t, pt, qa⟩ := ha
  refine ⟨_, pe_callB hr hg hm hv pt hn hdb he hpl, fun G α ow σ H ρ g d g' Q s e w => ?_⟩
  obtain ⟨xs, g1, e1, e2⟩ := bindM_some e
  obtain ⟨e3, rfl⟩ := liftM_some e2
  exact qa G α ow σ H ρ g xs g1 _ s e1 fun vs H1 α1 x1 s1 r1 => hq G α1 ow σ H1 ρ g1 vs xs d Q s1 r1 e3 fun v H2 x2 s2 r2 => w v H2 α1 (x1.trans x2) s2 r2
theorem ec_callT {φ : List D → Option D} (hc : CallD X (.type T) φ) (hm : X.mg x = none) (hv : bootBuiltins x = some (.type T)) (ha : AB X (e :: es) fs) (hg : Gl X x := by rfl) (hn : x ≠ "__name__" := by decide) (hdb : (x == ("__debug__" : Str)) = false := by decide)
    (he : starEach (e :: es) X.env = (false, eval e X.env) :: starEach es X.env := by rfl) (hpl : (backTo pos (starEach es X.env)).any (·.1) = false := by rfl) : EC X (.Call (.Name x p) (e :: es) [] pos) (eFn φ fs) := by
  obtain ⟨r, hr, hq⟩ := hc
  obtain ⟨t, pt, qa⟩ := ha
  refine ⟨_, pe_callTy hr hg hm hv pt hn hdb he hpl, fun G α ow σ H ρ g d g' Q s e w => ?_⟩
  obtain ⟨xs, g1, e1, e2⟩ := bindM_some e
  obtain ⟨e3, rfl⟩ := liftM_some e2
  exact qa G α ow σ H ρ g xs g1 _ s e1 fun vs H1 α1 x1 s1 r1 => hq G α1 ow σ H1 ρ g1 vs xs d Q s1 r1 e3 fun v H2 x2 s2 r2 => w v H2 α1 (x1.trans x2) s2 r2
theorem ef_callB {φ : List D → Option (List D)} (hc : CallF X (.builtin id) φ) (hm : X.mg x = none) (hv : bootBuiltins x = some (.builtin id)) (ha : AB X (e :: es) fs) (hg : Gl X x := by rfl) (hn : x ≠ "__name__" := by decide) (hdb : (x == ("__debug__" : Str)) = false := by decide)
    (he : starEach (e :: es) X.env = (false, eval e X.env) :: starEach es X.env := by rfl) (hpl : (backTo pos (starEach es X.env)).any (·.1) = false := by rfl) : EF X (.Call (.Name x p) (e :: es) [] pos) (aFn φ fs) := by
  obtain ⟨r, hr, hq⟩ := hc
  obtain ⟨t, pt, qa⟩ := ha
  refine ⟨_, pe_callB hr hg hm hv pt hn hdb he hpl, fun G α ow σ H ρ g d g' Q s e w => ?_⟩
  obtain ⟨xs, g1, e1, e2⟩ := bindM_some e
  obtain ⟨e3, rfl⟩ := liftM_some e2
  exact qa G α ow σ H ρ g xs g1 _ s e1 fun vs H1 α1 x1 s1 r1 => hq G α1 ow σ H1 ρ g1 vs xs d Q s1 r1 e3 fun q us hq r2 => w q us H1 α1 x1 s1 hq r2 _ rfl
theorem ef_callT {φ : List D → Option (List D)} (hc : CallF X (.type T) φ) (hm : X.mg x = none) (hv : bootBuiltins x = some (.type T)) (ha : AB X (e :: es) fs) (hg : Gl X x := by rfl) (hn : x ≠ "__name__" := by decide) (hdb : (x == ("__debug__" : Str)) = false := by decide)
    (he : starEach (e :: es) X.env = (false, eval e X.env) :: starEach es X.env := by rfl) (hpl : (backTo pos (starEach es X.env)).any (·.1) = false := by rfl) : EF X (.Call (.Name x p) (e :: es) [] pos) (aFn φ fs) := by
  obtain ⟨r, hr, hq⟩ := hc
  obtain ⟨t, pt, qa⟩ := ha
  refine ⟨_, pe_callTy hr hg hm hv pt hn hdb he hpl, fun G α ow σ H ρ g d g' Q s e w => ?_⟩
  obtain ⟨xs, g1, e1, e2⟩ := bindM_some e
  obtain ⟨e3, rfl⟩ := liftM_some e2
  exact qa G α ow σ H ρ g xs g1 _ s e1 fun vs H1 α1 x1 s1 r1 => hq G α1 ow σ H1 ρ g1 vs xs d Q s1 r1 e3 fun q us hq r2 => w q us H1 α1 x1 s1 hq r2 _ rfl
def dLen : List D → Option D
  | [.str s] => if s.length ≤ BIG then some (.int s.length) else none
  | [.lst xs] => some (.int xs.length)
  | [.tup xs] => some (.int xs.length)
  | _ => none
theorem OrR {f : Value} {r r' : List V → Hp → VK → Prop} (h : CallR X f r) (h' : CallR X f r') : CallR X f (fun xs H Q => r xs H Q ∨ r' xs H Q) := fun pins s σ H xs us Q I rv q => q.elim (h pins s σ H xs us Q I rv) (h' pins s σ H xs us Q I rv)
theorem cd_len : CallD X (.builtin "len") dLen := by
  refine ⟨_, call_len, fun G α ow σ H ρ g vs ds d Q s r e w => ?_⟩
  unfold dLen at e
  split at e
  · split at e
    · rename_i hl
      cases e
      obtain ⟨v, rfl, r1⟩ := BRepAll.one1 r
      rw [r1.str]
      exact ⟨_, _, rfl, ⟨by rw [S_len]; exact Nat.le_trans hl big_line, (S_len _).symm⟩, w _ H Ext.refl s (.int _)⟩
    · cases e
  · cases e
    obtain ⟨v, rfl, r1⟩ := BRepAll.one1 r
    obtain ⟨p, vs, rfl, h1, h2⟩ := r1.lst
    exact ⟨_, _, rfl, .inl ⟨vs, .inl h1, h2.1.symm⟩, w _ H Ext.refl s (.int _)⟩
  · cases e
    obtain ⟨v, rfl, r1⟩ := BRepAll.one1 r
    obtain ⟨p, vs, rfl, h1, h2⟩ := r1.tup
    exact ⟨_, _, rfl, .inr ⟨vs, h1, h2.1.symm⟩, w _ H Ext.refl s (.int _)⟩
  · cases e
/-- a list of bools -/
def bools : List D → Option (List Bool)
  | [] => some []
  | .bl b :: r => (bools r).map (b :: ·)
  | _ => none
theorem bools_rep {A : Addr → Prop} {α : List Addr} {K : PySem.W.Frag} {H : Hp} : ∀ {vs : List V} {ds : List D} {bs : List Bool}, RepAll A α K H vs ds → bools ds = some bs → vs = bs.map V.bl
  | vs, [], bs, r, e => by cases e; exact r.unnil
  | vs, d :: ds, bs, r, e => by
    obtain ⟨v, vr, rfl, h1, h2⟩ := r.uncons
    unfold bools at e
    split at e
    · cases ‹d :: ds = []›
    · rename_i b r' hd
      cases hd
      rw [Option.map_eq_some_iff] at e
      obtain ⟨bs', e, rfl⟩ := e
      cases h1
      rw [List.map_cons, ← bools_rep h2 e]
    · cases e
def dAll : List D → Option D
  | [.lst xs] => (bools xs).map fun bs => .bl (bs.all _root_.id)
  | _ => none
def dAny : List D → Option D
  | [.lst xs] => (bools xs).map fun bs => .bl (bs.any _root_.id)
  | _ => none
theorem cd_all (hc : X.calm = true) : CallD X (.builtin "all") dAll := by
  refine ⟨_, cr_all hc, fun G α ow σ H ρ g vs ds d Q s r e w => ?_⟩
  unfold dAll at e
  split at e
  · rw [Option.map_eq_some_iff] at e
    obtain ⟨bs, e, rfl⟩ := e
    obtain ⟨v, rfl, r1⟩ := BRepAll.one1 r
    obtain ⟨p, vs, rfl, h1, h2⟩ := r1.lst
    rw [bools_rep h2 e] at h1
    exact ⟨p, bs, rfl, .inl h1, w _ H Ext.refl s (.bl _)⟩
  · cases e
theorem cd_any (hc : X.calm = true) : CallD X (.builtin "any") dAny := by
  refine ⟨_, cr_any hc, fun G α ow σ H ρ g vs ds d Q s r e w => ?_⟩
  unfold dAny at e
  split at e
  · rw [Option.map_eq_some_iff] at e
    obtain ⟨bs, e, rfl⟩ := e
    obtain ⟨v, rfl, r1⟩ := BRepAll.one1 r
    obtain ⟨p, vs, rfl, h1, h2⟩ := r1.lst
    rw [bools_rep h2 e] at h1
    exact ⟨p, bs, rfl, .inl h1, w _ H Ext.refl s (.bl _)⟩
  · cases e
def dInt : List D → Option D
  | [.int i] => some (.int i)
  | [.bl b] => some (.int (if b then 1 else 0))
  | [.str s] => if s.length ≤ 640 then (PySem.intText? (S s)).map .int else none
  | _ => none
theorem cd_int : CallD X (.type "int") dInt := by
  refine ⟨_, OrR call_int1 call_int_str, fun G α ow σ H ρ g vs ds d Q s r e w => ?_⟩
  unfold dInt at e
  split at e
  · cases e
    obtain ⟨v, rfl, r1⟩ := BRepAll.one1 r
    rw [r1.int]
    exact .inl (.inl ⟨_, rfl, w _ H Ext.refl s (.int _)⟩)
  · cases e
    obtain ⟨v, rfl, r1⟩ := BRepAll.one1 r
    rw [r1.bl]
    exact .inl (.inr ⟨_, rfl, w _ H Ext.refl s (.int _)⟩)
  · split at e
    · rename_i hl
      rw [Option.map_eq_some_iff] at e
      obtain ⟨n, e, rfl⟩ := e
      obtain ⟨v, rfl, r1⟩ := BRepAll.one1 r
      rw [r1.str]
      exact .inr ⟨_, n, rfl, e, by rw [S_len]; exact hl, w _ H Ext.refl s (.int _)⟩
    · cases e
  · cases e
def strI (n : Int) : List Nat := (toString n : Str).cps.toList
def dStr : List D → Option D
  | [.int n] => if n.natAbs < 10 ^ 60 then some (.str (strI n)) else none
  | _ => none
theorem cd_str : CallD X (.type "str") dStr := by
  refine ⟨_, call_str_int, fun G α ow σ H ρ g vs ds d Q s r e w => ?_⟩
  unfold dStr at e
  split at e
  · split at e
    · rename_i n hl
      cases e
      obtain ⟨v, rfl, r1⟩ := BRepAll.one1 r
      rw [r1.int]
      refine ⟨n, rfl, ?_, ?_⟩
      · by_cases h0 : n.natAbs = 0
        · rw [h0]; decide
        · exact (Nat.log2_lt h0).mpr (Nat.lt_trans hl (Nat.lt_of_lt_of_le (show 10 ^ 60 < 2 ^ 200 by decide) (Nat.pow_le_pow_right (by decide) (by decide))))
      · have := w (.str (S (strI n))) H Ext.refl s (.str _)
        unfold strI at this
        rw [← S_of] at this
        exact this
    · cases e
  · cases e
def aList : List D → Option (List D)
  | [.lst xs] => some xs
  | [.tup xs] => some xs
  | _ => none
theorem cf_list : CallF X (.type "list") aList := by
  refine ⟨_, call_list_of, fun G α ow σ H ρ g vs ds d Q s r e w => ?_⟩
  unfold aList at e
  split at e
  · cases e
    obtain ⟨v, rfl, r1⟩ := BRepAll.one1 r
    obtain ⟨p, vs, rfl, h1, h2⟩ := r1.lst
    exact ⟨p, vs, rfl, .inl (.inl h1), fun l hl => w l vs hl h2⟩
  · cases e
    obtain ⟨v, rfl, r1⟩ := BRepAll.one1 r
    obtain ⟨p, vs, rfl, h1, h2⟩ := r1.tup
    exact ⟨p, vs, rfl, .inr h1, fun l hl => w l vs hl h2⟩
  · cases e
def dTuple : List D → Option D
  | [.lst xs] => some (.tup xs)
  | [.tup xs] => some (.tup xs)
  | _ => none
theorem cd_tuple : CallD X (.type "tuple") dTuple := by
  refine ⟨_, call_tuple_of, fun G α ow σ H ρ g vs ds d Q s r e w => ?_⟩
  unfold dTuple at e
  split at e
  · cases e
    obtain ⟨v, rfl, r1⟩ := BRepAll.one1 r
    obtain ⟨p, vs, rfl, h1, h2⟩ := r1.lst
    exact ⟨p, vs, rfl, .inl ⟨.inl h1, fun l hl => w _ _ (Ext.new hl) (s.new hl) (s.newT hl h2)⟩⟩
  · cases e
    obtain ⟨v, rfl, r1⟩ := BRepAll.one1 r
    obtain ⟨p, vs, rfl, h1, h2⟩ := r1.tup
    refine ⟨p, vs, rfl, .inr ⟨h1, ?_⟩⟩
    cases r1 with
    | of r1 => exact w _ H Ext.refl s r1
  · cases e
end
end L3

/-! L3i: methods of texts, lists joined and repeated, isinstance. -/
namespace L3
open PySem PySem.Spec PyProof.Rows L2 TL

def MtD (X : Cx) (id : String) (φ : D → List D → Option D) : Prop := ∃ r, MtR X id r ∧ ∀ G α ow σ H ρ g x vs dx ds d Q, Sat X.K G α ow σ H ρ g → BRep G.B α ow X.K H x dx → BRepAll G.B α ow X.K H vs ds → φ dx ds = some d → Wants X.K G α ow σ H ρ g d Q → r x vs H Q
def MtF (X : Cx) (id : String) (φ : D → List D → Option (List D)) : Prop := ∃ r, MtR X id r ∧ ∀ G α ow σ H ρ g x vs dx ds d (Q : VK), Sat X.K G α ow σ H ρ g → BRep G.B α ow X.K H x dx → BRepAll G.B α ow X.K H vs ds → φ dx ds = some d →
  (∀ p us, H p = none → RepAll (Al G.B α ow) α X.K H us d → Q (.ref p) (upd H p (.lst us))) → r x vs H Q
def isStr : D → Bool
  | .str _ => true
  | _ => false
def eM1 (φ : D → List D → Option D) (o a : DE) : DE := bindM o fun x => bindM a fun y => liftM (if isStr x then φ x [y] else none)
def aM1 (φ : D → List D → Option (List D)) (o a : DE) : DA := bindM o fun x => bindM a fun y => liftM (if isStr x then φ x [y] else none)
section
variable {X : Cx} {o e : Expr} {fo fe : DE} {id : String} {name : Str} {apos pos : Pos}
theorem isStr_eq {d : D} (h : isStr d = true) : ∃ s, d = .str s := by
  cases d <;> first | exact ⟨_, rfl⟩ | cases h
theorem ec_m1 {φ : D → List D → Option D} (slot : Slot "str" name id) (ty : typeOf (.builtin id) = pure (.type "method_descriptor")) (hm : MtD X id φ) (ho : EB X o fo) (he : EB X e fe)
    (hs : starEach [e] X.env = [(false, eval e X.env)] := by rfl) (hbase : attributeBase o name X.env (eval o X.env) = eval o X.env := by rfl) (hline : (apos.endLine == pos.line) = true := by rfl) :
    EC X (.Call (.Attribute o name apos) [e] [] pos) (eM1 φ fo fe) := by
  obtain ⟨r, hr, hq⟩ := hm
  obtain ⟨t, pt, qo⟩ := ho
  obtain ⟨t2, pt2, qe⟩ := he
  refine ⟨_, pe_m1 slot ty hr pt pt2 hs hbase hline, fun G α ow σ H ρ g d g' Q s e w => ?_⟩
  obtain ⟨x, g1, e1, e2⟩ := bindM_some e
  obtain ⟨y, g2, e3, e4⟩ := bindM_some e2
  obtain ⟨e5, rfl⟩ := liftM_some e4
  split at e5
  · rename_i hi
    obtain ⟨z, rfl⟩ := isStr_eq hi
    refine qo G α ow σ H ρ g _ g1 _ s e1 fun v H1 α1 x1 s1 r1 => ⟨⟨_, r1.str⟩, ?_⟩
    refine qe G α1 ow σ H1 ρ g1 y g2 _ s1 e3 fun u H2 α2 x2 s2 r2 => ?_
    exact hq G α2 ow σ H2 ρ g2 v [u] _ [y] d Q s2 (r1.ext x2) (.cons r2 .nil) e5 fun v3 H3 x3 s3 r3 => w v3 H3 α2 ((x1.trans x2).trans x3) s3 r3
  · cases e5
theorem ef_m1 {φ : D → List D → Option (List D)} (slot : Slot "str" name id) (ty : typeOf (.builtin id) = pure (.type "method_descriptor")) (hm : MtF X id φ) (ho : EB X o fo) (he : EB X e fe)
    (hs : starEach [e] X.env = [(false, eval e X.env)] := by rfl) (hbase : attributeBase o name X.env (eval o X.env) = eval o X.env := by rfl) (hline : (apos.endLine == pos.line) = true := by rfl) :
    EF X (.Call (.Attribute o name apos) [e] [] pos) (aM1 φ fo fe) := by
  obtain ⟨r, hr, hq⟩ := hm
  obtain ⟨t, pt, qo⟩ := ho
  obtain ⟨t2, pt2, qe⟩ := he
  refine ⟨_, pe_m1 slot ty hr pt pt2 hs hbase hline, fun G α ow σ H ρ g d g' Q s e w => ?_⟩
  obtain ⟨x, g1, e1, e2⟩ := bindM_some e
  obtain ⟨y, g2, e3, e4⟩ := bindM_some e2
  obtain ⟨e5, rfl⟩ := liftM_some e4
  split at e5
  · rename_i hi
    obtain ⟨z, rfl⟩ := isStr_eq hi
    refine qo G α ow σ H ρ g _ g1 _ s e1 fun v H1 α1 x1 s1 r1 => ⟨⟨_, r1.str⟩, ?_⟩
    refine qe G α1 ow σ H1 ρ g1 y g2 _ s1 e3 fun u H2 α2 x2 s2 r2 => ?_
    exact hq G α2 ow σ H2 ρ g2 v [u] _ [y] d Q s2 (r1.ext x2) (.cons r2 .nil) e5 fun p us hp r3 => w p us H2 α2 (x1.trans x2) s2 hp r3 _ rfl
  · cases e5
/-! startswith -/
def dStarts : D → List D → Option D
  | .str a, [.str b] => some (.bl (a.take b.length == b))
  | _, _ => none
theorem starts_S (a b : List Nat) : Txt.startswith (S a) (S b) = (a.take b.length == b) := by
  unfold Txt.startswith Builtin.Str.subAt
  rw [S_len, S_len]
  simp only [Nat.zero_add, S]
  rw [Bool.eq_iff_iff]
  simp only [Bool.and_eq_true, decide_eq_true_eq, beq_iff_eq]
  constructor
  · rintro ⟨h1, h2⟩
    have := congrArg Array.toList h2
    simpa using this
  · intro h
    refine ⟨?_, ?_⟩
    · have := congrArg List.length h
      rw [List.length_take] at this
      omega
    · apply Array.ext'
      simpa using h
theorem md_starts : MtD X "str.startswith" dStarts := by
  refine ⟨_, mt_startswith, fun G α ow σ H ρ g x vs dx ds d Q s rx r e w => ?_⟩
  unfold dStarts at e
  split at e
  · cases e
    obtain ⟨v, rfl, r1⟩ := BRepAll.one1 r
    rw [rx.str, r1.str]
    exact ⟨_, _, rfl, rfl, by rw [starts_S]; exact w _ H Ext.refl s (.bl _)⟩
  · cases e
/-! split by one sign -/
def splitC (c : Nat) : List Nat → List (List Nat)
  | [] => [[]]
  | x :: r => if x = c then [] :: splitC c r else match splitC c r with
    | [] => [[x]]
    | p :: ps => (x :: p) :: ps
theorem splitC_ne (c : Nat) : ∀ l, splitC c l ≠ []
  | [] => by simp [splitC]
  | x :: r => by
    unfold splitC
    split
    · simp
    · split <;> simp
theorem spl_one (c : Nat) : ∀ (l acc : List Nat), spl [c] 0 acc l = match splitC c l with
    | [] => [acc]
    | p :: ps => (acc ++ p) :: ps
  | [], acc => by simp [spl, splitC]
  | x :: r, acc => by
    unfold spl splitC TL.pre
    simp only [List.length_singleton, List.take_succ_cons, List.take_zero, beq_iff_eq, List.cons.injEq, and_true]
    by_cases h : x = c
    · rw [if_pos h, if_pos h]
      simp only [Nat.sub_self, List.append_nil]
      rw [spl_one c r []]
      cases q : splitC c r with
      | nil => exact absurd q (splitC_ne c r)
      | cons p ps => simp
    · rw [if_neg h, if_neg h, spl_one c r]
      cases q : splitC c r with
      | nil => exact absurd q (splitC_ne c r)
      | cons p ps => simp
theorem map_tl {l : List Str} {m : List (List Nat)} (h : l.map tl = m) : l = m.map S := by
  subst h
  rw [List.map_map]
  have : ∀ z : Str, (S ∘ tl) z = z := fun z => (S_of z).symm
  rw [List.map_congr_left (fun z _ => this z)]
  simp
theorem split_S (a : List Nat) (c : Nat) (hc : c < 256) : Txt.split (S a) (S [c]) = (splitC c a).map S := by
  apply map_tl
  rw [split_spl (S a) (S [c]) (by simp [tl, S]) ?_]
  · show spl [c] 0 [] (tl (S a)) = _
    rw [show tl (S a) = a from S_list a, spl_one]
    cases q : splitC c a with
    | nil => exact absurd q (splitC_ne c a)
    | cons p ps => simp
  · have : Builtin.Str.strKind (S [c]) = 1 := by
      unfold Builtin.Str.strKind
      rw [if_pos]
      simp [S, hc]
    rw [this]
    unfold Builtin.Str.strKind
    split
    · decide
    · split <;> decide
def aSplit : D → List D → Option (List D)
  | .str a, [.str [c]] => if c < 256 ∧ a.length + 2 ≤ BIG then some ((splitC c a).map .str) else none
  | _, _ => none
theorem repAll_strs {A : Addr → Prop} {α : List Addr} {K : PySem.W.Frag} {H : Hp} : ∀ l : List (List Nat), RepAll A α K H ((l.map S).map V.str) (l.map D.str)
  | [] => RepAll.nil
  | x :: r => RepAll.cons (.str x) (repAll_strs r)
theorem mf_split : MtF X "str.split" aSplit := by
  refine ⟨_, mt_split, fun G α ow σ H ρ g x vs dx ds d Q s rx r e w => ?_⟩
  unfold aSplit at e
  split at e
  · split at e
    · rename_i hc
      cases e
      obtain ⟨v, rfl, r1⟩ := BRepAll.one1 r
      rw [rx.str, r1.str]
      refine ⟨_, _, rfl, rfl, rfl, by rw [S_len]; exact Nat.le_trans hc.2 big_line, fun p hp => ?_⟩
      rw [split_S _ _ hc.1]
      exact w p _ hp (repAll_strs _)
    · cases e
  · cases e
/-! join -/
def txts : List D → Option (List (List Nat))
  | [] => some []
  | .str s :: r => (txts r).map (s :: ·)
  | _ => none
theorem txts_rep {A : Addr → Prop} {α : List Addr} {K : PySem.W.Frag} {H : Hp} : ∀ {vs : List V} {ds : List D} {bs : List (List Nat)}, RepAll A α K H vs ds → txts ds = some bs → vs = (bs.map S).map V.str
  | vs, [], bs, r, e => by cases e; exact r.unnil
  | vs, d :: ds, bs, r, e => by
    obtain ⟨v, vr, rfl, h1, h2⟩ := r.uncons
    unfold txts at e
    split at e
    · cases ‹d :: ds = []›
    · rename_i b r' hd
      cases hd
      rw [Option.map_eq_some_iff] at e
      obtain ⟨bs', e, rfl⟩ := e
      cases h1
      rw [List.map_cons, List.map_cons, ← txts_rep h2 e]
    · cases e
theorem join_S (a : List Nat) (l : List (List Nat)) : Txt.join (S a) (l.map S) = S (joinL a l) := by
  rw [join_eq, S_of (Str.join _ _)]
  congr 1
  have := tl_join (S a) (l.map S)
  rw [show tl (S a) = a from S_list a, List.map_map] at this
  rw [show (Str.join (S a) (l.map S)).cps.toList = tl (Str.join (S a) (l.map S)) from rfl, this]
  congr 1
  rw [show (tl ∘ S) = fun z => z from funext fun z => S_list z]
  simp
def joinN (a : List Nat) (l : List (List Nat)) : Nat := (l.map (·.length)).sum + l.length * a.length
def dJoinL (a : List Nat) (xs : List D) : Option D := match txts xs with
  | some l => if joinN a l ≤ BIG then some (.str (joinL a l)) else none
  | none => none
def dJoin : D → List D → Option D
  | .str a, [.lst xs] => dJoinL a xs
  | .str a, [.tup xs] => dJoinL a xs
  | _, _ => none
theorem joinN_S (a : List Nat) (l : List (List Nat)) : ((l.map S).map (·.length)).sum + (l.map S).length * (S a).length = joinN a l := by
  unfold joinN
  rw [List.map_map, List.length_map, S_len]
  rw [show ((fun x : Str => x.length) ∘ S) = fun z => z.length from funext fun z => S_len z]
theorem md_join : MtD X "str.join" dJoin := by
  refine ⟨_, mt_join, fun G α ow σ H ρ g x vs dx ds d Q s rx r e w => ?_⟩
  have main : ∀ {a : List Nat} {xs : List D} {p : Addr} {us : List V}, dJoinL a xs = some d → RepAll (Al G.B α ow) α X.K H us xs → (SqL X.K H p us ∨ SqT X.K H p us) → ∃ a' p', ∃ ys : List Str, V.str (S a) = .str a' ∧ [V.ref p] = [V.ref p'] ∧ (SqL X.K H p' (ys.map V.str) ∨ SqT X.K H p' (ys.map V.str)) ∧
      (ys.map (·.length)).sum + ys.length * a'.length ≤ 16777216 ∧ Q (.str (Txt.join a' ys)) H := fun {a xs p us} e hr hs => by
    unfold dJoinL at e
    split at e
    · rename_i l hl
      split at e
      · rename_i hb
        cases e
        rw [txts_rep hr hl] at hs
        refine ⟨S a, p, l.map S, rfl, rfl, hs, by rw [joinN_S]; unfold BIG at hb; omega, ?_⟩
        rw [join_S]
        exact w _ H Ext.refl s (.str _)
      · cases e
    · cases e
  unfold dJoin at e
  split at e
  · obtain ⟨v, rfl, r1⟩ := BRepAll.one1 r
    obtain ⟨p, us, rfl, h1, h2⟩ := r1.lst
    rw [rx.str]
    exact main e h2 (.inl (.inl h1))
  · obtain ⟨v, rfl, r1⟩ := BRepAll.one1 r
    obtain ⟨p, us, rfl, h1, h2⟩ := r1.tup
    rw [rx.str]
    exact main e h2 (.inr h1)
  · cases e
/-! index, found -/
def dIndexS : D → List D → Option D
  | .str a, [.str b] => match Builtin.Str.occurrences (S a) (S b) 0 (S a).length 1 with
    | i :: _ => some (.int (i : Nat))
    | [] => none
  | _, _ => none
theorem md_indexS : MtD X "str.index" dIndexS := by
  refine ⟨_, mt_sindex, fun G α ow σ H ρ g x vs dx ds d Q s rx r e w => ?_⟩
  unfold dIndexS at e
  split at e
  · split at e
    · rename_i i rest ho
      cases e
      obtain ⟨v, rfl, r1⟩ := BRepAll.one1 r
      rw [rx.str, r1.str]
      exact ⟨_, _, i, rest, rfl, rfl, ho, w _ H Ext.refl s (.int _)⟩
    · cases e
  · cases e
end

/-! ### list + list, list * n -/
section
variable {X : Cx} {a b : Expr} {fa fb : DE} {pos : Pos}
theorem op_catR : OpR X (binaryOp .Add) (fun x y H Q => ∃ l b xs zs, x = .ref l ∧ y = .ref b ∧ Rd H l (.lst xs) ∧ Rd H b (.lst zs) ∧ xs.length + zs.length ≤ sizeLine ∧ ∀ p, H p = none → Q (.ref p) (upd H p (.lst (xs ++ zs)))) := by
  intro pins s σ H x y v u Q I rx ry h
  obtain ⟨l, b, xs, zs, rfl, rfl, hH, hB, hz, q⟩ := h
  cases rx
  cases ry
  obtain ⟨z, its, n, r, e⟩ := hH.ok I.hok
  obtain ⟨z2, its2, n2, r2, e2⟩ := hB.ok I.hok
  have hl := r.length
  have hl2 := r2.length
  refine PySem.P.add_list e e2 ?_ (by rw [List.size_toArray, List.size_toArray]; omega)
  have ea : its.toArray ++ its2.toArray = (its ++ its2).toArray := by simp
  rw [ea]
  exact ⟨.ref _, _, I.lnew (t' := s.toks) (r.append r2) (by rw [List.length_append]; omega), rfl, q _ I.fresh⟩
def aCat (fa fb : DE) : DA := bindM fa fun x => bindM fb fun y => liftM (match x, y with
  | .lst xs, .lst ys => if xs.length + ys.length ≤ BIG then some (xs ++ ys) else none
  | _, _ => none)
theorem ef_cat (ha : EB X a fa) (hb : EB X b fb) : EF X (.BinOp a .Add b pos) (aCat fa fb) := by
  obtain ⟨ta, pa, ha⟩ := ha
  obtain ⟨tb, pb, hb⟩ := hb
  refine ⟨_, pe_op op_catR pa pb, fun G α ow σ H ρ g d g' Q s e w => ?_⟩
  obtain ⟨dx, g1, e1, he⟩ := bindM_some e
  obtain ⟨dy, g2, e2, he⟩ := bindM_some he
  obtain ⟨e3, rfl⟩ := liftM_some he
  refine ha G α ow σ H ρ g dx g1 _ s e1 fun x H1 α1 x1 s1 r1 => ?_
  refine hb G α1 ow σ H1 ρ g1 dy g2 _ s1 e2 fun y H2 α2 x2 s2 r2 => ?_
  split at e3
  · split at e3
    · rename_i hl
      cases e3
      obtain ⟨p, vs, rfl, h1, h2⟩ := (r1.ext x2).lst
      obtain ⟨q, us, rfl, h3, h4⟩ := r2.lst
      exact ⟨p, q, vs, us, rfl, rfl, h1, h3, by rw [h2.1, h4.1]; exact Nat.le_trans hl big_line, fun l hl => w l _ H2 α2 (x1.trans x2) s2 hl (h2.append h4) _ rfl⟩
    · cases e3
  · cases e3
/-! isinstance(e, T), T a built-in type's name -/
def tyName : D → Option String
  | .non => some "NoneType"
  | .bl _ => some "bool"
  | .int _ => some "int"
  | .str _ => some "str"
  | .lst _ => some "list"
  | .tup _ => some "tuple"
  | .dic _ => some "dict"
  | _ => none
def dIsi (T : String) (x : D) : Option D := match tyName x with
  | some n => (kitB n T).map .bl
  | none => none
theorem BRep.ty {B : Addr → Prop} {α : List Addr} {ow : Nat → Option Addr} {K : PySem.W.Frag} {H : Hp} {x : V} {d : D} {n : String} (h : BRep B α ow K H x d) (e : tyName d = some n) : TyX K H x (.type n) := by
  cases h with
  | of h =>
    cases h with
    | non => cases e; exact .base .non
    | bl b => cases e; exact .base (.bl b)
    | int b => cases e; exact .base (.int b)
    | str b => cases e; exact .base (.str _)
    | lst hA h hl hi =>
      cases e
      rcases h with h | ⟨o, h⟩
      · exact .base (.lst h)
      · exact .base (.frz h)
    | tup h hl hi =>
      cases e
      rcases h with ⟨_, h | ⟨o, h⟩⟩ | ⟨o, its, n, h1, h2, _⟩
      · exact .base (.tup h)
      · exact .fTuple h
      · exact .kTuple h1 h2
    | dic hA h hk hi =>
      cases e
      rcases h with h | ⟨o, h⟩
      · exact .base (.dK h)
      · exact .fDict h
    | obj h => cases e
    | sta a => cases e
  | own h hn ho r => cases e; exact .base (.lst ho)
  | ownd h hn ho hk r => cases e; exact .base (.dK ho)
theorem ec_isi {T : String} {x : Str} {p p2 : Pos} (hm : X.mg "isinstance" = none) (hmT : X.mg x = none) (hv : bootBuiltins x = some (.type T)) (ha : EB X a fa) (hg : Gl X "isinstance" := by rfl) (hgT : Gl X x := by rfl) (hn : x ≠ "__name__" := by decide) (hdb : (x == ("__debug__" : Str)) = false := by decide)
    (he : starEach [a, .Name x p2] X.env = (false, eval a X.env) :: starEach [.Name x p2] X.env := by rfl) (he2 : starEach [.Name x p2] X.env = (false, eval (.Name x p2) X.env) :: starEach [] X.env := by rfl) (hpl : (backTo pos (starEach [.Name x p2] X.env)).any (·.1) = false := by rfl) :
    EC X (.Call (.Name "isinstance" p) [a, .Name x p2] [] pos) (eUn (dIsi T) fa) := by
  obtain ⟨t, pt, hq⟩ := ha
  refine ⟨_, pe_callB call_isi hg hm (by decide +kernel) (pa_cons pt (pa_cons (pe_bltn (v := .ty T) hgT hmT hv rfl hn hdb) pa_nil he2) he) (by decide) (by decide) he hpl, fun G α ow σ H ρ g d g' Q s e w => ?_⟩
  obtain ⟨dx, g1, e1, e2⟩ := bindM_some e
  obtain ⟨e3, rfl⟩ := liftM_some e2
  refine hq G α ow σ H ρ g dx g1 _ s e1 fun v H1 α1 x1 s1 r1 => ?_
  unfold dIsi at e3
  split at e3
  · rename_i n hn'
    rw [Option.map_eq_some_iff] at e3
    obtain ⟨k, e3, rfl⟩ := e3
    exact ⟨v, .ty T, .type n, .type T, k, rfl, .ty T, r1.ty hn', kit_ty e3, w _ H1 α1 x1 s1 (.bl _)⟩
  · cases e3
end
/-! sep.join(e).replace(y, z) of written texts -/
section
variable {X : Cx} {e : Expr} {fe : DE} {c y z : List Nat}
def dReplC (y z : List Nat) : D → Option D
  | .str x => if x.length + (x.length + 1) * z.length ≤ 1000000 then some (.str (StrLaws.replL y z x)) else none
  | _ => none
theorem repl_S (x y z : List Nat) (hy : 1 ≤ y.length) : Txt.replace (S x) (S y) (S z) = S (StrLaws.replL y z x) := by
  rw [S_of (Txt.replace _ _ _)]
  congr 1
  rw [StrLaws.replace_list (by rw [S_len]; exact hy), S_list, S_list, S_list]
theorem ec_joinRepl {j0 j k : Nat} {p0 c0 c1 a1 q1 apos pos : Pos} {sc sy sz : Str} (hc : sc = S c) (hy : sy = S y) (hz : sz = S z) (hyl : 1 ≤ y.length) (he : EB X e fe) (hyz : (sy == sz) = false := by decide)
    (hs : starEach [e] X.env = [(false, eval e X.env)] := by rfl) (hbase1 : attributeBase (.Constant (.str sc) j0 p0) "join" X.env (eval (.Constant (.str sc) j0 p0) X.env) = eval (.Constant (.str sc) j0 p0) X.env := by rfl) (hline1 : (a1.endLine == q1.line) = true := by rfl)
    (hst : starEach [.Constant (.str sy) j c0, .Constant (.str sz) k c1] X.env = [(false, eval (.Constant (.str sy) j c0) X.env), (false, eval (.Constant (.str sz) k c1) X.env)] := by rfl)
    (hbase : attributeBase (.Call (.Attribute (.Constant (.str sc) j0 p0) "join" a1) [e] [] q1) "replace" X.env (eval (.Call (.Attribute (.Constant (.str sc) j0 p0) "join" a1) [e] [] q1) X.env) = eval (.Call (.Attribute (.Constant (.str sc) j0 p0) "join" a1) [e] [] q1) X.env := by rfl) (hline : (apos.endLine == pos.line) = true := by rfl) :
    EC X (.Call (.Attribute (.Call (.Attribute (.Constant (.str sc) j0 p0) "join" a1) [e] [] q1) "replace" apos) [.Constant (.str sy) j c0, .Constant (.str sz) k c1] [] pos) (eUn (dReplC y z) (eM1 dJoin (eC (.str c)) fe)) := by
  subst hc hy hz
  obtain ⟨te, pe, qe⟩ := he
  obtain ⟨r, hr, hq⟩ := md_join (X := X)
  refine ⟨CwR.tReplC (tM1 r (tC (.str (S c))) te) (S y) (S z), ⟨fun pins s σ H Q I h => ?_⟩, fun G α ow σ H ρ g d g' Q s e w => ?_⟩
  · refine PySem.Call_method2 hbase hst hline ?_
    refine PySem.Call_method1 hbase1 hs hline1 (Calls.Constant_str ?_)
    obtain ⟨⟨a, ea⟩, h⟩ := h
    refine ⟨"str", _, PySem.F.plainAttrs_str, PySem.F.slot_str_join, PySem.F.type_str_join, typeIs_str _ _ _, (fun _ e => nomatch e), ?_⟩
    refine wpAny_mono (PySem.wpAny_toks (Q := fun v s1 => EP X pins σ (fun v H1 => ∃ x, v = .str x ∧ x.length + (x.length + 1) * (S z).length ≤ 16777216 ∧ Q (.str (Txt.replace x (S y) (S z))) H1) v s1) ?_) (fun v s1 q => ?_) fun _ _ z => z.2
    · refine Calls.callWith_builtin rfl (Calls.evalArgs_plain (Calls.spliced_cons ?_))
      have I1 : Inv X pins σ H { s with toks := s.toks + 1 } := I.tok _
      exact thn (pe.run pins _ σ H _ I1 h) fun u s2 ⟨y', H2, I2, r2, q2⟩ => Calls.spliced_nil (hr pins s2 σ H2 (.str (S c)) [y'] _ [u] _ I2 ⟨_, rfl⟩ (.cons r2 .nil) q2)
    · obtain ⟨hk, v', H1, I1, r1, x, e1, hb, q⟩ := q
      subst e1
      obtain ⟨tx, e2⟩ := r1
      subst e2
      have hk : s.toks + 1 ≤ s1.toks := hk
      refine ⟨"str", _, PySem.F.plainAttrs_str, PySem.F.slot_str_replace, PySem.F.type_str_replace, typeIs_str _ _ _, (fun _ e => nomatch e), Calls.callWith_builtin rfl (Calls.evalArgs_plain (Calls.spliced_cons ?_))⟩
      refine Calls.Constant_str (Calls.spliced_cons (Calls.Constant_str (Calls.spliced_nil ?_)))
      exact PySem.SC.replace (by show s1.toks ≠ 0; omega) (by show s1.toks + 1 ≠ 0; omega) (by show s1.toks ≠ s1.toks + 1; omega) hyz hb fun t' k => ⟨.str (Txt.replace x (S y) (S z)), H1, I1.tok k, ⟨t', rfl⟩, q⟩
  · obtain ⟨dx, g1, e1, e2⟩ := bindM_some e
    obtain ⟨e3, rfl⟩ := liftM_some e2
    obtain ⟨x0, g2, f1, f2⟩ := bindM_some e1
    obtain ⟨y0, g3, f3, f4⟩ := bindM_some f2
    obtain ⟨f5, rfl⟩ := liftM_some f4
    cases f1
    rw [if_pos (show isStr (D.str c) = true from rfl)] at f5
    refine ⟨⟨_, rfl⟩, qe G α ow σ H ρ g y0 g3 _ s f3 fun u H2 α2 x2 s2 r2 => ?_⟩
    refine hq G α2 ow σ H2 ρ g3 _ [u] _ [y0] dx _ s2 (.of (.str c)) (.cons r2 .nil) f5 fun v3 H3 x3 s3 r3 => ?_
    unfold dReplC at e3
    split at e3
    · split at e3
      · rename_i hb
        cases e3
        cases r3
        refine ⟨_, rfl, by rw [S_len, S_len]; omega, ?_⟩
        rw [repl_S _ _ _ hyl]
        exact w _ H3 α2 (x2.trans x3) s3 (.str _)
      · cases e3
    · cases e3
end
end L3

/-! L3j: lists that are kept in the store and changed by place. -/
namespace L3
open PySem PySem.Spec PyProof.Rows L2 TL

section
variable {K : PySem.W.Frag} {G : Gh} {α : List Addr} {ow : Nat → Option Addr} {σ : L2.St} {H : Hp} {ρ : Env3} {g : Store}
/-- a new list becomes an object of the store -/
theorem Sat.stored (s : Sat K G α ow σ H ρ g) {p : Addr} {vs : List V} {ds : List D} (hp : H p = none) (r : RepAll (Al G.B α ow) α K H vs ds) :
    Ext α H (α ++ [p]) (upd H p (.lst vs)) ∧ GOk (Al G.B (α ++ [p]) ow) (α ++ [p]) (g ++ [.lst ds]) K (upd H p (.lst vs)) ∧ (α ++ [p])[g.length]? = some p := by
  have al := s.al hp
  have x : Ext α H (α ++ [p]) (upd H p (.lst vs)) := ⟨fun a o h hn => by rw [upd_ne (ne_of_none h hp)]; exact h, List.prefix_append _ _, fun a ha => by
    rcases List.mem_append.mp ha with h | h
    · exact .inl h
    · rw [List.mem_singleton.mp h]; exact .inr hp⟩
  refine ⟨x, ⟨by rw [List.length_append, List.length_append, s.gok.len]; rfl, ?_, fun n a o h1 h2 => ?_⟩, ?_⟩
  · rw [List.nodup_append]
    exact ⟨s.gok.nd, by simp, fun a ha b hb => by rw [List.mem_singleton.mp hb]; exact fun z => al.1 (by rw [← z]; exact ha)⟩
  · by_cases hn : n < α.length
    · rw [List.getElem?_append_left hn] at h1
      rw [List.getElem?_append_left (by rw [← s.gok.len]; exact hn)] at h2
      exact (s.gok.so n a o h1 h2).ext x fun o e => by rw [upd_ne (ne_of_none e hp)]; exact e
    · have hl : n < (α ++ [p]).length := (List.getElem?_eq_some_iff.mp h1).1
      rw [List.length_append, List.length_singleton] at hl
      have en : n = α.length := by omega
      subst en
      rw [List.getElem?_append_right (Nat.le_refl _), Nat.sub_self] at h1
      rw [s.gok.len, List.getElem?_append_right (Nat.le_refl _), Nat.sub_self] at h2
      cases h1
      cases h2
      exact ⟨vs, upd_same, r.ext x⟩
  · rw [← s.gok.len, List.getElem?_append_right (Nat.le_refl _), Nat.sub_self]
    rfl
/-- an object of the store is changed -/
theorem Sat.store (s : Sat K G α ow σ H ρ g) {n : Nat} {p : Addr} {vs : List V} {ds : List D} (hn : α[n]? = some p) (r : RepAll (Al G.B α ow) α K H vs ds) :
    Ext α H α (upd H p (.lst vs)) ∧ GOk (Al G.B α ow) α (g.set n (.lst ds)) K (upd H p (.lst vs)) := by
  have hm : p ∈ α := List.mem_of_getElem? hn
  have x : Ext α H α (upd H p (.lst vs)) := ⟨fun a o h hn => by rw [upd_ne fun z => hn (by rw [z]; exact hm)]; exact h, List.prefix_refl _, fun a ha => .inl ha⟩
  refine ⟨x, ⟨by rw [List.length_set]; exact s.gok.len, s.gok.nd, fun m a o h1 h2 => ?_⟩⟩
  have hl : n < g.length := by rw [← s.gok.len]; exact (List.getElem?_eq_some_iff.mp hn).1
  by_cases hm' : m = n
  · subst hm'
    rw [List.getElem?_set_self hl] at h2
    rw [hn] at h1
    cases h1
    cases h2
    exact ⟨vs, upd_same, r.ext x⟩
  · rw [List.getElem?_set_ne (Ne.symm hm')] at h2
    refine (s.gok.so m a o h1 h2).ext x fun o e => ?_
    rw [upd_ne fun z => hm' ?_]
    · exact e
    · obtain ⟨i1, j1⟩ := List.getElem?_eq_some_iff.mp h1
      obtain ⟨i2, j2⟩ := List.getElem?_eq_some_iff.mp hn
      exact (List.getElem_inj s.gok.nd).mp (j1.trans (z.trans j2.symm))
end
def eSt (f : DA) : DE := bindM f fun xs => fun _ g => some (.obj g.length, g ++ [.lst xs])
section
variable {X : Cx} {e a b : Expr} {fe fa fb : DE} {fs : DA} {pos : Pos}
theorem EF.st (h : EF X e fs) : EC X e (eSt fs) := by
  obtain ⟨t, pt, hq⟩ := h
  refine ⟨t, pt, fun G α ow σ H ρ g d g' Q s e w => ?_⟩
  obtain ⟨xs, g1, e1, e2⟩ := bindM_some e
  cases e2
  refine hq G α ow σ H ρ g xs g1 _ s e1 fun p vs H1 α1 x1 s1 hp r H2 eH => ?_
  subst eH
  obtain ⟨x2, gk, hg⟩ := s1.stored hp r
  exact w _ _ _ (x1.trans x2) (s1.step x2 gk) (.obj hg)
def eIxO (fo fi : DE) : DE := bindM fo fun x => bindM fi fun y => fun _ g => match x, y with
  | .obj n, .int i => match g[n]? with
    | some (.lst xs) => (atI xs i).map fun d => (d, g)
    | _ => none
  | _, _ => none
theorem BRep.obj {B : Addr → Prop} {α : List Addr} {ow : Nat → Option Addr} {K : PySem.W.Frag} {H : Hp} {x : V} {n : Nat} (h : BRep B α ow K H x (.obj n)) : ∃ a, x = .ref a ∧ α[n]? = some a := by
  cases h with
  | of h => cases h with | obj h => exact ⟨_, rfl, h⟩
theorem ec_ixO (ha : EB X a fa) (hb : EB X b fb) (hs : PlainIx b := by exact fun _ _ => rfl) : EC X (.Subscript a b pos) (eIxO fa fb) := by
  obtain ⟨ta, pa, ha⟩ := ha
  obtain ⟨tb, pb, hb⟩ := hb
  refine ⟨_, pe_ix ix_list pa pb hs, fun G α ow σ H ρ g d g' Q s e w => ?_⟩
  obtain ⟨x, g1, e1, e2⟩ := bindM_some e
  obtain ⟨y, g2, e3, e4⟩ := bindM_some e2
  refine ha G α ow σ H ρ g x g1 _ s e1 fun v H1 α1 x1 s1 r1 => ?_
  refine hb G α1 ow σ H1 ρ g1 y g2 _ s1 e3 fun u H2 α2 x2 s2 r2 => ?_
  split at e4
  · split at e4
    · rename_i hg
      rw [Option.map_eq_some_iff] at e4
      obtain ⟨z, e4, e5⟩ := e4
      cases e5
      obtain ⟨p, rfl, hp⟩ := (r1.ext x2).obj
      obtain ⟨vs, h1, h2⟩ := s2.gok.so _ p _ hp hg
      obtain ⟨k, e6, r6⟩ := h2.atI e4
      rw [r2.int]
      exact ⟨p, vs, _, k, rfl, rfl, .inl (.inl h1), e6, w _ H2 α2 (x1.trans x2) s2 r6⟩
    · cases e4
  · cases e4
def sSetO (fo fi fe : DE) : DS := fun ρ g => match fe ρ g with
  | some (d, g1) => match fo ρ g1 with
    | some (.obj n, g2) => match fi ρ g2 with
      | some (.int i, g3) => match g3[n]? with
        | some (.lst xs) => match ixN xs.length i with
          | some j => some (.nx ρ, g3.set n (.lst (xs.set j d)))
          | none => none
        | _ => none
      | _ => none
    | _ => none
  | none => none
theorem RepAll.set {A : Addr → Prop} {α : List Addr} {K : PySem.W.Frag} {H : Hp} {vs : List V} {ds : List D} {v : V} {d : D} (j : Nat) (h : RepAll A α K H vs ds) (r : Rep A α K H v d) : RepAll A α K H (vs.set j v) (ds.set j d) := by
  refine ⟨by rw [List.length_set, List.length_set, h.1], fun i x y h1 h2 => ?_⟩
  by_cases hj : i = j
  · subst hj
    have hl : i < vs.length := by simpa using (List.getElem?_eq_some_iff.mp h1).1
    rw [List.getElem?_set_self hl] at h1
    rw [List.getElem?_set_self (by rw [← h.1]; exact hl)] at h2
    cases h1
    cases h2
    exact r
  · rw [List.getElem?_set_ne (Ne.symm hj)] at h1 h2
    exact h.2 i x y h1 h2
theorem sc_setO {p2 : Pos} (he : EC X e fe) (ha : EB X a fa) (hb : EB X b fb)
    (has : ∀ v, assign (.Subscript a b p2) X.env v = (do
      let ov ← holding [v] (eval a X.env)
      let iv ← holding [v, ov] (eval b X.env)
      standAt p2
      holding [v, ov, iv] (setItem ov iv v)
      release [v, ov, iv] []) := by intro _; rfl)
    (hs : swapsWithSole [.Subscript a b p2] e pos.line X.env = pure false := by rfl) (hw : swappedStores [.Subscript a b p2] e X.env = pure none := by rfl)
    (h1 : (assignEach [.Subscript a b p2] X.env).map (·.2) = [assign (.Subscript a b p2) X.env] := by rfl) : SC X (.Assign [.Subscript a b p2] e pos) (sSetO fa fb fe) := by
  obtain ⟨te, pe, qe⟩ := he
  obtain ⟨ta, pa, qa⟩ := ha
  obtain ⟨tb, pb, qb⟩ := hb
  refine ⟨_, ps_asg pe (pg_sub pa pb set_list has) hs hw h1, fun G α ow σ H ρ g out g' Dn s e w => ?_⟩
  unfold sSetO at e
  split at e
  · rename_i d g1 e1
    split at e
    · rename_i n g2 e2
      split at e
      · rename_i i g3 e3
        split at e
        · rename_i xs hg
          split at e
          · rename_i j hj
            cases e
            refine qe G α ow σ H ρ g d g1 _ s e1 fun v H1 α1 x1 s1 r1 => ?_
            refine qa G α1 ow σ H1 ρ g1 _ g2 _ s1 e2 fun o H2 α2 x2 s2 r2 => ?_
            refine qb G α2 ow σ H2 ρ g2 _ g3 _ s2 e3 fun k H3 α3 x3 s3 r3 => ?_
            obtain ⟨p, rfl, hp⟩ := (r2.ext x3).obj
            obtain ⟨vs, q1, q2⟩ := s3.gok.so n p _ hp hg
            have r4 := (r1.ext x2).ext x3
            have q3 := q2.set j r4
            obtain ⟨x4, gk⟩ := s3.store hp q3
            rw [r3.int]
            refine ⟨p, vs, i, j, rfl, rfl, q1, by rw [q2.1]; exact hj, ?_⟩
            exact w _ _ _ _ (s3.step x4 gk) (((x1.trans x2).trans x3).trans x4).fz
          · cases e
        · cases e
      · cases e
    · cases e
  · cases e
def sUnpO (fo : DE) (ts : List D → Option (List (Nat × D))) : DS := fun ρ g => match fo ρ g with
  | some (.obj n, g1) => match g1[n]? with
    | some (.lst xs) => match ts xs with
      | some as => some (.nx (sets ρ as), g1)
      | none => none
    | _ => none
  | _ => none
theorem sc_unpO {es : List Expr} {k : Nat} {p2 : Pos} {ps : List D → Option (List (Nat × D))} (ha : EB X a fa) (hg : GCs X es ps) (hst : (assignEach es X.env).findIdx? (·.1) = none := by rfl) (hc : X.calm = true := by rfl)
    (hs : swapsWithSole [.Tuple es k p2] a pos.line X.env = pure false := by rfl) (hw : swappedStores [.Tuple es k p2] a X.env = pure none := by rfl)
    (h1 : (assignEach [.Tuple es k p2] X.env).map (·.2) = [assign (.Tuple es k p2) X.env] := by rfl) : SC X (.Assign [.Tuple es k p2] a pos) (sUnpO fa ps) := by
  obtain ⟨ta, pa, qa⟩ := ha
  obtain ⟨l, t, pt, q⟩ := hg
  refine ⟨_, ps_asg pa (pg_unl hc pt rfl hst) hs hw h1, fun G α ow σ H ρ g out g' Dn s e w => ?_⟩
  unfold sUnpO at e
  split at e
  · rename_i n g1 e1
    split at e
    · rename_i xs hg'
      split at e
      · rename_i as has
        cases e
        refine qa G α ow σ H ρ g _ g' _ s e1 fun v H1 α1 x1 s1 r1 => ?_
        obtain ⟨p, rfl, hp⟩ := r1.obj
        obtain ⟨vs, q1, q2⟩ := s1.gok.so n p _ hp hg'
        refine ⟨p, vs, rfl, .inl (.inl q1), by rw [q2.1]; exact l _ _ has, q _ _ σ H1 vs xs as _ q2 has fun ws rs => ?_⟩
        obtain ⟨ow2, s2, z2⟩ := s1.sets rs
        exact w _ _ _ _ s2 (x1.fz.trans z2)
      · cases e
    · cases e
  · cases e
def aRep (fa : DA) (fb : DE) : DA := bindM fa fun xs => bindM fb fun y => liftM (match y with
  | .int k => if 0 ≤ k ∧ k ≤ 1000000 ∧ xs.length * k.toNat ≤ BIG then some (List.replicate k.toNat xs).flatten else none
  | _ => none)
theorem RepAll.rep {A : Addr → Prop} {α : List Addr} {K : PySem.W.Frag} {H : Hp} {vs : List V} {ds : List D} (h : RepAll A α K H vs ds) : ∀ n : Nat, RepAll A α K H (List.replicate n vs).flatten (List.replicate n ds).flatten
  | 0 => RepAll.nil
  | n + 1 => by
    rw [List.replicate_succ, List.replicate_succ, List.flatten_cons, List.flatten_cons]
    exact h.append (RepAll.rep h n)
theorem ef_rep (ha : EF X a fs) (hb : EC X b fb) : EF X (.BinOp a .Mult b pos) (aRep fs fb) := by
  obtain ⟨ta, pa, ha⟩ := ha
  obtain ⟨tb, pb, hb⟩ := hb
  refine ⟨_, pe_op op_rep pa pb, fun G α ow σ H ρ g d g' Q s e w => ?_⟩
  obtain ⟨xs, g1, e1, he⟩ := bindM_some e
  obtain ⟨y, g2, e2, he⟩ := bindM_some he
  obtain ⟨e3, rfl⟩ := liftM_some he
  refine ha G α ow σ H ρ g xs g1 _ s e1 fun p vs H1 α1 x1 s1 hp r1 H2 eH => ?_
  subst eH
  have s2 := s1.new (o := .lst vs) hp
  have pn := (s1.al hp).1
  have x2 : Ext α1 H1 α1 (upd H1 p (.lst vs)) := Ext.new hp
  refine hb G α1 ow σ _ ρ g1 y g2 _ s2 e2 fun u H3 α3 x3 s3 r3 => ?_
  split at e3
  · split at e3
    · rename_i hk
      cases e3
      cases r3
      refine ⟨p, _, vs, rfl, rfl, x3.1 p _ upd_same pn, by omega, by omega, by rw [r1.1]; exact Nat.le_trans hk.2.2 big_line, fun q hq => ?_⟩
      exact w q _ H3 α3 ((x1.trans x2).trans x3) s3 hq (((r1.ext x2).ext x3).rep _) _ rfl
    · cases e3
  · cases e3
end
end L3

/-! L3k: defs by name, further rules. -/
namespace L3
open PySem PySem.Spec PyProof.Rows L2 TL

/-- a def of the text stands at its name -/
structure FunAt (K : PySem.W.Frag) (mg : Str → Option Value) (x : Str) (st : Stmt) (ps : List Str) : Prop where
  ex : ∃ fd, FunD K x x (defArgs st) (defBody st) (defScope st) [] [] (He.ga K x) fd ∧ Binds K fd ps []
  g : mg x = some (.ref (He.ga K x))
/-- a def keeps a promise -/
structure FnAt (P : Program) (w : World) (K : PySem.W.Frag) (mg : Str → Option Value) (base : Heap) (k : Nat) (x : Str) (ps : List Str) (sp : Sp) : Prop where
  ex : ∃ fd, FnOk P w K mg base CX0 k (He.ga K x) fd ps sp ∧ Binds K fd ps [] ∧ ∃ oc od osl, K.lookup (He.ga K x) = some ⟨oc, od, .func fd, osl⟩
  g : mg x = some (.ref (He.ga K x))
  kp : PySem.W.keepIn K (.ref (He.ga K x)) = true
theorem fnat {P : Program} {w : World} {K : PySem.W.Frag} {mg : Str → Option Value} {base : Heap} {x : Str} {st : Stmt} {N ps : List Str} {k : Nat} {fB : DS} (F : FunAt K mg x st ps) (Sc : FnScope N ps (defScope st))
    (hb : ∀ (cdv : Value) (A : Around) (outer : List Env) (s : Shared) (H : Hp) (E : XK), Room k (A.deeper (envOfC x (defScope st) s.heap.objs.size (He.ga K x) cdv)) → BC (cxOf CX0 P w K mg base N x (defScope st) (He.ga K x) cdv A outer s H E).nox (defBody st) fB) :
    FnAt P w K mg base (k + 1) x ps (spD K ps.length (runD N.length fB)) := by
  obtain ⟨⟨fd, Fd, b⟩, g⟩ := F
  have lk : ∃ oc od osl, K.lookup (He.ga K x) = some ⟨oc, od, .func fd, osl⟩ := by
    obtain ⟨oc, od, _, _, _, _, _, _, _, osl, _, lk, _⟩ := Fd.ex
    exact ⟨oc, od, osl, lk⟩
  refine ⟨⟨fd, ?_, b, lk⟩, g, Fd.kp⟩
  refine Fd.ok Sc (fun vs H Q E h => ?_) (fun cdv A outer s H vs Q E hr h => ?_)
  · obtain ⟨_, _, _, _, _, _, h, _⟩ := h
    exact h
  · obtain ⟨B, α, g, ds, d, g', hl, hB, gk, r, e, q⟩ := h
    obtain ⟨t, pt, qt⟩ := hb cdv A outer s H E hr
    refine ⟨t, pt.nox, ?_⟩
    have s0 := start_sat (N := N) hB gk r
    unfold runD at e
    split at e
    · rename_i d' g1 e1
      cases e
      exact qt _ α no _ H _ g _ _ _ s0 e1 fun v H' α' x _ gk' r' => q v H' α' x gk' r'
    · rename_i ρ1 g1 e1
      cases e
      exact qt _ α no _ H _ g _ _ _ s0 e1 fun σ' H' α' ow' s' z => q .non H' α' s'.ext s'.ret .non
    · cases e
section
variable {X : Cx} {a b c e : Expr} {fa fb fc fe : DE} {pos : Pos}
theorem ec_callA {k j : Nat} {ps : List Str} {n : Nat} {φ : List D → Store → Option (D × Store)} {x : Str} {es : List Expr} {fs : DA} {p : Pos}
    (F : FnAt X.prog X.w X.K X.mg X.base k x ps (spD X.K n φ)) (hr : Room j X.A) (ha : AC X (e :: es) fs) (hk : k ≤ j := by decide)
    (hg : Gl X x := by rfl) (hdb : (x == ("__debug__" : Str)) = false := by decide) (he : starEach (e :: es) X.env = (false, eval e X.env) :: starEach es X.env := by rfl) (hpl : (backTo pos (starEach es X.env)).any (·.1) = false := by rfl) (hl : (e :: es).length = n := by rfl) :
    EC X (.Call (.Name x p) (e :: es) [] pos) (eApp φ fs) := by
  obtain ⟨⟨fd, G, b, _⟩, g, kp⟩ := F
  exact ec_call G (hr.mono hk) g kp b ha hg hdb he hpl hl
def dNeg : D → Option D
  | .int i => some (.int (-i))
  | _ => none
theorem ec_neg (ha : EB X a fa) : EC X (.UnaryOp .USub a pos) (eUn dNeg fa) := by
  obtain ⟨t, pt, hq⟩ := ha
  refine ⟨_, pe_un un_neg pt, fun G α ow σ H ρ g d g' Q s e w => ?_⟩
  obtain ⟨x, g1, e1, e2⟩ := bindM_some e
  obtain ⟨e3, rfl⟩ := liftM_some e2
  refine hq G α ow σ H ρ g x g1 _ s e1 fun v H1 α1 x1 s1 r1 => ?_
  unfold dNeg at e3
  split at e3
  · cases e3
    rw [r1.int]
    exact ⟨_, rfl, w _ H1 α1 x1 s1 (.int _)⟩
  · cases e3
theorem ec_gintE {x : Str} {i : Int} (hm : ∃ t, X.mg x = some (.int i t)) (hg : Gl X x := by rfl) (hd : (x == ("__debug__" : Str)) = false := by decide) : EC X (.Name x pos) (eC (.int i)) := by
  obtain ⟨t, hm⟩ := hm
  exact ec_gint hm hg hd
theorem ec_gstrE {x : Str} {z : List Nat} (hm : ∃ t, X.mg x = some (.str (S z) t)) (hg : Gl X x := by rfl) (hd : (x == ("__debug__" : Str)) = false := by decide) : EC X (.Name x pos) (eC (.str z)) := by
  obtain ⟨t, hm⟩ := hm
  exact ec_gstr hm hg hd
theorem tc_chain {op op' : CmpOp} {o o' : D → D → Option D} (ho : OpD X (compareOp op) o) (ho' : OpD X (compareOp op') o') (ha : EB X a fa) (hb : EB X b fb) (hc : EB X c fc)
    (hm : lastMarks [op, op'] [b, c] = false := by with_unfolding_all rfl) : TC X (.Compare a [op, op'] [b, c] pos) (tOf (eChain o o' fa fb fc)) := by
  obtain ⟨r, hr, hq⟩ := ho
  obtain ⟨r', hr', hq'⟩ := ho'
  obtain ⟨ta, pa, ha⟩ := ha
  obtain ⟨tb, pb, hb⟩ := hb
  obtain ⟨tc, pc, hc⟩ := hc
  refine ⟨_, pt_chain hr hr' pa pb pc hm, fun G α ow σ H ρ g k0 g' Q s e w => ?_⟩
  obtain ⟨d, g0, e0, ek⟩ := bindM_some e
  obtain ⟨ek, rfl⟩ := liftM_some ek
  split at ek
  · cases ek
    obtain ⟨x, g1, e1, e2⟩ := bindM_some e0
    obtain ⟨y, g2, e3, e4⟩ := bindM_some e2
    obtain ⟨z, g3, e5, e6⟩ := bindM_some e4
    obtain ⟨e7, rfl⟩ := liftM_some e5
    refine ha G α ow σ H ρ g x g1 _ s e1 fun v H1 α1 x1 s1 r1 => ?_
    refine hb G α1 ow σ H1 ρ g1 y g2 _ s1 e3 fun u H2 α2 x2 s2 r2 => ?_
    refine hq G α2 ow σ H2 ρ g2 v u x y z _ s2 (r1.ext x2) r2 e7 fun k H3 x3 s3 r3 => ?_
    split at e6
    · cases r3
      refine ⟨_, rfl, ?_⟩
      rw [if_pos rfl]
      obtain ⟨u', g4, e8, e9⟩ := bindM_some e6
      obtain ⟨e10, rfl⟩ := liftM_some e9
      refine hc G α2 ow σ H3 ρ g2 u' g4 _ s3 e8 fun q H4 α4 x4 s4 r4 => ?_
      refine hq' G α4 ow σ H4 ρ g4 u q y u' _ _ s4 ((r2.ext x3).ext x4) r4 e10 fun v5 H5 x5 s5 r5 => ?_
      cases r5
      exact ⟨_, rfl, w H5 α4 ((((x1.trans x2).trans x3).trans x4).trans x5) s5⟩
    · cases r3
      cases e6
      refine ⟨_, rfl, ?_⟩
      rw [if_neg (by decide)]
      exact ⟨_, rfl, w H3 α2 ((x1.trans x2).trans x3) s3⟩
    · cases e6
  · cases ek
/-- + of ints, texts, lists, tuples -/
def dAddA : D → D → Option D
  | .lst a, .lst b => if a.length + b.length ≤ BIG then some (.lst (a ++ b)) else none
  | .tup a, .tup b => if a.length + b.length ≤ BIG then some (.tup (a ++ b)) else none
  | a, b => dAdd a b
theorem opd_addA : OpD X (binaryOp .Add) dAddA := by
  obtain ⟨r0, h0, q0⟩ := opd_add (X := X)
  refine ⟨_, h0.or (op_catR.or op_catA), fun G α ow σ H ρ g x y dx dy d Q s rx ry e w => ?_⟩
  unfold dAddA at e
  split at e
  · split at e
    · rename_i hl
      cases e
      obtain ⟨p, vs, rfl, h1, h2⟩ := rx.lst
      obtain ⟨q, us, rfl, h3, h4⟩ := ry.lst
      exact .inr (.inl ⟨p, q, vs, us, rfl, rfl, h1, h3, by rw [h2.1, h4.1]; exact Nat.le_trans hl big_line, fun l hl => w _ _ (Ext.new hl) (s.new hl) (s.newL hl (h2.append h4))⟩)
    · cases e
  · split at e
    · rename_i xs ys hl
      cases e
      obtain ⟨p, vs, rfl, h1, h2⟩ := rx.tup
      obtain ⟨q, us, rfl, h3, h4⟩ := ry.tup
      have cx : ∀ {v : V} {xs : List D}, BRep G.B α ow X.K H v (.tup xs) → Rep (Al G.B α ow) α X.K H v (.tup xs) := fun h => by cases h with | of h => exact h
      refine .inr (.inr ⟨p, q, vs, us, rfl, rfl, h1, h3, by rw [h2.1, h4.1]; exact Nat.le_trans hl big_line, fun hn => ?_, fun _ hn => ?_, fun _ _ l hl => w _ _ (Ext.new hl) (s.new hl) (s.newT hl (h2.append h4))⟩)
      · have : xs = [] := List.eq_nil_of_length_eq_zero (by rw [← h2.1, hn]; rfl)
        subst this
        exact w _ H Ext.refl s (cx ry)
      · have : ys = [] := List.eq_nil_of_length_eq_zero (by rw [← h4.1, hn]; rfl)
        subst this
        rw [List.append_nil] at w
        exact w _ H Ext.refl s (cx rx)
    · cases e
  · exact .inl (q0 G α ow σ H ρ g x y _ _ d Q s rx ry e w)
/-- x += e, x a slot -/
def sAug (i : Nat) (op : D → D → Option D) (f : DE) : DS := fun ρ g => match ρ[i]? with
  | some (some (.d x)) => match f ρ g with
    | some (y, g1) => match op x y with
      | some z => some (.nx (ρ.set i (some (.d z))), g1)
      | none => none
    | none => none
  | _ => none
theorem sc_aug {i : Nat} {x : Str} {op : Operator} {o : D → D → Option D} {pos' : Pos} (hN : X.N.Nodup) (ho : OpD X (inplaceOp op) o) (he : EB X e fe) (hi : X.N[i]? = some x := by rfl) (hx : Loc X.env.scope x := by first | exact Or.inl rfl | exact Or.inr rfl)
    (hf : X.fn x = true ∨ X.env.scope.names.lookup x = some .local := by first | exact .inl rfl | exact .inr rfl | assumption) : SC X (.AugAssign (.Name x pos') op e pos) (sAug i o fe) := by
  obtain ⟨r, hr, hq⟩ := ho
  obtain ⟨t, pt, qe⟩ := he
  refine ⟨_, ps_aug hN hi hx pt (ti := r) hr hf, fun G α ow σ H ρ g out g' Dn s e w => ?_⟩
  unfold sAug at e
  split at e
  · rename_i x0 hx0
    split at e
    · rename_i y g1 e1
      split at e
      · rename_i z hz
        cases e
        obtain ⟨v, h1, h2⟩ := s.slot i _ hx0
        refine ⟨v, h1, qe G α ow σ H ρ g y g' _ s e1 fun u H1 α1 x1 s1 r1 => ?_⟩
        exact hq G α1 ow σ H1 ρ g' v u x0 y z _ s1 (.of (h2.ext x1)) r1 hz fun v2 H2 x2 s2 r2 => w _ _ _ _ (s2.set r2) ((x1.trans x2).fz.trans Fz.off)
      · cases e
    · cases e
  · cases e
theorem opd_iadd : OpD X (inplaceOp .Add) dAdd := by
  refine ⟨_, iop_add.or iop_add_str, fun G α ow σ H ρ g x y dx dy d Q s rx ry e w => ?_⟩
  unfold dAdd at e
  split at e
  · cases e
    rw [rx.int, ry.int]
    exact .inl ⟨_, _, rfl, rfl, w _ H Ext.refl s (.int _)⟩
  · split at e
    · rename_i hl
      cases e
      rw [rx.str, ry.str]
      refine .inr ⟨_, _, rfl, rfl, by rw [S_len, S_len]; exact Nat.le_trans hl big_line, ?_⟩
      rw [S_app]
      exact w _ H Ext.refl s (.str _)
    · cases e
  · cases e
end
theorem b_len : bootBuiltins "len" = some (.builtin "len") := by decide +kernel
theorem b_all : bootBuiltins "all" = some (.builtin "all") := by decide +kernel
theorem b_any : bootBuiltins "any" = some (.builtin "any") := by decide +kernel
theorem b_int : bootBuiltins "int" = some (.type "int") := by decide +kernel
theorem b_str : bootBuiltins "str" = some (.type "str") := by decide +kernel
theorem b_bool : bootBuiltins "bool" = some (.type "bool") := by decide +kernel
theorem b_list : bootBuiltins "list" = some (.type "list") := by decide +kernel
theorem b_tuple : bootBuiltins "tuple" = some (.type "tuple") := by decide +kernel
theorem b_dict : bootBuiltins "dict" = some (.type "dict") := by decide +kernel
end L3

/-! L3m: reckoning with what defs are worth. -/
namespace L3

def Ok {β : Type} (r : Option (β × Store)) (Q : β → Store → Prop) : Prop := ∃ x g, r = some (x, g) ∧ Q x g
theorem Ok.of {β : Type} {r : Option (β × Store)} {x : β} {g : Store} {Q : β → Store → Prop} (e : r = some (x, g)) (h : Q x g) : Ok r Q := ⟨x, g, e, h⟩
theorem Ok.mono {β : Type} {r : Option (β × Store)} {Q R : β → Store → Prop} (h : Ok r Q) (f : ∀ x g, Q x g → R x g) : Ok r R := by
  obtain ⟨x, g, e, q⟩ := h
  exact ⟨x, g, e, f x g q⟩
section
variable {ρ : Env3} {g : Store}
theorem ok_bind {β γ : Type} {m : M β} {k : β → M γ} {Q : γ → Store → Prop} (h : Ok (m ρ g) fun x g1 => Ok (k x ρ g1) Q) : Ok (L3.bindM m k ρ g) Q := by
  obtain ⟨x, g1, e, y, g2, e2, q⟩ := h
  exact ⟨y, g2, by unfold L3.bindM; rw [e]; exact e2, q⟩
theorem ok_lift {β : Type} {o : Option β} {x : β} {Q : β → Store → Prop} (e : o = some x) (h : Q x g) : Ok (L3.liftM o ρ g) Q := ⟨x, g, by unfold L3.liftM; rw [e], h⟩
theorem ok_seq {a b : DS} {Q : Out → Store → Prop} (h : Ok (a ρ g) fun o g1 => match o with | .nx ρ1 => Ok (b ρ1 g1) Q | o => Q o g1) : Ok (sSeq a b ρ g) Q := by
  obtain ⟨o, g1, e, q⟩ := h
  unfold sSeq
  rw [e]
  cases o with
  | nx ρ1 => exact q
  | rt d => exact ⟨_, _, rfl, q⟩
  | bk ρ1 => exact ⟨_, _, rfl, q⟩
  | ct ρ1 => exact ⟨_, _, rfl, q⟩
theorem ok_set {i : Nat} {f : DE} {Q : Out → Store → Prop} (h : Ok (f ρ g) fun d g1 => Q (.nx (ρ.set i (some (.d d)))) g1) : Ok (sSet i f ρ g) Q := by
  obtain ⟨d, g1, e, q⟩ := h
  exact ⟨_, g1, by unfold sSet; rw [e], q⟩
theorem ok_own {i : Nat} {f : DA} {Q : Out → Store → Prop} (hi : i < ρ.length) (h : Ok (f ρ g) fun d g1 => Q (.nx (ρ.set i (some (.own d)))) g1) : Ok (sOwn i f ρ g) Q := by
  obtain ⟨d, g1, e, q⟩ := h
  exact ⟨_, g1, by unfold sOwn; rw [e]; simp [hi], q⟩
theorem ok_ret {f : DE} {Q : Out → Store → Prop} (h : Ok (f ρ g) fun d g1 => Q (.rt d) g1) : Ok (sRet f ρ g) Q := by
  obtain ⟨d, g1, e, q⟩ := h
  exact ⟨_, g1, by unfold sRet; rw [e], q⟩
theorem ok_if {c : DT} {a b : DS} {Q : Out → Store → Prop} (h : Ok (c ρ g) fun k g1 => (k = true → Ok (a ρ g1) Q) ∧ (k = false → Ok (b ρ g1) Q)) : Ok (sIf c a b ρ g) Q := by
  obtain ⟨k, g1, e, q1, q2⟩ := h
  unfold sIf
  rw [e]
  cases k with
  | true => exact q1 rfl
  | false => exact q2 rfl
theorem ok_app {i : Nat} {f : DE} {xs : List D} {Q : Out → Store → Prop} (hx : ρ[i]? = some (some (.own xs))) (h : Ok (f ρ g) fun d g1 => xs.length < BIG ∧ Q (.nx (ρ.set i (some (.own (xs ++ [d]))))) g1) : Ok (sApp i f ρ g) Q := by
  obtain ⟨d, g1, e, hl, q⟩ := h
  exact ⟨_, g1, by unfold sApp; rw [hx, e]; simp [hl], q⟩
theorem ok_run {n : Nat} {f : DS} {ds : List D} {Q : D → Store → Prop} (h : Ok (f (start3 n ds) g) fun o g1 => match o with | .rt d => Q d g1 | .nx _ => Q .non g1 | _ => False) : Ok (runD n f ds g) Q := by
  obtain ⟨o, g1, e, q⟩ := h
  unfold runD
  rw [e]
  cases o with
  | nx ρ1 => exact ⟨_, _, rfl, q⟩
  | rt d => exact ⟨_, _, rfl, q⟩
  | bk ρ1 => exact q.elim
  | ct ρ1 => exact q.elim
/-- a comprehension, by what each turn brings -/
theorem ok_lc {tg : D → Option (List (Nat × D))} {e : DE} (I : Store → Prop) (P : D → D → Prop) : ∀ {ds : List D} {g : Store}, I g → (∀ d ∈ ds, ∀ g, I g → ∃ as, tg d = some as ∧ Ok (e (sets ρ as) g) fun y g1 => P d y ∧ I g1) →
    Ok (lcD tg tYesD e ds ρ g) fun ys g1 => I g1 ∧ ys.length = ds.length ∧ ∀ (i : Nat) d y, ds[i]? = some d → ys[i]? = some y → P d y
  | [], g, hI, _ => ⟨[], g, rfl, hI, rfl, fun i d y h => by simp at h⟩
  | d :: ds, g, hI, h => by
    obtain ⟨as, ea, y, g1, ey, hp, hI1⟩ := h d List.mem_cons_self g hI
    obtain ⟨ys, g2, e2, hI2, hl, hall⟩ := ok_lc I P (ds := ds) hI1 fun d' hd' => h d' (List.mem_cons_of_mem _ hd')
    refine ⟨y :: ys, g2, ?_, hI2, by simp [hl], fun i d' y' h1 h2 => ?_⟩
    · unfold lcD
      rw [ea]
      simp only [tYesD, ey, e2]
    · cases i with
      | zero => simp at h1 h2; subst h1 h2; exact hp
      | succ i => exact hall i d' y' (by simpa using h1) (by simpa using h2)
/-- .. where nothing is drawn: the list itself -/
theorem lc_map {tg : D → Option (List (Nat × D))} {e : DE} {f : D → D} : ∀ {ds : List D}, (∀ d ∈ ds, ∃ as, tg d = some as ∧ e (sets ρ as) g = some (f d, g)) → lcD tg tYesD e ds ρ g = some (ds.map f, g)
  | [], _ => rfl
  | d :: ds, h => by
    obtain ⟨as, ea, ey⟩ := h d List.mem_cons_self
    unfold lcD
    rw [ea]
    simp only [tYesD, ey, lc_map (ds := ds) fun d' hd' => h d' (List.mem_cons_of_mem _ hd'), List.map_cons]
theorem lc_filter {tg : D → Option (List (Nat × D))} {c : DT} {e : DE} {f : D → D} {p : D → Bool} : ∀ {ds : List D}, (∀ d ∈ ds, ∃ as, tg d = some as ∧ c (sets ρ as) g = some (p d, g) ∧ (p d = true → e (sets ρ as) g = some (f d, g))) → lcD tg c e ds ρ g = some ((ds.filter p).map f, g)
  | [], _ => rfl
  | d :: ds, h => by
    obtain ⟨as, ea, ec, ey⟩ := h d List.mem_cons_self
    have ih := lc_filter (ds := ds) fun d' hd' => h d' (List.mem_cons_of_mem _ hd')
    unfold lcD
    rw [ea]
    simp only [ec]
    cases hp : p d with
    | true => simp only [ey hp, ih, List.filter_cons_of_pos hp, List.map_cons]
    | false => simp only [ih]; rw [List.filter_cons_of_neg (by simp [hp])]
/-- a for by its invariant -/
theorem ok_for {tg : D → Option (List (Nat × D))} {body : DS} {Q : Out → Store → Prop} (J : List D → Env3 → Store → Prop) : ∀ {ds : List D} {ρ : Env3} {g : Store}, J ds ρ g →
    (∀ d r ρ g, J (d :: r) ρ g → ∃ as, tg d = some as ∧ Ok (body (sets ρ as) g) fun o g1 => match o with | .nx ρ1 => J r ρ1 g1 | .ct ρ1 => J r ρ1 g1 | .bk ρ1 => Q (.nx ρ1) g1 | .rt d => Q (.rt d) g1) → (∀ ρ g, J [] ρ g → Q (.nx ρ) g) → Ok (forD tg body ds ρ g) Q
  | [], ρ, g, hJ, _, hd => ⟨_, _, rfl, hd ρ g hJ⟩
  | d :: ds, ρ, g, hJ, hs, hd => by
    obtain ⟨as, ea, o, g1, eo, q⟩ := hs d ds ρ g hJ
    unfold forD
    rw [ea]
    simp only [eo]
    cases o with
    | nx ρ1 => exact ok_for J q hs hd
    | ct ρ1 => exact ok_for J q hs hd
    | bk ρ1 => exact ⟨_, _, rfl, q⟩
    | rt d => exact ⟨_, _, rfl, q⟩
theorem ok_sfor {it : DA} {tg : D → Option (List (Nat × D))} {body : DS} {Q : Out → Store → Prop} (h : Ok (it ρ g) fun ds g1 => Ok (forD tg body ds ρ g1) Q) : Ok (sFor it tg body ρ g) Q := by
  obtain ⟨ds, g1, e, q⟩ := h
  unfold sFor
  rw [e]
  exact q
theorem ok_aLc {it : DA} {vs : List Nat} {tg : D → Option (List (Nat × D))} {c : DT} {e : DE} {Q : List D → Store → Prop} (h : Ok (it ρ g) fun ds g1 => (ds.length ≤ BIG ∧ noOwn ρ vs = true) ∧ Ok (lcD tg c e ds (wipe3 ρ vs) g1) Q) : Ok (aLc it vs tg c e ρ g) Q := by
  obtain ⟨ds, g1, e, h1, q⟩ := h
  unfold aLc
  rw [e]
  simp only [h1, and_self, if_true]
  exact q
end
theorem rangeD_len (lo : Int) (n : Nat) : (rangeD lo n).length = n := by simp [rangeD]
end L3

/-! L3n: the same as equations, for simp. -/
namespace L3
def OkO {β : Type} (o : Option β) (Q : β → Prop) : Prop := ∃ x, o = some x ∧ Q x
theorem okO_some {β : Type} (x : β) (Q : β → Prop) : OkO (some x) Q ↔ Q x := ⟨fun ⟨y, e, q⟩ => by cases e; exact q, fun q => ⟨x, rfl, q⟩⟩
theorem okO_ite {β : Type} {c : Prop} [Decidable c] (a b : Option β) (Q : β → Prop) : OkO (if c then a else b) Q ↔ if c then OkO a Q else OkO b Q := by split <;> exact Iff.rfl
theorem okO_guard {β : Type} {c : Prop} [Decidable c] (h : c) (a : Option β) (Q : β → Prop) : OkO (if c then a else none) Q ↔ OkO a Q := by rw [if_pos h]
theorem okO_map {β γ : Type} (f : β → γ) (o : Option β) (Q : γ → Prop) : OkO (o.map f) Q ↔ OkO o fun x => Q (f x) := by
  constructor
  · rintro ⟨y, e, q⟩
    obtain ⟨x, e1, rfl⟩ := Option.map_eq_some_iff.mp e
    exact ⟨x, e1, q⟩
  · rintro ⟨x, e, q⟩
    exact ⟨f x, by rw [e]; rfl, q⟩
section
variable {ρ : Env3} {g : Store}
theorem okv {β : Type} (x : β) (Q : β → Store → Prop) : Ok (some (x, g)) Q ↔ Q x g := ⟨fun ⟨y, g', e, q⟩ => by cases e; exact q, fun q => ⟨x, g, rfl, q⟩⟩
theorem okb {β γ : Type} (m : M β) (k : β → M γ) (Q : γ → Store → Prop) : Ok (L3.bindM m k ρ g) Q ↔ Ok (m ρ g) fun x g1 => Ok (k x ρ g1) Q := by
  constructor
  · rintro ⟨y, g', e, q⟩
    obtain ⟨x, g1, e1, e2⟩ := bindM_some e
    exact ⟨x, g1, e1, y, g', e2, q⟩
  · exact ok_bind
theorem okl {β : Type} (o : Option β) (Q : β → Store → Prop) : Ok (L3.liftM o ρ g) Q ↔ OkO o fun x => Q x g := by
  constructor
  · rintro ⟨y, g', e, q⟩
    obtain ⟨e1, rfl⟩ := liftM_some e
    exact ⟨y, e1, q⟩
  · rintro ⟨x, e, q⟩
    exact ok_lift e q
theorem ok_eOp (op : D → D → Option D) (a b : DE) (Q : D → Store → Prop) : Ok (eOp op a b ρ g) Q ↔ Ok (a ρ g) fun x g1 => Ok (b ρ g1) fun y g2 => OkO (op x y) fun z => Q z g2 := by
  unfold eOp; simp only [okb, okl]
theorem ok_eUn (op : D → Option D) (a : DE) (Q : D → Store → Prop) : Ok (eUn op a ρ g) Q ↔ Ok (a ρ g) fun x g1 => OkO (op x) fun z => Q z g1 := by
  unfold eUn; simp only [okb, okl]
theorem ok_aNil (Q : List D → Store → Prop) : Ok (aNil ρ g) Q ↔ Q [] g := okv _ _
theorem ok_aCons (a : DE) (r : DA) (Q : List D → Store → Prop) : Ok (aCons a r ρ g) Q ↔ Ok (a ρ g) fun x g1 => Ok (r ρ g1) fun xs g2 => Q (x :: xs) g2 := by
  unfold aCons; simp only [okb, okl, okO_some]
theorem ok_eFn (φ : List D → Option D) (a : DA) (Q : D → Store → Prop) : Ok (eFn φ a ρ g) Q ↔ Ok (a ρ g) fun xs g1 => OkO (φ xs) fun z => Q z g1 := by
  unfold eFn; simp only [okb, okl]
theorem ok_aFn (φ : List D → Option (List D)) (a : DA) (Q : List D → Store → Prop) : Ok (aFn φ a ρ g) Q ↔ Ok (a ρ g) fun xs g1 => OkO (φ xs) fun z => Q z g1 := by
  unfold aFn; simp only [okb, okl]
theorem ok_eApp (φ : List D → Store → Option (D × Store)) (a : DA) (Q : D → Store → Prop) : Ok (eApp φ a ρ g) Q ↔ Ok (a ρ g) fun xs g1 => Ok (φ xs g1) Q := by
  unfold eApp; simp only [okb]
theorem ok_eC (d : D) (Q : D → Store → Prop) : Ok (eC d ρ g) Q ↔ Q d g := okv _ _
theorem ok_eL (f : DA) (Q : D → Store → Prop) : Ok (eL f ρ g) Q ↔ Ok (f ρ g) fun xs g1 => Q (.lst xs) g1 := by
  unfold eL; simp only [okb, okl, okO_some]
theorem ok_eSt (f : DA) (Q : D → Store → Prop) : Ok (eSt f ρ g) Q ↔ Ok (f ρ g) fun xs g1 => Q (.obj g1.length) (g1 ++ [.lst xs]) := by
  unfold eSt; simp only [okb, okv]
theorem ok_eM1 (φ : D → List D → Option D) (o a : DE) (Q : D → Store → Prop) : Ok (eM1 φ o a ρ g) Q ↔ Ok (o ρ g) fun x g1 => Ok (a ρ g1) fun y g2 => OkO (if isStr x then φ x [y] else none) fun z => Q z g2 := by
  unfold eM1; simp only [okb, okl]
theorem ok_aM1 (φ : D → List D → Option (List D)) (o a : DE) (Q : List D → Store → Prop) : Ok (aM1 φ o a ρ g) Q ↔ Ok (o ρ g) fun x g1 => Ok (a ρ g1) fun y g2 => OkO (if isStr x then φ x [y] else none) fun z => Q z g2 := by
  unfold aM1; simp only [okb, okl]
theorem ok_oNone (Q : Option Int → Store → Prop) : Ok (oNone ρ g) Q ↔ Q none g := okv _ _
def asInt : D → Option (Option Int)
  | .int i => some (some i)
  | _ => none
theorem ok_oSome (f : DE) (Q : Option Int → Store → Prop) : Ok (oSome f ρ g) Q ↔ Ok (f ρ g) fun x g1 => OkO (asInt x) fun z => Q z g1 := by
  unfold oSome; simp only [okb, okl]; rfl
theorem ok_eSl (φ : D → Option Int → Option Int → Option D) (f : DE) (lo hi : DO) (Q : D → Store → Prop) : Ok (eSl φ f lo hi ρ g) Q ↔ Ok (f ρ g) fun x g1 => Ok (lo ρ g1) fun l g2 => Ok (hi ρ g2) fun h g3 => OkO (φ x l h) fun z => Q z g3 := by
  unfold eSl; simp only [okb, okl]
def asBl : D → Option Bool
  | .bl b => some b
  | _ => none
theorem ok_tOf (a : DE) (Q : Bool → Store → Prop) : Ok (tOf a ρ g) Q ↔ Ok (a ρ g) fun x g1 => OkO (asBl x) fun b => Q b g1 := by
  unfold tOf; simp only [okb, okl]; rfl
theorem ok_tTru (a : DE) (Q : Bool → Store → Prop) : Ok (tTru a ρ g) Q ↔ Ok (a ρ g) fun x g1 => OkO (truD x) fun b => Q b g1 := by
  unfold tTru; simp only [okb, okl]
theorem ok_tNot (a : DT) (Q : Bool → Store → Prop) : Ok (tNotD a ρ g) Q ↔ Ok (a ρ g) fun c g1 => Q (!c) g1 := by
  unfold tNotD; simp only [okb, okl, okO_some]
theorem ok_tAnd (a b : DT) (Q : Bool → Store → Prop) : Ok (tAndD a b ρ g) Q ↔ Ok (a ρ g) fun c g1 => if c = true then Ok (b ρ g1) Q else Q false g1 := by
  unfold tAndD; simp only [okb]
  constructor <;> (rintro ⟨c, g1, e, q⟩; refine ⟨c, g1, e, ?_⟩; cases c <;> simpa [okv] using q)
theorem ok_tOr (a b : DT) (Q : Bool → Store → Prop) : Ok (tOrD a b ρ g) Q ↔ Ok (a ρ g) fun c g1 => if c = true then Q true g1 else Ok (b ρ g1) Q := by
  unfold tOrD; simp only [okb]
  constructor <;> (rintro ⟨c, g1, e, q⟩; refine ⟨c, g1, e, ?_⟩; cases c <;> simpa [okv] using q)
theorem ok_eAnd (a b : DE) (Q : D → Store → Prop) : Ok (eAndD a b ρ g) Q ↔ Ok (a ρ g) fun x g1 => OkO (asBl x) fun c => if c = true then Ok (b ρ g1) Q else Q (.bl false) g1 := by
  unfold eAndD; simp only [okb]
  constructor
  · rintro ⟨x, g1, e, y, g2, e2, q⟩
    refine ⟨x, g1, e, ?_⟩
    split at e2
    · exact ⟨true, rfl, y, g2, e2, q⟩
    · cases e2; exact ⟨false, rfl, q⟩
    · cases e2
  · rintro ⟨x, g1, e, c, e2, q⟩
    refine ⟨x, g1, e, ?_⟩
    cases x <;> cases e2
    cases c
    · exact ⟨_, _, rfl, q⟩
    · exact q
theorem ok_eOr (a b : DE) (Q : D → Store → Prop) : Ok (eOrD a b ρ g) Q ↔ Ok (a ρ g) fun x g1 => OkO (asBl x) fun c => if c = true then Q (.bl true) g1 else Ok (b ρ g1) Q := by
  unfold eOrD; simp only [okb]
  constructor
  · rintro ⟨x, g1, e, y, g2, e2, q⟩
    refine ⟨x, g1, e, ?_⟩
    split at e2
    · exact ⟨false, rfl, y, g2, e2, q⟩
    · cases e2; exact ⟨true, rfl, q⟩
    · cases e2
  · rintro ⟨x, g1, e, c, e2, q⟩
    refine ⟨x, g1, e, ?_⟩
    cases x <;> cases e2
    cases c
    · exact q
    · exact ⟨_, _, rfl, q⟩
theorem ok_eIf (c : DT) (a b : DE) (Q : D → Store → Prop) : Ok (eIfD c a b ρ g) Q ↔ Ok (c ρ g) fun k g1 => if k = true then Ok (a ρ g1) Q else Ok (b ρ g1) Q := by
  unfold eIfD; simp only [okb]
  constructor <;> (rintro ⟨c, g1, e, q⟩; refine ⟨c, g1, e, ?_⟩; cases c <;> simpa using q)
theorem ok_eChain (o o' : D → D → Option D) (a b c : DE) (Q : D → Store → Prop) : Ok (eChain o o' a b c ρ g) Q ↔ Ok (a ρ g) fun x g1 => Ok (b ρ g1) fun y g2 => OkO (o x y) fun z => OkO (asBl z) fun k => if k = true then Ok (c ρ g2) fun u g3 => OkO (o' y u) fun r => Q r g3 else Q (.bl false) g2 := by
  unfold eChain; simp only [okb, okl]
  constructor
  · rintro ⟨x, g1, e1, y, g2, e2, z, e3, r, g4, e4, q⟩
    refine ⟨x, g1, e1, y, g2, e2, z, e3, ?_⟩
    split at e4
    · obtain ⟨u, g5, e5, e6⟩ := bindM_some e4
      obtain ⟨e7, rfl⟩ := liftM_some e6
      exact ⟨true, rfl, u, g5, e5, r, e7, q⟩
    · cases e4; exact ⟨false, rfl, q⟩
    · cases e4
  · rintro ⟨x, g1, e1, y, g2, e2, z, e3, k, e4, q⟩
    refine ⟨x, g1, e1, y, g2, e2, z, e3, ?_⟩
    cases z <;> cases e4
    cases k
    · exact ⟨_, _, rfl, q⟩
    · exact ok_bind (by obtain ⟨u, g5, e5, r, e6, q⟩ := q; exact ⟨u, g5, e5, ok_lift e6 q⟩)
/-! names -/
def valD : Option (Option SV) → Option D
  | some (some (.d x)) => some x
  | _ => none
def valB : Option (Option SV) → Option D
  | some (some (.d x)) => some x
  | some (some (.own xs)) => some (.lst xs)
  | some (some (.ownd ds)) => some (.dic ds)
  | _ => none
theorem ok_eVar (i : Nat) (Q : D → Store → Prop) : Ok (eVar i ρ g) Q ↔ OkO (valD ρ[i]?) fun x => Q x g := by
  unfold eVar valD
  generalize ρ[i]? = o
  constructor
  · rintro ⟨x, g1, e, q⟩
    split at e
    · cases e; exact ⟨_, rfl, q⟩
    · cases e
  · rintro ⟨x, e, q⟩
    split at e
    · cases e; exact ⟨_, _, rfl, q⟩
    · cases e
theorem ok_eVarB (i : Nat) (Q : D → Store → Prop) : Ok (eVarB i ρ g) Q ↔ OkO (valB ρ[i]?) fun x => Q x g := by
  unfold eVarB valB
  generalize ρ[i]? = o
  constructor
  · rintro ⟨x, g1, e, q⟩
    split at e
    · cases e; exact ⟨_, rfl, q⟩
    · cases e; exact ⟨_, rfl, q⟩
    · cases e; exact ⟨_, rfl, q⟩
    · cases e
  · rintro ⟨x, e, q⟩
    split at e
    · cases e; exact ⟨_, _, rfl, q⟩
    · cases e; exact ⟨_, _, rfl, q⟩
    · cases e; exact ⟨_, _, rfl, q⟩
    · cases e
/-! statements -/
def seqK (b : DS) (Q : Out → Store → Prop) : Out → Store → Prop := fun o g1 => match o with
  | .nx ρ1 => Ok (b ρ1 g1) Q
  | o => Q o g1
theorem seqK_nx (b : DS) (Q : Out → Store → Prop) (ρ1 : Env3) : seqK b Q (.nx ρ1) g ↔ Ok (b ρ1 g) Q := Iff.rfl
theorem seqK_rt (b : DS) (Q : Out → Store → Prop) (d : D) : seqK b Q (.rt d) g ↔ Q (.rt d) g := Iff.rfl
theorem seqK_bk (b : DS) (Q : Out → Store → Prop) (ρ1 : Env3) : seqK b Q (.bk ρ1) g ↔ Q (.bk ρ1) g := Iff.rfl
theorem seqK_ct (b : DS) (Q : Out → Store → Prop) (ρ1 : Env3) : seqK b Q (.ct ρ1) g ↔ Q (.ct ρ1) g := Iff.rfl
theorem ok_sSeq (a b : DS) (Q : Out → Store → Prop) : Ok (sSeq a b ρ g) Q ↔ Ok (a ρ g) (seqK b Q) := by
  constructor
  · rintro ⟨o, g1, e, q⟩
    unfold sSeq at e
    split at e
    · rename_i ρ1 g2 e1
      exact ⟨_, _, e1, o, g1, e, q⟩
    · rename_i hn
      refine ⟨o, g1, e, ?_⟩
      cases o with
      | nx ρ1 => exact absurd e (hn ρ1 g1)
      | rt d => exact q
      | bk ρ1 => exact q
      | ct ρ1 => exact q
  · intro h
    exact ok_seq (h.mono fun o g1 q => by cases o <;> exact q)
theorem ok_sSet (i : Nat) (f : DE) (Q : Out → Store → Prop) : Ok (sSet i f ρ g) Q ↔ Ok (f ρ g) fun d g1 => Q (.nx (ρ.set i (some (.d d)))) g1 := by
  constructor
  · rintro ⟨o, g1, e, q⟩
    unfold sSet at e
    split at e
    · cases e; exact ⟨_, _, ‹_›, q⟩
    · cases e
  · exact ok_set
theorem ok_sOwn (i : Nat) (f : DA) (Q : Out → Store → Prop) (hi : i < ρ.length) : Ok (sOwn i f ρ g) Q ↔ Ok (f ρ g) fun d g1 => Q (.nx (ρ.set i (some (.own d)))) g1 := by
  constructor
  · rintro ⟨o, g1, e, q⟩
    unfold sOwn at e
    split at e
    · rw [if_pos hi] at e; cases e; exact ⟨_, _, ‹_›, q⟩
    · cases e
  · exact ok_own hi
theorem ok_sRet (f : DE) (Q : Out → Store → Prop) : Ok (sRet f ρ g) Q ↔ Ok (f ρ g) fun d g1 => Q (.rt d) g1 := by
  constructor
  · rintro ⟨o, g1, e, q⟩
    unfold sRet at e
    split at e
    · cases e; exact ⟨_, _, ‹_›, q⟩
    · cases e
  · exact ok_ret
theorem ok_sIf (c : DT) (a b : DS) (Q : Out → Store → Prop) : Ok (sIf c a b ρ g) Q ↔ Ok (c ρ g) fun k g1 => if k = true then Ok (a ρ g1) Q else Ok (b ρ g1) Q := by
  constructor
  · rintro ⟨o, g1, e, q⟩
    unfold sIf at e
    split at e
    · exact ⟨_, _, ‹_›, by dsimp only; rw [if_pos rfl]; exact ⟨o, g1, e, q⟩⟩
    · exact ⟨_, _, ‹_›, by dsimp only; rw [if_neg (by decide)]; exact ⟨o, g1, e, q⟩⟩
    · cases e
  · rintro ⟨k, g1, e, q⟩
    refine ok_if ⟨k, g1, e, fun h => ?_, fun h => ?_⟩
    · rw [if_pos h] at q; exact q
    · rw [if_neg (by simp [h])] at q; exact q
theorem ok_sNext (Q : Out → Store → Prop) : Ok (sNext ρ g) Q ↔ Q (.nx ρ) g := okv _ _
theorem ok_sDrop (f : DE) (Q : Out → Store → Prop) : Ok (sDrop f ρ g) Q ↔ Ok (f ρ g) fun d g1 => Q (.nx ρ) g1 := by
  constructor
  · rintro ⟨o, g1, e, q⟩
    unfold sDrop at e
    split at e
    · cases e; exact ⟨_, _, ‹_›, q⟩
    · cases e
  · rintro ⟨d, g1, e, q⟩
    exact ⟨_, g1, by unfold sDrop; rw [e], q⟩
def ownOf : Option (Option SV) → Option (List D)
  | some (some (.own xs)) => some xs
  | _ => none
theorem ok_sApp (i : Nat) (f : DE) (Q : Out → Store → Prop) : Ok (sApp i f ρ g) Q ↔ OkO (ownOf ρ[i]?) fun xs => Ok (f ρ g) fun d g1 => xs.length < BIG ∧ Q (.nx (ρ.set i (some (.own (xs ++ [d]))))) g1 := by
  constructor
  · rintro ⟨o, g1, e, q⟩
    unfold sApp at e
    split at e
    · rename_i xs hx
      split at e
      · split at e
        · cases e
          exact ⟨xs, by rw [hx]; rfl, _, _, ‹_›, ‹_›, q⟩
        · cases e
      · cases e
    · cases e
  · rintro ⟨xs, hx, d, g1, e, hl, q⟩
    have hx' : ρ[i]? = some (some (.own xs)) := by
      unfold ownOf at hx
      split at hx
      · cases hx; assumption
      · cases hx
    exact ok_app hx' ⟨d, g1, e, hl, q⟩
def frz (ρ : Env3) (i : Nat) : Env3 := match ρ[i]? with
  | some (some (.own xs)) => ρ.set i (some (.d (.lst xs)))
  | some (some (.ownd ds)) => ρ.set i (some (.d (.dic ds)))
  | _ => ρ
theorem ok_sFreeze (i : Nat) (f : DS) (Q : Out → Store → Prop) : Ok (sFreeze i f ρ g) Q ↔ Ok (f (frz ρ i) g) Q := by
  unfold sFreeze frz
  generalize ρ[i]? = o
  cases o with
  | none => exact Iff.rfl
  | some o => cases o with
    | none => exact Iff.rfl
    | some x => cases x <;> exact Iff.rfl
theorem ok_sUnp (f : DE) (tg : D → Option (List (Nat × D))) (Q : Out → Store → Prop) : Ok (sUnp f tg ρ g) Q ↔ Ok (f ρ g) fun d g1 => OkO (tg d) fun as => Q (.nx (sets ρ as)) g1 := by
  constructor
  · rintro ⟨o, g1, e, q⟩
    unfold sUnp at e
    split at e
    · split at e
      · cases e; exact ⟨_, _, ‹_›, _, ‹_›, q⟩
      · cases e
    · cases e
  · rintro ⟨d, g1, e, as, ea, q⟩
    exact ⟨_, g1, by unfold sUnp; rw [e]; simp only [ea], q⟩
theorem ok_sAug (i : Nat) (op : D → D → Option D) (f : DE) (Q : Out → Store → Prop) : Ok (sAug i op f ρ g) Q ↔ OkO (valD ρ[i]?) fun x => Ok (f ρ g) fun y g1 => OkO (op x y) fun z => Q (.nx (ρ.set i (some (.d z)))) g1 := by
  constructor
  · rintro ⟨o, g1, e, q⟩
    unfold sAug at e
    split at e
    · rename_i x hx
      split at e
      · split at e
        · cases e
          exact ⟨x, by rw [hx]; rfl, _, _, ‹_›, _, ‹_›, q⟩
        · cases e
      · cases e
    · cases e
  · rintro ⟨x, hx, y, g1, e, z, ez, q⟩
    have hx' : ρ[i]? = some (some (.d x)) := by
      unfold valD at hx
      split at hx
      · cases hx; assumption
      · cases hx
    exact ⟨_, g1, by unfold sAug; rw [hx']; simp only [e, ez], q⟩
theorem ok_sFor (it : DA) (tg : D → Option (List (Nat × D))) (body : DS) (Q : Out → Store → Prop) : Ok (sFor it tg body ρ g) Q ↔ Ok (it ρ g) fun ds g1 => Ok (forD tg body ds ρ g1) Q := by
  constructor
  · rintro ⟨o, g1, e, q⟩
    unfold sFor at e
    split at e
    · exact ⟨_, _, ‹_›, o, g1, e, q⟩
    · cases e
  · exact ok_sfor
theorem ok_aLcE (it : DA) (vs : List Nat) (tg : D → Option (List (Nat × D))) (c : DT) (e : DE) (Q : List D → Store → Prop) : Ok (aLc it vs tg c e ρ g) Q ↔ Ok (it ρ g) fun ds g1 => (ds.length ≤ BIG ∧ noOwn ρ vs = true) ∧ Ok (lcD tg c e ds (wipe3 ρ vs) g1) Q := by
  constructor
  · rintro ⟨o, g1, e, q⟩
    unfold aLc at e
    split at e
    · split at e
      · exact ⟨_, _, ‹_›, ‹_›, o, g1, e, q⟩
      · cases e
    · cases e
  · exact ok_aLc
theorem ok_aItems (f : DE) (Q : List D → Store → Prop) : Ok (aItems f ρ g) Q ↔ Ok (f ρ g) fun x g1 => OkO (items x) fun z => Q z g1 := by
  unfold aItems; simp only [okb, okl]
def runK (Q : D → Store → Prop) : Out → Store → Prop := fun o g1 => match o with
  | .rt d => Q d g1
  | .nx _ => Q .non g1
  | _ => False
theorem runK_rt (Q : D → Store → Prop) (d : D) : runK Q (.rt d) g ↔ Q d g := Iff.rfl
theorem runK_nx (Q : D → Store → Prop) (ρ1 : Env3) : runK Q (.nx ρ1) g ↔ Q .non g := Iff.rfl
theorem ok_runD (n : Nat) (f : DS) (ds : List D) (Q : D → Store → Prop) : Ok (runD n f ds g) Q ↔ Ok (f (start3 n ds) g) (runK Q) := by
  constructor
  · rintro ⟨o, g1, e, q⟩
    unfold runD at e
    split at e
    · rename_i d g2 e1
      cases e
      exact ⟨.rt _, _, e1, q⟩
    · rename_i d g2 e1
      cases e
      exact ⟨.nx _, _, e1, q⟩
    · cases e
  · intro h
    exact ok_run (h.mono fun o g1 q => by cases o <;> exact q)
end
end L3

/-! L3o: operators on what they are of, as equations. -/
namespace L3
theorem okO_if {β : Type} {c : Prop} [Decidable c] (x : β) (Q : β → Prop) : OkO (if c then some x else none) Q ↔ c ∧ Q x := by
  constructor
  · rintro ⟨y, e, q⟩
    split at e
    · rename_i hc; cases e; exact ⟨hc, q⟩
    · cases e
  · rintro ⟨hc, q⟩
    exact ⟨x, by rw [if_pos hc], q⟩
theorem dAddA_ii (a b : Int) : dAddA (.int a) (.int b) = some (.int (a + b)) := rfl
theorem dAddA_ss (a b : List Nat) : dAddA (.str a) (.str b) = if a.length + b.length ≤ BIG then some (.str (a ++ b)) else none := rfl
theorem dAddA_ll (a b : List D) : dAddA (.lst a) (.lst b) = if a.length + b.length ≤ BIG then some (.lst (a ++ b)) else none := rfl
theorem dAddA_tt (a b : List D) : dAddA (.tup a) (.tup b) = if a.length + b.length ≤ BIG then some (.tup (a ++ b)) else none := rfl
theorem dAdd_ii (a b : Int) : dAdd (.int a) (.int b) = some (.int (a + b)) := rfl
theorem dAdd_ss (a b : List Nat) : dAdd (.str a) (.str b) = if a.length + b.length ≤ BIG then some (.str (a ++ b)) else none := rfl
theorem dSub_ii (a b : Int) : dSub (.int a) (.int b) = some (.int (a - b)) := rfl
theorem dMul_ii (a b : Int) : dMul (.int a) (.int b) = if (-(2 ^ 64) < a ∧ a < 2 ^ 64) ∨ (-(2 ^ 64) < b ∧ b < 2 ^ 64) then some (.int (a * b)) else none := rfl
theorem dMul_si (a : List Nat) (n : Int) : dMul (.str a) (.int n) = if 0 ≤ n ∧ n ≤ 100000 ∧ a.length * n.toNat ≤ BIG then some (.str (List.replicate n.toNat a).flatten) else none := rfl
theorem dMod_ii (a b : Int) : dMod (.int a) (.int b) = if 0 < b then some (.int (a % b)) else none := rfl
theorem dDiv_ii (a b : Int) : dDiv (.int a) (.int b) = if 0 < b ∧ b < 1073741824 then some (.int (a / b)) else none := rfl
theorem dLt_ii (a b : Int) : dLt (.int a) (.int b) = some (.bl (decide (a < b))) := rfl
theorem dLt_ss (a b : List Nat) : dLt (.str a) (.str b) = some (.bl (decide (a < b))) := rfl
theorem dLe_ii (a b : Int) : dLe (.int a) (.int b) = some (.bl (decide (a ≤ b))) := rfl
theorem dLe_ss (a b : List Nat) : dLe (.str a) (.str b) = some (.bl (!decide (b < a))) := rfl
theorem dGt_ii (a b : Int) : dGt (.int a) (.int b) = some (.bl (decide (b < a))) := rfl
theorem dGt_ss (a b : List Nat) : dGt (.str a) (.str b) = some (.bl (decide (b < a))) := rfl
theorem dGe_ii (a b : Int) : dGe (.int a) (.int b) = some (.bl (decide (b ≤ a))) := rfl
theorem dGe_ss (a b : List Nat) : dGe (.str a) (.str b) = some (.bl (!decide (a < b))) := rfl
theorem dEq_ii (a b : Int) : dEq (.int a) (.int b) = some (.bl (decide (a = b))) := rfl
theorem dEq_ss (a b : List Nat) : dEq (.str a) (.str b) = some (.bl (decide (a = b))) := rfl
theorem dEq_bb (a b : Bool) : dEq (.bl a) (.bl b) = some (.bl (decide (a = b))) := rfl
theorem dEq_nn  : dEq .non .non = some (.bl (true)) := rfl
theorem dEq_ns (a : List Nat) : dEq .non (.str a) = some (.bl (false)) := rfl
theorem dEq_sn (a : List Nat) : dEq (.str a) .non = some (.bl (false)) := rfl
theorem dEq_ni (a : Int) : dEq .non (.int a) = some (.bl (false)) := rfl
theorem dEq_in (a : Int) : dEq (.int a) .non = some (.bl (false)) := rfl
theorem dNe_ii (a b : Int) : dNe (.int a) (.int b) = some (.bl (!decide (a = b))) := rfl
theorem dNe_ss (a b : List Nat) : dNe (.str a) (.str b) = some (.bl (!decide (a = b))) := rfl
theorem dNe_bb (a b : Bool) : dNe (.bl a) (.bl b) = some (.bl (!decide (a = b))) := rfl
theorem dNe_nn  : dNe .non .non = some (.bl (!true)) := rfl
theorem dNe_ns (a : List Nat) : dNe .non (.str a) = some (.bl (!false)) := rfl
theorem dNe_sn (a : List Nat) : dNe (.str a) .non = some (.bl (!false)) := rfl
theorem dNe_ni (a : Int) : dNe .non (.int a) = some (.bl (!false)) := rfl
theorem dNe_in (a : Int) : dNe (.int a) .non = some (.bl (!false)) := rfl
theorem dIs_n  : dIs .non .non = some (.bl true) := rfl
theorem dIsNot_n  : dIsNot .non .non = some (.bl false) := rfl
theorem dIs_b (a : Bool) : dIs (.bl a) .non = some (.bl false) := rfl
theorem dIsNot_b (a : Bool) : dIsNot (.bl a) .non = some (.bl true) := rfl
theorem dIs_i (a : Int) : dIs (.int a) .non = some (.bl false) := rfl
theorem dIsNot_i (a : Int) : dIsNot (.int a) .non = some (.bl true) := rfl
theorem dIs_s (a : List Nat) : dIs (.str a) .non = some (.bl false) := rfl
theorem dIsNot_s (a : List Nat) : dIsNot (.str a) .non = some (.bl true) := rfl
theorem dIs_l (a : List D) : dIs (.lst a) .non = some (.bl false) := rfl
theorem dIsNot_l (a : List D) : dIsNot (.lst a) .non = some (.bl true) := rfl
theorem dIs_t (a : List D) : dIs (.tup a) .non = some (.bl false) := rfl
theorem dIsNot_t (a : List D) : dIsNot (.tup a) .non = some (.bl true) := rfl
theorem dIs_d (a : List (DKey × D)) : dIs (.dic a) .non = some (.bl false) := rfl
theorem dIsNot_d (a : List (DKey × D)) : dIsNot (.dic a) .non = some (.bl true) := rfl
theorem dIs_o (a : Nat) : dIs (.obj a) .non = some (.bl false) := rfl
theorem dIsNot_o (a : Nat) : dIsNot (.obj a) .non = some (.bl true) := rfl
theorem dLen_s (a : List Nat) : dLen [.str a] = if a.length ≤ BIG then some (.int a.length) else none := rfl
theorem dLen_l (a : List D) : dLen [.lst a] = some (.int a.length) := rfl
theorem dLen_t (a : List D) : dLen [.tup a] = some (.int a.length) := rfl
theorem dTup_d (a : List D) : dTup a = if a.length ≤ BIG then some (.tup a) else none := rfl
theorem dLst_d (a : List D) : dLst a = if a.length ≤ BIG then some a else none := rfl
theorem truD_n  : truD .non = some false := rfl
theorem truD_b (a : Bool) : truD (.bl a) = some a := rfl
theorem truD_i (a : Int) : truD (.int a) = some (a != 0) := rfl
theorem truD_s (a : List Nat) : truD (.str a) = if a.length ≤ BIG then some (!a.isEmpty) else none := rfl
theorem truD_l (a : List D) : truD (.lst a) = some (!a.isEmpty) := rfl
theorem truD_t (a : List D) : truD (.tup a) = some (!a.isEmpty) := rfl
theorem dNot_b (a : Bool) : dNot (.bl a) = some (.bl (!a)) := rfl
theorem dNeg_i (a : Int) : dNeg (.int a) = some (.int (-a)) := rfl
theorem asInt_i (a : Int) : asInt (.int a) = some (some a) := rfl
theorem asBl_b (a : Bool) : asBl (.bl a) = some a := rfl
theorem dSl_s (a : List Nat) (l h : Option Int) : dSl (.str a) l h = if a.length ≤ BIG then some (.str (cutL a l h)) else none := rfl
theorem dSl_l (a : List D) (l h : Option Int) : dSl (.lst a) l h = some (.lst (cutL a l h)) := rfl
theorem dSl_t (a : List D) (l h : Option Int) : dSl (.tup a) l h = some (.tup (cutL a l h)) := rfl
theorem isStr_s (a : List Nat) : isStr (.str a) = true := rfl
theorem items_l (a : List D) : items (.lst a) = some a := rfl
theorem items_t (a : List D) : items (.tup a) = some a := rfl
theorem items_s (a : List Nat) : items (.str a) = some (a.map fun c => .str [c]) := rfl
theorem dInt_i (a : Int) : dInt [.int a] = some (.int a) := rfl
theorem dInt_b (a : Bool) : dInt [.bl a] = some (.int (if a then 1 else 0)) := rfl
theorem dIx_li (a : List D) (i : Int) : dIx (.lst a) (.int i) = L2.atI a i := rfl
theorem dIx_ti (a : List D) (i : Int) : dIx (.tup a) (.int i) = L2.atI a i := rfl
theorem dStarts_ss (a b : List Nat) : dStarts (.str a) [.str b] = some (.bl (a.take b.length == b)) := rfl
theorem dTuple_l (a : List D) : dTuple [.lst a] = some (.tup a) := rfl
theorem dTuple_t (a : List D) : dTuple [.tup a] = some (.tup a) := rfl
theorem aList_l (a : List D) : aList [.lst a] = some a := rfl
theorem aList_t (a : List D) : aList [.tup a] = some a := rfl
theorem dIn_cs (c : Nat) (z : List Nat) : dIn (.str [c]) (.str z) = some (.bl (decide (c ∈ z))) := rfl
theorem dNotIn_cs (c : Nat) (z : List Nat) : dNotIn (.str [c]) (.str z) = some (.bl (!decide (c ∈ z))) := rfl
theorem valD_d (x : D) : valD (some (some (.d x))) = some x := rfl
theorem valB_d (x : D) : valB (some (some (.d x))) = some x := rfl
theorem valB_o (xs : List D) : valB (some (some (.own xs))) = some (.lst xs) := rfl
theorem valB_w (xs : List (DKey × D)) : valB (some (some (.ownd xs))) = some (.dic xs) := rfl
theorem ownOf_o (xs : List D) : ownOf (some (some (.own xs))) = some xs := rfl
theorem isi_int_n  : dIsi "int" .non = some (.bl false) := by unfold dIsi tyName; dsimp only; rw [show L2.kitB "NoneType" "int" = some false by decide +kernel]; rfl
theorem isi_int_b (a : Bool) : dIsi "int" (.bl a) = some (.bl true) := by unfold dIsi tyName; dsimp only; rw [show L2.kitB "bool" "int" = some true by decide +kernel]; rfl
theorem isi_int_i (a : Int) : dIsi "int" (.int a) = some (.bl true) := by unfold dIsi tyName; dsimp only; rw [show L2.kitB "int" "int" = some true by decide +kernel]; rfl
theorem isi_int_s (a : List Nat) : dIsi "int" (.str a) = some (.bl false) := by unfold dIsi tyName; dsimp only; rw [show L2.kitB "str" "int" = some false by decide +kernel]; rfl
theorem isi_int_l (a : List D) : dIsi "int" (.lst a) = some (.bl false) := by unfold dIsi tyName; dsimp only; rw [show L2.kitB "list" "int" = some false by decide +kernel]; rfl
theorem isi_int_t (a : List D) : dIsi "int" (.tup a) = some (.bl false) := by unfold dIsi tyName; dsimp only; rw [show L2.kitB "tuple" "int" = some false by decide +kernel]; rfl
theorem isi_int_d (a : List (DKey × D)) : dIsi "int" (.dic a) = some (.bl false) := by unfold dIsi tyName; dsimp only; rw [show L2.kitB "dict" "int" = some false by decide +kernel]; rfl
theorem isi_str_n  : dIsi "str" .non = some (.bl false) := by unfold dIsi tyName; dsimp only; rw [show L2.kitB "NoneType" "str" = some false by decide +kernel]; rfl
theorem isi_str_b (a : Bool) : dIsi "str" (.bl a) = some (.bl false) := by unfold dIsi tyName; dsimp only; rw [show L2.kitB "bool" "str" = some false by decide +kernel]; rfl
theorem isi_str_i (a : Int) : dIsi "str" (.int a) = some (.bl false) := by unfold dIsi tyName; dsimp only; rw [show L2.kitB "int" "str" = some false by decide +kernel]; rfl
theorem isi_str_s (a : List Nat) : dIsi "str" (.str a) = some (.bl true) := by unfold dIsi tyName; dsimp only; rw [show L2.kitB "str" "str" = some true by decide +kernel]; rfl
theorem isi_str_l (a : List D) : dIsi "str" (.lst a) = some (.bl false) := by unfold dIsi tyName; dsimp only; rw [show L2.kitB "list" "str" = some false by decide +kernel]; rfl
theorem isi_str_t (a : List D) : dIsi "str" (.tup a) = some (.bl false) := by unfold dIsi tyName; dsimp only; rw [show L2.kitB "tuple" "str" = some false by decide +kernel]; rfl
theorem isi_str_d (a : List (DKey × D)) : dIsi "str" (.dic a) = some (.bl false) := by unfold dIsi tyName; dsimp only; rw [show L2.kitB "dict" "str" = some false by decide +kernel]; rfl
theorem isi_bool_n  : dIsi "bool" .non = some (.bl false) := by unfold dIsi tyName; dsimp only; rw [show L2.kitB "NoneType" "bool" = some false by decide +kernel]; rfl
theorem isi_bool_b (a : Bool) : dIsi "bool" (.bl a) = some (.bl true) := by unfold dIsi tyName; dsimp only; rw [show L2.kitB "bool" "bool" = some true by decide +kernel]; rfl
theorem isi_bool_i (a : Int) : dIsi "bool" (.int a) = some (.bl false) := by unfold dIsi tyName; dsimp only; rw [show L2.kitB "int" "bool" = some false by decide +kernel]; rfl
theorem isi_bool_s (a : List Nat) : dIsi "bool" (.str a) = some (.bl false) := by unfold dIsi tyName; dsimp only; rw [show L2.kitB "str" "bool" = some false by decide +kernel]; rfl
theorem isi_bool_l (a : List D) : dIsi "bool" (.lst a) = some (.bl false) := by unfold dIsi tyName; dsimp only; rw [show L2.kitB "list" "bool" = some false by decide +kernel]; rfl
theorem isi_bool_t (a : List D) : dIsi "bool" (.tup a) = some (.bl false) := by unfold dIsi tyName; dsimp only; rw [show L2.kitB "tuple" "bool" = some false by decide +kernel]; rfl
theorem isi_bool_d (a : List (DKey × D)) : dIsi "bool" (.dic a) = some (.bl false) := by unfold dIsi tyName; dsimp only; rw [show L2.kitB "dict" "bool" = some false by decide +kernel]; rfl
theorem isi_list_n  : dIsi "list" .non = some (.bl false) := by unfold dIsi tyName; dsimp only; rw [show L2.kitB "NoneType" "list" = some false by decide +kernel]; rfl
theorem isi_list_b (a : Bool) : dIsi "list" (.bl a) = some (.bl false) := by unfold dIsi tyName; dsimp only; rw [show L2.kitB "bool" "list" = some false by decide +kernel]; rfl
theorem isi_list_i (a : Int) : dIsi "list" (.int a) = some (.bl false) := by unfold dIsi tyName; dsimp only; rw [show L2.kitB "int" "list" = some false by decide +kernel]; rfl
theorem isi_list_s (a : List Nat) : dIsi "list" (.str a) = some (.bl false) := by unfold dIsi tyName; dsimp only; rw [show L2.kitB "str" "list" = some false by decide +kernel]; rfl
theorem isi_list_l (a : List D) : dIsi "list" (.lst a) = some (.bl true) := by unfold dIsi tyName; dsimp only; rw [show L2.kitB "list" "list" = some true by decide +kernel]; rfl
theorem isi_list_t (a : List D) : dIsi "list" (.tup a) = some (.bl false) := by unfold dIsi tyName; dsimp only; rw [show L2.kitB "tuple" "list" = some false by decide +kernel]; rfl
theorem isi_list_d (a : List (DKey × D)) : dIsi "list" (.dic a) = some (.bl false) := by unfold dIsi tyName; dsimp only; rw [show L2.kitB "dict" "list" = some false by decide +kernel]; rfl
theorem isi_tuple_n  : dIsi "tuple" .non = some (.bl false) := by unfold dIsi tyName; dsimp only; rw [show L2.kitB "NoneType" "tuple" = some false by decide +kernel]; rfl
theorem isi_tuple_b (a : Bool) : dIsi "tuple" (.bl a) = some (.bl false) := by unfold dIsi tyName; dsimp only; rw [show L2.kitB "bool" "tuple" = some false by decide +kernel]; rfl
theorem isi_tuple_i (a : Int) : dIsi "tuple" (.int a) = some (.bl false) := by unfold dIsi tyName; dsimp only; rw [show L2.kitB "int" "tuple" = some false by decide +kernel]; rfl
theorem isi_tuple_s (a : List Nat) : dIsi "tuple" (.str a) = some (.bl false) := by unfold dIsi tyName; dsimp only; rw [show L2.kitB "str" "tuple" = some false by decide +kernel]; rfl
theorem isi_tuple_l (a : List D) : dIsi "tuple" (.lst a) = some (.bl false) := by unfold dIsi tyName; dsimp only; rw [show L2.kitB "list" "tuple" = some false by decide +kernel]; rfl
theorem isi_tuple_t (a : List D) : dIsi "tuple" (.tup a) = some (.bl true) := by unfold dIsi tyName; dsimp only; rw [show L2.kitB "tuple" "tuple" = some true by decide +kernel]; rfl
theorem isi_tuple_d (a : List (DKey × D)) : dIsi "tuple" (.dic a) = some (.bl false) := by unfold dIsi tyName; dsimp only; rw [show L2.kitB "dict" "tuple" = some false by decide +kernel]; rfl
theorem isi_dict_n  : dIsi "dict" .non = some (.bl false) := by unfold dIsi tyName; dsimp only; rw [show L2.kitB "NoneType" "dict" = some false by decide +kernel]; rfl
theorem isi_dict_b (a : Bool) : dIsi "dict" (.bl a) = some (.bl false) := by unfold dIsi tyName; dsimp only; rw [show L2.kitB "bool" "dict" = some false by decide +kernel]; rfl
theorem isi_dict_i (a : Int) : dIsi "dict" (.int a) = some (.bl false) := by unfold dIsi tyName; dsimp only; rw [show L2.kitB "int" "dict" = some false by decide +kernel]; rfl
theorem isi_dict_s (a : List Nat) : dIsi "dict" (.str a) = some (.bl false) := by unfold dIsi tyName; dsimp only; rw [show L2.kitB "str" "dict" = some false by decide +kernel]; rfl
theorem isi_dict_l (a : List D) : dIsi "dict" (.lst a) = some (.bl false) := by unfold dIsi tyName; dsimp only; rw [show L2.kitB "list" "dict" = some false by decide +kernel]; rfl
theorem isi_dict_t (a : List D) : dIsi "dict" (.tup a) = some (.bl false) := by unfold dIsi tyName; dsimp only; rw [show L2.kitB "tuple" "dict" = some false by decide +kernel]; rfl
theorem isi_dict_d (a : List (DKey × D)) : dIsi "dict" (.dic a) = some (.bl true) := by unfold dIsi tyName; dsimp only; rw [show L2.kitB "dict" "dict" = some true by decide +kernel]; rfl
end L3

/-! L3p: loops turn by turn. -/
namespace L3
def FUEL : Nat := 1000000
section
variable {ρ : Env3} {g : Store}
def forK (tg : D → Option (List (Nat × D))) (body : DS) (ds : List D) (Q : Out → Store → Prop) : Out → Store → Prop := fun o g1 => match o with
  | .nx ρ1 => Ok (forD tg body ds ρ1 g1) Q
  | .ct ρ1 => Ok (forD tg body ds ρ1 g1) Q
  | .bk ρ1 => Q (.nx ρ1) g1
  | .rt d => Q (.rt d) g1
variable (tg : D → Option (List (Nat × D))) (body : DS) (ds : List D) (Q : Out → Store → Prop)
theorem forK_nx (ρ1 : Env3) : forK tg body ds Q (.nx ρ1) g ↔ Ok (forD tg body ds ρ1 g) Q := Iff.rfl
theorem forK_ct (ρ1 : Env3) : forK tg body ds Q (.ct ρ1) g ↔ Ok (forD tg body ds ρ1 g) Q := Iff.rfl
theorem forK_bk (ρ1 : Env3) : forK tg body ds Q (.bk ρ1) g ↔ Q (.nx ρ1) g := Iff.rfl
theorem forK_rt (d : D) : forK tg body ds Q (.rt d) g ↔ Q (.rt d) g := Iff.rfl
theorem ok_forNil : Ok (forD tg body [] ρ g) Q ↔ Q (.nx ρ) g := okv _ _
theorem ok_forCons (d : D) : Ok (forD tg body (d :: ds) ρ g) Q ↔ OkO (tg d) fun as => Ok (body (sets ρ as) g) (forK tg body ds Q) := by
  constructor
  · rintro ⟨o, g1, e, q⟩
    unfold forD at e
    split at e
    · cases e
    · rename_i as ha
      refine ⟨as, ha, ?_⟩
      split at e
      · exact ⟨.nx _, _, ‹_›, show Ok _ _ from ⟨o, g1, e, q⟩⟩
      · exact ⟨.ct _, _, ‹_›, show Ok _ _ from ⟨o, g1, e, q⟩⟩
      · cases e; exact ⟨.bk _, _, ‹_›, q⟩
      · cases e; exact ⟨.rt _, _, ‹_›, q⟩
      · cases e
  · rintro ⟨as, ha, o, g1, e, q⟩
    unfold forD
    rw [ha]
    simp only [e]
    cases o with
    | nx ρ1 => exact q
    | ct ρ1 => exact q
    | bk ρ1 => exact ⟨_, _, rfl, q⟩
    | rt d => exact ⟨_, _, rfl, q⟩
end
section
variable {ρ : Env3} {g : Store} (tg : D → Option (List (Nat × D))) (c : DT) (e : DE) (ds : List D) (Q : List D → Store → Prop)
theorem ok_lcNil : Ok (lcD tg c e [] ρ g) Q ↔ Q [] g := okv _ _
theorem ok_lcCons (d : D) : Ok (lcD tg c e (d :: ds) ρ g) Q ↔ OkO (tg d) fun as => Ok (c (sets ρ as) g) fun b g1 => if b = true then Ok (e (sets ρ as) g1) fun y g2 => Ok (lcD tg c e ds ρ g2) fun ys g3 => Q (y :: ys) g3 else Ok (lcD tg c e ds ρ g1) Q := by
  constructor
  · rintro ⟨o, g1, h, q⟩
    unfold lcD at h
    split at h
    · cases h
    · rename_i as ha
      refine ⟨as, ha, ?_⟩
      split at h
      · split at h
        · split at h
          · cases h
            exact ⟨_, _, ‹_›, by dsimp only; rw [if_pos rfl]; exact ⟨_, _, ‹_›, _, _, ‹_›, q⟩⟩
          · cases h
        · cases h
      · exact ⟨_, _, ‹_›, by dsimp only; rw [if_neg (by decide)]; exact ⟨o, g1, h, q⟩⟩
      · cases h
  · rintro ⟨as, ha, b, g1, hc, q⟩
    unfold lcD
    rw [ha]
    simp only [hc]
    cases b with
    | true =>
      rw [if_pos rfl] at q
      obtain ⟨y, g2, e1, ys, g3, e2, q⟩ := q
      exact ⟨y :: ys, g3, by simp only [e1, e2], q⟩
    | false =>
      rw [if_neg (by decide)] at q
      exact q
end
section
variable {ρ : Env3} {g : Store} (c : DT) (body : DS) (Q : Out → Store → Prop)
def whK (n : Nat) : Out → Store → Prop := fun o g1 => match o with
  | .nx ρ1 => Ok (whileD c body n ρ1 g1) Q
  | .ct ρ1 => Ok (whileD c body n ρ1 g1) Q
  | .bk ρ1 => Q (.nx ρ1) g1
  | .rt d => Q (.rt d) g1
theorem whK_nx (n : Nat) (ρ1 : Env3) : whK c body Q n (.nx ρ1) g ↔ Ok (whileD c body n ρ1 g) Q := Iff.rfl
theorem whK_ct (n : Nat) (ρ1 : Env3) : whK c body Q n (.ct ρ1) g ↔ Ok (whileD c body n ρ1 g) Q := Iff.rfl
theorem whK_bk (n : Nat) (ρ1 : Env3) : whK c body Q n (.bk ρ1) g ↔ Q (.nx ρ1) g := Iff.rfl
theorem whK_rt (n : Nat) (d : D) : whK c body Q n (.rt d) g ↔ Q (.rt d) g := Iff.rfl
theorem ok_wh (n : Nat) : Ok (whileD c body (n + 1) ρ g) Q ↔ Ok (c ρ g) fun k g1 => if k = true then Ok (body ρ g1) (whK c body Q n) else Q (.nx ρ) g1 := by
  constructor
  · rintro ⟨o, g1, e, q⟩
    unfold whileD at e
    split at e
    · refine ⟨_, _, ‹_›, ?_⟩
      dsimp only
      rw [if_pos rfl]
      split at e
      · exact ⟨.nx _, _, ‹_›, show Ok _ _ from ⟨o, g1, e, q⟩⟩
      · exact ⟨.ct _, _, ‹_›, show Ok _ _ from ⟨o, g1, e, q⟩⟩
      · cases e; exact ⟨.bk _, _, ‹_›, q⟩
      · cases e; exact ⟨.rt _, _, ‹_›, q⟩
      · cases e
    · cases e
      exact ⟨_, _, ‹_›, by dsimp only; rw [if_neg (by decide)]; exact q⟩
    · cases e
  · rintro ⟨k, g1, e, q⟩
    unfold whileD
    rw [e]
    cases k with
    | true =>
      rw [if_pos rfl] at q
      obtain ⟨o, g2, e2, q⟩ := q
      simp only [e2]
      cases o with
      | nx ρ1 => exact q
      | ct ρ1 => exact q
      | bk ρ1 => exact ⟨_, _, rfl, q⟩
      | rt d => exact ⟨_, _, rfl, q⟩
    | false =>
      rw [if_neg (by decide)] at q
      exact ⟨_, _, rfl, q⟩
end
end L3

namespace L3
open PySem PySem.Spec PyProof.Rows L2
/-! the head's facts, over a fragment in which no list lies (so the script is tracked) -/
def notL (o : Obj) : Bool := match o.cls with
  | .type c => !(decide (c = ("list" : Str)))
  | _ => true
def gL (g : Addr → Option Obj) (a : Addr) : Option Obj := match g a with
  | some o => match notL o with
    | true => some o
    | false => none
  | none => none
theorem gL_at {g : Addr → Option Obj} {a : Addr} {o : Obj} (h : gL g a = some o) : g a = some o ∧ notL o = true := by
  unfold gL at h
  split at h
  · rename_i o' e
    split at h
    · rename_i e2
      cases h
      exact ⟨e, e2⟩
    · cases h
  · cases h
def obsLG (n : Nat) (fa : List He.Fa) (fn : List He.DefD) (g : Addr → Option Obj) : He.AlD := He.obsD fa fn (He.frG (gL g) (He.asD g n))
def SaysL (fa : List He.Fa) (fn : List He.DefD) (K : PySem.W.Frag) : Prop := He.SaysD fa fn K ∧ ∀ a o, K.lookup a = some o → notL o = true
def hookL (n : Nat) (fa : List He.Fa) (fn : List He.DefD) : PySem.W.Hook where
  α := He.AlD
  obs := fun s => obsLG n fa fn s.heap.get?
  val := fun _ => He.valD fn
  says := fun _ h => ∃ K : PySem.W.Frag, K.In h ∧ SaysL fa fn K
  of := fun _ _ e => ⟨_, fun _ _ q => (gL_at (He.frG_at _ q)).1, e, fun _ _ q => (gL_at (He.frG_at _ q)).2⟩
  keeps := fun _ _ _ ⟨K, hK, c⟩ k => ⟨K, PySem.W.Frag.In.keeps hK k, c⟩
theorem obsLG_eq {n : Nat} {fa : List He.Fa} {fn : List He.DefD} {g : Addr → Option Obj} {s : Shared} (h : ∀ a, g a = s.heap.get? a) : obsLG n fa fn g = (hookL n fa fn).obs s := by
  have e : g = s.heap.get? := funext h
  rw [e] <;> rfl
theorem sqL_rd {K : PySem.W.Frag} {H : Hp} {a : Addr} {xs : List V} (hK : ∀ a o, K.lookup a = some o → notL o = true) (h : SqL K H a xs) : Rd H a (.lst xs) := by
  rcases h with h | ⟨o, its, n, hk, hc, _⟩
  · exact h
  · have := hK a o hk
    unfold notL at this
    rw [hc] at this
    dsimp only at this
    rw [decide_eq_true rfl] at this
    cases this
theorem lawFn {P : Program} {w : World} {K : PySem.W.Frag} {mg : Str → Option Value} {base : Heap} {k : Nat} {x qual : Str} {params : Arguments} {body : List Stmt} {scope : Scope} {dvs : List V} {kws : List (Str × V)} {fd : FuncData} {ps : List Str} {sp : Sp}
    (F : FunD K x qual params body scope dvs kws (He.ga K x) fd) (A : FnAt P w K mg base k x ps sp) : FnOk P w K mg base CX0 k (He.ga K x) fd ps sp := by
  obtain ⟨oc, od, _, _, _, _, _, _, _, osl, _, lk, _⟩ := F.ex
  obtain ⟨⟨fd2, G, _, oc2, od2, osl2, lk2⟩, _, _⟩ := A
  rw [lk] at lk2
  cases lk2
  exact G
theorem endD {K : PySem.W.Frag} {φ : List D → Store → Option (D × Store)} {m : Nat} (hK : ∀ a o, K.lookup a = some o → notL o = true)
    (hφ : ∀ ns : List Int, ns.length ≤ m → Ok (φ [.lst (ns.map .int)] []) fun d _ => d = .bl true) {H : Hp} {a : Addr} {ns : List Int} (hl : ns.length ≤ m) (hS : SqL K H a (ns.map V.int)) {E : XK} :
    spD K 1 φ [.ref a] H (fun v _ => v = .bl true) E := by
  obtain ⟨d, g', e, rfl⟩ := hφ ns hl
  refine ⟨fun _ => False, [], [], [.lst (ns.map .int)], .bl true, g', rfl, fun _ h => h.elim, ?_, ⟨rfl, ?_⟩, e, ?_⟩
  · exact ⟨rfl, List.nodup_nil, fun i a o h => by simp at h⟩
  · intro i v d hv hd
    cases i with
    | zero =>
      cases hv; cases hd
      refine Rep.lst ⟨by simp, fun h => h, fun i h => by cases h⟩ (sqL_rd hK hS) (by simp) ?_
      intro i v d hv hd
      rw [List.getElem?_map] at hv hd
      cases q : ns[i]? with
      | none => rw [q] at hv; cases hv
      | some k =>
        rw [q] at hv hd
        cases hv; cases hd
        exact .int k
    | succ i => cases hv
  · intro v H' α' _ _ r
    cases r
    rfl
end L3

namespace W
open PySem PySem.Spec PyProof.Rows L2 L3
def topS (i : Nat) : Stmt := PySem.Challenge.pw_rowshell_k01_numbers_and_fields.main.body.getD i (.Pass ⟨0, 0, 0, 0⟩)
structure Tx (K : PySem.W.Frag) (mg : Str → Option Value) : Prop where
  z_list : mg "list" = none
  z_len : mg "len" = none
  z_int : mg "int" = none
  z_range : mg "range" = none
  z_str : mg "str" = none
  c_NUMBER : ∃ t, mg "NUMBER" = some (.int 18 t)
  c_FIGURES : ∃ t, mg "FIGURES" = some (.str (S [48, 49, 50, 51, 52, 53, 54, 55, 56, 57]) t)
  z_all : mg "all" = none
  c_SIGNS : ∃ t, mg "SIGNS" = some (.int 80 t)
  z_isinstance : mg "isinstance" = none
  z_bool : mg "bool" = none
  F__law_deck : FunAt K mg "_law_deck" (topS 9) ["_law_script"]
  F__law_next : FunAt K mg "_law_next" (topS 10) ["_law_deck_here", "_law_many"]
  F__law_figures : FunAt K mg "_law_figures" (topS 13) ["_law_deck_here", "_law_many"]
  F__law_sign : FunAt K mg "_law_sign" (topS 12) ["_law_deck_here"]
  F__law_text : FunAt K mg "_law_text" (topS 14) ["_law_deck_here"]
  F__law_line : FunAt K mg "_law_line" (topS 16) ["_law_deck_here"]
  F__law_number : FunAt K mg "_law_number" (topS 15) ["_law_text_here"]
  F_number_in : FunAt K mg "number_in" (topS 5) ["text"]
  F_shortened : FunAt K mg "shortened" (topS 4) ["text"]
  F__law_whole : FunAt K mg "_law_whole" (topS 11) ["_law_thing"]
  F__law_right : FunAt K mg "_law_right" (topS 17) ["_law_text_here"]
  F_fields : FunAt K mg "fields" (topS 6) ["line"]
  F_field : FunAt K mg "field" (topS 7) ["line", "k"]
  F__law_fields : FunAt K mg "_law_fields" (topS 18) ["_law_line_here", "_law_parts"]
  F_law : FunAt K mg "law" (topS 19) ["_law_script"]
theorem sc__law_deck : FnScope ["_law_script", "_law_cells", "_law_cell"] ["_law_script"] (defScope (topS 9)) := ⟨rfl, rfl, rfl, by decide +kernel, rfl, by decide +kernel, by decide +kernel⟩
theorem sc__law_next : FnScope ["_law_deck_here", "_law_many", "_law_cells", "_law_count", "_law_rests", "_law_place", "_law_share", "_law_mixed"] ["_law_deck_here", "_law_many"] (defScope (topS 10)) := ⟨rfl, rfl, rfl, by decide +kernel, rfl, by decide +kernel, by decide +kernel⟩
theorem sc__law_figures : FnScope ["_law_deck_here", "_law_many", "_law_k"] ["_law_deck_here", "_law_many"] (defScope (topS 13)) := ⟨rfl, rfl, rfl, by decide +kernel, rfl, by decide +kernel, by decide +kernel⟩
theorem sc__law_sign : FnScope ["_law_deck_here", "_law_some"] ["_law_deck_here"] (defScope (topS 12)) := ⟨rfl, rfl, rfl, by decide +kernel, rfl, by decide +kernel, by decide +kernel⟩
theorem sc__law_text : FnScope ["_law_deck_here", "_law_way", "_law_sign_here", "_law_text_here", "_law_at", "_law_k"] ["_law_deck_here"] (defScope (topS 14)) := ⟨rfl, rfl, rfl, by decide +kernel, rfl, by decide +kernel, by decide +kernel⟩
theorem sc__law_line : FnScope ["_law_deck_here", "_law_parts", "_law_line_here", "_law_k", "_law_part", "_law_j"] ["_law_deck_here"] (defScope (topS 16)) := ⟨rfl, rfl, rfl, by decide +kernel, rfl, by decide +kernel, by decide +kernel⟩
theorem sc__law_number : FnScope ["_law_text_here", "_law_figures_here", "_law_number_here", "_law_sign_here"] ["_law_text_here"] (defScope (topS 15)) := ⟨rfl, rfl, rfl, by decide +kernel, rfl, by decide +kernel, by decide +kernel⟩
theorem sc_number_in : FnScope ["text", "figures", "sign"] ["text"] (defScope (topS 5)) := ⟨rfl, rfl, rfl, by decide +kernel, rfl, by decide +kernel, by decide +kernel⟩
theorem sc_shortened : FnScope ["text"] ["text"] (defScope (topS 4)) := ⟨rfl, rfl, rfl, by decide +kernel, rfl, by decide +kernel, by decide +kernel⟩
theorem sc__law_whole : FnScope ["_law_thing"] ["_law_thing"] (defScope (topS 11)) := ⟨rfl, rfl, rfl, by decide +kernel, rfl, by decide +kernel, by decide +kernel⟩
theorem sc__law_right : FnScope ["_law_text_here", "_law_due", "_law_found", "_law_first", "_law_sign_here"] ["_law_text_here"] (defScope (topS 17)) := ⟨rfl, rfl, rfl, by decide +kernel, rfl, by decide +kernel, by decide +kernel⟩
theorem sc_fields : FnScope ["line", "part"] ["line"] (defScope (topS 6)) := ⟨rfl, rfl, rfl, by decide +kernel, rfl, by decide +kernel, by decide +kernel⟩
theorem sc_field : FnScope ["line", "k", "parts"] ["line", "k"] (defScope (topS 7)) := ⟨rfl, rfl, rfl, by decide +kernel, rfl, by decide +kernel, by decide +kernel⟩
theorem sc__law_fields : FnScope ["_law_line_here", "_law_parts", "_law_k", "_law_due"] ["_law_line_here", "_law_parts"] (defScope (topS 18)) := ⟨rfl, rfl, rfl, by decide +kernel, rfl, by decide +kernel, by decide +kernel⟩
theorem sc_law : FnScope ["_law_script", "_law_deck_here", "_law_seen", "_law_turn", "_law_text_here", "_law_pair"] ["_law_script"] (defScope (topS 19)) := ⟨rfl, rfl, rfl, by decide +kernel, rfl, by decide +kernel, by decide +kernel⟩
def le__law_deck_0 : DE :=
  (eOp dMul (eVarB 2) (eFn dInt (aCons (eOp dGe (eVarB 2) (eOp dPow (eC (.int 10)) (eC (.int 18)))) aNil)))
def d__law_deck : DS :=
  (sSeq (sSet 1 (eOp dAddA (eL (aFn aList (aCons (eSl dSl (eVarB 0) oNone (oSome (eC (.int 63)))) aNil))) (eL (aRep (aFn dLst (aCons (eC (.int 0)) aNil)) (eFn dInt (aCons (eOp dEq (eFn dLen (aCons (eVarB 0) aNil)) (eC (.int 0))) aNil))))))
  (sRet (eSt (aFn dLst (aCons (eVar 1) (aCons (eC (.int 0)) (aCons (eSt (aLc (aItems (eVar 1)) [2] (tgName 2) tYesD le__law_deck_0)) aNil)))))))
def f__law_deck : List D → Store → Option (D × Store) := runD 3 d__law_deck
def d__law_next : DS :=
  (sSeq (sUnpO (eVarB 0) (tgsCons (tgName 2) (tgsCons (tgName 3) (tgsCons (tgName 4) tgsNil))))
  (sSeq (sSet 5 (eOp dMod (eVarB 3) (eFn dLen (aCons (eVarB 2) aNil))))
  (sSeq (sSetO (eVarB 0) (eC (.int 1)) (eOp dAddA (eVarB 3) (eC (.int 1))))
  (sSeq (sIf (tOf (eOp dGt (eIxO (eVarB 4) (eVarB 5)) (eC (.int 0)))) (sSeq (sSet 6 (eOp dMod (eIxO (eVarB 4) (eVarB 5)) (eVarB 1)))
  (sSeq (sSetO (eVarB 4) (eVarB 5) (eOp dDiv (eIxO (eVarB 4) (eVarB 5)) (eVarB 1)))
  (sRet (eVarB 6)))) sNext)
  (sSeq (sSet 7 (eOp dMod (eOp dAddA (eOp dAddA (eOp dIx (eVarB 2) (eVarB 5)) (eOp dMul (eC (.int 1000003)) (eVarB 3))) (eC (.int 77))) (eC (.int 2147483647))))
  (sSeq (sSet 7 (eOp dMod (eOp dPow (eVarB 7) (eC (.int 5))) (eC (.int 2147483629))))
  (sSeq (sSet 7 (eOp dMod (eOp dPow (eOp dAddA (eOp dAddA (eVarB 7) (eOp dMul (eC (.int 104729)) (eOp dMod (eVarB 3) (eC (.int 9973))))) (eC (.int 1))) (eC (.int 3))) (eC (.int 2305843009213693951))))
  (sRet (eOp dMod (eOp dDiv (eVarB 7) (eC (.int 8))) (eVarB 1))))))))))
def f__law_next : List D → Store → Option (D × Store) := runD 8 d__law_next
def le__law_figures_0 : DE :=
  (eFn dStr (aCons (eApp f__law_next (aCons (eVar 0) (aCons (eC (.int 10)) aNil))) aNil))
def d__law_figures : DS :=
  (sRet (eM1 dJoin (eC (.str [])) (eL (aLc (aFn dRange1 (aCons (eVarB 1) aNil)) [2] (tgName 2) tYesD le__law_figures_0))))
def f__law_figures : List D → Store → Option (D × Store) := runD 3 d__law_figures
def d__law_sign : DS :=
  (sSeq (sSet 1 (eC (.str [32, 33, 34, 35, 36, 38, 39, 40, 41, 42, 43, 44, 45, 46, 47, 48, 49, 50, 51, 52, 53, 54, 55, 56, 57, 58, 59, 60, 61, 62, 63, 64, 65, 66, 67, 68, 69, 70, 71, 72, 73, 74, 75, 76, 77, 78, 79, 80, 81, 82, 83, 84, 85, 86, 87, 88, 89, 90, 91, 92, 93, 94, 95, 96, 97, 98, 99, 100, 101, 102, 103, 104, 105, 106, 107, 108, 109, 110, 111, 112, 113, 114, 115, 116, 117, 118, 119, 120, 121, 122, 123, 124, 125, 126])))
  (sRet (eOp dIx (eVarB 1) (eApp f__law_next (aCons (eVar 0) (aCons (eFn dLen (aCons (eVarB 1) aNil)) aNil))))))
def f__law_sign : List D → Store → Option (D × Store) := runD 2 d__law_sign
def le__law_text_0 : DE :=
  (eApp f__law_sign (aCons (eVar 0) aNil))
def d__law_text : DS :=
  (sSeq (sSet 1 (eApp f__law_next (aCons (eVar 0) (aCons (eC (.int 8)) aNil))))
  (sSeq (sSet 2 (eOp dIx (eL (aFn dLst (aCons (eC (.str [])) (aCons (eC (.str [45])) aNil)))) (eApp f__law_next (aCons (eVar 0) (aCons (eC (.int 2)) aNil)))))
  (sSeq (sIf (tOf (eOp dEq (eVarB 1) (eC (.int 0)))) (sRet (eM1 dJoin (eC (.str [])) (eL (aLc (aFn dRange1 (aCons (eApp f__law_next (aCons (eVar 0) (aCons (eC (.int 121)) aNil))) aNil)) [5] (tgName 5) tYesD le__law_text_0)))) sNext)
  (sSeq (sIf (tOf (eOp dEq (eVarB 1) (eC (.int 1)))) (sRet (eOp dIx (eL (aFn dLst (aCons (eC (.str [48])) (aCons (eC (.str [45, 48])) (aCons (eC (.str [48, 48])) (aCons (eC (.str [45])) (aCons (eC (.str [])) (aCons (eC (.str [43, 49])) (aCons (eC (.str [32, 49])) (aCons (eC (.str [49, 32])) (aCons (eC (.str [49, 46, 48])) (aCons (eC (.str [49, 101, 51])) (aCons (eC (.str [45, 48, 49])) (aCons (eC (.str [48, 120, 49])) aNil)))))))))))))) (eApp f__law_next (aCons (eVar 0) (aCons (eC (.int 12)) aNil))))) sNext)
  (sSeq (sIf (tOf (eOp dEq (eVarB 1) (eC (.int 2)))) (sRet (eOp dAddA (eOp dAddA (eVarB 2) (eFn dStr (aCons (eOp dAddA (eC (.int 1)) (eApp f__law_next (aCons (eVar 0) (aCons (eC (.int 9)) aNil)))) aNil))) (eApp f__law_figures (aCons (eVar 0) (aCons (eOp dAddA (eC (.int 16)) (eApp f__law_next (aCons (eVar 0) (aCons (eC (.int 3)) aNil)))) aNil))))) sNext)
  (sSeq (sIf (tOf (eOp dEq (eVarB 1) (eC (.int 3)))) (sSeq (sSet 3 (eOp dAddA (eVarB 2) (eApp f__law_figures (aCons (eVar 0) (aCons (eOp dAddA (eC (.int 1)) (eApp f__law_next (aCons (eVar 0) (aCons (eC (.int 19)) aNil)))) aNil)))))
  (sSeq (sSet 4 (eApp f__law_next (aCons (eVar 0) (aCons (eOp dAddA (eFn dLen (aCons (eVarB 3) aNil)) (eC (.int 1))) aNil))))
  (sRet (eOp dAddA (eOp dAddA (eSl dSl (eVarB 3) oNone (oSome (eVar 4))) (eApp f__law_sign (aCons (eVar 0) aNil))) (eSl dSl (eVarB 3) (oSome (eVar 4)) oNone))))) sNext)
  (sRet (eOp dAddA (eVarB 2) (eApp f__law_figures (aCons (eVar 0) (aCons (eOp dAddA (eC (.int 1)) (eApp f__law_next (aCons (eVar 0) (aCons (eC (.int 5)) aNil)))) aNil)))))))))))
def f__law_text : List D → Store → Option (D × Store) := runD 6 d__law_text
def le__law_line_0 : DE :=
  (eApp f__law_sign (aCons (eVar 0) aNil))
def lb__law_line_0 : DS :=
  (sSeq (sSet 4 (eUn (dReplC [32] [98]) (eM1 dJoin (eC (.str [])) (eL (aLc (aFn dRange1 (aCons (eOp dAddA (eC (.int 1)) (eApp f__law_next (aCons (eVar 0) (aCons (eC (.int 4)) aNil)))) aNil)) [5] (tgName 5) tYesD le__law_line_0)))))
  (sSeq (sApp 1 (eVar 4))
  (sSet 2 (eOp dAddA (eOp dAddA (eVarB 2) (eVarB 4)) (eOp dMul (eC (.str [32])) (eOp dAddA (eC (.int 1)) (eApp f__law_next (aCons (eVar 0) (aCons (eC (.int 3)) aNil)))))))))
def d__law_line : DS :=
  (sSeq (sOwn 1 (aFn dLst aNil))
  (sSeq (sSet 2 (eOp dMul (eC (.str [32])) (eApp f__law_next (aCons (eVar 0) (aCons (eC (.int 3)) aNil)))))
  (sSeq (sFor (aFn dRange1 (aCons (eApp f__law_next (aCons (eVar 0) (aCons (eC (.int 10)) aNil))) aNil)) (tgName 3) lb__law_line_0)
  (sSeq (sIf (tAndD (tOf (eOp dEq (eApp f__law_next (aCons (eVar 0) (aCons (eC (.int 2)) aNil))) (eC (.int 0)))) (tOf (eOp dEq (eSl dSl (eVarB 2) (oSome (eUn dNeg (eC (.int 1)))) oNone) (eC (.str [32]))))) (sSeq (sSet 2 (eSl dSl (eVarB 2) oNone (oSome (eUn dNeg (eC (.int 1))))))
  (sIf (tAndD (tOf (eOp dNe (eSl dSl (eVarB 2) (oSome (eUn dNeg (eC (.int 1)))) oNone) (eC (.str [32])))) (tAndD (tOf (eOp dNe (eVarB 1) (eL (aFn dLst aNil)))) (tOf (eOp dNe (eVarB 2) (eC (.str [])))))) (sFreeze 1 (sRet (eFn dTup (aCons (eVar 2) (aCons (eVar 1) aNil))))) sNext)) sNext)
  (sFreeze 1 (sRet (eFn dTup (aCons (eVar 2) (aCons (eVar 1) aNil)))))))))
def f__law_line : List D → Store → Option (D × Store) := runD 6 d__law_line
def lb__law_number_0 : DS :=
  (sSeq (sIf (tOf (eOp dNotIn (eVarB 3) (eC (.str [48, 49, 50, 51, 52, 53, 54, 55, 56, 57])))) (sRet (eC .non)) sNext)
  (sSet 2 (eOp dAddA (eOp dMul (eC (.int 10)) (eVarB 2)) (eM1 dIndexS (eC (.str [48, 49, 50, 51, 52, 53, 54, 55, 56, 57])) (eVarB 3)))))
def d__law_number : DS :=
  (sSeq (sSet 1 (eVar 0))
  (sSeq (sIf (tOf (eOp dEq (eSl dSl (eVarB 0) oNone (oSome (eC (.int 1)))) (eC (.str [45])))) (sSet 1 (eSl dSl (eVarB 0) (oSome (eC (.int 1))) oNone)) sNext)
  (sSeq (sIf (tOrD (tOf (eOp dEq (eVarB 1) (eC (.str [])))) (tOf (eOp dGt (eFn dLen (aCons (eVarB 1) aNil)) (eC (.int 18))))) (sRet (eC .non)) sNext)
  (sSeq (sSet 2 (eC (.int 0)))
  (sSeq (sFor (aItems (eVar 1)) (tgName 3) lb__law_number_0)
  (sSeq (sIf (tAndD (tOf (eOp dEq (eOp dIx (eVarB 1) (eC (.int 0))) (eC (.str [48])))) (tOf (eOp dNe (eVarB 0) (eC (.str [48]))))) (sRet (eC .non)) sNext)
  (sRet (eOp dIx (eL (aFn dLst (aCons (eVar 2) (aCons (eOp dSub (eC (.int 0)) (eVarB 2)) aNil)))) (eFn dInt (aCons (eOp dEq (eSl dSl (eVarB 0) oNone (oSome (eC (.int 1)))) (eC (.str [45]))) aNil))))))))))
def f__law_number : List D → Store → Option (D × Store) := runD 4 d__law_number
def le_number_in_0 : DE :=
  (eOp dIn (eVarB 2) (eC (.str [48, 49, 50, 51, 52, 53, 54, 55, 56, 57])))
def d_number_in : DS :=
  (sSeq (sSet 1 (eVar 0))
  (sSeq (sIf (tTru (eM1 dStarts (eVarB 0) (eC (.str [45])))) (sSet 1 (eSl dSl (eVarB 0) (oSome (eC (.int 1))) oNone)) sNext)
  (sSeq (sIf (tOrD (tNotD (tOf (eChain dLe dLe (eC (.int 1)) (eFn dLen (aCons (eVarB 1) aNil)) (eC (.int 18))))) (tNotD (tTru (eFn dAll (aCons (eL (aLc (aItems (eVar 1)) [2] (tgName 2) tYesD le_number_in_0)) aNil))))) (sRet (eC .non)) sNext)
  (sSeq (sIf (tAndD (tOf (eOp dEq (eOp dIx (eVarB 1) (eC (.int 0))) (eC (.str [48])))) (tOf (eOp dNe (eVarB 0) (eC (.str [48]))))) (sRet (eC .non)) sNext)
  (sRet (eFn dInt (aCons (eVarB 0) aNil)))))))
def f_number_in : List D → Store → Option (D × Store) := runD 3 d_number_in
def d_shortened : DS :=
  (sRet (eSl dSl (eVarB 0) oNone (oSome (eC (.int 80)))))
def f_shortened : List D → Store → Option (D × Store) := runD 1 d_shortened
def d__law_whole : DS :=
  (sRet (eAndD (eUn (dIsi "int") (eVarB 0)) (eUn dNot (eUn (dIsi "bool") (eVarB 0)))))
def f__law_whole : List D → Store → Option (D × Store) := runD 1 d__law_whole
def lb__law_right_0 : DS :=
  (sIf (tOf (eOp dLt (eFn dLen (aCons (eVarB 3) aNil)) (eC (.int 80)))) (sSet 3 (eOp dAddA (eVarB 3) (eVarB 4))) sNext)
def d__law_right : DS :=
  (sSeq (sSet 1 (eApp f__law_number (aCons (eVar 0) aNil)))
  (sSeq (sSet 2 (eApp f_number_in (aCons (eVar 0) aNil)))
  (sSeq (sIf (tOrD (tAndD (tOf (eOp dIs (eVarB 1) (eC .non))) (tOf (eOp dIsNot (eVarB 2) (eC .non)))) (tAndD (tOf (eOp dIsNot (eVarB 1) (eC .non))) (tOrD (tNotD (tTru (eApp f__law_whole (aCons (eVar 2) aNil)))) (tOf (eOp dNe (eVarB 2) (eVarB 1)))))) (sRet (eC (.bl false))) sNext)
  (sSeq (sSet 3 (eC (.str [])))
  (sSeq (sFor (aItems (eVar 0)) (tgName 4) lb__law_right_0)
  (sRet (eOp dEq (eApp f_shortened (aCons (eVar 0) aNil)) (eVarB 3))))))))
def f__law_right : List D → Store → Option (D × Store) := runD 5 d__law_right
def lt_fields_0 : DT :=
  (tOf (eOp dNe (eVarB 1) (eC (.str []))))
def le_fields_0 : DE :=
  (eVar 1)
def d_fields : DS :=
  (sRet (eL (aLc (aItems (eL (aM1 aSplit (eVarB 0) (eC (.str [32]))))) [1] (tgName 1) lt_fields_0 le_fields_0)))
def f_fields : List D → Store → Option (D × Store) := runD 2 d_fields
def d_field : DS :=
  (sSeq (sIf (tOf (eOp dEq (eVarB 1) (eC (.int 0)))) (sRet (eVarB 0)) sNext)
  (sSeq (sSet 2 (eApp f_fields (aCons (eVar 0) aNil)))
  (sSeq (sIf (tOf (eOp dGt (eVarB 1) (eFn dLen (aCons (eVarB 2) aNil)))) (sRet (eC (.str []))) sNext)
  (sRet (eOp dIx (eVarB 2) (eOp dSub (eVarB 1) (eC (.int 1))))))))
def f_field : List D → Store → Option (D × Store) := runD 3 d_field
def lb__law_fields_0 : DS :=
  (sSeq (sSet 3 (eC (.str [])))
  (sSeq (sIf (tOf (eOp dLe (eVarB 2) (eFn dLen (aCons (eVarB 1) aNil)))) (sSet 3 (eOp dIx (eVarB 1) (eOp dSub (eVarB 2) (eC (.int 1))))) sNext)
  (sIf (tOf (eOp dNe (eApp f_field (aCons (eVar 0) (aCons (eVar 2) aNil))) (eVarB 3))) (sRet (eC (.bl false))) sNext)))
def d__law_fields : DS :=
  (sSeq (sIf (tOf (eOp dNe (eApp f_field (aCons (eVar 0) (aCons (eC (.int 0)) aNil))) (eVarB 0))) (sRet (eC (.bl false))) sNext)
  (sSeq (sFor (aFn dRange2 (aCons (eC (.int 1)) (aCons (eC (.int 13)) aNil))) (tgName 2) lb__law_fields_0)
  (sRet (eC (.bl true)))))
def f__law_fields : List D → Store → Option (D × Store) := runD 4 d__law_fields
def lb_law_0 : DS :=
  (sApp 2 (eFn dTup (aCons (eApp f__law_text (aCons (eVar 1) aNil)) (aCons (eApp f__law_line (aCons (eVar 1) aNil)) aNil))))
def lb_law_1 : DS :=
  (sIf (tOrD (tNotD (tTru (eApp f__law_right (aCons (eVar 4) aNil)))) (tOrD (tNotD (tTru (eApp f__law_right (aCons (eOp dIx (eVarB 5) (eC (.int 0))) aNil)))) (tNotD (tTru (eApp f__law_fields (aCons (eOp dIx (eVarB 5) (eC (.int 0))) (aCons (eOp dIx (eVarB 5) (eC (.int 1))) aNil))))))) (sRet (eC (.bl false))) sNext)
def d_law : DS :=
  (sSeq (sSet 1 (eApp f__law_deck (aCons (eVar 0) aNil)))
  (sSeq (sOwn 2 (aFn dLst aNil))
  (sSeq (sFor (aFn dRange1 (aCons (eC (.int 8)) aNil)) (tgName 3) lb_law_0)
  (sSeq (sFor (aItems (eOp dAddA (eVarB 2) (eVarB 2))) (tgTup (tgsCons (tgName 4) (tgsCons (tgName 5) tgsNil))) lb_law_1)
  (sRet (eC (.bl true)))))))
def f_law : List D → Store → Option (D × Store) := runD 6 d_law
section
variable {P : Program} {w : World} {K : PySem.W.Frag} {mg : Str → Option Value} {base : Heap}
theorem ok__law_deck (T : Tx K mg) : FnAt P w K mg base 1 "_law_deck" ["_law_script"] (spD K 1 f__law_deck) :=
  fnat T.F__law_deck sc__law_deck fun cdv A outer s H E hr =>
  (bc_cons (sc_set (i := 1) sc__law_deck.nd (ec_op opd_addA (EC.bo (EF.ec (ef_callT cf_list T.z_list b_list (ab_cons (EC.bo (ec_slice (eb_var 0) oc_none (oc_some ec_int))) ab_nil)))) (EC.bo (EF.ec (ef_rep (ef_lst (ac_cons ec_int ac_nil)) (ec_callT cd_int T.z_int b_int (ab_cons (EC.bo (ec_cmp (opd_eq hr.units) (EC.bo (ec_callB cd_len T.z_len b_len (ab_cons (eb_var 0) ab_nil))) (EC.bo ec_int))) ab_nil)))))))
  (bc_one (sc_ret (EC.bo (EF.st (ef_lst (ac_cons (ec_var 1) (ac_cons ec_int (ac_cons (EF.st (ef_lc sc__law_deck.nd [("_law_cell", 2)] (ic_seq (ec_var 1)) tgin_name (fun _ _ _ _ _ => (gc_name 2 sc__law_deck.nd)) (fun _ _ _ _ _ => tcs_nil) (fun _ _ _ _ _ => (ec_op opd_mul (eb_var 2) (EC.bo (ec_callT cd_int T.z_int b_int (ab_cons (EC.bo (ec_cmp opd_ge (eb_var 2) (EC.bo (ec_op opd_pow (EC.bo ec_int) (EC.bo ec_int))))) ab_nil))))) (blkOk_by (N := ["_law_script", "_law_cells", "_law_cell"]) (sc := defScope (topS 9)) (by decide +kernel)))) ac_nil)))))))))
theorem ok__law_next (T : Tx K mg) : FnAt P w K mg base 1 "_law_next" ["_law_deck_here", "_law_many"] (spD K 2 f__law_next) :=
  fnat T.F__law_next sc__law_next fun cdv A outer s H E hr =>
  (bc_cons (sc_unpO (eb_var 0) (gcs_cons (gc_name 2 sc__law_next.nd) (gcs_cons (gc_name 3 sc__law_next.nd) (gcs_cons (gc_name 4 sc__law_next.nd) gcs_nil))))
  (bc_cons (sc_set (i := 5) sc__law_next.nd (ec_op opd_mod (eb_var 3) (EC.bo (ec_callB cd_len T.z_len b_len (ab_cons (eb_var 2) ab_nil)))))
  (bc_cons (sc_setO (ec_op opd_addA (eb_var 3) (EC.bo ec_int)) (eb_var 0) (EC.bo ec_int))
  (bc_cons (sc_if (tc_cmp opd_gt (EC.bo (ec_ixO (eb_var 4) (eb_var 5))) (EC.bo ec_int)) (bc_cons (sc_set (i := 6) sc__law_next.nd (ec_op opd_mod (EC.bo (ec_ixO (eb_var 4) (eb_var 5))) (eb_var 1)))
  (bc_cons (sc_setO (ec_op opd_div (EC.bo (ec_ixO (eb_var 4) (eb_var 5))) (eb_var 1)) (eb_var 4) (eb_var 5))
  (bc_one (sc_ret (eb_var 6))))) bc_nil)
  (bc_cons (sc_set (i := 7) sc__law_next.nd (ec_op opd_mod (EC.bo (ec_op opd_addA (EC.bo (ec_op opd_addA (EC.bo (ec_ix ixd (eb_var 2) (eb_var 5))) (EC.bo (ec_op opd_mul (EC.bo ec_int) (eb_var 3))))) (EC.bo ec_int))) (EC.bo ec_int)))
  (bc_cons (sc_set (i := 7) sc__law_next.nd (ec_op opd_mod (EC.bo (ec_op opd_pow (eb_var 7) (EC.bo ec_int))) (EC.bo ec_int)))
  (bc_cons (sc_set (i := 7) sc__law_next.nd (ec_op opd_mod (EC.bo (ec_op opd_pow (EC.bo (ec_op opd_addA (EC.bo (ec_op opd_addA (eb_var 7) (EC.bo (ec_op opd_mul (EC.bo ec_int) (EC.bo (ec_op opd_mod (eb_var 3) (EC.bo ec_int))))))) (EC.bo ec_int))) (EC.bo ec_int))) (EC.bo ec_int)))
  (bc_one (sc_ret (EC.bo (ec_op opd_mod (EC.bo (ec_op opd_div (eb_var 7) (EC.bo ec_int))) (eb_var 1))))))))))))
theorem ok__law_figures (T : Tx K mg) : FnAt P w K mg base 2 "_law_figures" ["_law_deck_here", "_law_many"] (spD K 2 f__law_figures) :=
  fnat T.F__law_figures sc__law_figures fun cdv A outer s H E hr =>
  (bc_one (sc_ret (EC.bo (ec_m1 PySem.F.slot_str_join PySem.F.type_str_join md_join (EC.bo (ec_str (s := []))) (EC.bo (EF.ec (ef_lc sc__law_figures.nd [("_law_k", 2)] (ic_range1 T.z_range (ab_cons (eb_var 1) ab_nil)) tgin_name (fun _ _ _ _ _ => (gc_name 2 sc__law_figures.nd)) (fun _ _ _ _ _ => tcs_nil) (fun _ _ _ _ _ => (ec_callT cd_str T.z_str b_str (ab_cons (EC.bo (ec_callA (ok__law_next T) hr (ac_cons (ec_var 0) (ac_cons ec_int ac_nil)))) ab_nil))) (blkOk_by (N := ["_law_deck_here", "_law_many", "_law_k"]) (sc := defScope (topS 13)) (by decide +kernel)))))))))
theorem ok__law_sign (T : Tx K mg) : FnAt P w K mg base 2 "_law_sign" ["_law_deck_here"] (spD K 1 f__law_sign) :=
  fnat T.F__law_sign sc__law_sign fun cdv A outer s H E hr =>
  (bc_cons (sc_set (i := 1) sc__law_sign.nd (ec_str (s := [32, 33, 34, 35, 36, 38, 39, 40, 41, 42, 43, 44, 45, 46, 47, 48, 49, 50, 51, 52, 53, 54, 55, 56, 57, 58, 59, 60, 61, 62, 63, 64, 65, 66, 67, 68, 69, 70, 71, 72, 73, 74, 75, 76, 77, 78, 79, 80, 81, 82, 83, 84, 85, 86, 87, 88, 89, 90, 91, 92, 93, 94, 95, 96, 97, 98, 99, 100, 101, 102, 103, 104, 105, 106, 107, 108, 109, 110, 111, 112, 113, 114, 115, 116, 117, 118, 119, 120, 121, 122, 123, 124, 125, 126])))
  (bc_one (sc_ret (EC.bo (ec_ix ixd (eb_var 1) (EC.bo (ec_callA (ok__law_next T) hr (ac_cons (ec_var 0) (ac_cons (ec_callB cd_len T.z_len b_len (ab_cons (eb_var 1) ab_nil)) ac_nil)))))))))
theorem ok__law_text (T : Tx K mg) : FnAt P w K mg base 3 "_law_text" ["_law_deck_here"] (spD K 1 f__law_text) :=
  fnat T.F__law_text sc__law_text fun cdv A outer s H E hr =>
  (bc_cons (sc_set (i := 1) sc__law_text.nd (ec_callA (ok__law_next T) hr (ac_cons (ec_var 0) (ac_cons ec_int ac_nil))))
  (bc_cons (sc_set (i := 2) sc__law_text.nd (ec_ix ixd (EC.bo (EF.ec (ef_lst (ac_cons (ec_str (s := [])) (ac_cons (ec_str (s := [45])) ac_nil))))) (EC.bo (ec_callA (ok__law_next T) hr (ac_cons (ec_var 0) (ac_cons ec_int ac_nil))))))
  (bc_cons (sc_if (tc_cmp (opd_eq hr.units) (eb_var 1) (EC.bo ec_int)) (bc_one (sc_ret (EC.bo (ec_m1 PySem.F.slot_str_join PySem.F.type_str_join md_join (EC.bo (ec_str (s := []))) (EC.bo (EF.ec (ef_lc sc__law_text.nd [("_law_k", 5)] (ic_range1 T.z_range (ab_cons (EC.bo (ec_callA (ok__law_next T) hr (ac_cons (ec_var 0) (ac_cons ec_int ac_nil)))) ab_nil)) tgin_name (fun _ _ _ _ _ => (gc_name 5 sc__law_text.nd)) (fun _ _ _ _ _ => tcs_nil) (fun _ _ _ _ _ => (ec_callA (ok__law_sign T) hr (ac_cons (ec_var 0) ac_nil))) (blkOk_by (N := ["_law_deck_here", "_law_way", "_law_sign_here", "_law_text_here", "_law_at", "_law_k"]) (sc := defScope (topS 14)) (by decide +kernel))))))))) bc_nil)
  (bc_cons (sc_if (tc_cmp (opd_eq hr.units) (eb_var 1) (EC.bo ec_int)) (bc_one (sc_ret (EC.bo (ec_ix ixd (EC.bo (EF.ec (ef_lst (ac_cons (ec_str (s := [48])) (ac_cons (ec_str (s := [45, 48])) (ac_cons (ec_str (s := [48, 48])) (ac_cons (ec_str (s := [45])) (ac_cons (ec_str (s := [])) (ac_cons (ec_str (s := [43, 49])) (ac_cons (ec_str (s := [32, 49])) (ac_cons (ec_str (s := [49, 32])) (ac_cons (ec_str (s := [49, 46, 48])) (ac_cons (ec_str (s := [49, 101, 51])) (ac_cons (ec_str (s := [45, 48, 49])) (ac_cons (ec_str (s := [48, 120, 49])) ac_nil))))))))))))))) (EC.bo (ec_callA (ok__law_next T) hr (ac_cons (ec_var 0) (ac_cons ec_int ac_nil)))))))) bc_nil)
  (bc_cons (sc_if (tc_cmp (opd_eq hr.units) (eb_var 1) (EC.bo ec_int)) (bc_one (sc_ret (EC.bo (ec_op opd_addA (EC.bo (ec_op opd_addA (eb_var 2) (EC.bo (ec_callT cd_str T.z_str b_str (ab_cons (EC.bo (ec_op opd_addA (EC.bo ec_int) (EC.bo (ec_callA (ok__law_next T) hr (ac_cons (ec_var 0) (ac_cons ec_int ac_nil)))))) ab_nil))))) (EC.bo (ec_callA (ok__law_figures T) hr (ac_cons (ec_var 0) (ac_cons (ec_op opd_addA (EC.bo ec_int) (EC.bo (ec_callA (ok__law_next T) hr (ac_cons (ec_var 0) (ac_cons ec_int ac_nil))))) ac_nil)))))))) bc_nil)
  (bc_cons (sc_if (tc_cmp (opd_eq hr.units) (eb_var 1) (EC.bo ec_int)) (bc_cons (sc_set (i := 3) sc__law_text.nd (ec_op opd_addA (eb_var 2) (EC.bo (ec_callA (ok__law_figures T) hr (ac_cons (ec_var 0) (ac_cons (ec_op opd_addA (EC.bo ec_int) (EC.bo (ec_callA (ok__law_next T) hr (ac_cons (ec_var 0) (ac_cons ec_int ac_nil))))) ac_nil))))))
  (bc_cons (sc_set (i := 4) sc__law_text.nd (ec_callA (ok__law_next T) hr (ac_cons (ec_var 0) (ac_cons (ec_op opd_addA (EC.bo (ec_callB cd_len T.z_len b_len (ab_cons (eb_var 3) ab_nil))) (EC.bo ec_int)) ac_nil))))
  (bc_one (sc_ret (EC.bo (ec_op opd_addA (EC.bo (ec_op opd_addA (EC.bo (ec_slice (eb_var 3) oc_none (oc_some (ec_var 4)))) (EC.bo (ec_callA (ok__law_sign T) hr (ac_cons (ec_var 0) ac_nil))))) (EC.bo (ec_slice (eb_var 3) (oc_some (ec_var 4)) oc_none)))))))) bc_nil)
  (bc_one (sc_ret (EC.bo (ec_op opd_addA (eb_var 2) (EC.bo (ec_callA (ok__law_figures T) hr (ac_cons (ec_var 0) (ac_cons (ec_op opd_addA (EC.bo ec_int) (EC.bo (ec_callA (ok__law_next T) hr (ac_cons (ec_var 0) (ac_cons ec_int ac_nil))))) ac_nil))))))))))))))
theorem ok__law_line (T : Tx K mg) : FnAt P w K mg base 3 "_law_line" ["_law_deck_here"] (spD K 1 f__law_line) :=
  fnat T.F__law_line sc__law_line fun cdv A outer s H E hr =>
  (bc_cons (sc_own (i := 1) sc__law_line.nd (ef_lst ac_nil))
  (bc_cons (sc_set (i := 2) sc__law_line.nd (ec_op opd_mul (EC.bo (ec_str (s := [32]))) (EC.bo (ec_callA (ok__law_next T) hr (ac_cons (ec_var 0) (ac_cons ec_int ac_nil))))))
  (bc_cons (sc_for (ic_range1 T.z_range (ab_cons (EC.bo (ec_callA (ok__law_next T) hr (ac_cons (ec_var 0) (ac_cons ec_int ac_nil)))) ab_nil)) (gc_name 3 sc__law_line.nd) (bc_cons (sc_set (i := 4) sc__law_line.nd (ec_joinRepl (c := []) (y := [32]) (z := [98]) rfl rfl rfl (by decide) (EC.bo (EF.ec (ef_lc sc__law_line.nd [("_law_j", 5)] (ic_range1 T.z_range (ab_cons (EC.bo (ec_op opd_addA (EC.bo ec_int) (EC.bo (ec_callA (ok__law_next T) hr (ac_cons (ec_var 0) (ac_cons ec_int ac_nil)))))) ab_nil)) tgin_name (fun _ _ _ _ _ => (gc_name 5 sc__law_line.nd)) (fun _ _ _ _ _ => tcs_nil) (fun _ _ _ _ _ => (ec_callA (ok__law_sign T) hr (ac_cons (ec_var 0) ac_nil))) (blkOk_by (N := ["_law_deck_here", "_law_parts", "_law_line_here", "_law_k", "_law_part", "_law_j"]) (sc := defScope (topS 16)) (by decide +kernel)))))))
  (bc_cons (sc_app (i := 1) (ec_var 4))
  (bc_one (sc_set (i := 2) sc__law_line.nd (ec_op opd_addA (EC.bo (ec_op opd_addA (eb_var 2) (eb_var 4))) (EC.bo (ec_op opd_mul (EC.bo (ec_str (s := [32]))) (EC.bo (ec_op opd_addA (EC.bo ec_int) (EC.bo (ec_callA (ok__law_next T) hr (ac_cons (ec_var 0) (ac_cons ec_int ac_nil))))))))))))))
  (bc_cons (sc_if (TW.tc (tw_and (tc_cmp (opd_eq hr.units) (EC.bo (ec_callA (ok__law_next T) hr (ac_cons (ec_var 0) (ac_cons ec_int ac_nil)))) (EC.bo ec_int)) (tw_and1 (tc_cmp (opd_eq hr.units) (EC.bo (ec_slice (eb_var 2) (oc_some (ec_neg (EC.bo ec_int))) oc_none)) (EC.bo (ec_str (s := [32]))))))) (bc_cons (sc_set (i := 2) sc__law_line.nd (ec_slice (eb_var 2) oc_none (oc_some (ec_neg (EC.bo ec_int)))))
  (bc_one (sc_if (TW.tc (tw_and (tc_cmp (opd_ne hr.units) (EC.bo (ec_slice (eb_var 2) (oc_some (ec_neg (EC.bo ec_int))) oc_none)) (EC.bo (ec_str (s := [32])))) (tw_and (tc_cmp (opd_ne hr.units) (eb_var 1) (EC.bo (EF.ec (ef_lst ac_nil)))) (tw_and1 (tc_cmp (opd_ne hr.units) (eb_var 2) (EC.bo (ec_str (s := [])))))))) (bc_freeze 1 (bc_one (sc_ret (EC.bo (ec_tup (ac_cons (ec_var 2) (ac_cons (ec_var 1) ac_nil))))))) bc_nil))) bc_nil)
  (bc_freeze 1 (bc_one (sc_ret (EC.bo (ec_tup (ac_cons (ec_var 2) (ac_cons (ec_var 1) ac_nil)))))))))))
theorem ok__law_number (T : Tx K mg) : FnAt P w K mg base 1 "_law_number" ["_law_text_here"] (spD K 1 f__law_number) :=
  fnat T.F__law_number sc__law_number fun cdv A outer s H E hr =>
  (bc_cons (sc_set (i := 1) sc__law_number.nd (ec_var 0))
  (bc_cons (sc_if (tc_cmp (opd_eq hr.units) (EC.bo (ec_slice (eb_var 0) oc_none (oc_some ec_int))) (EC.bo (ec_str (s := [45])))) (bc_one (sc_set (i := 1) sc__law_number.nd (ec_slice (eb_var 0) (oc_some ec_int) oc_none))) bc_nil)
  (bc_cons (sc_if (TW.tc (tw_or (tc_cmp (opd_eq hr.units) (eb_var 1) (EC.bo (ec_str (s := [])))) (tw_or1 (tc_cmp opd_gt (EC.bo (ec_callB cd_len T.z_len b_len (ab_cons (eb_var 1) ab_nil))) (EC.bo ec_int))))) (bc_one (sc_ret (EC.bo ec_non))) bc_nil)
  (bc_cons (sc_set (i := 2) sc__law_number.nd ec_int)
  (bc_cons (sc_for (ic_seq (ec_var 1)) (gc_name 3 sc__law_number.nd) (bc_cons (sc_if (tc_cmp opd_notin (eb_var 3) (EC.bo (ec_str (s := [48, 49, 50, 51, 52, 53, 54, 55, 56, 57])))) (bc_one (sc_ret (EC.bo ec_non))) bc_nil)
  (bc_one (sc_set (i := 2) sc__law_number.nd (ec_op opd_addA (EC.bo (ec_op opd_mul (EC.bo ec_int) (eb_var 2))) (EC.bo (ec_m1 PySem.F.slot_str_index PySem.F.type_str_index md_indexS (EC.bo (ec_str (s := [48, 49, 50, 51, 52, 53, 54, 55, 56, 57]))) (eb_var 3))))))))
  (bc_cons (sc_if (TW.tc (tw_and (tc_cmp (opd_eq hr.units) (EC.bo (ec_ix ixd (eb_var 1) (EC.bo ec_int))) (EC.bo (ec_str (s := [48])))) (tw_and1 (tc_cmp (opd_ne hr.units) (eb_var 0) (EC.bo (ec_str (s := [48]))))))) (bc_one (sc_ret (EC.bo ec_non))) bc_nil)
  (bc_one (sc_ret (EC.bo (ec_ix ixd (EC.bo (EF.ec (ef_lst (ac_cons (ec_var 2) (ac_cons (ec_op opd_sub (EC.bo ec_int) (eb_var 2)) ac_nil))))) (EC.bo (ec_callT cd_int T.z_int b_int (ab_cons (EC.bo (ec_cmp (opd_eq hr.units) (EC.bo (ec_slice (eb_var 0) oc_none (oc_some ec_int))) (EC.bo (ec_str (s := [45]))))) ab_nil)))))))))))))
theorem ok_number_in (T : Tx K mg) : FnAt P w K mg base 1 "number_in" ["text"] (spD K 1 f_number_in) :=
  fnat T.F_number_in sc_number_in fun cdv A outer s H E hr =>
  (bc_cons (sc_set (i := 1) sc_number_in.nd (ec_var 0))
  (bc_cons (sc_if (tc_tru (EC.bo (ec_m1 PySem.F.slot_str_startswith PySem.F.type_str_startswith md_starts (eb_var 0) (EC.bo (ec_str (s := [45])))))) (bc_one (sc_set (i := 1) sc_number_in.nd (ec_slice (eb_var 0) (oc_some ec_int) oc_none))) bc_nil)
  (bc_cons (sc_if (TW.tc (tw_or (tc_not (tc_chain opd_le opd_le (EC.bo ec_int) (EC.bo (ec_callB cd_len T.z_len b_len (ab_cons (eb_var 1) ab_nil))) (EC.bo (ec_gintE T.c_NUMBER)))) (tw_or1 (tc_not (tc_tru (EC.bo (ec_callB (cd_all rfl) T.z_all b_all (ab_cons (EC.bo (EF.ec (ef_lc sc_number_in.nd [("sign", 2)] (ic_seq (ec_var 1)) tgin_name (fun _ _ _ _ _ => (gc_name 2 sc_number_in.nd)) (fun _ _ _ _ _ => tcs_nil) (fun _ _ _ _ _ => (ec_cmp opd_in (eb_var 2) (EC.bo (ec_gstrE T.c_FIGURES)))) (blkOk_by (N := ["text", "figures", "sign"]) (sc := defScope (topS 5)) (by decide +kernel))))) ab_nil)))))))) (bc_one (sc_ret (EC.bo ec_non))) bc_nil)
  (bc_cons (sc_if (TW.tc (tw_and (tc_cmp (opd_eq hr.units) (EC.bo (ec_ix ixd (eb_var 1) (EC.bo ec_int))) (EC.bo (ec_str (s := [48])))) (tw_and1 (tc_cmp (opd_ne hr.units) (eb_var 0) (EC.bo (ec_str (s := [48]))))))) (bc_one (sc_ret (EC.bo ec_non))) bc_nil)
  (bc_one (sc_ret (EC.bo (ec_callT cd_int T.z_int b_int (ab_cons (eb_var 0) ab_nil)))))))))
theorem ok_shortened (T : Tx K mg) : FnAt P w K mg base 1 "shortened" ["text"] (spD K 1 f_shortened) :=
  fnat T.F_shortened sc_shortened fun cdv A outer s H E hr =>
  (bc_one (sc_ret (EC.bo (ec_slice (eb_var 0) oc_none (oc_some (ec_gintE T.c_SIGNS))))))
theorem ok__law_whole (T : Tx K mg) : FnAt P w K mg base 1 "_law_whole" ["_law_thing"] (spD K 1 f__law_whole) :=
  fnat T.F__law_whole sc__law_whole fun cdv A outer s H E hr =>
  (bc_one (sc_ret (EC.bo (ec_and (ec_isi T.z_isinstance T.z_int b_int (eb_var 0)) (ec_one (ec_not (ec_isi T.z_isinstance T.z_bool b_bool (eb_var 0))))))))
theorem ok__law_right (T : Tx K mg) : FnAt P w K mg base 2 "_law_right" ["_law_text_here"] (spD K 1 f__law_right) :=
  fnat T.F__law_right sc__law_right fun cdv A outer s H E hr =>
  (bc_cons (sc_set (i := 1) sc__law_right.nd (ec_callA (ok__law_number T) hr (ac_cons (ec_var 0) ac_nil)))
  (bc_cons (sc_set (i := 2) sc__law_right.nd (ec_callA (ok_number_in T) hr (ac_cons (ec_var 0) ac_nil)))
  (bc_cons (sc_if (TW.tc (tw_or (TW.tc (tw_and (tc_cmp opd_is (eb_var 1) (EC.bo ec_non)) (tw_and1 (tc_cmp opd_isnot (eb_var 2) (EC.bo ec_non))))) (tw_or1 (TW.tc (tw_and (tc_cmp opd_isnot (eb_var 1) (EC.bo ec_non)) (tw_and1 (TW.tc (tw_or (tc_not (tc_tru (EC.bo (ec_callA (ok__law_whole T) hr (ac_cons (ec_var 2) ac_nil))))) (tw_or1 (tc_cmp (opd_ne hr.units) (eb_var 2) (eb_var 1))))))))))) (bc_one (sc_ret (EC.bo ec_bl))) bc_nil)
  (bc_cons (sc_set (i := 3) sc__law_right.nd (ec_str (s := [])))
  (bc_cons (sc_for (ic_seq (ec_var 0)) (gc_name 4 sc__law_right.nd) (bc_one (sc_if (tc_cmp opd_lt (EC.bo (ec_callB cd_len T.z_len b_len (ab_cons (eb_var 3) ab_nil))) (EC.bo ec_int)) (bc_one (sc_set (i := 3) sc__law_right.nd (ec_op opd_addA (eb_var 3) (eb_var 4)))) bc_nil)))
  (bc_one (sc_ret (EC.bo (ec_cmp (opd_eq hr.units) (EC.bo (ec_callA (ok_shortened T) hr (ac_cons (ec_var 0) ac_nil))) (eb_var 3))))))))))
theorem ok_fields (T : Tx K mg) : FnAt P w K mg base 1 "fields" ["line"] (spD K 1 f_fields) :=
  fnat T.F_fields sc_fields fun cdv A outer s H E hr =>
  (bc_one (sc_ret (EC.bo (EF.ec (ef_lc sc_fields.nd [("part", 1)] (ic_seq (EF.ec (ef_m1 PySem.F.slot_str_split PySem.F.type_str_split mf_split (eb_var 0) (EC.bo (ec_str (s := [32])))))) tgin_name (fun _ _ _ _ _ => (gc_name 1 sc_fields.nd)) (fun _ _ _ _ _ => (tcs_one (tc_cmp (opd_ne hr.units) (eb_var 1) (EC.bo (ec_str (s := [])))))) (fun _ _ _ _ _ => (ec_var 1)) (blkOk_by (N := ["line", "part"]) (sc := defScope (topS 6)) (by decide +kernel)))))))
theorem ok_field (T : Tx K mg) : FnAt P w K mg base 2 "field" ["line", "k"] (spD K 2 f_field) :=
  fnat T.F_field sc_field fun cdv A outer s H E hr =>
  (bc_cons (sc_if (tc_cmp (opd_eq hr.units) (eb_var 1) (EC.bo ec_int)) (bc_one (sc_ret (eb_var 0))) bc_nil)
  (bc_cons (sc_set (i := 2) sc_field.nd (ec_callA (ok_fields T) hr (ac_cons (ec_var 0) ac_nil)))
  (bc_cons (sc_if (tc_cmp opd_gt (eb_var 1) (EC.bo (ec_callB cd_len T.z_len b_len (ab_cons (eb_var 2) ab_nil)))) (bc_one (sc_ret (EC.bo (ec_str (s := []))))) bc_nil)
  (bc_one (sc_ret (EC.bo (ec_ix ixd (eb_var 2) (EC.bo (ec_op opd_sub (eb_var 1) (EC.bo ec_int))))))))))
theorem ok__law_fields (T : Tx K mg) : FnAt P w K mg base 3 "_law_fields" ["_law_line_here", "_law_parts"] (spD K 2 f__law_fields) :=
  fnat T.F__law_fields sc__law_fields fun cdv A outer s H E hr =>
  (bc_cons (sc_if (tc_cmp (opd_ne hr.units) (EC.bo (ec_callA (ok_field T) hr (ac_cons (ec_var 0) (ac_cons ec_int ac_nil)))) (eb_var 0)) (bc_one (sc_ret (EC.bo ec_bl))) bc_nil)
  (bc_cons (sc_for (ic_range2 T.z_range (ab_cons (EC.bo ec_int) (ab_cons (EC.bo ec_int) ab_nil))) (gc_name 2 sc__law_fields.nd) (bc_cons (sc_set (i := 3) sc__law_fields.nd (ec_str (s := [])))
  (bc_cons (sc_if (tc_cmp opd_le (eb_var 2) (EC.bo (ec_callB cd_len T.z_len b_len (ab_cons (eb_var 1) ab_nil)))) (bc_one (sc_set (i := 3) sc__law_fields.nd (ec_ix ixd (eb_var 1) (EC.bo (ec_op opd_sub (eb_var 2) (EC.bo ec_int)))))) bc_nil)
  (bc_one (sc_if (tc_cmp (opd_ne hr.units) (EC.bo (ec_callA (ok_field T) hr (ac_cons (ec_var 0) (ac_cons (ec_var 2) ac_nil)))) (eb_var 3)) (bc_one (sc_ret (EC.bo ec_bl))) bc_nil)))))
  (bc_one (sc_ret (EC.bo ec_bl)))))
theorem ok_law (T : Tx K mg) : FnAt P w K mg base 4 "law" ["_law_script"] (spD K 1 f_law) :=
  fnat T.F_law sc_law fun cdv A outer s H E hr =>
  (bc_cons (sc_set (i := 1) sc_law.nd (ec_callA (ok__law_deck T) hr (ac_cons (ec_var 0) ac_nil)))
  (bc_cons (sc_own (i := 2) sc_law.nd (ef_lst ac_nil))
  (bc_cons (sc_for (ic_range1 T.z_range (ab_cons (EC.bo ec_int) ab_nil)) (gc_name 3 sc_law.nd) (bc_one (sc_app (i := 2) (ec_tup (ac_cons (ec_callA (ok__law_text T) hr (ac_cons (ec_var 1) ac_nil)) (ac_cons (ec_callA (ok__law_line T) hr (ac_cons (ec_var 1) ac_nil)) ac_nil))))))
  (bc_cons (sc_for (ic_seq (ec_op opd_addA (eb_var 2) (eb_var 2))) (gc_tup rfl (gcs_cons (gc_name 4 sc_law.nd) (gcs_cons (gc_name 5 sc_law.nd) gcs_nil))) (bc_one (sc_if (TW.tc (tw_or (tc_not (tc_tru (EC.bo (ec_callA (ok__law_right T) hr (ac_cons (ec_var 4) ac_nil))))) (tw_or (tc_not (tc_tru (EC.bo (ec_callA (ok__law_right T) hr (ac_cons (ec_ix ixd (eb_var 5) (EC.bo ec_int)) ac_nil))))) (tw_or1 (tc_not (tc_tru (EC.bo (ec_callA (ok__law_fields T) hr (ac_cons (ec_ix ixd (eb_var 5) (EC.bo ec_int)) (ac_cons (ec_ix ixd (eb_var 5) (EC.bo ec_int)) ac_nil)))))))))) (bc_one (sc_ret (EC.bo ec_bl))) bc_nil)))
  (bc_one (sc_ret (EC.bo ec_bl)))))))
end
end W

namespace W
open L3
open L2 (atI ixN)
/-! the deck: what is drawn -/
structure DeckOk (n : Nat) (g : Store) : Prop where
  ex : ∃ (cells rests : List Int) (count : Int) (r : Nat), g[n]? = some (.lst [.lst (cells.map .int), .int count, .obj r]) ∧ g[r]? = some (.lst (rests.map .int)) ∧ n ≠ r ∧ cells ≠ [] ∧ cells.length = rests.length ∧ cells.length ≤ 1000 ∧ 0 ≤ count
theorem atI_map {l : List Int} {i : Int} (h0 : 0 ≤ i) (h1 : i < l.length) : atI (l.map D.int) i = some (.int (l.getD i.toNat 0)) := by
  have hi : i.toNat < l.length := by omega
  unfold atI ixN
  rw [List.length_map, if_pos h0, if_pos h1]
  show (l.map D.int)[i.toNat]? = _
  rw [List.getElem?_map, List.getElem?_eq_getElem hi]
  simp [List.getD_eq_getElem?_getD, List.getElem?_eq_getElem hi]
theorem next_ok {n : Nat} {g : Store} {many : Int} (h : DeckOk n g) (h0 : 0 < many) (h1 : many < 1073741824) :
    ∃ v g', f__law_next [.obj n, .int many] g = some (.int v, g') ∧ 0 ≤ v ∧ v < many ∧ DeckOk n g' := by
  obtain ⟨cells, rests, count, r, e1, e2, hne, hc, hl, hb, h2⟩ := h.ex
  have hlen : 0 < cells.length := List.length_pos_iff.mpr hc
  have hp0 : 0 ≤ count % (cells.length : Int) := Int.emod_nonneg _ (by omega)
  have hp1 : count % (cells.length : Int) < cells.length := Int.emod_lt_of_pos _ (by omega)
  have a1 := atI_map (l := cells) hp0 hp1
  have a2 := atI_map (l := rests) hp0 (by rw [← hl]; exact hp1)
  generalize hv : rests.getD (count % (cells.length : Int)).toNat 0 = v at a2
  generalize hu : cells.getD (count % (cells.length : Int)).toNat 0 = u at a1
  have hn : n < g.length := (List.getElem?_eq_some_iff.mp e1).1
  have hr : r < g.length := (List.getElem?_eq_some_iff.mp e2).1
  have ix : ixN rests.length (count % (cells.length : Int)) = some (count % (cells.length : Int)).toNat := by
    unfold ixN; rw [if_pos hp0, if_pos (by rw [← hl]; exact hp1)]
  by_cases hpos : 0 < v
  · refine ⟨v % many, (g.set n (.lst [.lst (cells.map .int), .int (count + 1), .obj r])).set r (.lst ((rests.map .int).set (count % (cells.length : Int)).toNat (.int (v / many)))), ?_, Int.emod_nonneg _ (by omega), Int.emod_lt_of_pos _ h0, ⟨cells, rests.set (count % (cells.length : Int)).toNat (v / many), count + 1, r, ?_, ?_, hne, hc, by simp [hl], hb, by omega⟩⟩
    · unfold f__law_next runD d__law_next
      simp [start3, sSeq, sUnpO, eVarB, eVar, e1, e2, tgsCons, tgsNil, tgName, sets, sSet, eOp, L3.bindM, L3.liftM, eFn, aCons, aNil, dLen, dMod, dDiv, hlen, sSetO, eC, dAddA, dAdd, show ixN 3 1 = some 1 from rfl, sIf, tOf, eIxO, dGt, hne, hne.symm, List.getElem?_set_ne, a2, hpos, h0, h1, sRet, ix]
    · rw [List.getElem?_set_ne (Ne.symm hne), List.getElem?_set_self hn]
    · rw [List.getElem?_set_self (by rw [List.length_set]; exact hr), List.map_set]
  · have q1 : ∃ m1 : Int, (u + 1000003 * count + 77) % 2147483647 = m1 ∧ 0 ≤ m1 ∧ m1 < 2147483647 := ⟨_, rfl, Int.emod_nonneg _ (by decide), Int.emod_lt_of_pos _ (by decide)⟩
    obtain ⟨m1, em1, b1, b2⟩ := q1
    have q2 : ∃ m2 : Int, m1 ^ 5 % 2147483629 = m2 ∧ 0 ≤ m2 ∧ m2 < 2147483629 := ⟨_, rfl, Int.emod_nonneg _ (by decide), Int.emod_lt_of_pos _ (by decide)⟩
    obtain ⟨m2, em2, b3, b4⟩ := q2
    have q3 : ∃ m3 : Int, (m2 + 104729 * (count % 9973) + 1) ^ 3 % 2305843009213693951 = m3 ∧ 0 ≤ m3 := ⟨_, rfl, Int.emod_nonneg _ (by decide)⟩
    obtain ⟨m3, em3, b5⟩ := q3
    have b6 : 0 ≤ count % 9973 := Int.emod_nonneg _ (by decide)
    have b7 : count % 9973 < 9973 := Int.emod_lt_of_pos _ (by decide)
    refine ⟨m3 / 8 % many, g.set n (.lst [.lst (cells.map .int), .int (count + 1), .obj r]), ?_, Int.emod_nonneg _ (by omega), Int.emod_lt_of_pos _ h0, ⟨cells, rests, count + 1, r, ?_, ?_, hne, hc, hl, hb, by omega⟩⟩
    · have c1 : m1.natAbs < 18446744073709551616 := by omega
      have c2 : (m2 + 104729 * (count % 9973) + 1).natAbs < 18446744073709551616 := by omega
      unfold f__law_next runD d__law_next
      simp [start3, sSeq, sUnpO, eVarB, eVar, e1, e2, tgsCons, tgsNil, tgName, sets, sSet, eOp, L3.bindM, L3.liftM, eFn, aCons, aNil, dLen, dMod, dDiv, hlen, sSetO, eC, dAddA, dAdd, show ixN 3 1 = some 1 from rfl, sIf, tOf, eIxO, dGt, hne, hne.symm, List.getElem?_set_ne, a1, a2, hpos, h0, h1, sRet, ix, dIx, dMul, dPow, sNext, em1, em2, em3, c1, c2]
    · rw [List.getElem?_set_self hn]
    · rw [List.getElem?_set_ne hne]; exact e2
theorem Ok.next {n : Nat} {g : Store} {many : Int} {Q : D → Store → Prop} (h : DeckOk n g) (h0 : 0 < many) (h1 : many < 1073741824) (w : ∀ v g', 0 ≤ v → v < many → DeckOk n g' → Q (.int v) g') : Ok (f__law_next [.obj n, .int many] g) Q := by
  obtain ⟨v, g', e, a, b, c⟩ := next_ok h h0 h1
  exact ⟨_, g', e, w v g' a b c⟩
end W

namespace W
open L3
open L2 (atI ixN)
theorem deck_ok (ns : List Int) (hl : ns.length ≤ 63) : Ok (f__law_deck [.lst (ns.map .int)] []) fun d g => d = .obj 1 ∧ DeckOk 1 g := by
  have c63 : cutL (ns.map D.int) none (some 63) = ns.map D.int := by
    unfold cutL
    rw [List.length_map]
    simp only [HT.sIx, List.drop_zero, Nat.sub_zero]
    rw [List.take_of_length_le]
    rw [List.length_map]
    simp
    omega
  have pw : (10 : Int) ^ 18 = 1000000000000000000 := by decide
  generalize hcs : ns ++ (List.replicate (if ns.length = 0 then 1 else 0) [(0 : Int)]).flatten = cs
  have hc0 : cs ≠ [] := by
    rw [← hcs]
    cases ns with
    | nil => simp
    | cons x r => simp
  have hcl : cs.length ≤ 64 := by
    rw [← hcs, List.length_append]
    split <;> simp_all <;> omega
  have ecs : ns.map D.int ++ (List.replicate (if ns.length = 0 then 1 else 0) [D.int 0]).flatten = cs.map D.int := by
    rw [← hcs, List.map_append]
    split <;> simp
  have lc : ∀ ρ : Env3, 2 < ρ.length → lcD (tgName 2) tYesD le__law_deck_0 (cs.map D.int) ρ [] = some ((cs.map D.int).map (fun d => match d with | .int i => .int (i * (if 1000000000000000000 ≤ i then 1 else 0)) | d => d), []) := by
    intro ρ hρ
    refine lc_map fun d hd => ?_
    obtain ⟨i, _, rfl⟩ := List.mem_map.mp hd
    refine ⟨_, rfl, ?_⟩
    unfold le__law_deck_0
    by_cases hi : 1000000000000000000 ≤ i
    · simp [sets, eOp, L3.bindM, L3.liftM, eVarB, hρ, eFn, aCons, aNil, eC, dPow, dGe, pw, dInt, dMul, hi]
    · simp [sets, eOp, L3.bindM, L3.liftM, eVarB, hρ, eFn, aCons, aNil, eC, dPow, dGe, pw, dInt, dMul, hi]
  refine ok_run (ok_seq ?_)
  refine Ok.of (x := .nx [some (.d (.lst (ns.map .int))), some (.d (.lst (cs.map .int))), none]) (g := []) ?_ ?_
  · by_cases h0 : ns.length = 0
    · have e : ns = [] := List.eq_nil_of_length_eq_zero h0
      subst e
      rw [← ecs]
      rfl
    · have h0' : ¬ ((ns.length : Int) = 0) := by omega
      rw [if_neg h0] at ecs
      simp [sSet, start3, eOp, L3.bindM, L3.liftM, eL, aFn, aSl, eSl, eVarB, eVar, oNone, oSome, eC, aCons, aNil, dSl, c63, aList, eFn, dLen, dEq, dEqB, h0, h0', dInt, aRep, dLst, dAddA, ← ecs, BIG, show ns.length ≤ 100000 by omega]
  · have hb : cs.length ≤ 100000 := by omega
    refine Ok.of (x := .rt (.obj 1)) (g := [.lst ((cs.map D.int).map (fun d => match d with | .int i => .int (i * (if 1000000000000000000 ≤ i then 1 else 0)) | d => d)), .lst [.lst (cs.map .int), .int 0, .obj 0]]) ?_ ?_
    · simp [sRet, eSt, aFn, L3.bindM, L3.liftM, aCons, aNil, eVar, eC, aLc, aItems, items, noOwn, SV.isOwn, wipe3, lc, hb, dLst, BIG]
    · refine ⟨rfl, ⟨cs, cs.map fun i => i * (if 1000000000000000000 ≤ i then 1 else 0), 0, 0, rfl, ?_, by decide, hc0, by simp, by omega, by decide⟩⟩
      simp [Function.comp_def]
end W

namespace W
open L3
open L2 (atI ixN)
theorem strI_dig : ∀ v : Int, 0 ≤ v → v < 10 → strI v = [48 + v.toNat] := by
  intro v h0 h1
  have : v = 0 ∨ v = 1 ∨ v = 2 ∨ v = 3 ∨ v = 4 ∨ v = 5 ∨ v = 6 ∨ v = 7 ∨ v = 8 ∨ v = 9 := by omega
  rcases this with h | h | h | h | h | h | h | h | h | h <;> subst h <;> decide +kernel
theorem dStr_ok {v : Int} (h0 : 0 ≤ v) (h1 : v < 1000000) : dStr [.int v] = some (.str (strI v)) := by
  unfold dStr
  dsimp only
  rw [if_pos (show v.natAbs < 10 ^ 60 from Nat.lt_of_lt_of_le (show v.natAbs < 1000000 by omega) (by decide))]
theorem txts_of : ∀ {ys : List D}, (∀ y ∈ ys, ∃ s, y = D.str s) → ∃ l : List (List Nat), ys = l.map D.str
  | [], _ => ⟨[], rfl⟩
  | y :: ys, h => by
    obtain ⟨s, rfl⟩ := h y List.mem_cons_self
    obtain ⟨l, rfl⟩ := txts_of fun y' h' => h y' (List.mem_cons_of_mem _ h')
    exact ⟨s :: l, rfl⟩
theorem txts_map (l : List (List Nat)) : txts (l.map D.str) = some l := by
  induction l with
  | nil => rfl
  | cons x r ih => simp [txts, ih]
theorem joinL_nil (l : List (List Nat)) : TL.joinL [] l = l.flatten := by
  induction l with
  | nil => rfl
  | cons x r ih => cases r with
    | nil => simp [TL.joinL]
    | cons y r => simp only [TL.joinL, ih, List.nil_append, List.flatten_cons]
/-- "".join of a row of texts that a comprehension makes, each by a law P -/
theorem join_ok {tg : D → Option (List (Nat × D))} {e : DE} {ρ : Env3} {g : Store} {ds : List D} {Q : D → Store → Prop} (I : Store → Prop) (P : List Nat → Prop) (N : Nat) (hI : I g) (hN : ds.length * N ≤ BIG)
    (h : ∀ d ∈ ds, ∀ g, I g → ∃ as, tg d = some as ∧ Ok (e (sets ρ as) g) fun y g1 => (∃ s, y = .str s ∧ P s ∧ s.length ≤ N) ∧ I g1)
    (w : ∀ (l : List (List Nat)) g1, I g1 → l.length = ds.length → (∀ s ∈ l, P s ∧ s.length ≤ N) → Q (.str l.flatten) g1) :
    Ok (lcD tg tYesD e ds ρ g) fun xs g1 => OkO (if isStr (.str []) then dJoin (.str []) [.lst xs] else none) fun z => Q z g1 := by
  refine (ok_lc I (fun _ y => ∃ s, y = .str s ∧ P s ∧ s.length ≤ N) hI h).mono fun ys g1 q => ?_
  obtain ⟨hI1, hl, hall⟩ := q
  have hys : ∀ y ∈ ys, ∃ s, y = D.str s ∧ P s ∧ s.length ≤ N := fun y hy => by
    obtain ⟨i, hi, rfl⟩ := List.getElem_of_mem hy
    exact hall i _ _ (List.getElem?_eq_getElem (by omega)) (List.getElem?_eq_getElem hi)
  obtain ⟨l, rfl⟩ := txts_of fun y hy => by obtain ⟨s, e, _⟩ := hys y hy; exact ⟨s, e⟩
  have hP : ∀ s ∈ l, P s ∧ s.length ≤ N := fun s hs => by
    obtain ⟨s', e, q⟩ := hys _ (List.mem_map_of_mem hs)
    cases e
    exact q
  have hsum : ∀ l : List (List Nat), (∀ s ∈ l, s.length ≤ N) → (l.map (·.length)).sum ≤ l.length * N := by
    intro l
    induction l with
    | nil => intro _; simp
    | cons x r ih =>
      intro h
      have h1 := h x List.mem_cons_self
      have h2 := ih fun s hs => h s (List.mem_cons_of_mem _ hs)
      rw [List.map_cons, List.sum_cons, List.length_cons, Nat.succ_mul]
      omega
  have hjn : joinN [] l ≤ BIG := by
    unfold joinN
    have := hsum l fun s hs => (hP s hs).2
    rw [List.length_map] at hl
    rw [hl] at this
    simp only [List.length_nil, Nat.mul_zero, Nat.add_zero]
    exact Nat.le_trans this hN
  refine ⟨.str l.flatten, ?_, w l g1 hI1 (by rw [List.length_map] at hl; exact hl) hP⟩
  simp only [isStr, if_true, dJoin, dJoinL, txts_map, hjn, joinL_nil]
theorem range1_ok {k : Int} (h0 : 0 ≤ k) (h1 : k ≤ 1000000) : dRange1 [.int k] = some (rangeD 0 k.toNat) := by
  unfold dRange1
  dsimp only
  rw [if_pos ⟨by omega, h1⟩]
theorem mem_range {lo : Int} {n : Nat} {d : D} (h : d ∈ rangeD lo n) : ∃ i : Nat, i < n ∧ d = .int (lo + i) := by
  unfold rangeD at h
  obtain ⟨i, hi, rfl⟩ := List.mem_map.mp h
  exact ⟨i, List.mem_range.mp hi, rfl⟩
theorem figures_ok {n : Nat} {g : Store} {k : Int} {Q : D → Store → Prop} (h : DeckOk n g) (h0 : 0 ≤ k) (h1 : k ≤ 1000) (w : ∀ s g', DeckOk n g' → s.length = k.toNat → (∀ c ∈ s, 48 ≤ c ∧ c ≤ 57) → Q (.str s) g') : Ok (f__law_figures [.obj n, .int k] g) Q := by
  unfold f__law_figures d__law_figures
  simp only [ok_forNil, ok_forCons, forK_nx, forK_ct, forK_bk, forK_rt, ok_eOp, ok_eUn, ok_aNil, ok_aCons, ok_eFn, ok_aFn, ok_eApp, ok_eC, ok_eL, ok_eSt, ok_eM1, ok_aM1, ok_oNone, ok_oSome, ok_eSl, ok_tOf, ok_tTru, ok_tNot, ok_tAnd, ok_tOr, ok_eAnd, ok_eOr, ok_eIf, ok_eChain, ok_eVar, ok_eVarB, ok_sSeq, seqK_nx, seqK_rt, seqK_bk, seqK_ct, ok_sSet, ok_sRet, ok_sIf, ok_sNext, ok_sDrop, ok_sApp, ok_sFreeze, ok_sUnp, ok_sAug, ok_sFor, ok_aLcE, ok_aItems, runK_rt, runK_nx, ok_runD, okO_some, okO_map, valD_d, valB_d, valB_o, valB_w, ownOf_o, asInt_i, asBl_b, start3, frz, sets, tgName, tgTup, tgsCons, tgsNil, wipe3, List.set_cons_zero, List.set_cons_succ, List.getElem?_cons_zero, List.getElem?_cons_succ, List.map_cons, List.map_nil, List.length_cons, List.length_nil, List.cons_append, List.nil_append, List.replicate_succ, List.replicate_zero, Nat.reduceSub, Nat.reduceAdd, Nat.reduceLT]
  refine ⟨_, range1_ok h0 (by omega), ⟨by rw [rangeD_len]; unfold BIG; omega, rfl⟩, ?_⟩
  refine join_ok (DeckOk n) (fun s => ∃ c, s = [c] ∧ 48 ≤ c ∧ c ≤ 57) 1 h (by rw [rangeD_len]; unfold BIG; omega) (fun d hd g hg => ⟨_, rfl, ?_⟩) (fun l g1 hg hl hP => ?_)
  · simp only [ok_forNil, ok_forCons, forK_nx, forK_ct, forK_bk, forK_rt, ok_eOp, ok_eUn, ok_aNil, ok_aCons, ok_eFn, ok_aFn, ok_eApp, ok_eC, ok_eL, ok_eSt, ok_eM1, ok_aM1, ok_oNone, ok_oSome, ok_eSl, ok_tOf, ok_tTru, ok_tNot, ok_tAnd, ok_tOr, ok_eAnd, ok_eOr, ok_eIf, ok_eChain, ok_eVar, ok_eVarB, ok_sSeq, seqK_nx, seqK_rt, seqK_bk, seqK_ct, ok_sSet, ok_sRet, ok_sIf, ok_sNext, ok_sDrop, ok_sApp, ok_sFreeze, ok_sUnp, ok_sAug, ok_sFor, ok_aLcE, ok_aItems, runK_rt, runK_nx, ok_runD, okO_some, okO_map, valD_d, valB_d, valB_o, valB_w, ownOf_o, asInt_i, asBl_b, start3, frz, sets, tgName, tgTup, tgsCons, tgsNil, wipe3, List.set_cons_zero, List.set_cons_succ, List.getElem?_cons_zero, List.getElem?_cons_succ, List.map_cons, List.map_nil, List.length_cons, List.length_nil, List.cons_append, List.nil_append, List.replicate_succ, List.replicate_zero, Nat.reduceSub, Nat.reduceAdd, Nat.reduceLT, le__law_figures_0]
    refine Ok.next hg (by decide) (by decide) fun v g' b0 b1 hg' => ?_
    refine ⟨_, dStr_ok b0 (by omega), ⟨_, rfl, ⟨48 + v.toNat, strI_dig v b0 b1, by omega, by omega⟩, ?_⟩, hg'⟩
    rw [strI_dig v b0 b1]
    exact Nat.le_refl _
  · rw [rangeD_len] at hl
    have key : ∀ l : List (List Nat), (∀ s ∈ l, ∃ c, s = [c] ∧ 48 ≤ c ∧ c ≤ 57) → l.flatten.length = l.length ∧ ∀ c ∈ l.flatten, 48 ≤ c ∧ c ≤ 57 := by
      intro l
      induction l with
      | nil => intro _; simp
      | cons x r ih =>
        intro hx
        obtain ⟨c, rfl, q⟩ := hx x List.mem_cons_self
        obtain ⟨i1, i2⟩ := ih fun s hs => hx s (List.mem_cons_of_mem _ hs)
        refine ⟨by simp [i1], fun c' hc' => ?_⟩
        simp only [List.flatten_cons, List.cons_append, List.nil_append, List.mem_cons] at hc'
        rcases hc' with rfl | hc'
        · exact q
        · exact i2 c' hc'
    obtain ⟨k1, k2⟩ := key l fun s hs => (hP s hs).1
    exact w _ g1 hg (by rw [k1, hl]) k2
/-- a sign of a written text at a drawn place -/
theorem ix_str {z : List Nat} {v : Int} (h0 : 0 ≤ v) (h1 : v < z.length) (hl : z.length ≤ BIG) : ∃ c, c ∈ z ∧ dIx (.str z) (.int v) = some (.str [c]) := by
  have hv : v.toNat < z.length := by omega
  refine ⟨z[v.toNat], List.getElem_mem _, ?_⟩
  unfold dIx
  dsimp only
  rw [if_pos hl]
  unfold atI ixN
  rw [if_pos h0, if_pos h1]
  simp [List.getElem?_eq_getElem hv]
theorem ix_lst {z : List D} {v : Int} (h0 : 0 ≤ v) (h1 : v < z.length) : ∃ d, d ∈ z ∧ dIx (.lst z) (.int v) = some d := by
  have hv : v.toNat < z.length := by omega
  refine ⟨z[v.toNat], List.getElem_mem _, ?_⟩
  unfold dIx
  dsimp only
  unfold atI ixN
  rw [if_pos h0, if_pos h1]
  simp [List.getElem?_eq_getElem hv]
theorem sign_ok {n : Nat} {g : Store} {Q : D → Store → Prop} (h : DeckOk n g) (w : ∀ c g', DeckOk n g' → 32 ≤ c → c ≤ 126 → Q (.str [c]) g') : Ok (f__law_sign [.obj n] g) Q := by
  unfold f__law_sign d__law_sign
  simp only [ok_forNil, ok_forCons, forK_nx, forK_ct, forK_bk, forK_rt, ok_eOp, ok_eUn, ok_aNil, ok_aCons, ok_eFn, ok_aFn, ok_eApp, ok_eC, ok_eL, ok_eSt, ok_eM1, ok_aM1, ok_oNone, ok_oSome, ok_eSl, ok_tOf, ok_tTru, ok_tNot, ok_tAnd, ok_tOr, ok_eAnd, ok_eOr, ok_eIf, ok_eChain, ok_eVar, ok_eVarB, ok_sSeq, seqK_nx, seqK_rt, seqK_bk, seqK_ct, ok_sSet, ok_sRet, ok_sIf, ok_sNext, ok_sDrop, ok_sApp, ok_sFreeze, ok_sUnp, ok_sAug, ok_sFor, ok_aLcE, ok_aItems, runK_rt, runK_nx, ok_runD, okO_some, okO_map, valD_d, valB_d, valB_o, valB_w, ownOf_o, asInt_i, asBl_b, start3, frz, sets, tgName, tgTup, tgsCons, tgsNil, wipe3, List.set_cons_zero, List.set_cons_succ, List.getElem?_cons_zero, List.getElem?_cons_succ, List.map_cons, List.map_nil, List.length_cons, List.length_nil, List.cons_append, List.nil_append, List.replicate_succ, List.replicate_zero, Nat.reduceSub, Nat.reduceAdd, Nat.reduceLT]
  generalize hz : ([32, 33, 34, 35, 36, 38, 39, 40, 41, 42, 43, 44, 45, 46, 47, 48, 49, 50, 51, 52, 53, 54, 55, 56, 57, 58, 59, 60, 61, 62, 63, 64, 65, 66, 67, 68, 69, 70, 71, 72, 73, 74, 75, 76, 77, 78, 79, 80, 81, 82, 83, 84, 85, 86, 87, 88, 89, 90, 91, 92, 93, 94, 95, 96, 97, 98, 99, 100, 101, 102, 103, 104, 105, 106, 107, 108, 109, 110, 111, 112, 113, 114, 115, 116, 117, 118, 119, 120, 121, 122, 123, 124, 125, 126] : List Nat) = z
  have hl : z.length = 94 := by rw [← hz]; rfl
  have hall : ∀ c ∈ z, 32 ≤ c ∧ c ≤ 126 := by rw [← hz]; decide
  refine ⟨.int 94, by simp [dLen, hl, BIG], ?_⟩
  refine Ok.next h (by decide) (by decide) fun v g' b0 b1 hg' => ?_
  obtain ⟨c, hc, e⟩ := ix_str (z := z) b0 (by rw [hl]; exact b1) (by rw [hl]; decide)
  exact ⟨_, e, w c g' hg' (hall c hc).1 (hall c hc).2⟩
theorem signs_flat : ∀ l : List (List Nat), (∀ s ∈ l, ∃ c, s = [c] ∧ 32 ≤ c ∧ c ≤ 126) → l.flatten.length = l.length ∧ ∀ c ∈ l.flatten, 32 ≤ c ∧ c ≤ 126 := by
  intro l
  induction l with
  | nil => intro _; simp
  | cons x r ih =>
    intro hx
    obtain ⟨c, rfl, q⟩ := hx x List.mem_cons_self
    obtain ⟨i1, i2⟩ := ih fun s hs => hx s (List.mem_cons_of_mem _ hs)
    refine ⟨by simp [i1], fun c' hc' => ?_⟩
    simp only [List.flatten_cons, List.cons_append, List.nil_append, List.mem_cons] at hc'
    rcases hc' with rfl | hc'
    · exact q
    · exact i2 c' hc'
theorem sgn_ok {n : Nat} {g : Store} {Q : D → Store → Prop} (h : DeckOk n g) (w : ∀ s g', DeckOk n g' → s.length ≤ 1 → Q (.str s) g') : Ok (f__law_next [.obj n, .int 2] g) fun y g2 => OkO (dIx (.lst [.str [], .str [45]]) y) fun z => Q z g2 := by
  refine Ok.next h (by decide) (by decide) fun v g2 c0 c1 h2 => ?_
  obtain ⟨sg, hsg, e⟩ := ix_lst (z := [.str [], .str [45]]) c0 c1
  refine ⟨_, e, ?_⟩
  simp at hsg
  rcases hsg with rfl | rfl
  · exact w _ g2 h2 (by decide)
  · exact w _ g2 h2 (by decide)
theorem cut_len {β : Type} (xs : List β) (lo hi : Option Int) : (cutL xs lo hi).length ≤ xs.length := by
  unfold cutL
  rw [List.length_take, List.length_drop]
  omega
theorem text_ok {n : Nat} {g : Store} {Q : D → Store → Prop} (h : DeckOk n g) (w : ∀ s g', DeckOk n g' → s.length ≤ 200 → Q (.str s) g') : Ok (f__law_text [.obj n] g) Q := by
  unfold f__law_text d__law_text
  simp only [ok_forNil, ok_forCons, forK_nx, forK_ct, forK_bk, forK_rt, ok_eOp, ok_eUn, ok_aNil, ok_aCons, ok_eFn, ok_aFn, ok_eApp, ok_eC, ok_eL, ok_eSt, ok_eM1, ok_aM1, ok_oNone, ok_oSome, ok_eSl, ok_tOf, ok_tTru, ok_tNot, ok_tAnd, ok_tOr, ok_eAnd, ok_eOr, ok_eIf, ok_eChain, ok_eVar, ok_eVarB, ok_sSeq, seqK_nx, seqK_rt, seqK_bk, seqK_ct, ok_sSet, ok_sRet, ok_sIf, ok_sNext, ok_sDrop, ok_sApp, ok_sFreeze, ok_sUnp, ok_sAug, ok_sFor, ok_aLcE, ok_aItems, runK_rt, runK_nx, ok_runD, okO_some, okO_map, valD_d, valB_d, valB_o, valB_w, ownOf_o, asInt_i, asBl_b, start3, frz, sets, tgName, tgTup, tgsCons, tgsNil, wipe3, List.set_cons_zero, List.set_cons_succ, List.getElem?_cons_zero, List.getElem?_cons_succ, List.map_cons, List.map_nil, List.length_cons, List.length_nil, List.cons_append, List.nil_append, List.replicate_succ, List.replicate_zero, Nat.reduceSub, Nat.reduceAdd, Nat.reduceLT]
  refine Ok.next h (by decide) (by decide) fun way g1 b0 b1 h1 => ?_
  refine ⟨[.str [], .str [45]], rfl, sgn_ok h1 fun sg g2 h2 hsl => ?_⟩
  simp only [ok_forNil, ok_forCons, forK_nx, forK_ct, forK_bk, forK_rt, ok_eOp, ok_eUn, ok_aNil, ok_aCons, ok_eFn, ok_aFn, ok_eApp, ok_eC, ok_eL, ok_eSt, ok_eM1, ok_aM1, ok_oNone, ok_oSome, ok_eSl, ok_tOf, ok_tTru, ok_tNot, ok_tAnd, ok_tOr, ok_eAnd, ok_eOr, ok_eIf, ok_eChain, ok_eVar, ok_eVarB, ok_sSeq, seqK_nx, seqK_rt, seqK_bk, seqK_ct, ok_sSet, ok_sRet, ok_sIf, ok_sNext, ok_sDrop, ok_sApp, ok_sFreeze, ok_sUnp, ok_sAug, ok_sFor, ok_aLcE, ok_aItems, runK_rt, runK_nx, ok_runD, okO_some, okO_map, valD_d, valB_d, valB_o, valB_w, ownOf_o, asInt_i, asBl_b, start3, frz, sets, tgName, tgTup, tgsCons, tgsNil, wipe3, List.set_cons_zero, List.set_cons_succ, List.getElem?_cons_zero, List.getElem?_cons_succ, List.map_cons, List.map_nil, List.length_cons, List.length_nil, List.cons_append, List.nil_append, List.replicate_succ, List.replicate_zero, Nat.reduceSub, Nat.reduceAdd, Nat.reduceLT, okO_if, dAddA_ii, dAddA_ss, dAddA_ll, dAddA_tt, dAdd_ii, dAdd_ss, dSub_ii, dMul_ii, dMul_si, dMod_ii, dDiv_ii, dLt_ii, dLt_ss, dLe_ii, dLe_ss, dGt_ii, dGt_ss, dGe_ii, dGe_ss, dEq_ii, dEq_ss, dEq_bb, dEq_nn, dEq_ns, dEq_sn, dEq_ni, dEq_in, dNe_ii, dNe_ss, dNe_bb, dNe_nn, dNe_ns, dNe_sn, dNe_ni, dNe_in, dIs_n, dIsNot_n, dIs_b, dIsNot_b, dIs_i, dIsNot_i, dIs_s, dIsNot_s, dIs_l, dIsNot_l, dIs_t, dIsNot_t, dIs_d, dIsNot_d, dIs_o, dIsNot_o, dLen_s, dLen_l, dLen_t, dTup_d, dLst_d, truD_n, truD_b, truD_i, truD_s, truD_l, truD_t, dNot_b, dNeg_i, asInt_i, asBl_b, dSl_s, dSl_l, dSl_t, isStr_s, items_l, items_t, items_s, dInt_i, dInt_b, dIx_li, dIx_ti, dStarts_ss, dTuple_l, dTuple_t, aList_l, aList_t, dIn_cs, dNotIn_cs, valD_d, valB_d, valB_o, valB_w, ownOf_o, isi_int_n, isi_int_b, isi_int_i, isi_int_s, isi_int_l, isi_int_t, isi_int_d, isi_str_n, isi_str_b, isi_str_i, isi_str_s, isi_str_l, isi_str_t, isi_str_d, isi_bool_n, isi_bool_b, isi_bool_i, isi_bool_s, isi_bool_l, isi_bool_t, isi_bool_d, isi_list_n, isi_list_b, isi_list_i, isi_list_s, isi_list_l, isi_list_t, isi_list_d, isi_tuple_n, isi_tuple_b, isi_tuple_i, isi_tuple_s, isi_tuple_l, isi_tuple_t, isi_tuple_d, isi_dict_n, isi_dict_b, isi_dict_i, isi_dict_s, isi_dict_l, isi_dict_t, isi_dict_d, decide_eq_true_eq, Bool.not_eq_true, Bool.not_true, Bool.not_false, if_true, if_false, Bool.false_eq_true, and_true, true_and, decide_true, decide_false, ite_true, ite_false, reduceCtorEq]
  split
  · refine Ok.next h2 (by decide) (by decide) fun v g3 c0 c1 h3 => ?_
    refine ⟨_, range1_ok c0 (by omega), ⟨by rw [rangeD_len]; unfold BIG; omega, rfl⟩, ?_⟩
    refine join_ok (DeckOk n) (fun s => ∃ c, s = [c] ∧ 32 ≤ c ∧ c ≤ 126) 1 h3 (by rw [rangeD_len]; unfold BIG; omega) (fun d hd g hg => ⟨_, rfl, ?_⟩) (fun l g1 hg hl hP => ?_)
    · simp only [ok_forNil, ok_forCons, forK_nx, forK_ct, forK_bk, forK_rt, ok_eOp, ok_eUn, ok_aNil, ok_aCons, ok_eFn, ok_aFn, ok_eApp, ok_eC, ok_eL, ok_eSt, ok_eM1, ok_aM1, ok_oNone, ok_oSome, ok_eSl, ok_tOf, ok_tTru, ok_tNot, ok_tAnd, ok_tOr, ok_eAnd, ok_eOr, ok_eIf, ok_eChain, ok_eVar, ok_eVarB, ok_sSeq, seqK_nx, seqK_rt, seqK_bk, seqK_ct, ok_sSet, ok_sRet, ok_sIf, ok_sNext, ok_sDrop, ok_sApp, ok_sFreeze, ok_sUnp, ok_sAug, ok_sFor, ok_aLcE, ok_aItems, runK_rt, runK_nx, ok_runD, okO_some, okO_map, valD_d, valB_d, valB_o, valB_w, ownOf_o, asInt_i, asBl_b, start3, frz, sets, tgName, tgTup, tgsCons, tgsNil, wipe3, List.set_cons_zero, List.set_cons_succ, List.getElem?_cons_zero, List.getElem?_cons_succ, List.map_cons, List.map_nil, List.length_cons, List.length_nil, List.cons_append, List.nil_append, List.replicate_succ, List.replicate_zero, Nat.reduceSub, Nat.reduceAdd, Nat.reduceLT, le__law_text_0]
      exact sign_ok hg fun c g' hg' d0 d1 => ⟨⟨_, rfl, ⟨c, rfl, d0, d1⟩, Nat.le_refl _⟩, hg'⟩
    · rw [rangeD_len] at hl
      have := (signs_flat l fun s hs => (hP s hs).1).1
      exact w _ g1 hg (by omega)
  · split
    · refine ⟨by decide, Ok.next h2 (by decide) (by decide) fun v g3 c0 c1 h3 => ?_⟩
      obtain ⟨sg2, hsg, e⟩ := ix_lst (z := [D.str [48], D.str [45, 48], D.str [48, 48], D.str [45], D.str [], D.str [43, 49], D.str [32, 49], D.str [49, 32], D.str [49, 46, 48], D.str [49, 101, 51], D.str [45, 48, 49], D.str [48, 120, 49]]) c0 c1
      refine ⟨_, e, ?_⟩
      simp at hsg
      rcases hsg with rfl | rfl | rfl | rfl | rfl | rfl | rfl | rfl | rfl | rfl | rfl | rfl <;> exact w _ g3 h3 (by decide)
    · split
      · refine Ok.next h2 (by decide) (by decide) fun v g3 c0 c1 h3 => ?_
        simp only [ok_forNil, ok_forCons, forK_nx, forK_ct, forK_bk, forK_rt, ok_eOp, ok_eUn, ok_aNil, ok_aCons, ok_eFn, ok_aFn, ok_eApp, ok_eC, ok_eL, ok_eSt, ok_eM1, ok_aM1, ok_oNone, ok_oSome, ok_eSl, ok_tOf, ok_tTru, ok_tNot, ok_tAnd, ok_tOr, ok_eAnd, ok_eOr, ok_eIf, ok_eChain, ok_eVar, ok_eVarB, ok_sSeq, seqK_nx, seqK_rt, seqK_bk, seqK_ct, ok_sSet, ok_sRet, ok_sIf, ok_sNext, ok_sDrop, ok_sApp, ok_sFreeze, ok_sUnp, ok_sAug, ok_sFor, ok_aLcE, ok_aItems, runK_rt, runK_nx, ok_runD, okO_some, okO_map, valD_d, valB_d, valB_o, valB_w, ownOf_o, asInt_i, asBl_b, start3, frz, sets, tgName, tgTup, tgsCons, tgsNil, wipe3, List.set_cons_zero, List.set_cons_succ, List.getElem?_cons_zero, List.getElem?_cons_succ, List.map_cons, List.map_nil, List.length_cons, List.length_nil, List.cons_append, List.nil_append, List.replicate_succ, List.replicate_zero, Nat.reduceSub, Nat.reduceAdd, Nat.reduceLT, okO_if, dAddA_ii, dAddA_ss, dAddA_ll, dAddA_tt, dAdd_ii, dAdd_ss, dSub_ii, dMul_ii, dMul_si, dMod_ii, dDiv_ii, dLt_ii, dLt_ss, dLe_ii, dLe_ss, dGt_ii, dGt_ss, dGe_ii, dGe_ss, dEq_ii, dEq_ss, dEq_bb, dEq_nn, dEq_ns, dEq_sn, dEq_ni, dEq_in, dNe_ii, dNe_ss, dNe_bb, dNe_nn, dNe_ns, dNe_sn, dNe_ni, dNe_in, dIs_n, dIsNot_n, dIs_b, dIsNot_b, dIs_i, dIsNot_i, dIs_s, dIsNot_s, dIs_l, dIsNot_l, dIs_t, dIsNot_t, dIs_d, dIsNot_d, dIs_o, dIsNot_o, dLen_s, dLen_l, dLen_t, dTup_d, dLst_d, truD_n, truD_b, truD_i, truD_s, truD_l, truD_t, dNot_b, dNeg_i, asInt_i, asBl_b, dSl_s, dSl_l, dSl_t, isStr_s, items_l, items_t, items_s, dInt_i, dInt_b, dIx_li, dIx_ti, dStarts_ss, dTuple_l, dTuple_t, aList_l, aList_t, dIn_cs, dNotIn_cs, valD_d, valB_d, valB_o, valB_w, ownOf_o, isi_int_n, isi_int_b, isi_int_i, isi_int_s, isi_int_l, isi_int_t, isi_int_d, isi_str_n, isi_str_b, isi_str_i, isi_str_s, isi_str_l, isi_str_t, isi_str_d, isi_bool_n, isi_bool_b, isi_bool_i, isi_bool_s, isi_bool_l, isi_bool_t, isi_bool_d, isi_list_n, isi_list_b, isi_list_i, isi_list_s, isi_list_l, isi_list_t, isi_list_d, isi_tuple_n, isi_tuple_b, isi_tuple_i, isi_tuple_s, isi_tuple_l, isi_tuple_t, isi_tuple_d, isi_dict_n, isi_dict_b, isi_dict_i, isi_dict_s, isi_dict_l, isi_dict_t, isi_dict_d, decide_eq_true_eq, Bool.not_eq_true, Bool.not_true, Bool.not_false, if_true, if_false, Bool.false_eq_true, and_true, true_and, decide_true, decide_false, ite_true, ite_false, reduceCtorEq]
        refine ⟨_, dStr_ok (by omega) (by omega), ?_⟩
        rw [strI_dig _ (by omega) (by omega)]
        simp only [ok_forNil, ok_forCons, forK_nx, forK_ct, forK_bk, forK_rt, ok_eOp, ok_eUn, ok_aNil, ok_aCons, ok_eFn, ok_aFn, ok_eApp, ok_eC, ok_eL, ok_eSt, ok_eM1, ok_aM1, ok_oNone, ok_oSome, ok_eSl, ok_tOf, ok_tTru, ok_tNot, ok_tAnd, ok_tOr, ok_eAnd, ok_eOr, ok_eIf, ok_eChain, ok_eVar, ok_eVarB, ok_sSeq, seqK_nx, seqK_rt, seqK_bk, seqK_ct, ok_sSet, ok_sRet, ok_sIf, ok_sNext, ok_sDrop, ok_sApp, ok_sFreeze, ok_sUnp, ok_sAug, ok_sFor, ok_aLcE, ok_aItems, runK_rt, runK_nx, ok_runD, okO_some, okO_map, valD_d, valB_d, valB_o, valB_w, ownOf_o, asInt_i, asBl_b, start3, frz, sets, tgName, tgTup, tgsCons, tgsNil, wipe3, List.set_cons_zero, List.set_cons_succ, List.getElem?_cons_zero, List.getElem?_cons_succ, List.map_cons, List.map_nil, List.length_cons, List.length_nil, List.cons_append, List.nil_append, List.replicate_succ, List.replicate_zero, Nat.reduceSub, Nat.reduceAdd, Nat.reduceLT, okO_if, dAddA_ii, dAddA_ss, dAddA_ll, dAddA_tt, dAdd_ii, dAdd_ss, dSub_ii, dMul_ii, dMul_si, dMod_ii, dDiv_ii, dLt_ii, dLt_ss, dLe_ii, dLe_ss, dGt_ii, dGt_ss, dGe_ii, dGe_ss, dEq_ii, dEq_ss, dEq_bb, dEq_nn, dEq_ns, dEq_sn, dEq_ni, dEq_in, dNe_ii, dNe_ss, dNe_bb, dNe_nn, dNe_ns, dNe_sn, dNe_ni, dNe_in, dIs_n, dIsNot_n, dIs_b, dIsNot_b, dIs_i, dIsNot_i, dIs_s, dIsNot_s, dIs_l, dIsNot_l, dIs_t, dIsNot_t, dIs_d, dIsNot_d, dIs_o, dIsNot_o, dLen_s, dLen_l, dLen_t, dTup_d, dLst_d, truD_n, truD_b, truD_i, truD_s, truD_l, truD_t, dNot_b, dNeg_i, asInt_i, asBl_b, dSl_s, dSl_l, dSl_t, isStr_s, items_l, items_t, items_s, dInt_i, dInt_b, dIx_li, dIx_ti, dStarts_ss, dTuple_l, dTuple_t, aList_l, aList_t, dIn_cs, dNotIn_cs, valD_d, valB_d, valB_o, valB_w, ownOf_o, isi_int_n, isi_int_b, isi_int_i, isi_int_s, isi_int_l, isi_int_t, isi_int_d, isi_str_n, isi_str_b, isi_str_i, isi_str_s, isi_str_l, isi_str_t, isi_str_d, isi_bool_n, isi_bool_b, isi_bool_i, isi_bool_s, isi_bool_l, isi_bool_t, isi_bool_d, isi_list_n, isi_list_b, isi_list_i, isi_list_s, isi_list_l, isi_list_t, isi_list_d, isi_tuple_n, isi_tuple_b, isi_tuple_i, isi_tuple_s, isi_tuple_l, isi_tuple_t, isi_tuple_d, isi_dict_n, isi_dict_b, isi_dict_i, isi_dict_s, isi_dict_l, isi_dict_t, isi_dict_d, decide_eq_true_eq, Bool.not_eq_true, Bool.not_true, Bool.not_false, if_true, if_false, Bool.false_eq_true, and_true, true_and, decide_true, decide_false, ite_true, ite_false, reduceCtorEq]
        refine ⟨by unfold BIG; omega, Ok.next h3 (by decide) (by decide) fun v2 g4 d0 d1 h4 => ?_⟩
        simp only [ok_forNil, ok_forCons, forK_nx, forK_ct, forK_bk, forK_rt, ok_eOp, ok_eUn, ok_aNil, ok_aCons, ok_eFn, ok_aFn, ok_eApp, ok_eC, ok_eL, ok_eSt, ok_eM1, ok_aM1, ok_oNone, ok_oSome, ok_eSl, ok_tOf, ok_tTru, ok_tNot, ok_tAnd, ok_tOr, ok_eAnd, ok_eOr, ok_eIf, ok_eChain, ok_eVar, ok_eVarB, ok_sSeq, seqK_nx, seqK_rt, seqK_bk, seqK_ct, ok_sSet, ok_sRet, ok_sIf, ok_sNext, ok_sDrop, ok_sApp, ok_sFreeze, ok_sUnp, ok_sAug, ok_sFor, ok_aLcE, ok_aItems, runK_rt, runK_nx, ok_runD, okO_some, okO_map, valD_d, valB_d, valB_o, valB_w, ownOf_o, asInt_i, asBl_b, start3, frz, sets, tgName, tgTup, tgsCons, tgsNil, wipe3, List.set_cons_zero, List.set_cons_succ, List.getElem?_cons_zero, List.getElem?_cons_succ, List.map_cons, List.map_nil, List.length_cons, List.length_nil, List.cons_append, List.nil_append, List.replicate_succ, List.replicate_zero, Nat.reduceSub, Nat.reduceAdd, Nat.reduceLT, okO_if, dAddA_ii, dAddA_ss, dAddA_ll, dAddA_tt, dAdd_ii, dAdd_ss, dSub_ii, dMul_ii, dMul_si, dMod_ii, dDiv_ii, dLt_ii, dLt_ss, dLe_ii, dLe_ss, dGt_ii, dGt_ss, dGe_ii, dGe_ss, dEq_ii, dEq_ss, dEq_bb, dEq_nn, dEq_ns, dEq_sn, dEq_ni, dEq_in, dNe_ii, dNe_ss, dNe_bb, dNe_nn, dNe_ns, dNe_sn, dNe_ni, dNe_in, dIs_n, dIsNot_n, dIs_b, dIsNot_b, dIs_i, dIsNot_i, dIs_s, dIsNot_s, dIs_l, dIsNot_l, dIs_t, dIsNot_t, dIs_d, dIsNot_d, dIs_o, dIsNot_o, dLen_s, dLen_l, dLen_t, dTup_d, dLst_d, truD_n, truD_b, truD_i, truD_s, truD_l, truD_t, dNot_b, dNeg_i, asInt_i, asBl_b, dSl_s, dSl_l, dSl_t, isStr_s, items_l, items_t, items_s, dInt_i, dInt_b, dIx_li, dIx_ti, dStarts_ss, dTuple_l, dTuple_t, aList_l, aList_t, dIn_cs, dNotIn_cs, valD_d, valB_d, valB_o, valB_w, ownOf_o, isi_int_n, isi_int_b, isi_int_i, isi_int_s, isi_int_l, isi_int_t, isi_int_d, isi_str_n, isi_str_b, isi_str_i, isi_str_s, isi_str_l, isi_str_t, isi_str_d, isi_bool_n, isi_bool_b, isi_bool_i, isi_bool_s, isi_bool_l, isi_bool_t, isi_bool_d, isi_list_n, isi_list_b, isi_list_i, isi_list_s, isi_list_l, isi_list_t, isi_list_d, isi_tuple_n, isi_tuple_b, isi_tuple_i, isi_tuple_s, isi_tuple_l, isi_tuple_t, isi_tuple_d, isi_dict_n, isi_dict_b, isi_dict_i, isi_dict_s, isi_dict_l, isi_dict_t, isi_dict_d, decide_eq_true_eq, Bool.not_eq_true, Bool.not_true, Bool.not_false, if_true, if_false, Bool.false_eq_true, and_true, true_and, decide_true, decide_false, ite_true, ite_false, reduceCtorEq]
        refine figures_ok h4 (by omega) (by omega) fun s g5 h5 hl _ => ?_
        simp only [ok_forNil, ok_forCons, forK_nx, forK_ct, forK_bk, forK_rt, ok_eOp, ok_eUn, ok_aNil, ok_aCons, ok_eFn, ok_aFn, ok_eApp, ok_eC, ok_eL, ok_eSt, ok_eM1, ok_aM1, ok_oNone, ok_oSome, ok_eSl, ok_tOf, ok_tTru, ok_tNot, ok_tAnd, ok_tOr, ok_eAnd, ok_eOr, ok_eIf, ok_eChain, ok_eVar, ok_eVarB, ok_sSeq, seqK_nx, seqK_rt, seqK_bk, seqK_ct, ok_sSet, ok_sRet, ok_sIf, ok_sNext, ok_sDrop, ok_sApp, ok_sFreeze, ok_sUnp, ok_sAug, ok_sFor, ok_aLcE, ok_aItems, runK_rt, runK_nx, ok_runD, okO_some, okO_map, valD_d, valB_d, valB_o, valB_w, ownOf_o, asInt_i, asBl_b, start3, frz, sets, tgName, tgTup, tgsCons, tgsNil, wipe3, List.set_cons_zero, List.set_cons_succ, List.getElem?_cons_zero, List.getElem?_cons_succ, List.map_cons, List.map_nil, List.length_cons, List.length_nil, List.cons_append, List.nil_append, List.replicate_succ, List.replicate_zero, Nat.reduceSub, Nat.reduceAdd, Nat.reduceLT, okO_if, dAddA_ii, dAddA_ss, dAddA_ll, dAddA_tt, dAdd_ii, dAdd_ss, dSub_ii, dMul_ii, dMul_si, dMod_ii, dDiv_ii, dLt_ii, dLt_ss, dLe_ii, dLe_ss, dGt_ii, dGt_ss, dGe_ii, dGe_ss, dEq_ii, dEq_ss, dEq_bb, dEq_nn, dEq_ns, dEq_sn, dEq_ni, dEq_in, dNe_ii, dNe_ss, dNe_bb, dNe_nn, dNe_ns, dNe_sn, dNe_ni, dNe_in, dIs_n, dIsNot_n, dIs_b, dIsNot_b, dIs_i, dIsNot_i, dIs_s, dIsNot_s, dIs_l, dIsNot_l, dIs_t, dIsNot_t, dIs_d, dIsNot_d, dIs_o, dIsNot_o, dLen_s, dLen_l, dLen_t, dTup_d, dLst_d, truD_n, truD_b, truD_i, truD_s, truD_l, truD_t, dNot_b, dNeg_i, asInt_i, asBl_b, dSl_s, dSl_l, dSl_t, isStr_s, items_l, items_t, items_s, dInt_i, dInt_b, dIx_li, dIx_ti, dStarts_ss, dTuple_l, dTuple_t, aList_l, aList_t, dIn_cs, dNotIn_cs, valD_d, valB_d, valB_o, valB_w, ownOf_o, isi_int_n, isi_int_b, isi_int_i, isi_int_s, isi_int_l, isi_int_t, isi_int_d, isi_str_n, isi_str_b, isi_str_i, isi_str_s, isi_str_l, isi_str_t, isi_str_d, isi_bool_n, isi_bool_b, isi_bool_i, isi_bool_s, isi_bool_l, isi_bool_t, isi_bool_d, isi_list_n, isi_list_b, isi_list_i, isi_list_s, isi_list_l, isi_list_t, isi_list_d, isi_tuple_n, isi_tuple_b, isi_tuple_i, isi_tuple_s, isi_tuple_l, isi_tuple_t, isi_tuple_d, isi_dict_n, isi_dict_b, isi_dict_i, isi_dict_s, isi_dict_l, isi_dict_t, isi_dict_d, decide_eq_true_eq, Bool.not_eq_true, Bool.not_true, Bool.not_false, if_true, if_false, Bool.false_eq_true, and_true, true_and, decide_true, decide_false, ite_true, ite_false, reduceCtorEq, List.length_append]
        refine ⟨by unfold BIG; omega, w _ g5 h5 ?_⟩
        rw [List.length_append, List.length_append, List.length_singleton]
        omega
      · split
        · refine Ok.next h2 (by decide) (by decide) fun v g3 c0 c1 h3 => ?_
          simp only [ok_forNil, ok_forCons, forK_nx, forK_ct, forK_bk, forK_rt, ok_eOp, ok_eUn, ok_aNil, ok_aCons, ok_eFn, ok_aFn, ok_eApp, ok_eC, ok_eL, ok_eSt, ok_eM1, ok_aM1, ok_oNone, ok_oSome, ok_eSl, ok_tOf, ok_tTru, ok_tNot, ok_tAnd, ok_tOr, ok_eAnd, ok_eOr, ok_eIf, ok_eChain, ok_eVar, ok_eVarB, ok_sSeq, seqK_nx, seqK_rt, seqK_bk, seqK_ct, ok_sSet, ok_sRet, ok_sIf, ok_sNext, ok_sDrop, ok_sApp, ok_sFreeze, ok_sUnp, ok_sAug, ok_sFor, ok_aLcE, ok_aItems, runK_rt, runK_nx, ok_runD, okO_some, okO_map, valD_d, valB_d, valB_o, valB_w, ownOf_o, asInt_i, asBl_b, start3, frz, sets, tgName, tgTup, tgsCons, tgsNil, wipe3, List.set_cons_zero, List.set_cons_succ, List.getElem?_cons_zero, List.getElem?_cons_succ, List.map_cons, List.map_nil, List.length_cons, List.length_nil, List.cons_append, List.nil_append, List.replicate_succ, List.replicate_zero, Nat.reduceSub, Nat.reduceAdd, Nat.reduceLT, okO_if, dAddA_ii, dAddA_ss, dAddA_ll, dAddA_tt, dAdd_ii, dAdd_ss, dSub_ii, dMul_ii, dMul_si, dMod_ii, dDiv_ii, dLt_ii, dLt_ss, dLe_ii, dLe_ss, dGt_ii, dGt_ss, dGe_ii, dGe_ss, dEq_ii, dEq_ss, dEq_bb, dEq_nn, dEq_ns, dEq_sn, dEq_ni, dEq_in, dNe_ii, dNe_ss, dNe_bb, dNe_nn, dNe_ns, dNe_sn, dNe_ni, dNe_in, dIs_n, dIsNot_n, dIs_b, dIsNot_b, dIs_i, dIsNot_i, dIs_s, dIsNot_s, dIs_l, dIsNot_l, dIs_t, dIsNot_t, dIs_d, dIsNot_d, dIs_o, dIsNot_o, dLen_s, dLen_l, dLen_t, dTup_d, dLst_d, truD_n, truD_b, truD_i, truD_s, truD_l, truD_t, dNot_b, dNeg_i, asInt_i, asBl_b, dSl_s, dSl_l, dSl_t, isStr_s, items_l, items_t, items_s, dInt_i, dInt_b, dIx_li, dIx_ti, dStarts_ss, dTuple_l, dTuple_t, aList_l, aList_t, dIn_cs, dNotIn_cs, valD_d, valB_d, valB_o, valB_w, ownOf_o, isi_int_n, isi_int_b, isi_int_i, isi_int_s, isi_int_l, isi_int_t, isi_int_d, isi_str_n, isi_str_b, isi_str_i, isi_str_s, isi_str_l, isi_str_t, isi_str_d, isi_bool_n, isi_bool_b, isi_bool_i, isi_bool_s, isi_bool_l, isi_bool_t, isi_bool_d, isi_list_n, isi_list_b, isi_list_i, isi_list_s, isi_list_l, isi_list_t, isi_list_d, isi_tuple_n, isi_tuple_b, isi_tuple_i, isi_tuple_s, isi_tuple_l, isi_tuple_t, isi_tuple_d, isi_dict_n, isi_dict_b, isi_dict_i, isi_dict_s, isi_dict_l, isi_dict_t, isi_dict_d, decide_eq_true_eq, Bool.not_eq_true, Bool.not_true, Bool.not_false, if_true, if_false, Bool.false_eq_true, and_true, true_and, decide_true, decide_false, ite_true, ite_false, reduceCtorEq]
          refine figures_ok h3 (by omega) (by omega) fun s g5 h5 hl _ => ?_
          simp only [ok_forNil, ok_forCons, forK_nx, forK_ct, forK_bk, forK_rt, ok_eOp, ok_eUn, ok_aNil, ok_aCons, ok_eFn, ok_aFn, ok_eApp, ok_eC, ok_eL, ok_eSt, ok_eM1, ok_aM1, ok_oNone, ok_oSome, ok_eSl, ok_tOf, ok_tTru, ok_tNot, ok_tAnd, ok_tOr, ok_eAnd, ok_eOr, ok_eIf, ok_eChain, ok_eVar, ok_eVarB, ok_sSeq, seqK_nx, seqK_rt, seqK_bk, seqK_ct, ok_sSet, ok_sRet, ok_sIf, ok_sNext, ok_sDrop, ok_sApp, ok_sFreeze, ok_sUnp, ok_sAug, ok_sFor, ok_aLcE, ok_aItems, runK_rt, runK_nx, ok_runD, okO_some, okO_map, valD_d, valB_d, valB_o, valB_w, ownOf_o, asInt_i, asBl_b, start3, frz, sets, tgName, tgTup, tgsCons, tgsNil, wipe3, List.set_cons_zero, List.set_cons_succ, List.getElem?_cons_zero, List.getElem?_cons_succ, List.map_cons, List.map_nil, List.length_cons, List.length_nil, List.cons_append, List.nil_append, List.replicate_succ, List.replicate_zero, Nat.reduceSub, Nat.reduceAdd, Nat.reduceLT, okO_if, dAddA_ii, dAddA_ss, dAddA_ll, dAddA_tt, dAdd_ii, dAdd_ss, dSub_ii, dMul_ii, dMul_si, dMod_ii, dDiv_ii, dLt_ii, dLt_ss, dLe_ii, dLe_ss, dGt_ii, dGt_ss, dGe_ii, dGe_ss, dEq_ii, dEq_ss, dEq_bb, dEq_nn, dEq_ns, dEq_sn, dEq_ni, dEq_in, dNe_ii, dNe_ss, dNe_bb, dNe_nn, dNe_ns, dNe_sn, dNe_ni, dNe_in, dIs_n, dIsNot_n, dIs_b, dIsNot_b, dIs_i, dIsNot_i, dIs_s, dIsNot_s, dIs_l, dIsNot_l, dIs_t, dIsNot_t, dIs_d, dIsNot_d, dIs_o, dIsNot_o, dLen_s, dLen_l, dLen_t, dTup_d, dLst_d, truD_n, truD_b, truD_i, truD_s, truD_l, truD_t, dNot_b, dNeg_i, asInt_i, asBl_b, dSl_s, dSl_l, dSl_t, isStr_s, items_l, items_t, items_s, dInt_i, dInt_b, dIx_li, dIx_ti, dStarts_ss, dTuple_l, dTuple_t, aList_l, aList_t, dIn_cs, dNotIn_cs, valD_d, valB_d, valB_o, valB_w, ownOf_o, isi_int_n, isi_int_b, isi_int_i, isi_int_s, isi_int_l, isi_int_t, isi_int_d, isi_str_n, isi_str_b, isi_str_i, isi_str_s, isi_str_l, isi_str_t, isi_str_d, isi_bool_n, isi_bool_b, isi_bool_i, isi_bool_s, isi_bool_l, isi_bool_t, isi_bool_d, isi_list_n, isi_list_b, isi_list_i, isi_list_s, isi_list_l, isi_list_t, isi_list_d, isi_tuple_n, isi_tuple_b, isi_tuple_i, isi_tuple_s, isi_tuple_l, isi_tuple_t, isi_tuple_d, isi_dict_n, isi_dict_b, isi_dict_i, isi_dict_s, isi_dict_l, isi_dict_t, isi_dict_d, decide_eq_true_eq, Bool.not_eq_true, Bool.not_true, Bool.not_false, if_true, if_false, Bool.false_eq_true, and_true, true_and, decide_true, decide_false, ite_true, ite_false, reduceCtorEq, List.length_append]
          refine ⟨by unfold BIG; omega, by unfold BIG; omega, Ok.next h5 (by omega) (by omega) fun v2 g6 d0 d1 h6 => ?_⟩
          simp only [ok_forNil, ok_forCons, forK_nx, forK_ct, forK_bk, forK_rt, ok_eOp, ok_eUn, ok_aNil, ok_aCons, ok_eFn, ok_aFn, ok_eApp, ok_eC, ok_eL, ok_eSt, ok_eM1, ok_aM1, ok_oNone, ok_oSome, ok_eSl, ok_tOf, ok_tTru, ok_tNot, ok_tAnd, ok_tOr, ok_eAnd, ok_eOr, ok_eIf, ok_eChain, ok_eVar, ok_eVarB, ok_sSeq, seqK_nx, seqK_rt, seqK_bk, seqK_ct, ok_sSet, ok_sRet, ok_sIf, ok_sNext, ok_sDrop, ok_sApp, ok_sFreeze, ok_sUnp, ok_sAug, ok_sFor, ok_aLcE, ok_aItems, runK_rt, runK_nx, ok_runD, okO_some, okO_map, valD_d, valB_d, valB_o, valB_w, ownOf_o, asInt_i, asBl_b, start3, frz, sets, tgName, tgTup, tgsCons, tgsNil, wipe3, List.set_cons_zero, List.set_cons_succ, List.getElem?_cons_zero, List.getElem?_cons_succ, List.map_cons, List.map_nil, List.length_cons, List.length_nil, List.cons_append, List.nil_append, List.replicate_succ, List.replicate_zero, Nat.reduceSub, Nat.reduceAdd, Nat.reduceLT, okO_if, dAddA_ii, dAddA_ss, dAddA_ll, dAddA_tt, dAdd_ii, dAdd_ss, dSub_ii, dMul_ii, dMul_si, dMod_ii, dDiv_ii, dLt_ii, dLt_ss, dLe_ii, dLe_ss, dGt_ii, dGt_ss, dGe_ii, dGe_ss, dEq_ii, dEq_ss, dEq_bb, dEq_nn, dEq_ns, dEq_sn, dEq_ni, dEq_in, dNe_ii, dNe_ss, dNe_bb, dNe_nn, dNe_ns, dNe_sn, dNe_ni, dNe_in, dIs_n, dIsNot_n, dIs_b, dIsNot_b, dIs_i, dIsNot_i, dIs_s, dIsNot_s, dIs_l, dIsNot_l, dIs_t, dIsNot_t, dIs_d, dIsNot_d, dIs_o, dIsNot_o, dLen_s, dLen_l, dLen_t, dTup_d, dLst_d, truD_n, truD_b, truD_i, truD_s, truD_l, truD_t, dNot_b, dNeg_i, asInt_i, asBl_b, dSl_s, dSl_l, dSl_t, isStr_s, items_l, items_t, items_s, dInt_i, dInt_b, dIx_li, dIx_ti, dStarts_ss, dTuple_l, dTuple_t, aList_l, aList_t, dIn_cs, dNotIn_cs, valD_d, valB_d, valB_o, valB_w, ownOf_o, isi_int_n, isi_int_b, isi_int_i, isi_int_s, isi_int_l, isi_int_t, isi_int_d, isi_str_n, isi_str_b, isi_str_i, isi_str_s, isi_str_l, isi_str_t, isi_str_d, isi_bool_n, isi_bool_b, isi_bool_i, isi_bool_s, isi_bool_l, isi_bool_t, isi_bool_d, isi_list_n, isi_list_b, isi_list_i, isi_list_s, isi_list_l, isi_list_t, isi_list_d, isi_tuple_n, isi_tuple_b, isi_tuple_i, isi_tuple_s, isi_tuple_l, isi_tuple_t, isi_tuple_d, isi_dict_n, isi_dict_b, isi_dict_i, isi_dict_s, isi_dict_l, isi_dict_t, isi_dict_d, decide_eq_true_eq, Bool.not_eq_true, Bool.not_true, Bool.not_false, if_true, if_false, Bool.false_eq_true, and_true, true_and, decide_true, decide_false, ite_true, ite_false, reduceCtorEq, List.length_append]
          refine ⟨by unfold BIG; omega, sign_ok h6 fun c g' hg' e0 e1 => ?_⟩
          have k1 := cut_len (sg ++ s) none (some v2)
          have k2 := cut_len (sg ++ s) (some v2) none
          rw [List.length_append] at k1 k2
          simp only [ok_forNil, ok_forCons, forK_nx, forK_ct, forK_bk, forK_rt, ok_eOp, ok_eUn, ok_aNil, ok_aCons, ok_eFn, ok_aFn, ok_eApp, ok_eC, ok_eL, ok_eSt, ok_eM1, ok_aM1, ok_oNone, ok_oSome, ok_eSl, ok_tOf, ok_tTru, ok_tNot, ok_tAnd, ok_tOr, ok_eAnd, ok_eOr, ok_eIf, ok_eChain, ok_eVar, ok_eVarB, ok_sSeq, seqK_nx, seqK_rt, seqK_bk, seqK_ct, ok_sSet, ok_sRet, ok_sIf, ok_sNext, ok_sDrop, ok_sApp, ok_sFreeze, ok_sUnp, ok_sAug, ok_sFor, ok_aLcE, ok_aItems, runK_rt, runK_nx, ok_runD, okO_some, okO_map, valD_d, valB_d, valB_o, valB_w, ownOf_o, asInt_i, asBl_b, start3, frz, sets, tgName, tgTup, tgsCons, tgsNil, wipe3, List.set_cons_zero, List.set_cons_succ, List.getElem?_cons_zero, List.getElem?_cons_succ, List.map_cons, List.map_nil, List.length_cons, List.length_nil, List.cons_append, List.nil_append, List.replicate_succ, List.replicate_zero, Nat.reduceSub, Nat.reduceAdd, Nat.reduceLT, okO_if, dAddA_ii, dAddA_ss, dAddA_ll, dAddA_tt, dAdd_ii, dAdd_ss, dSub_ii, dMul_ii, dMul_si, dMod_ii, dDiv_ii, dLt_ii, dLt_ss, dLe_ii, dLe_ss, dGt_ii, dGt_ss, dGe_ii, dGe_ss, dEq_ii, dEq_ss, dEq_bb, dEq_nn, dEq_ns, dEq_sn, dEq_ni, dEq_in, dNe_ii, dNe_ss, dNe_bb, dNe_nn, dNe_ns, dNe_sn, dNe_ni, dNe_in, dIs_n, dIsNot_n, dIs_b, dIsNot_b, dIs_i, dIsNot_i, dIs_s, dIsNot_s, dIs_l, dIsNot_l, dIs_t, dIsNot_t, dIs_d, dIsNot_d, dIs_o, dIsNot_o, dLen_s, dLen_l, dLen_t, dTup_d, dLst_d, truD_n, truD_b, truD_i, truD_s, truD_l, truD_t, dNot_b, dNeg_i, asInt_i, asBl_b, dSl_s, dSl_l, dSl_t, isStr_s, items_l, items_t, items_s, dInt_i, dInt_b, dIx_li, dIx_ti, dStarts_ss, dTuple_l, dTuple_t, aList_l, aList_t, dIn_cs, dNotIn_cs, valD_d, valB_d, valB_o, valB_w, ownOf_o, isi_int_n, isi_int_b, isi_int_i, isi_int_s, isi_int_l, isi_int_t, isi_int_d, isi_str_n, isi_str_b, isi_str_i, isi_str_s, isi_str_l, isi_str_t, isi_str_d, isi_bool_n, isi_bool_b, isi_bool_i, isi_bool_s, isi_bool_l, isi_bool_t, isi_bool_d, isi_list_n, isi_list_b, isi_list_i, isi_list_s, isi_list_l, isi_list_t, isi_list_d, isi_tuple_n, isi_tuple_b, isi_tuple_i, isi_tuple_s, isi_tuple_l, isi_tuple_t, isi_tuple_d, isi_dict_n, isi_dict_b, isi_dict_i, isi_dict_s, isi_dict_l, isi_dict_t, isi_dict_d, decide_eq_true_eq, Bool.not_eq_true, Bool.not_true, Bool.not_false, if_true, if_false, Bool.false_eq_true, and_true, true_and, decide_true, decide_false, ite_true, ite_false, reduceCtorEq, List.length_append]
          refine ⟨by unfold BIG; omega, by unfold BIG; omega, by unfold BIG; omega, w _ g' hg' ?_⟩
          rw [List.length_append, List.length_append, List.length_singleton]
          omega
        · refine Ok.next h2 (by decide) (by decide) fun v g3 c0 c1 h3 => ?_
          simp only [ok_forNil, ok_forCons, forK_nx, forK_ct, forK_bk, forK_rt, ok_eOp, ok_eUn, ok_aNil, ok_aCons, ok_eFn, ok_aFn, ok_eApp, ok_eC, ok_eL, ok_eSt, ok_eM1, ok_aM1, ok_oNone, ok_oSome, ok_eSl, ok_tOf, ok_tTru, ok_tNot, ok_tAnd, ok_tOr, ok_eAnd, ok_eOr, ok_eIf, ok_eChain, ok_eVar, ok_eVarB, ok_sSeq, seqK_nx, seqK_rt, seqK_bk, seqK_ct, ok_sSet, ok_sRet, ok_sIf, ok_sNext, ok_sDrop, ok_sApp, ok_sFreeze, ok_sUnp, ok_sAug, ok_sFor, ok_aLcE, ok_aItems, runK_rt, runK_nx, ok_runD, okO_some, okO_map, valD_d, valB_d, valB_o, valB_w, ownOf_o, asInt_i, asBl_b, start3, frz, sets, tgName, tgTup, tgsCons, tgsNil, wipe3, List.set_cons_zero, List.set_cons_succ, List.getElem?_cons_zero, List.getElem?_cons_succ, List.map_cons, List.map_nil, List.length_cons, List.length_nil, List.cons_append, List.nil_append, List.replicate_succ, List.replicate_zero, Nat.reduceSub, Nat.reduceAdd, Nat.reduceLT, okO_if, dAddA_ii, dAddA_ss, dAddA_ll, dAddA_tt, dAdd_ii, dAdd_ss, dSub_ii, dMul_ii, dMul_si, dMod_ii, dDiv_ii, dLt_ii, dLt_ss, dLe_ii, dLe_ss, dGt_ii, dGt_ss, dGe_ii, dGe_ss, dEq_ii, dEq_ss, dEq_bb, dEq_nn, dEq_ns, dEq_sn, dEq_ni, dEq_in, dNe_ii, dNe_ss, dNe_bb, dNe_nn, dNe_ns, dNe_sn, dNe_ni, dNe_in, dIs_n, dIsNot_n, dIs_b, dIsNot_b, dIs_i, dIsNot_i, dIs_s, dIsNot_s, dIs_l, dIsNot_l, dIs_t, dIsNot_t, dIs_d, dIsNot_d, dIs_o, dIsNot_o, dLen_s, dLen_l, dLen_t, dTup_d, dLst_d, truD_n, truD_b, truD_i, truD_s, truD_l, truD_t, dNot_b, dNeg_i, asInt_i, asBl_b, dSl_s, dSl_l, dSl_t, isStr_s, items_l, items_t, items_s, dInt_i, dInt_b, dIx_li, dIx_ti, dStarts_ss, dTuple_l, dTuple_t, aList_l, aList_t, dIn_cs, dNotIn_cs, valD_d, valB_d, valB_o, valB_w, ownOf_o, isi_int_n, isi_int_b, isi_int_i, isi_int_s, isi_int_l, isi_int_t, isi_int_d, isi_str_n, isi_str_b, isi_str_i, isi_str_s, isi_str_l, isi_str_t, isi_str_d, isi_bool_n, isi_bool_b, isi_bool_i, isi_bool_s, isi_bool_l, isi_bool_t, isi_bool_d, isi_list_n, isi_list_b, isi_list_i, isi_list_s, isi_list_l, isi_list_t, isi_list_d, isi_tuple_n, isi_tuple_b, isi_tuple_i, isi_tuple_s, isi_tuple_l, isi_tuple_t, isi_tuple_d, isi_dict_n, isi_dict_b, isi_dict_i, isi_dict_s, isi_dict_l, isi_dict_t, isi_dict_d, decide_eq_true_eq, Bool.not_eq_true, Bool.not_true, Bool.not_false, if_true, if_false, Bool.false_eq_true, and_true, true_and, decide_true, decide_false, ite_true, ite_false, reduceCtorEq]
          refine figures_ok h3 (by omega) (by omega) fun s g5 h5 hl _ => ?_
          simp only [ok_forNil, ok_forCons, forK_nx, forK_ct, forK_bk, forK_rt, ok_eOp, ok_eUn, ok_aNil, ok_aCons, ok_eFn, ok_aFn, ok_eApp, ok_eC, ok_eL, ok_eSt, ok_eM1, ok_aM1, ok_oNone, ok_oSome, ok_eSl, ok_tOf, ok_tTru, ok_tNot, ok_tAnd, ok_tOr, ok_eAnd, ok_eOr, ok_eIf, ok_eChain, ok_eVar, ok_eVarB, ok_sSeq, seqK_nx, seqK_rt, seqK_bk, seqK_ct, ok_sSet, ok_sRet, ok_sIf, ok_sNext, ok_sDrop, ok_sApp, ok_sFreeze, ok_sUnp, ok_sAug, ok_sFor, ok_aLcE, ok_aItems, runK_rt, runK_nx, ok_runD, okO_some, okO_map, valD_d, valB_d, valB_o, valB_w, ownOf_o, asInt_i, asBl_b, start3, frz, sets, tgName, tgTup, tgsCons, tgsNil, wipe3, List.set_cons_zero, List.set_cons_succ, List.getElem?_cons_zero, List.getElem?_cons_succ, List.map_cons, List.map_nil, List.length_cons, List.length_nil, List.cons_append, List.nil_append, List.replicate_succ, List.replicate_zero, Nat.reduceSub, Nat.reduceAdd, Nat.reduceLT, okO_if, dAddA_ii, dAddA_ss, dAddA_ll, dAddA_tt, dAdd_ii, dAdd_ss, dSub_ii, dMul_ii, dMul_si, dMod_ii, dDiv_ii, dLt_ii, dLt_ss, dLe_ii, dLe_ss, dGt_ii, dGt_ss, dGe_ii, dGe_ss, dEq_ii, dEq_ss, dEq_bb, dEq_nn, dEq_ns, dEq_sn, dEq_ni, dEq_in, dNe_ii, dNe_ss, dNe_bb, dNe_nn, dNe_ns, dNe_sn, dNe_ni, dNe_in, dIs_n, dIsNot_n, dIs_b, dIsNot_b, dIs_i, dIsNot_i, dIs_s, dIsNot_s, dIs_l, dIsNot_l, dIs_t, dIsNot_t, dIs_d, dIsNot_d, dIs_o, dIsNot_o, dLen_s, dLen_l, dLen_t, dTup_d, dLst_d, truD_n, truD_b, truD_i, truD_s, truD_l, truD_t, dNot_b, dNeg_i, asInt_i, asBl_b, dSl_s, dSl_l, dSl_t, isStr_s, items_l, items_t, items_s, dInt_i, dInt_b, dIx_li, dIx_ti, dStarts_ss, dTuple_l, dTuple_t, aList_l, aList_t, dIn_cs, dNotIn_cs, valD_d, valB_d, valB_o, valB_w, ownOf_o, isi_int_n, isi_int_b, isi_int_i, isi_int_s, isi_int_l, isi_int_t, isi_int_d, isi_str_n, isi_str_b, isi_str_i, isi_str_s, isi_str_l, isi_str_t, isi_str_d, isi_bool_n, isi_bool_b, isi_bool_i, isi_bool_s, isi_bool_l, isi_bool_t, isi_bool_d, isi_list_n, isi_list_b, isi_list_i, isi_list_s, isi_list_l, isi_list_t, isi_list_d, isi_tuple_n, isi_tuple_b, isi_tuple_i, isi_tuple_s, isi_tuple_l, isi_tuple_t, isi_tuple_d, isi_dict_n, isi_dict_b, isi_dict_i, isi_dict_s, isi_dict_l, isi_dict_t, isi_dict_d, decide_eq_true_eq, Bool.not_eq_true, Bool.not_true, Bool.not_false, if_true, if_false, Bool.false_eq_true, and_true, true_and, decide_true, decide_false, ite_true, ite_false, reduceCtorEq]
          refine ⟨by unfold BIG; omega, w _ g5 h5 ?_⟩
          rw [List.length_append]
          omega
end W

namespace W
open L3
open L2 (atI ixN)
/-! numbers in texts -/
def dig (c : Nat) : Bool := decide (48 ≤ c ∧ c ≤ 57)
def figs (s : List Nat) : List Nat := if s.take 1 = [45] then s.drop 1 else s
def valF (s : List Nat) : Int := s.foldl (fun a c => 10 * a + ((c - 48 : Nat) : Int)) 0
def numBad (s : List Nat) : Prop := (figs s = [] ∨ 18 < (figs s).length) ∨ (figs s).all dig = false ∨ ((figs s).take 1 = [48] ∧ s ≠ [48])
instance (s : List Nat) : Decidable (numBad s) := by unfold numBad; infer_instance
def numV (s : List Nat) : Int := if s.take 1 = [45] then -(valF (figs s)) else valF (figs s)
def numD (s : List Nat) : D := if numBad s then .non else .int (numV s)
theorem numD_bad {s : List Nat} (h : numBad s) : numD s = .non := by unfold numD; rw [if_pos h]
theorem numD_good {s : List Nat} (h : ¬ numBad s) : numD s = .int (numV s) := by unfold numD; rw [if_neg h]
theorem cut_1 (s : List Nat) : cutL s none (some 1) = s.take 1 := by
  unfold cutL
  simp only [HT.sIx, List.drop_zero, Nat.sub_zero]
  cases s with
  | nil => simp
  | cons c r => simp
theorem cut_from1 (s : List Nat) : cutL s (some 1) none = s.drop 1 := by
  unfold cutL
  simp only [HT.sIx]
  rw [List.take_of_length_le]
  · cases s with
    | nil => simp
    | cons c r => simp
  · rw [List.length_drop]
    simp
theorem cut_80 (s : List Nat) : cutL s none (some 80) = s.take 80 := by
  unfold cutL
  simp only [HT.sIx, List.drop_zero, Nat.sub_zero]
  by_cases h : 80 ≤ s.length
  · rw [show min (80 : Int).toNat s.length = 80 by simp; omega]; simp
  · rw [show min (80 : Int).toNat s.length = s.length by simp; omega]
    simp
    rw [List.take_of_length_le (by omega)]
def digits : List Nat := [48, 49, 50, 51, 52, 53, 54, 55, 56, 57]
theorem digits_eq : ([48, 49, 50, 51, 52, 53, 54, 55, 56, 57] : List Nat) = digits := rfl
theorem mem_digits (c : Nat) : (c ∈ digits) ↔ dig c = true := by
  unfold digits dig
  simp
  omega
theorem idx_digits {c : Nat} (h : dig c = true) : dIndexS (.str digits) [.str [c]] = some (.int ((c - 48 : Nat) : Int)) := by
  have key : ∀ c ∈ digits, PySem.Builtin.Str.occurrences (S digits) (S [c]) 0 (S digits).length 1 = [c - 48] := by decide +kernel
  unfold dIndexS
  dsimp only
  rw [key c ((mem_digits c).mpr h)]
theorem head_ix {s : List Nat} (h : s ≠ []) (hl : s.length ≤ 1000) : ∃ c, s.take 1 = [c] ∧ dIx (.str s) (.int 0) = some (.str [c]) := by
  cases s with
  | nil => exact absurd rfl h
  | cons c r =>
    refine ⟨c, rfl, ?_⟩
    unfold dIx
    dsimp only
    rw [if_pos (show (c :: r).length ≤ BIG by unfold BIG; omega), show (0 : Int) = ((0 : Nat) : Int) from rfl, L2.atI_nat (v := c) rfl]
    rfl
theorem figs_len (s : List Nat) : (figs s).length ≤ s.length := by
  unfold figs
  split
  · rw [List.length_drop]; omega
  · exact Nat.le_refl _
theorem num_loop {x y : Option SV} {g : Store} : ∀ (l : List Nat) (a : Int) (o : Option SV) (R : Out → Store → Prop), (l.all dig = false → R (.rt .non) g) → (l.all dig = true → ∀ o', R (.nx [x, y, some (.d (.int (l.foldl (fun a c => 10 * a + ((c - 48 : Nat) : Int)) a))), o']) g) →
    Ok (forD (tgName 3) lb__law_number_0 (l.map fun c => .str [c]) [x, y, some (.d (.int a)), o] g) R := by
  intro l
  induction l with
  | nil => intro a o R h1 h2; simp only [ok_forNil, ok_forCons, forK_nx, forK_ct, forK_bk, forK_rt, ok_eOp, ok_eUn, ok_aNil, ok_aCons, ok_eFn, ok_aFn, ok_eApp, ok_eC, ok_eL, ok_eSt, ok_eM1, ok_aM1, ok_oNone, ok_oSome, ok_eSl, ok_tOf, ok_tTru, ok_tNot, ok_tAnd, ok_tOr, ok_eAnd, ok_eOr, ok_eIf, ok_eChain, ok_eVar, ok_eVarB, ok_sSeq, seqK_nx, seqK_rt, seqK_bk, seqK_ct, ok_sSet, ok_sRet, ok_sIf, ok_sNext, ok_sDrop, ok_sApp, ok_sFreeze, ok_sUnp, ok_sAug, ok_sFor, ok_aLcE, ok_aItems, runK_rt, runK_nx, ok_runD, okO_some, okO_map, valD_d, valB_d, valB_o, valB_w, ownOf_o, asInt_i, asBl_b, start3, frz, sets, tgName, tgTup, tgsCons, tgsNil, wipe3, List.set_cons_zero, List.set_cons_succ, List.getElem?_cons_zero, List.getElem?_cons_succ, List.map_cons, List.map_nil, List.length_cons, List.length_nil, List.cons_append, List.nil_append, List.replicate_succ, List.replicate_zero, Nat.reduceSub, Nat.reduceAdd, Nat.reduceLT]; exact h2 rfl o
  | cons c r ih =>
    intro a o R r1 r2
    simp only [ok_forNil, ok_forCons, forK_nx, forK_ct, forK_bk, forK_rt, ok_eOp, ok_eUn, ok_aNil, ok_aCons, ok_eFn, ok_aFn, ok_eApp, ok_eC, ok_eL, ok_eSt, ok_eM1, ok_aM1, ok_oNone, ok_oSome, ok_eSl, ok_tOf, ok_tTru, ok_tNot, ok_tAnd, ok_tOr, ok_eAnd, ok_eOr, ok_eIf, ok_eChain, ok_eVar, ok_eVarB, ok_sSeq, seqK_nx, seqK_rt, seqK_bk, seqK_ct, ok_sSet, ok_sRet, ok_sIf, ok_sNext, ok_sDrop, ok_sApp, ok_sFreeze, ok_sUnp, ok_sAug, ok_sFor, ok_aLcE, ok_aItems, runK_rt, runK_nx, ok_runD, okO_some, okO_map, valD_d, valB_d, valB_o, valB_w, ownOf_o, asInt_i, asBl_b, start3, frz, sets, tgName, tgTup, tgsCons, tgsNil, wipe3, List.set_cons_zero, List.set_cons_succ, List.getElem?_cons_zero, List.getElem?_cons_succ, List.map_cons, List.map_nil, List.length_cons, List.length_nil, List.cons_append, List.nil_append, List.replicate_succ, List.replicate_zero, Nat.reduceSub, Nat.reduceAdd, Nat.reduceLT, okO_if, dAddA_ii, dAddA_ss, dAddA_ll, dAddA_tt, dAdd_ii, dAdd_ss, dSub_ii, dMul_ii, dMul_si, dMod_ii, dDiv_ii, dLt_ii, dLt_ss, dLe_ii, dLe_ss, dGt_ii, dGt_ss, dGe_ii, dGe_ss, dEq_ii, dEq_ss, dEq_bb, dEq_nn, dEq_ns, dEq_sn, dEq_ni, dEq_in, dNe_ii, dNe_ss, dNe_bb, dNe_nn, dNe_ns, dNe_sn, dNe_ni, dNe_in, dIs_n, dIsNot_n, dIs_b, dIsNot_b, dIs_i, dIsNot_i, dIs_s, dIsNot_s, dIs_l, dIsNot_l, dIs_t, dIsNot_t, dIs_d, dIsNot_d, dIs_o, dIsNot_o, dLen_s, dLen_l, dLen_t, dTup_d, dLst_d, truD_n, truD_b, truD_i, truD_s, truD_l, truD_t, dNot_b, dNeg_i, asInt_i, asBl_b, dSl_s, dSl_l, dSl_t, isStr_s, items_l, items_t, items_s, dInt_i, dInt_b, dIx_li, dIx_ti, dStarts_ss, dTuple_l, dTuple_t, aList_l, aList_t, dIn_cs, dNotIn_cs, valD_d, valB_d, valB_o, valB_w, ownOf_o, isi_int_n, isi_int_b, isi_int_i, isi_int_s, isi_int_l, isi_int_t, isi_int_d, isi_str_n, isi_str_b, isi_str_i, isi_str_s, isi_str_l, isi_str_t, isi_str_d, isi_bool_n, isi_bool_b, isi_bool_i, isi_bool_s, isi_bool_l, isi_bool_t, isi_bool_d, isi_list_n, isi_list_b, isi_list_i, isi_list_s, isi_list_l, isi_list_t, isi_list_d, isi_tuple_n, isi_tuple_b, isi_tuple_i, isi_tuple_s, isi_tuple_l, isi_tuple_t, isi_tuple_d, isi_dict_n, isi_dict_b, isi_dict_i, isi_dict_s, isi_dict_l, isi_dict_t, isi_dict_d, decide_eq_true_eq, Bool.not_eq_true, Bool.not_true, Bool.not_false, if_true, if_false, Bool.false_eq_true, and_true, true_and, decide_true, decide_false, ite_true, ite_false, reduceCtorEq, lb__law_number_0, digits_eq]
    cases hd : dig c with
    | false =>
      have : ¬ c ∈ digits := fun h => by rw [(mem_digits c).mp h] at hd; cases hd
      simp only [this, decide_false, Bool.not_false, if_true]
      exact r1 (by simp [hd])
    | true =>
      have : c ∈ digits := (mem_digits c).mpr hd
      simp only [this, decide_true, Bool.not_true, Bool.false_eq_true, if_false]
      refine ⟨.inl ⟨by decide, by decide⟩, _, idx_digits hd, ?_⟩
      simp only [ok_forNil, ok_forCons, forK_nx, forK_ct, forK_bk, forK_rt, ok_eOp, ok_eUn, ok_aNil, ok_aCons, ok_eFn, ok_aFn, ok_eApp, ok_eC, ok_eL, ok_eSt, ok_eM1, ok_aM1, ok_oNone, ok_oSome, ok_eSl, ok_tOf, ok_tTru, ok_tNot, ok_tAnd, ok_tOr, ok_eAnd, ok_eOr, ok_eIf, ok_eChain, ok_eVar, ok_eVarB, ok_sSeq, seqK_nx, seqK_rt, seqK_bk, seqK_ct, ok_sSet, ok_sRet, ok_sIf, ok_sNext, ok_sDrop, ok_sApp, ok_sFreeze, ok_sUnp, ok_sAug, ok_sFor, ok_aLcE, ok_aItems, runK_rt, runK_nx, ok_runD, okO_some, okO_map, valD_d, valB_d, valB_o, valB_w, ownOf_o, asInt_i, asBl_b, start3, frz, sets, tgName, tgTup, tgsCons, tgsNil, wipe3, List.set_cons_zero, List.set_cons_succ, List.getElem?_cons_zero, List.getElem?_cons_succ, List.map_cons, List.map_nil, List.length_cons, List.length_nil, List.cons_append, List.nil_append, List.replicate_succ, List.replicate_zero, Nat.reduceSub, Nat.reduceAdd, Nat.reduceLT, okO_if, dAddA_ii, dAddA_ss, dAddA_ll, dAddA_tt, dAdd_ii, dAdd_ss, dSub_ii, dMul_ii, dMul_si, dMod_ii, dDiv_ii, dLt_ii, dLt_ss, dLe_ii, dLe_ss, dGt_ii, dGt_ss, dGe_ii, dGe_ss, dEq_ii, dEq_ss, dEq_bb, dEq_nn, dEq_ns, dEq_sn, dEq_ni, dEq_in, dNe_ii, dNe_ss, dNe_bb, dNe_nn, dNe_ns, dNe_sn, dNe_ni, dNe_in, dIs_n, dIsNot_n, dIs_b, dIsNot_b, dIs_i, dIsNot_i, dIs_s, dIsNot_s, dIs_l, dIsNot_l, dIs_t, dIsNot_t, dIs_d, dIsNot_d, dIs_o, dIsNot_o, dLen_s, dLen_l, dLen_t, dTup_d, dLst_d, truD_n, truD_b, truD_i, truD_s, truD_l, truD_t, dNot_b, dNeg_i, asInt_i, asBl_b, dSl_s, dSl_l, dSl_t, isStr_s, items_l, items_t, items_s, dInt_i, dInt_b, dIx_li, dIx_ti, dStarts_ss, dTuple_l, dTuple_t, aList_l, aList_t, dIn_cs, dNotIn_cs, valD_d, valB_d, valB_o, valB_w, ownOf_o, isi_int_n, isi_int_b, isi_int_i, isi_int_s, isi_int_l, isi_int_t, isi_int_d, isi_str_n, isi_str_b, isi_str_i, isi_str_s, isi_str_l, isi_str_t, isi_str_d, isi_bool_n, isi_bool_b, isi_bool_i, isi_bool_s, isi_bool_l, isi_bool_t, isi_bool_d, isi_list_n, isi_list_b, isi_list_i, isi_list_s, isi_list_l, isi_list_t, isi_list_d, isi_tuple_n, isi_tuple_b, isi_tuple_i, isi_tuple_s, isi_tuple_l, isi_tuple_t, isi_tuple_d, isi_dict_n, isi_dict_b, isi_dict_i, isi_dict_s, isi_dict_l, isi_dict_t, isi_dict_d, decide_eq_true_eq, Bool.not_eq_true, Bool.not_true, Bool.not_false, if_true, if_false, Bool.false_eq_true, and_true, true_and, decide_true, decide_false, ite_true, ite_false, reduceCtorEq]
      exact ih _ _ R (fun h => r1 (by simp [hd, h])) fun h o' => r2 (by simp [hd, h]) o'
theorem law_number_ok {s : List Nat} {g : Store} (hs : s.length ≤ 1000) {Q : D → Store → Prop} (w : Q (numD s) g) : Ok (f__law_number [.str s] g) Q := by
  have hf := figs_len s
  have big : s.length ≤ BIG := by unfold BIG; omega
  have bigf : (figs s).length ≤ BIG := by unfold BIG; omega
  unfold f__law_number d__law_number
  have step : ∀ f : List Nat, f = figs s → Ok ((sSeq (sIf (tOrD (tOf (eOp dEq (eVarB 1) (eC (.str [])))) (tOf (eOp dGt (eFn dLen (aCons (eVarB 1) aNil)) (eC (.int 18))))) (sRet (eC .non)) sNext)
  (sSeq (sSet 2 (eC (.int 0)))
  (sSeq (sFor (aItems (eVar 1)) (tgName 3) lb__law_number_0)
  (sSeq (sIf (tAndD (tOf (eOp dEq (eOp dIx (eVarB 1) (eC (.int 0))) (eC (.str [48])))) (tOf (eOp dNe (eVarB 0) (eC (.str [48]))))) (sRet (eC .non)) sNext)
  (sRet (eOp dIx (eL (aFn dLst (aCons (eVar 2) (aCons (eOp dSub (eC (.int 0)) (eVarB 2)) aNil)))) (eFn dInt (aCons (eOp dEq (eSl dSl (eVarB 0) oNone (oSome (eC (.int 1)))) (eC (.str [45]))) aNil)))))))) [some (.d (.str s)), some (.d (.str f)), none, none] g) (runK Q) := by
    intro f ef
    subst ef
    simp only [ok_forNil, ok_forCons, forK_nx, forK_ct, forK_bk, forK_rt, ok_eOp, ok_eUn, ok_aNil, ok_aCons, ok_eFn, ok_aFn, ok_eApp, ok_eC, ok_eL, ok_eSt, ok_eM1, ok_aM1, ok_oNone, ok_oSome, ok_eSl, ok_tOf, ok_tTru, ok_tNot, ok_tAnd, ok_tOr, ok_eAnd, ok_eOr, ok_eIf, ok_eChain, ok_eVar, ok_eVarB, ok_sSeq, seqK_nx, seqK_rt, seqK_bk, seqK_ct, ok_sSet, ok_sRet, ok_sIf, ok_sNext, ok_sDrop, ok_sApp, ok_sFreeze, ok_sUnp, ok_sAug, ok_sFor, ok_aLcE, ok_aItems, runK_rt, runK_nx, ok_runD, okO_some, okO_map, valD_d, valB_d, valB_o, valB_w, ownOf_o, asInt_i, asBl_b, start3, frz, sets, tgName, tgTup, tgsCons, tgsNil, wipe3, List.set_cons_zero, List.set_cons_succ, List.getElem?_cons_zero, List.getElem?_cons_succ, List.map_cons, List.map_nil, List.length_cons, List.length_nil, List.cons_append, List.nil_append, List.replicate_succ, List.replicate_zero, Nat.reduceSub, Nat.reduceAdd, Nat.reduceLT, okO_if, dAddA_ii, dAddA_ss, dAddA_ll, dAddA_tt, dAdd_ii, dAdd_ss, dSub_ii, dMul_ii, dMul_si, dMod_ii, dDiv_ii, dLt_ii, dLt_ss, dLe_ii, dLe_ss, dGt_ii, dGt_ss, dGe_ii, dGe_ss, dEq_ii, dEq_ss, dEq_bb, dEq_nn, dEq_ns, dEq_sn, dEq_ni, dEq_in, dNe_ii, dNe_ss, dNe_bb, dNe_nn, dNe_ns, dNe_sn, dNe_ni, dNe_in, dIs_n, dIsNot_n, dIs_b, dIsNot_b, dIs_i, dIsNot_i, dIs_s, dIsNot_s, dIs_l, dIsNot_l, dIs_t, dIsNot_t, dIs_d, dIsNot_d, dIs_o, dIsNot_o, dLen_s, dLen_l, dLen_t, dTup_d, dLst_d, truD_n, truD_b, truD_i, truD_s, truD_l, truD_t, dNot_b, dNeg_i, asInt_i, asBl_b, dSl_s, dSl_l, dSl_t, isStr_s, items_l, items_t, items_s, dInt_i, dInt_b, dIx_li, dIx_ti, dStarts_ss, dTuple_l, dTuple_t, aList_l, aList_t, dIn_cs, dNotIn_cs, valD_d, valB_d, valB_o, valB_w, ownOf_o, isi_int_n, isi_int_b, isi_int_i, isi_int_s, isi_int_l, isi_int_t, isi_int_d, isi_str_n, isi_str_b, isi_str_i, isi_str_s, isi_str_l, isi_str_t, isi_str_d, isi_bool_n, isi_bool_b, isi_bool_i, isi_bool_s, isi_bool_l, isi_bool_t, isi_bool_d, isi_list_n, isi_list_b, isi_list_i, isi_list_s, isi_list_l, isi_list_t, isi_list_d, isi_tuple_n, isi_tuple_b, isi_tuple_i, isi_tuple_s, isi_tuple_l, isi_tuple_t, isi_tuple_d, isi_dict_n, isi_dict_b, isi_dict_i, isi_dict_s, isi_dict_l, isi_dict_t, isi_dict_d, decide_eq_true_eq, Bool.not_eq_true, Bool.not_true, Bool.not_false, if_true, if_false, Bool.false_eq_true, and_true, true_and, decide_true, decide_false, ite_true, ite_false, reduceCtorEq, cut_1, big, bigf]
    by_cases h1 : figs s = []
    · rw [if_pos h1]
      rw [numD_bad (.inl (.inl h1))] at w
      exact w
    · rw [if_neg h1]
      split
      · rw [numD_bad (.inl (.inr (by omega)))] at w
        exact w
      · rename_i h2
        refine num_loop (figs s) 0 none _ (fun hall => ?_) (fun hall o' => ?_)
        · simp only [ok_forNil, ok_forCons, forK_nx, forK_ct, forK_bk, forK_rt, ok_eOp, ok_eUn, ok_aNil, ok_aCons, ok_eFn, ok_aFn, ok_eApp, ok_eC, ok_eL, ok_eSt, ok_eM1, ok_aM1, ok_oNone, ok_oSome, ok_eSl, ok_tOf, ok_tTru, ok_tNot, ok_tAnd, ok_tOr, ok_eAnd, ok_eOr, ok_eIf, ok_eChain, ok_eVar, ok_eVarB, ok_sSeq, seqK_nx, seqK_rt, seqK_bk, seqK_ct, ok_sSet, ok_sRet, ok_sIf, ok_sNext, ok_sDrop, ok_sApp, ok_sFreeze, ok_sUnp, ok_sAug, ok_sFor, ok_aLcE, ok_aItems, runK_rt, runK_nx, ok_runD, okO_some, okO_map, valD_d, valB_d, valB_o, valB_w, ownOf_o, asInt_i, asBl_b, start3, frz, sets, tgName, tgTup, tgsCons, tgsNil, wipe3, List.set_cons_zero, List.set_cons_succ, List.getElem?_cons_zero, List.getElem?_cons_succ, List.map_cons, List.map_nil, List.length_cons, List.length_nil, List.cons_append, List.nil_append, List.replicate_succ, List.replicate_zero, Nat.reduceSub, Nat.reduceAdd, Nat.reduceLT]
          rw [numD_bad (.inr (.inl hall))] at w
          exact w
        · simp only [ok_forNil, ok_forCons, forK_nx, forK_ct, forK_bk, forK_rt, ok_eOp, ok_eUn, ok_aNil, ok_aCons, ok_eFn, ok_aFn, ok_eApp, ok_eC, ok_eL, ok_eSt, ok_eM1, ok_aM1, ok_oNone, ok_oSome, ok_eSl, ok_tOf, ok_tTru, ok_tNot, ok_tAnd, ok_tOr, ok_eAnd, ok_eOr, ok_eIf, ok_eChain, ok_eVar, ok_eVarB, ok_sSeq, seqK_nx, seqK_rt, seqK_bk, seqK_ct, ok_sSet, ok_sRet, ok_sIf, ok_sNext, ok_sDrop, ok_sApp, ok_sFreeze, ok_sUnp, ok_sAug, ok_sFor, ok_aLcE, ok_aItems, runK_rt, runK_nx, ok_runD, okO_some, okO_map, valD_d, valB_d, valB_o, valB_w, ownOf_o, asInt_i, asBl_b, start3, frz, sets, tgName, tgTup, tgsCons, tgsNil, wipe3, List.set_cons_zero, List.set_cons_succ, List.getElem?_cons_zero, List.getElem?_cons_succ, List.map_cons, List.map_nil, List.length_cons, List.length_nil, List.cons_append, List.nil_append, List.replicate_succ, List.replicate_zero, Nat.reduceSub, Nat.reduceAdd, Nat.reduceLT, okO_if, dAddA_ii, dAddA_ss, dAddA_ll, dAddA_tt, dAdd_ii, dAdd_ss, dSub_ii, dMul_ii, dMul_si, dMod_ii, dDiv_ii, dLt_ii, dLt_ss, dLe_ii, dLe_ss, dGt_ii, dGt_ss, dGe_ii, dGe_ss, dEq_ii, dEq_ss, dEq_bb, dEq_nn, dEq_ns, dEq_sn, dEq_ni, dEq_in, dNe_ii, dNe_ss, dNe_bb, dNe_nn, dNe_ns, dNe_sn, dNe_ni, dNe_in, dIs_n, dIsNot_n, dIs_b, dIsNot_b, dIs_i, dIsNot_i, dIs_s, dIsNot_s, dIs_l, dIsNot_l, dIs_t, dIsNot_t, dIs_d, dIsNot_d, dIs_o, dIsNot_o, dLen_s, dLen_l, dLen_t, dTup_d, dLst_d, truD_n, truD_b, truD_i, truD_s, truD_l, truD_t, dNot_b, dNeg_i, asInt_i, asBl_b, dSl_s, dSl_l, dSl_t, isStr_s, items_l, items_t, items_s, dInt_i, dInt_b, dIx_li, dIx_ti, dStarts_ss, dTuple_l, dTuple_t, aList_l, aList_t, dIn_cs, dNotIn_cs, valD_d, valB_d, valB_o, valB_w, ownOf_o, isi_int_n, isi_int_b, isi_int_i, isi_int_s, isi_int_l, isi_int_t, isi_int_d, isi_str_n, isi_str_b, isi_str_i, isi_str_s, isi_str_l, isi_str_t, isi_str_d, isi_bool_n, isi_bool_b, isi_bool_i, isi_bool_s, isi_bool_l, isi_bool_t, isi_bool_d, isi_list_n, isi_list_b, isi_list_i, isi_list_s, isi_list_l, isi_list_t, isi_list_d, isi_tuple_n, isi_tuple_b, isi_tuple_i, isi_tuple_s, isi_tuple_l, isi_tuple_t, isi_tuple_d, isi_dict_n, isi_dict_b, isi_dict_i, isi_dict_s, isi_dict_l, isi_dict_t, isi_dict_d, decide_eq_true_eq, Bool.not_eq_true, Bool.not_true, Bool.not_false, if_true, if_false, Bool.false_eq_true, and_true, true_and, decide_true, decide_false, ite_true, ite_false, reduceCtorEq, cut_1, big]
          obtain ⟨c, hc, e⟩ := head_ix h1 (by omega)
          refine ⟨_, e, ?_⟩
          simp only [ok_forNil, ok_forCons, forK_nx, forK_ct, forK_bk, forK_rt, ok_eOp, ok_eUn, ok_aNil, ok_aCons, ok_eFn, ok_aFn, ok_eApp, ok_eC, ok_eL, ok_eSt, ok_eM1, ok_aM1, ok_oNone, ok_oSome, ok_eSl, ok_tOf, ok_tTru, ok_tNot, ok_tAnd, ok_tOr, ok_eAnd, ok_eOr, ok_eIf, ok_eChain, ok_eVar, ok_eVarB, ok_sSeq, seqK_nx, seqK_rt, seqK_bk, seqK_ct, ok_sSet, ok_sRet, ok_sIf, ok_sNext, ok_sDrop, ok_sApp, ok_sFreeze, ok_sUnp, ok_sAug, ok_sFor, ok_aLcE, ok_aItems, runK_rt, runK_nx, ok_runD, okO_some, okO_map, valD_d, valB_d, valB_o, valB_w, ownOf_o, asInt_i, asBl_b, start3, frz, sets, tgName, tgTup, tgsCons, tgsNil, wipe3, List.set_cons_zero, List.set_cons_succ, List.getElem?_cons_zero, List.getElem?_cons_succ, List.map_cons, List.map_nil, List.length_cons, List.length_nil, List.cons_append, List.nil_append, List.replicate_succ, List.replicate_zero, Nat.reduceSub, Nat.reduceAdd, Nat.reduceLT, okO_if, dAddA_ii, dAddA_ss, dAddA_ll, dAddA_tt, dAdd_ii, dAdd_ss, dSub_ii, dMul_ii, dMul_si, dMod_ii, dDiv_ii, dLt_ii, dLt_ss, dLe_ii, dLe_ss, dGt_ii, dGt_ss, dGe_ii, dGe_ss, dEq_ii, dEq_ss, dEq_bb, dEq_nn, dEq_ns, dEq_sn, dEq_ni, dEq_in, dNe_ii, dNe_ss, dNe_bb, dNe_nn, dNe_ns, dNe_sn, dNe_ni, dNe_in, dIs_n, dIsNot_n, dIs_b, dIsNot_b, dIs_i, dIsNot_i, dIs_s, dIsNot_s, dIs_l, dIsNot_l, dIs_t, dIsNot_t, dIs_d, dIsNot_d, dIs_o, dIsNot_o, dLen_s, dLen_l, dLen_t, dTup_d, dLst_d, truD_n, truD_b, truD_i, truD_s, truD_l, truD_t, dNot_b, dNeg_i, asInt_i, asBl_b, dSl_s, dSl_l, dSl_t, isStr_s, items_l, items_t, items_s, dInt_i, dInt_b, dIx_li, dIx_ti, dStarts_ss, dTuple_l, dTuple_t, aList_l, aList_t, dIn_cs, dNotIn_cs, valD_d, valB_d, valB_o, valB_w, ownOf_o, isi_int_n, isi_int_b, isi_int_i, isi_int_s, isi_int_l, isi_int_t, isi_int_d, isi_str_n, isi_str_b, isi_str_i, isi_str_s, isi_str_l, isi_str_t, isi_str_d, isi_bool_n, isi_bool_b, isi_bool_i, isi_bool_s, isi_bool_l, isi_bool_t, isi_bool_d, isi_list_n, isi_list_b, isi_list_i, isi_list_s, isi_list_l, isi_list_t, isi_list_d, isi_tuple_n, isi_tuple_b, isi_tuple_i, isi_tuple_s, isi_tuple_l, isi_tuple_t, isi_tuple_d, isi_dict_n, isi_dict_b, isi_dict_i, isi_dict_s, isi_dict_l, isi_dict_t, isi_dict_d, decide_eq_true_eq, Bool.not_eq_true, Bool.not_true, Bool.not_false, if_true, if_false, Bool.false_eq_true, and_true, true_and, decide_true, decide_false, ite_true, ite_false, reduceCtorEq, List.cons.injEq, and_true]
          have hm : ((figs s).take 1 = [48]) ↔ c = 48 := by rw [hc]; simp
          by_cases hz : c = 48 ∧ s ≠ [48]
          · rw [numD_bad (.inr (.inr ⟨hm.mpr hz.1, hz.2⟩))] at w
            rw [if_pos hz.1, if_pos (by simp [hz.2])]
            exact w
          · have en : ¬ numBad s := by
              rintro ((h | h) | h | h)
              · exact h1 h
              · omega
              · rw [hall] at h; cases h
              · exact hz ⟨hm.mp h.1, h.2⟩
            rw [numD_good en] at w
            unfold numV at w
            have fin : OkO (atI [.int (valF (figs s)), .int (0 - valF (figs s))] (if s.take 1 = [45] then 1 else 0)) fun z => Q z g := by
              by_cases h45 : s.take 1 = [45]
              · rw [if_pos h45] at w ⊢
                refine ⟨.int (0 - valF (figs s)), rfl, ?_⟩
                rw [show 0 - valF (figs s) = -(valF (figs s)) by omega]
                exact w
              · rw [if_neg h45] at w ⊢
                exact ⟨.int (valF (figs s)), rfl, w⟩
            by_cases hc48 : c = 48
            · have h48 : s = [48] := Classical.byContradiction fun h => hz ⟨hc48, h⟩
              rw [if_pos hc48, if_neg (by simp [h48])]
              exact ⟨by decide, fin⟩
            · rw [if_neg hc48]
              exact ⟨by decide, fin⟩
  simp only [ok_forNil, ok_forCons, forK_nx, forK_ct, forK_bk, forK_rt, ok_eOp, ok_eUn, ok_aNil, ok_aCons, ok_eFn, ok_aFn, ok_eApp, ok_eC, ok_eL, ok_eSt, ok_eM1, ok_aM1, ok_oNone, ok_oSome, ok_eSl, ok_tOf, ok_tTru, ok_tNot, ok_tAnd, ok_tOr, ok_eAnd, ok_eOr, ok_eIf, ok_eChain, ok_eVar, ok_eVarB, ok_sSeq, seqK_rt, seqK_bk, seqK_ct, ok_sSet, ok_sRet, ok_sIf, ok_sNext, ok_sDrop, ok_sApp, ok_sFreeze, ok_sUnp, ok_sAug, ok_sFor, ok_aLcE, ok_aItems, runK_rt, runK_nx, ok_runD, okO_some, okO_map, valD_d, valB_d, valB_o, valB_w, ownOf_o, asInt_i, asBl_b, start3, frz, sets, tgName, tgTup, tgsCons, tgsNil, wipe3, List.set_cons_zero, List.set_cons_succ, List.getElem?_cons_zero, List.getElem?_cons_succ, List.map_cons, List.map_nil, List.length_cons, List.length_nil, List.cons_append, List.nil_append, List.replicate_succ, List.replicate_zero, Nat.reduceSub, Nat.reduceAdd, Nat.reduceLT, okO_if, dAddA_ii, dAddA_ss, dAddA_ll, dAddA_tt, dAdd_ii, dAdd_ss, dSub_ii, dMul_ii, dMul_si, dMod_ii, dDiv_ii, dLt_ii, dLt_ss, dLe_ii, dLe_ss, dGt_ii, dGt_ss, dGe_ii, dGe_ss, dEq_ii, dEq_ss, dEq_bb, dEq_nn, dEq_ns, dEq_sn, dEq_ni, dEq_in, dNe_ii, dNe_ss, dNe_bb, dNe_nn, dNe_ns, dNe_sn, dNe_ni, dNe_in, dIs_n, dIsNot_n, dIs_b, dIsNot_b, dIs_i, dIsNot_i, dIs_s, dIsNot_s, dIs_l, dIsNot_l, dIs_t, dIsNot_t, dIs_d, dIsNot_d, dIs_o, dIsNot_o, dLen_s, dLen_l, dLen_t, dTup_d, dLst_d, truD_n, truD_b, truD_i, truD_s, truD_l, truD_t, dNot_b, dNeg_i, asInt_i, asBl_b, dSl_s, dSl_l, dSl_t, isStr_s, items_l, items_t, items_s, dInt_i, dInt_b, dIx_li, dIx_ti, dStarts_ss, dTuple_l, dTuple_t, aList_l, aList_t, dIn_cs, dNotIn_cs, valD_d, valB_d, valB_o, valB_w, ownOf_o, isi_int_n, isi_int_b, isi_int_i, isi_int_s, isi_int_l, isi_int_t, isi_int_d, isi_str_n, isi_str_b, isi_str_i, isi_str_s, isi_str_l, isi_str_t, isi_str_d, isi_bool_n, isi_bool_b, isi_bool_i, isi_bool_s, isi_bool_l, isi_bool_t, isi_bool_d, isi_list_n, isi_list_b, isi_list_i, isi_list_s, isi_list_l, isi_list_t, isi_list_d, isi_tuple_n, isi_tuple_b, isi_tuple_i, isi_tuple_s, isi_tuple_l, isi_tuple_t, isi_tuple_d, isi_dict_n, isi_dict_b, isi_dict_i, isi_dict_s, isi_dict_l, isi_dict_t, isi_dict_d, decide_eq_true_eq, Bool.not_eq_true, Bool.not_true, Bool.not_false, if_true, if_false, Bool.false_eq_true, and_true, true_and, decide_true, decide_false, ite_true, ite_false, reduceCtorEq]
  rw [seqK_nx]
  simp only [ok_forNil, ok_forCons, forK_nx, forK_ct, forK_bk, forK_rt, ok_eOp, ok_eUn, ok_aNil, ok_aCons, ok_eFn, ok_aFn, ok_eApp, ok_eC, ok_eL, ok_eSt, ok_eM1, ok_aM1, ok_oNone, ok_oSome, ok_eSl, ok_tOf, ok_tTru, ok_tNot, ok_tAnd, ok_tOr, ok_eAnd, ok_eOr, ok_eIf, ok_eChain, ok_eVar, ok_eVarB, ok_sSeq, seqK_rt, seqK_bk, seqK_ct, ok_sSet, ok_sRet, ok_sIf, ok_sNext, ok_sDrop, ok_sApp, ok_sFreeze, ok_sUnp, ok_sAug, ok_sFor, ok_aLcE, ok_aItems, runK_rt, runK_nx, ok_runD, okO_some, okO_map, valD_d, valB_d, valB_o, valB_w, ownOf_o, asInt_i, asBl_b, start3, frz, sets, tgName, tgTup, tgsCons, tgsNil, wipe3, List.set_cons_zero, List.set_cons_succ, List.getElem?_cons_zero, List.getElem?_cons_succ, List.map_cons, List.map_nil, List.length_cons, List.length_nil, List.cons_append, List.nil_append, List.replicate_succ, List.replicate_zero, Nat.reduceSub, Nat.reduceAdd, Nat.reduceLT, okO_if, dAddA_ii, dAddA_ss, dAddA_ll, dAddA_tt, dAdd_ii, dAdd_ss, dSub_ii, dMul_ii, dMul_si, dMod_ii, dDiv_ii, dLt_ii, dLt_ss, dLe_ii, dLe_ss, dGt_ii, dGt_ss, dGe_ii, dGe_ss, dEq_ii, dEq_ss, dEq_bb, dEq_nn, dEq_ns, dEq_sn, dEq_ni, dEq_in, dNe_ii, dNe_ss, dNe_bb, dNe_nn, dNe_ns, dNe_sn, dNe_ni, dNe_in, dIs_n, dIsNot_n, dIs_b, dIsNot_b, dIs_i, dIsNot_i, dIs_s, dIsNot_s, dIs_l, dIsNot_l, dIs_t, dIsNot_t, dIs_d, dIsNot_d, dIs_o, dIsNot_o, dLen_s, dLen_l, dLen_t, dTup_d, dLst_d, truD_n, truD_b, truD_i, truD_s, truD_l, truD_t, dNot_b, dNeg_i, asInt_i, asBl_b, dSl_s, dSl_l, dSl_t, isStr_s, items_l, items_t, items_s, dInt_i, dInt_b, dIx_li, dIx_ti, dStarts_ss, dTuple_l, dTuple_t, aList_l, aList_t, dIn_cs, dNotIn_cs, valD_d, valB_d, valB_o, valB_w, ownOf_o, isi_int_n, isi_int_b, isi_int_i, isi_int_s, isi_int_l, isi_int_t, isi_int_d, isi_str_n, isi_str_b, isi_str_i, isi_str_s, isi_str_l, isi_str_t, isi_str_d, isi_bool_n, isi_bool_b, isi_bool_i, isi_bool_s, isi_bool_l, isi_bool_t, isi_bool_d, isi_list_n, isi_list_b, isi_list_i, isi_list_s, isi_list_l, isi_list_t, isi_list_d, isi_tuple_n, isi_tuple_b, isi_tuple_i, isi_tuple_s, isi_tuple_l, isi_tuple_t, isi_tuple_d, isi_dict_n, isi_dict_b, isi_dict_i, isi_dict_s, isi_dict_l, isi_dict_t, isi_dict_d, decide_eq_true_eq, Bool.not_eq_true, Bool.not_true, Bool.not_false, if_true, if_false, Bool.false_eq_true, and_true, true_and, decide_true, decide_false, ite_true, ite_false, reduceCtorEq, cut_1, cut_from1, big]
  by_cases h45 : s.take 1 = [45]
  · rw [if_pos h45]
    exact step (s.drop 1) (by unfold figs; rw [if_pos h45])
  · rw [if_neg h45]
    exact step s (by unfold figs; rw [if_neg h45])
end W

namespace W
open L3
open L2 (atI ixN)
theorem valF_digits (s : List Nat) : valF s = ((PySem.NumText.digitsVal s : Nat) : Int) := by
  unfold valF PySem.NumText.digitsVal
  have key : ∀ (l : List Nat) (a : Nat), l.foldl (fun (a : Int) c => 10 * a + ((c - 48 : Nat) : Int)) (a : Int) = ((l.foldl (fun acc c => acc * 10 + (c - 48)) a : Nat) : Int) := by
    intro l
    induction l with
    | nil => intro a; rfl
    | cons c r ih =>
      intro a
      rw [List.foldl_cons, List.foldl_cons, ← ih]
      congr 1
      omega
  exact key s 0
theorem int_ok {s : List Nat} (h : ¬ numBad s) (hl : s.length ≤ 640) : dInt [.str s] = some (.int (numV s)) := by
  have hall : (figs s).all dig = true := by
    cases q : (figs s).all dig with
    | true => rfl
    | false => exact absurd (.inr (.inl q)) h
  have hne : figs s ≠ [] := fun q => h (.inl (.inl q))
  have had : PySem.NumText.AllDigits (figs s) := fun c hc => by
    have := List.all_eq_true.mp hall c hc
    exact of_decide_eq_true this
  unfold dInt
  dsimp only
  rw [if_pos hl]
  unfold numV
  by_cases h45 : s.take 1 = [45]
  · rw [if_pos h45]
    have ef : figs s = s.drop 1 := by unfold figs; rw [if_pos h45]
    have es : s = 45 :: figs s := by
      rw [ef]
      cases s with
      | nil => simp at h45
      | cons c r =>
        simp at h45
        rw [h45]; rfl
    rw [PySem.intText_neg (x := S s) (cs := figs s) (by rw [S_list]; exact es) had hne (by rw [S_len]; omega), valF_digits]
    rfl
  · rw [if_neg h45]
    have ef : figs s = s := by unfold figs; rw [if_neg h45]
    rw [ef] at had hne ⊢
    rw [PySem.intText_digits (x := S s) (by rw [S_list]; exact had) (by rw [S_list]; exact hne) (by rw [S_len]; omega), S_list, valF_digits]
    rfl
theorem bools_map (l : List Nat) (p : Nat → Bool) : bools (l.map fun c => D.bl (p c)) = some (l.map p) := by
  induction l with
  | nil => rfl
  | cons x r ih =>
    rw [List.map_cons, List.map_cons]
    unfold bools
    rw [ih]
    rfl
theorem all_digits {x y : Option SV} {g : Store} {Q : List D → Store → Prop} (l : List Nat) (w : Q (l.map fun c => .bl (dig c)) g) : Ok (lcD (tgName 2) tYesD le_number_in_0 (l.map fun c => .str [c]) [x, y, none] g) Q := by
  refine Ok.of (x := l.map fun c => .bl (dig c)) (g := g) ?_ w
  have := lc_map (ρ := [x, y, none]) (g := g) (tg := tgName 2) (e := le_number_in_0) (f := fun d => match d with | .str [c] => .bl (dig c) | d => d) (ds := l.map fun c => .str [c]) fun d hd => by
    obtain ⟨c, _, rfl⟩ := List.mem_map.mp hd
    refine ⟨_, rfl, ?_⟩
    have e : Ok (le_number_in_0 (sets [x, y, none] [(2, .str [c])]) g) fun z g' => z = .bl (dig c) ∧ g' = g := by
      simp only [ok_forNil, ok_forCons, forK_nx, forK_ct, forK_bk, forK_rt, ok_eOp, ok_eUn, ok_aNil, ok_aCons, ok_eFn, ok_aFn, ok_eApp, ok_eC, ok_eL, ok_eSt, ok_eM1, ok_aM1, ok_oNone, ok_oSome, ok_eSl, ok_tOf, ok_tTru, ok_tNot, ok_tAnd, ok_tOr, ok_eAnd, ok_eOr, ok_eIf, ok_eChain, ok_eVar, ok_eVarB, ok_sSeq, seqK_nx, seqK_rt, seqK_bk, seqK_ct, ok_sSet, ok_sRet, ok_sIf, ok_sNext, ok_sDrop, ok_sApp, ok_sFreeze, ok_sUnp, ok_sAug, ok_sFor, ok_aLcE, ok_aItems, runK_rt, runK_nx, ok_runD, okO_some, okO_map, valD_d, valB_d, valB_o, valB_w, ownOf_o, asInt_i, asBl_b, start3, frz, sets, tgName, tgTup, tgsCons, tgsNil, wipe3, List.set_cons_zero, List.set_cons_succ, List.getElem?_cons_zero, List.getElem?_cons_succ, List.map_cons, List.map_nil, List.length_cons, List.length_nil, List.cons_append, List.nil_append, List.replicate_succ, List.replicate_zero, Nat.reduceSub, Nat.reduceAdd, Nat.reduceLT, okO_if, dAddA_ii, dAddA_ss, dAddA_ll, dAddA_tt, dAdd_ii, dAdd_ss, dSub_ii, dMul_ii, dMul_si, dMod_ii, dDiv_ii, dLt_ii, dLt_ss, dLe_ii, dLe_ss, dGt_ii, dGt_ss, dGe_ii, dGe_ss, dEq_ii, dEq_ss, dEq_bb, dEq_nn, dEq_ns, dEq_sn, dEq_ni, dEq_in, dNe_ii, dNe_ss, dNe_bb, dNe_nn, dNe_ns, dNe_sn, dNe_ni, dNe_in, dIs_n, dIsNot_n, dIs_b, dIsNot_b, dIs_i, dIsNot_i, dIs_s, dIsNot_s, dIs_l, dIsNot_l, dIs_t, dIsNot_t, dIs_d, dIsNot_d, dIs_o, dIsNot_o, dLen_s, dLen_l, dLen_t, dTup_d, dLst_d, truD_n, truD_b, truD_i, truD_s, truD_l, truD_t, dNot_b, dNeg_i, asInt_i, asBl_b, dSl_s, dSl_l, dSl_t, isStr_s, items_l, items_t, items_s, dInt_i, dInt_b, dIx_li, dIx_ti, dStarts_ss, dTuple_l, dTuple_t, aList_l, aList_t, dIn_cs, dNotIn_cs, valD_d, valB_d, valB_o, valB_w, ownOf_o, isi_int_n, isi_int_b, isi_int_i, isi_int_s, isi_int_l, isi_int_t, isi_int_d, isi_str_n, isi_str_b, isi_str_i, isi_str_s, isi_str_l, isi_str_t, isi_str_d, isi_bool_n, isi_bool_b, isi_bool_i, isi_bool_s, isi_bool_l, isi_bool_t, isi_bool_d, isi_list_n, isi_list_b, isi_list_i, isi_list_s, isi_list_l, isi_list_t, isi_list_d, isi_tuple_n, isi_tuple_b, isi_tuple_i, isi_tuple_s, isi_tuple_l, isi_tuple_t, isi_tuple_d, isi_dict_n, isi_dict_b, isi_dict_i, isi_dict_s, isi_dict_l, isi_dict_t, isi_dict_d, decide_eq_true_eq, Bool.not_eq_true, Bool.not_true, Bool.not_false, if_true, if_false, Bool.false_eq_true, and_true, true_and, decide_true, decide_false, ite_true, ite_false, reduceCtorEq, le_number_in_0, digits_eq, mem_digits]
      cases dig c <;> simp
    obtain ⟨z, g', e, rfl, rfl⟩ := e
    exact e
  rw [this, List.map_map]
  rfl
theorem starts_45 (s : List Nat) : (s.take ([45] : List Nat).length == [45]) = decide (s.take 1 = [45]) := by
  rw [Bool.eq_iff_iff]
  simp
theorem number_in_ok {s : List Nat} {g : Store} (hs : s.length ≤ 600) {Q : D → Store → Prop} (w : Q (numD s) g) : Ok (f_number_in [.str s] g) Q := by
  have hf := figs_len s
  have big : s.length ≤ BIG := by unfold BIG; omega
  have bigf : (figs s).length ≤ BIG := by unfold BIG; omega
  unfold f_number_in d_number_in
  have step : ∀ f : List Nat, f = figs s → Ok ((sSeq (sIf (tOrD (tNotD (tOf (eChain dLe dLe (eC (.int 1)) (eFn dLen (aCons (eVarB 1) aNil)) (eC (.int 18))))) (tNotD (tTru (eFn dAll (aCons (eL (aLc (aItems (eVar 1)) [2] (tgName 2) tYesD le_number_in_0)) aNil))))) (sRet (eC .non)) sNext)
  (sSeq (sIf (tAndD (tOf (eOp dEq (eOp dIx (eVarB 1) (eC (.int 0))) (eC (.str [48])))) (tOf (eOp dNe (eVarB 0) (eC (.str [48]))))) (sRet (eC .non)) sNext)
  (sRet (eFn dInt (aCons (eVarB 0) aNil))))) [some (.d (.str s)), some (.d (.str f)), none] g) (runK Q) := by
    intro f ef
    subst ef
    simp only [ok_forNil, ok_forCons, forK_nx, forK_ct, forK_bk, forK_rt, ok_eOp, ok_eUn, ok_aNil, ok_aCons, ok_eFn, ok_aFn, ok_eApp, ok_eC, ok_eL, ok_eSt, ok_eM1, ok_aM1, ok_oNone, ok_oSome, ok_eSl, ok_tOf, ok_tTru, ok_tNot, ok_tAnd, ok_tOr, ok_eAnd, ok_eOr, ok_eIf, ok_eChain, ok_eVar, ok_eVarB, ok_sSeq, seqK_rt, seqK_bk, seqK_ct, ok_sSet, ok_sRet, ok_sIf, ok_sNext, ok_sDrop, ok_sApp, ok_sFreeze, ok_sUnp, ok_sAug, ok_sFor, ok_aLcE, ok_aItems, runK_rt, runK_nx, ok_runD, okO_some, okO_map, valD_d, valB_d, valB_o, valB_w, ownOf_o, asInt_i, asBl_b, start3, frz, sets, tgName, tgTup, tgsCons, tgsNil, wipe3, List.set_cons_zero, List.set_cons_succ, List.getElem?_cons_zero, List.getElem?_cons_succ, List.map_cons, List.map_nil, List.length_cons, List.length_nil, List.cons_append, List.nil_append, List.replicate_succ, List.replicate_zero, Nat.reduceSub, Nat.reduceAdd, Nat.reduceLT, okO_if, dAddA_ii, dAddA_ss, dAddA_ll, dAddA_tt, dAdd_ii, dAdd_ss, dSub_ii, dMul_ii, dMul_si, dMod_ii, dDiv_ii, dLt_ii, dLt_ss, dLe_ii, dLe_ss, dGt_ii, dGt_ss, dGe_ii, dGe_ss, dEq_ii, dEq_ss, dEq_bb, dEq_nn, dEq_ns, dEq_sn, dEq_ni, dEq_in, dNe_ii, dNe_ss, dNe_bb, dNe_nn, dNe_ns, dNe_sn, dNe_ni, dNe_in, dIs_n, dIsNot_n, dIs_b, dIsNot_b, dIs_i, dIsNot_i, dIs_s, dIsNot_s, dIs_l, dIsNot_l, dIs_t, dIsNot_t, dIs_d, dIsNot_d, dIs_o, dIsNot_o, dLen_s, dLen_l, dLen_t, dTup_d, dLst_d, truD_n, truD_b, truD_i, truD_s, truD_l, truD_t, dNot_b, dNeg_i, asInt_i, asBl_b, dSl_s, dSl_l, dSl_t, isStr_s, items_l, items_t, items_s, dInt_i, dInt_b, dIx_li, dIx_ti, dStarts_ss, dTuple_l, dTuple_t, aList_l, aList_t, dIn_cs, dNotIn_cs, valD_d, valB_d, valB_o, valB_w, ownOf_o, isi_int_n, isi_int_b, isi_int_i, isi_int_s, isi_int_l, isi_int_t, isi_int_d, isi_str_n, isi_str_b, isi_str_i, isi_str_s, isi_str_l, isi_str_t, isi_str_d, isi_bool_n, isi_bool_b, isi_bool_i, isi_bool_s, isi_bool_l, isi_bool_t, isi_bool_d, isi_list_n, isi_list_b, isi_list_i, isi_list_s, isi_list_l, isi_list_t, isi_list_d, isi_tuple_n, isi_tuple_b, isi_tuple_i, isi_tuple_s, isi_tuple_l, isi_tuple_t, isi_tuple_d, isi_dict_n, isi_dict_b, isi_dict_i, isi_dict_s, isi_dict_l, isi_dict_t, isi_dict_d, decide_eq_true_eq, Bool.not_eq_true, Bool.not_true, Bool.not_false, if_true, if_false, Bool.false_eq_true, and_true, true_and, decide_true, decide_false, ite_true, ite_false, reduceCtorEq, bigf]
    by_cases h1 : figs s = [] ∨ 18 < (figs s).length
    · rw [numD_bad (.inl h1)] at w
      rcases h1 with h1 | h1
      · rw [h1]
        simpa using w
      · rw [if_pos (by omega), if_pos]
        · exact w
        · simp; omega
    · have h1a : figs s ≠ [] := fun h => h1 (.inl h)
      have h1b : (figs s).length ≤ 18 := by omega
      have h1c : 1 ≤ (figs s).length := List.length_pos_iff.mpr h1a
      rw [if_pos (by omega), if_neg (by simp; omega)]
      refine ⟨⟨by rw [List.length_map]; exact bigf, rfl⟩, all_digits _ ?_⟩
      unfold dAll
      simp only [bools_map, ok_forNil, ok_forCons, forK_nx, forK_ct, forK_bk, forK_rt, ok_eOp, ok_eUn, ok_aNil, ok_aCons, ok_eFn, ok_aFn, ok_eApp, ok_eC, ok_eL, ok_eSt, ok_eM1, ok_aM1, ok_oNone, ok_oSome, ok_eSl, ok_tOf, ok_tTru, ok_tNot, ok_tAnd, ok_tOr, ok_eAnd, ok_eOr, ok_eIf, ok_eChain, ok_eVar, ok_eVarB, ok_sSeq, seqK_rt, seqK_bk, seqK_ct, ok_sSet, ok_sRet, ok_sIf, ok_sNext, ok_sDrop, ok_sApp, ok_sFreeze, ok_sUnp, ok_sAug, ok_sFor, ok_aLcE, ok_aItems, runK_rt, runK_nx, ok_runD, okO_some, okO_map, valD_d, valB_d, valB_o, valB_w, ownOf_o, asInt_i, asBl_b, start3, frz, sets, tgName, tgTup, tgsCons, tgsNil, wipe3, List.set_cons_zero, List.set_cons_succ, List.getElem?_cons_zero, List.getElem?_cons_succ, List.map_cons, List.map_nil, List.length_cons, List.length_nil, List.cons_append, List.nil_append, List.replicate_succ, List.replicate_zero, Nat.reduceSub, Nat.reduceAdd, Nat.reduceLT, okO_if, dAddA_ii, dAddA_ss, dAddA_ll, dAddA_tt, dAdd_ii, dAdd_ss, dSub_ii, dMul_ii, dMul_si, dMod_ii, dDiv_ii, dLt_ii, dLt_ss, dLe_ii, dLe_ss, dGt_ii, dGt_ss, dGe_ii, dGe_ss, dEq_ii, dEq_ss, dEq_bb, dEq_nn, dEq_ns, dEq_sn, dEq_ni, dEq_in, dNe_ii, dNe_ss, dNe_bb, dNe_nn, dNe_ns, dNe_sn, dNe_ni, dNe_in, dIs_n, dIsNot_n, dIs_b, dIsNot_b, dIs_i, dIsNot_i, dIs_s, dIsNot_s, dIs_l, dIsNot_l, dIs_t, dIsNot_t, dIs_d, dIsNot_d, dIs_o, dIsNot_o, dLen_s, dLen_l, dLen_t, dTup_d, dLst_d, truD_n, truD_b, truD_i, truD_s, truD_l, truD_t, dNot_b, dNeg_i, asInt_i, asBl_b, dSl_s, dSl_l, dSl_t, isStr_s, items_l, items_t, items_s, dInt_i, dInt_b, dIx_li, dIx_ti, dStarts_ss, dTuple_l, dTuple_t, aList_l, aList_t, dIn_cs, dNotIn_cs, valD_d, valB_d, valB_o, valB_w, ownOf_o, isi_int_n, isi_int_b, isi_int_i, isi_int_s, isi_int_l, isi_int_t, isi_int_d, isi_str_n, isi_str_b, isi_str_i, isi_str_s, isi_str_l, isi_str_t, isi_str_d, isi_bool_n, isi_bool_b, isi_bool_i, isi_bool_s, isi_bool_l, isi_bool_t, isi_bool_d, isi_list_n, isi_list_b, isi_list_i, isi_list_s, isi_list_l, isi_list_t, isi_list_d, isi_tuple_n, isi_tuple_b, isi_tuple_i, isi_tuple_s, isi_tuple_l, isi_tuple_t, isi_tuple_d, isi_dict_n, isi_dict_b, isi_dict_i, isi_dict_s, isi_dict_l, isi_dict_t, isi_dict_d, decide_eq_true_eq, Bool.not_eq_true, Bool.not_true, Bool.not_false, if_true, if_false, Bool.false_eq_true, and_true, true_and, decide_true, decide_false, ite_true, ite_false, reduceCtorEq, Option.map_some]
      cases hall : (figs s).all dig with
      | false =>
        rw [numD_bad (.inr (.inl hall))] at w
        rw [if_pos]
        · exact w
        · simp only [Bool.not_eq_true', List.all_map]
          exact hall
      | true =>
        rw [if_neg]
        · rw [seqK_nx]
          simp only [ok_forNil, ok_forCons, forK_nx, forK_ct, forK_bk, forK_rt, ok_eOp, ok_eUn, ok_aNil, ok_aCons, ok_eFn, ok_aFn, ok_eApp, ok_eC, ok_eL, ok_eSt, ok_eM1, ok_aM1, ok_oNone, ok_oSome, ok_eSl, ok_tOf, ok_tTru, ok_tNot, ok_tAnd, ok_tOr, ok_eAnd, ok_eOr, ok_eIf, ok_eChain, ok_eVar, ok_eVarB, ok_sSeq, seqK_rt, seqK_bk, seqK_ct, ok_sSet, ok_sRet, ok_sIf, ok_sNext, ok_sDrop, ok_sApp, ok_sFreeze, ok_sUnp, ok_sAug, ok_sFor, ok_aLcE, ok_aItems, runK_rt, runK_nx, ok_runD, okO_some, okO_map, valD_d, valB_d, valB_o, valB_w, ownOf_o, asInt_i, asBl_b, start3, frz, sets, tgName, tgTup, tgsCons, tgsNil, wipe3, List.set_cons_zero, List.set_cons_succ, List.getElem?_cons_zero, List.getElem?_cons_succ, List.map_cons, List.map_nil, List.length_cons, List.length_nil, List.cons_append, List.nil_append, List.replicate_succ, List.replicate_zero, Nat.reduceSub, Nat.reduceAdd, Nat.reduceLT, okO_if, dAddA_ii, dAddA_ss, dAddA_ll, dAddA_tt, dAdd_ii, dAdd_ss, dSub_ii, dMul_ii, dMul_si, dMod_ii, dDiv_ii, dLt_ii, dLt_ss, dLe_ii, dLe_ss, dGt_ii, dGt_ss, dGe_ii, dGe_ss, dEq_ii, dEq_ss, dEq_bb, dEq_nn, dEq_ns, dEq_sn, dEq_ni, dEq_in, dNe_ii, dNe_ss, dNe_bb, dNe_nn, dNe_ns, dNe_sn, dNe_ni, dNe_in, dIs_n, dIsNot_n, dIs_b, dIsNot_b, dIs_i, dIsNot_i, dIs_s, dIsNot_s, dIs_l, dIsNot_l, dIs_t, dIsNot_t, dIs_d, dIsNot_d, dIs_o, dIsNot_o, dLen_s, dLen_l, dLen_t, dTup_d, dLst_d, truD_n, truD_b, truD_i, truD_s, truD_l, truD_t, dNot_b, dNeg_i, asInt_i, asBl_b, dSl_s, dSl_l, dSl_t, isStr_s, items_l, items_t, items_s, dInt_i, dInt_b, dIx_li, dIx_ti, dStarts_ss, dTuple_l, dTuple_t, aList_l, aList_t, dIn_cs, dNotIn_cs, valD_d, valB_d, valB_o, valB_w, ownOf_o, isi_int_n, isi_int_b, isi_int_i, isi_int_s, isi_int_l, isi_int_t, isi_int_d, isi_str_n, isi_str_b, isi_str_i, isi_str_s, isi_str_l, isi_str_t, isi_str_d, isi_bool_n, isi_bool_b, isi_bool_i, isi_bool_s, isi_bool_l, isi_bool_t, isi_bool_d, isi_list_n, isi_list_b, isi_list_i, isi_list_s, isi_list_l, isi_list_t, isi_list_d, isi_tuple_n, isi_tuple_b, isi_tuple_i, isi_tuple_s, isi_tuple_l, isi_tuple_t, isi_tuple_d, isi_dict_n, isi_dict_b, isi_dict_i, isi_dict_s, isi_dict_l, isi_dict_t, isi_dict_d, decide_eq_true_eq, Bool.not_eq_true, Bool.not_true, Bool.not_false, if_true, if_false, Bool.false_eq_true, and_true, true_and, decide_true, decide_false, ite_true, ite_false, reduceCtorEq]
          obtain ⟨c, hc, e⟩ := head_ix h1a (by omega)
          refine ⟨_, e, ?_⟩
          simp only [ok_forNil, ok_forCons, forK_nx, forK_ct, forK_bk, forK_rt, ok_eOp, ok_eUn, ok_aNil, ok_aCons, ok_eFn, ok_aFn, ok_eApp, ok_eC, ok_eL, ok_eSt, ok_eM1, ok_aM1, ok_oNone, ok_oSome, ok_eSl, ok_tOf, ok_tTru, ok_tNot, ok_tAnd, ok_tOr, ok_eAnd, ok_eOr, ok_eIf, ok_eChain, ok_eVar, ok_eVarB, ok_sSeq, seqK_nx, seqK_rt, seqK_bk, seqK_ct, ok_sSet, ok_sRet, ok_sIf, ok_sNext, ok_sDrop, ok_sApp, ok_sFreeze, ok_sUnp, ok_sAug, ok_sFor, ok_aLcE, ok_aItems, runK_rt, runK_nx, ok_runD, okO_some, okO_map, valD_d, valB_d, valB_o, valB_w, ownOf_o, asInt_i, asBl_b, start3, frz, sets, tgName, tgTup, tgsCons, tgsNil, wipe3, List.set_cons_zero, List.set_cons_succ, List.getElem?_cons_zero, List.getElem?_cons_succ, List.map_cons, List.map_nil, List.length_cons, List.length_nil, List.cons_append, List.nil_append, List.replicate_succ, List.replicate_zero, Nat.reduceSub, Nat.reduceAdd, Nat.reduceLT, okO_if, dAddA_ii, dAddA_ss, dAddA_ll, dAddA_tt, dAdd_ii, dAdd_ss, dSub_ii, dMul_ii, dMul_si, dMod_ii, dDiv_ii, dLt_ii, dLt_ss, dLe_ii, dLe_ss, dGt_ii, dGt_ss, dGe_ii, dGe_ss, dEq_ii, dEq_ss, dEq_bb, dEq_nn, dEq_ns, dEq_sn, dEq_ni, dEq_in, dNe_ii, dNe_ss, dNe_bb, dNe_nn, dNe_ns, dNe_sn, dNe_ni, dNe_in, dIs_n, dIsNot_n, dIs_b, dIsNot_b, dIs_i, dIsNot_i, dIs_s, dIsNot_s, dIs_l, dIsNot_l, dIs_t, dIsNot_t, dIs_d, dIsNot_d, dIs_o, dIsNot_o, dLen_s, dLen_l, dLen_t, dTup_d, dLst_d, truD_n, truD_b, truD_i, truD_s, truD_l, truD_t, dNot_b, dNeg_i, asInt_i, asBl_b, dSl_s, dSl_l, dSl_t, isStr_s, items_l, items_t, items_s, dInt_i, dInt_b, dIx_li, dIx_ti, dStarts_ss, dTuple_l, dTuple_t, aList_l, aList_t, dIn_cs, dNotIn_cs, valD_d, valB_d, valB_o, valB_w, ownOf_o, isi_int_n, isi_int_b, isi_int_i, isi_int_s, isi_int_l, isi_int_t, isi_int_d, isi_str_n, isi_str_b, isi_str_i, isi_str_s, isi_str_l, isi_str_t, isi_str_d, isi_bool_n, isi_bool_b, isi_bool_i, isi_bool_s, isi_bool_l, isi_bool_t, isi_bool_d, isi_list_n, isi_list_b, isi_list_i, isi_list_s, isi_list_l, isi_list_t, isi_list_d, isi_tuple_n, isi_tuple_b, isi_tuple_i, isi_tuple_s, isi_tuple_l, isi_tuple_t, isi_tuple_d, isi_dict_n, isi_dict_b, isi_dict_i, isi_dict_s, isi_dict_l, isi_dict_t, isi_dict_d, decide_eq_true_eq, Bool.not_eq_true, Bool.not_true, Bool.not_false, if_true, if_false, Bool.false_eq_true, and_true, true_and, decide_true, decide_false, ite_true, ite_false, reduceCtorEq, List.cons.injEq, and_true]
          have hm : ((figs s).take 1 = [48]) ↔ c = 48 := by rw [hc]; simp
          by_cases hz : c = 48 ∧ s ≠ [48]
          · rw [numD_bad (.inr (.inr ⟨hm.mpr hz.1, hz.2⟩))] at w
            rw [if_pos hz.1, if_pos (by simp [hz.2])]
            exact w
          · have en : ¬ numBad s := by
              rintro (h | h | h)
              · exact h1 h
              · rw [hall] at h; cases h
              · exact hz ⟨hm.mp h.1, h.2⟩
            rw [numD_good en] at w
            have fin : OkO (dInt [.str s]) fun z => Q z g := ⟨_, int_ok en (by omega), w⟩
            by_cases hc48 : c = 48
            · have h48 : s = [48] := Classical.byContradiction fun h => hz ⟨hc48, h⟩
              rw [if_pos hc48, if_neg (by simp [h48])]
              exact fin
            · rw [if_neg hc48]
              exact fin
        · simp only [Bool.not_eq_true', List.all_map, Bool.not_eq_false]
          exact hall
  simp only [ok_forNil, ok_forCons, forK_nx, forK_ct, forK_bk, forK_rt, ok_eOp, ok_eUn, ok_aNil, ok_aCons, ok_eFn, ok_aFn, ok_eApp, ok_eC, ok_eL, ok_eSt, ok_eM1, ok_aM1, ok_oNone, ok_oSome, ok_eSl, ok_tOf, ok_tTru, ok_tNot, ok_tAnd, ok_tOr, ok_eAnd, ok_eOr, ok_eIf, ok_eChain, ok_eVar, ok_eVarB, ok_sSeq, seqK_rt, seqK_bk, seqK_ct, ok_sSet, ok_sRet, ok_sIf, ok_sNext, ok_sDrop, ok_sApp, ok_sFreeze, ok_sUnp, ok_sAug, ok_sFor, ok_aLcE, ok_aItems, runK_rt, runK_nx, ok_runD, okO_some, okO_map, valD_d, valB_d, valB_o, valB_w, ownOf_o, asInt_i, asBl_b, start3, frz, sets, tgName, tgTup, tgsCons, tgsNil, wipe3, List.set_cons_zero, List.set_cons_succ, List.getElem?_cons_zero, List.getElem?_cons_succ, List.map_cons, List.map_nil, List.length_cons, List.length_nil, List.cons_append, List.nil_append, List.replicate_succ, List.replicate_zero, Nat.reduceSub, Nat.reduceAdd, Nat.reduceLT, okO_if, dAddA_ii, dAddA_ss, dAddA_ll, dAddA_tt, dAdd_ii, dAdd_ss, dSub_ii, dMul_ii, dMul_si, dMod_ii, dDiv_ii, dLt_ii, dLt_ss, dLe_ii, dLe_ss, dGt_ii, dGt_ss, dGe_ii, dGe_ss, dEq_ii, dEq_ss, dEq_bb, dEq_nn, dEq_ns, dEq_sn, dEq_ni, dEq_in, dNe_ii, dNe_ss, dNe_bb, dNe_nn, dNe_ns, dNe_sn, dNe_ni, dNe_in, dIs_n, dIsNot_n, dIs_b, dIsNot_b, dIs_i, dIsNot_i, dIs_s, dIsNot_s, dIs_l, dIsNot_l, dIs_t, dIsNot_t, dIs_d, dIsNot_d, dIs_o, dIsNot_o, dLen_s, dLen_l, dLen_t, dTup_d, dLst_d, truD_n, truD_b, truD_i, truD_s, truD_l, truD_t, dNot_b, dNeg_i, asInt_i, asBl_b, dSl_s, dSl_l, dSl_t, isStr_s, items_l, items_t, items_s, dInt_i, dInt_b, dIx_li, dIx_ti, dStarts_ss, dTuple_l, dTuple_t, aList_l, aList_t, dIn_cs, dNotIn_cs, valD_d, valB_d, valB_o, valB_w, ownOf_o, isi_int_n, isi_int_b, isi_int_i, isi_int_s, isi_int_l, isi_int_t, isi_int_d, isi_str_n, isi_str_b, isi_str_i, isi_str_s, isi_str_l, isi_str_t, isi_str_d, isi_bool_n, isi_bool_b, isi_bool_i, isi_bool_s, isi_bool_l, isi_bool_t, isi_bool_d, isi_list_n, isi_list_b, isi_list_i, isi_list_s, isi_list_l, isi_list_t, isi_list_d, isi_tuple_n, isi_tuple_b, isi_tuple_i, isi_tuple_s, isi_tuple_l, isi_tuple_t, isi_tuple_d, isi_dict_n, isi_dict_b, isi_dict_i, isi_dict_s, isi_dict_l, isi_dict_t, isi_dict_d, decide_eq_true_eq, Bool.not_eq_true, Bool.not_true, Bool.not_false, if_true, if_false, Bool.false_eq_true, and_true, true_and, decide_true, decide_false, ite_true, ite_false, reduceCtorEq]
  rw [seqK_nx]
  simp only [ok_forNil, ok_forCons, forK_nx, forK_ct, forK_bk, forK_rt, ok_eOp, ok_eUn, ok_aNil, ok_aCons, ok_eFn, ok_aFn, ok_eApp, ok_eC, ok_eL, ok_eSt, ok_eM1, ok_aM1, ok_oNone, ok_oSome, ok_eSl, ok_tOf, ok_tTru, ok_tNot, ok_tAnd, ok_tOr, ok_eAnd, ok_eOr, ok_eIf, ok_eChain, ok_eVar, ok_eVarB, ok_sSeq, seqK_rt, seqK_bk, seqK_ct, ok_sSet, ok_sRet, ok_sIf, ok_sNext, ok_sDrop, ok_sApp, ok_sFreeze, ok_sUnp, ok_sAug, ok_sFor, ok_aLcE, ok_aItems, runK_rt, runK_nx, ok_runD, okO_some, okO_map, valD_d, valB_d, valB_o, valB_w, ownOf_o, asInt_i, asBl_b, start3, frz, sets, tgName, tgTup, tgsCons, tgsNil, wipe3, List.set_cons_zero, List.set_cons_succ, List.getElem?_cons_zero, List.getElem?_cons_succ, List.map_cons, List.map_nil, List.length_cons, List.length_nil, List.cons_append, List.nil_append, List.replicate_succ, List.replicate_zero, Nat.reduceSub, Nat.reduceAdd, Nat.reduceLT, okO_if, dAddA_ii, dAddA_ss, dAddA_ll, dAddA_tt, dAdd_ii, dAdd_ss, dSub_ii, dMul_ii, dMul_si, dMod_ii, dDiv_ii, dLt_ii, dLt_ss, dLe_ii, dLe_ss, dGt_ii, dGt_ss, dGe_ii, dGe_ss, dEq_ii, dEq_ss, dEq_bb, dEq_nn, dEq_ns, dEq_sn, dEq_ni, dEq_in, dNe_ii, dNe_ss, dNe_bb, dNe_nn, dNe_ns, dNe_sn, dNe_ni, dNe_in, dIs_n, dIsNot_n, dIs_b, dIsNot_b, dIs_i, dIsNot_i, dIs_s, dIsNot_s, dIs_l, dIsNot_l, dIs_t, dIsNot_t, dIs_d, dIsNot_d, dIs_o, dIsNot_o, dLen_s, dLen_l, dLen_t, dTup_d, dLst_d, truD_n, truD_b, truD_i, truD_s, truD_l, truD_t, dNot_b, dNeg_i, asInt_i, asBl_b, dSl_s, dSl_l, dSl_t, isStr_s, items_l, items_t, items_s, dInt_i, dInt_b, dIx_li, dIx_ti, dStarts_ss, dTuple_l, dTuple_t, aList_l, aList_t, dIn_cs, dNotIn_cs, valD_d, valB_d, valB_o, valB_w, ownOf_o, isi_int_n, isi_int_b, isi_int_i, isi_int_s, isi_int_l, isi_int_t, isi_int_d, isi_str_n, isi_str_b, isi_str_i, isi_str_s, isi_str_l, isi_str_t, isi_str_d, isi_bool_n, isi_bool_b, isi_bool_i, isi_bool_s, isi_bool_l, isi_bool_t, isi_bool_d, isi_list_n, isi_list_b, isi_list_i, isi_list_s, isi_list_l, isi_list_t, isi_list_d, isi_tuple_n, isi_tuple_b, isi_tuple_i, isi_tuple_s, isi_tuple_l, isi_tuple_t, isi_tuple_d, isi_dict_n, isi_dict_b, isi_dict_i, isi_dict_s, isi_dict_l, isi_dict_t, isi_dict_d, decide_eq_true_eq, Bool.not_eq_true, Bool.not_true, Bool.not_false, if_true, if_false, Bool.false_eq_true, and_true, true_and, decide_true, decide_false, ite_true, ite_false, reduceCtorEq, cut_1, cut_from1, big, beq_iff_eq]
  by_cases h45 : s.take 1 = [45]
  · rw [if_pos h45]
    exact step (s.drop 1) (by unfold figs; rw [if_pos h45])
  · rw [if_neg h45]
    exact step s (by unfold figs; rw [if_neg h45])
theorem shortened_ok {s : List Nat} {g : Store} (hs : s.length ≤ 1000) {Q : D → Store → Prop} (w : Q (.str (s.take 80)) g) : Ok (f_shortened [.str s] g) Q := by
  unfold f_shortened d_shortened
  simp only [ok_forNil, ok_forCons, forK_nx, forK_ct, forK_bk, forK_rt, ok_eOp, ok_eUn, ok_aNil, ok_aCons, ok_eFn, ok_aFn, ok_eApp, ok_eC, ok_eL, ok_eSt, ok_eM1, ok_aM1, ok_oNone, ok_oSome, ok_eSl, ok_tOf, ok_tTru, ok_tNot, ok_tAnd, ok_tOr, ok_eAnd, ok_eOr, ok_eIf, ok_eChain, ok_eVar, ok_eVarB, ok_sSeq, seqK_nx, seqK_rt, seqK_bk, seqK_ct, ok_sSet, ok_sRet, ok_sIf, ok_sNext, ok_sDrop, ok_sApp, ok_sFreeze, ok_sUnp, ok_sAug, ok_sFor, ok_aLcE, ok_aItems, runK_rt, runK_nx, ok_runD, okO_some, okO_map, valD_d, valB_d, valB_o, valB_w, ownOf_o, asInt_i, asBl_b, start3, frz, sets, tgName, tgTup, tgsCons, tgsNil, wipe3, List.set_cons_zero, List.set_cons_succ, List.getElem?_cons_zero, List.getElem?_cons_succ, List.map_cons, List.map_nil, List.length_cons, List.length_nil, List.cons_append, List.nil_append, List.replicate_succ, List.replicate_zero, Nat.reduceSub, Nat.reduceAdd, Nat.reduceLT, okO_if, dAddA_ii, dAddA_ss, dAddA_ll, dAddA_tt, dAdd_ii, dAdd_ss, dSub_ii, dMul_ii, dMul_si, dMod_ii, dDiv_ii, dLt_ii, dLt_ss, dLe_ii, dLe_ss, dGt_ii, dGt_ss, dGe_ii, dGe_ss, dEq_ii, dEq_ss, dEq_bb, dEq_nn, dEq_ns, dEq_sn, dEq_ni, dEq_in, dNe_ii, dNe_ss, dNe_bb, dNe_nn, dNe_ns, dNe_sn, dNe_ni, dNe_in, dIs_n, dIsNot_n, dIs_b, dIsNot_b, dIs_i, dIsNot_i, dIs_s, dIsNot_s, dIs_l, dIsNot_l, dIs_t, dIsNot_t, dIs_d, dIsNot_d, dIs_o, dIsNot_o, dLen_s, dLen_l, dLen_t, dTup_d, dLst_d, truD_n, truD_b, truD_i, truD_s, truD_l, truD_t, dNot_b, dNeg_i, asInt_i, asBl_b, dSl_s, dSl_l, dSl_t, isStr_s, items_l, items_t, items_s, dInt_i, dInt_b, dIx_li, dIx_ti, dStarts_ss, dTuple_l, dTuple_t, aList_l, aList_t, dIn_cs, dNotIn_cs, valD_d, valB_d, valB_o, valB_w, ownOf_o, isi_int_n, isi_int_b, isi_int_i, isi_int_s, isi_int_l, isi_int_t, isi_int_d, isi_str_n, isi_str_b, isi_str_i, isi_str_s, isi_str_l, isi_str_t, isi_str_d, isi_bool_n, isi_bool_b, isi_bool_i, isi_bool_s, isi_bool_l, isi_bool_t, isi_bool_d, isi_list_n, isi_list_b, isi_list_i, isi_list_s, isi_list_l, isi_list_t, isi_list_d, isi_tuple_n, isi_tuple_b, isi_tuple_i, isi_tuple_s, isi_tuple_l, isi_tuple_t, isi_tuple_d, isi_dict_n, isi_dict_b, isi_dict_i, isi_dict_s, isi_dict_l, isi_dict_t, isi_dict_d, decide_eq_true_eq, Bool.not_eq_true, Bool.not_true, Bool.not_false, if_true, if_false, Bool.false_eq_true, and_true, true_and, decide_true, decide_false, ite_true, ite_false, reduceCtorEq, cut_80]
  exact ⟨by unfold BIG; omega, w⟩
theorem whole_int {i : Int} {g : Store} {Q : D → Store → Prop} (w : Q (.bl true) g) : Ok (f__law_whole [.int i] g) Q := by
  unfold f__law_whole d__law_whole
  simp only [ok_forNil, ok_forCons, forK_nx, forK_ct, forK_bk, forK_rt, ok_eOp, ok_eUn, ok_aNil, ok_aCons, ok_eFn, ok_aFn, ok_eApp, ok_eC, ok_eL, ok_eSt, ok_eM1, ok_aM1, ok_oNone, ok_oSome, ok_eSl, ok_tOf, ok_tTru, ok_tNot, ok_tAnd, ok_tOr, ok_eAnd, ok_eOr, ok_eIf, ok_eChain, ok_eVar, ok_eVarB, ok_sSeq, seqK_nx, seqK_rt, seqK_bk, seqK_ct, ok_sSet, ok_sRet, ok_sIf, ok_sNext, ok_sDrop, ok_sApp, ok_sFreeze, ok_sUnp, ok_sAug, ok_sFor, ok_aLcE, ok_aItems, runK_rt, runK_nx, ok_runD, okO_some, okO_map, valD_d, valB_d, valB_o, valB_w, ownOf_o, asInt_i, asBl_b, start3, frz, sets, tgName, tgTup, tgsCons, tgsNil, wipe3, List.set_cons_zero, List.set_cons_succ, List.getElem?_cons_zero, List.getElem?_cons_succ, List.map_cons, List.map_nil, List.length_cons, List.length_nil, List.cons_append, List.nil_append, List.replicate_succ, List.replicate_zero, Nat.reduceSub, Nat.reduceAdd, Nat.reduceLT, okO_if, dAddA_ii, dAddA_ss, dAddA_ll, dAddA_tt, dAdd_ii, dAdd_ss, dSub_ii, dMul_ii, dMul_si, dMod_ii, dDiv_ii, dLt_ii, dLt_ss, dLe_ii, dLe_ss, dGt_ii, dGt_ss, dGe_ii, dGe_ss, dEq_ii, dEq_ss, dEq_bb, dEq_nn, dEq_ns, dEq_sn, dEq_ni, dEq_in, dNe_ii, dNe_ss, dNe_bb, dNe_nn, dNe_ns, dNe_sn, dNe_ni, dNe_in, dIs_n, dIsNot_n, dIs_b, dIsNot_b, dIs_i, dIsNot_i, dIs_s, dIsNot_s, dIs_l, dIsNot_l, dIs_t, dIsNot_t, dIs_d, dIsNot_d, dIs_o, dIsNot_o, dLen_s, dLen_l, dLen_t, dTup_d, dLst_d, truD_n, truD_b, truD_i, truD_s, truD_l, truD_t, dNot_b, dNeg_i, asInt_i, asBl_b, dSl_s, dSl_l, dSl_t, isStr_s, items_l, items_t, items_s, dInt_i, dInt_b, dIx_li, dIx_ti, dStarts_ss, dTuple_l, dTuple_t, aList_l, aList_t, dIn_cs, dNotIn_cs, valD_d, valB_d, valB_o, valB_w, ownOf_o, isi_int_n, isi_int_b, isi_int_i, isi_int_s, isi_int_l, isi_int_t, isi_int_d, isi_str_n, isi_str_b, isi_str_i, isi_str_s, isi_str_l, isi_str_t, isi_str_d, isi_bool_n, isi_bool_b, isi_bool_i, isi_bool_s, isi_bool_l, isi_bool_t, isi_bool_d, isi_list_n, isi_list_b, isi_list_i, isi_list_s, isi_list_l, isi_list_t, isi_list_d, isi_tuple_n, isi_tuple_b, isi_tuple_i, isi_tuple_s, isi_tuple_l, isi_tuple_t, isi_tuple_d, isi_dict_n, isi_dict_b, isi_dict_i, isi_dict_s, isi_dict_l, isi_dict_t, isi_dict_d, decide_eq_true_eq, Bool.not_eq_true, Bool.not_true, Bool.not_false, if_true, if_false, Bool.false_eq_true, and_true, true_and, decide_true, decide_false, ite_true, ite_false, reduceCtorEq]
  exact w
theorem first_loop {x y z : Option SV} {g : Store} : ∀ (l a : List Nat) (o : Option SV) (R : Out → Store → Prop), a.length + l.length ≤ 100000 → (∀ o', R (.nx [x, y, z, some (.d (.str (a ++ l.take (80 - a.length)))), o']) g) →
    Ok (forD (tgName 4) lb__law_right_0 (l.map fun c => .str [c]) [x, y, z, some (.d (.str a)), o] g) R := by
  intro l
  induction l with
  | nil => intro a o R hb h; simp only [ok_forNil, ok_forCons, forK_nx, forK_ct, forK_bk, forK_rt, ok_eOp, ok_eUn, ok_aNil, ok_aCons, ok_eFn, ok_aFn, ok_eApp, ok_eC, ok_eL, ok_eSt, ok_eM1, ok_aM1, ok_oNone, ok_oSome, ok_eSl, ok_tOf, ok_tTru, ok_tNot, ok_tAnd, ok_tOr, ok_eAnd, ok_eOr, ok_eIf, ok_eChain, ok_eVar, ok_eVarB, ok_sSeq, seqK_nx, seqK_rt, seqK_bk, seqK_ct, ok_sSet, ok_sRet, ok_sIf, ok_sNext, ok_sDrop, ok_sApp, ok_sFreeze, ok_sUnp, ok_sAug, ok_sFor, ok_aLcE, ok_aItems, runK_rt, runK_nx, ok_runD, okO_some, okO_map, valD_d, valB_d, valB_o, valB_w, ownOf_o, asInt_i, asBl_b, start3, frz, sets, tgName, tgTup, tgsCons, tgsNil, wipe3, List.set_cons_zero, List.set_cons_succ, List.getElem?_cons_zero, List.getElem?_cons_succ, List.map_cons, List.map_nil, List.length_cons, List.length_nil, List.cons_append, List.nil_append, List.replicate_succ, List.replicate_zero, Nat.reduceSub, Nat.reduceAdd, Nat.reduceLT]; simpa using h o
  | cons c r ih =>
    intro a o R hb h
    rw [List.length_cons] at hb
    simp only [ok_forNil, ok_forCons, forK_nx, forK_ct, forK_bk, forK_rt, ok_eOp, ok_eUn, ok_aNil, ok_aCons, ok_eFn, ok_aFn, ok_eApp, ok_eC, ok_eL, ok_eSt, ok_eM1, ok_aM1, ok_oNone, ok_oSome, ok_eSl, ok_tOf, ok_tTru, ok_tNot, ok_tAnd, ok_tOr, ok_eAnd, ok_eOr, ok_eIf, ok_eChain, ok_eVar, ok_eVarB, ok_sSeq, seqK_nx, seqK_rt, seqK_bk, seqK_ct, ok_sSet, ok_sRet, ok_sIf, ok_sNext, ok_sDrop, ok_sApp, ok_sFreeze, ok_sUnp, ok_sAug, ok_sFor, ok_aLcE, ok_aItems, runK_rt, runK_nx, ok_runD, okO_some, okO_map, valD_d, valB_d, valB_o, valB_w, ownOf_o, asInt_i, asBl_b, start3, frz, sets, tgName, tgTup, tgsCons, tgsNil, wipe3, List.set_cons_zero, List.set_cons_succ, List.getElem?_cons_zero, List.getElem?_cons_succ, List.map_cons, List.map_nil, List.length_cons, List.length_nil, List.cons_append, List.nil_append, List.replicate_succ, List.replicate_zero, Nat.reduceSub, Nat.reduceAdd, Nat.reduceLT, okO_if, dAddA_ii, dAddA_ss, dAddA_ll, dAddA_tt, dAdd_ii, dAdd_ss, dSub_ii, dMul_ii, dMul_si, dMod_ii, dDiv_ii, dLt_ii, dLt_ss, dLe_ii, dLe_ss, dGt_ii, dGt_ss, dGe_ii, dGe_ss, dEq_ii, dEq_ss, dEq_bb, dEq_nn, dEq_ns, dEq_sn, dEq_ni, dEq_in, dNe_ii, dNe_ss, dNe_bb, dNe_nn, dNe_ns, dNe_sn, dNe_ni, dNe_in, dIs_n, dIsNot_n, dIs_b, dIsNot_b, dIs_i, dIsNot_i, dIs_s, dIsNot_s, dIs_l, dIsNot_l, dIs_t, dIsNot_t, dIs_d, dIsNot_d, dIs_o, dIsNot_o, dLen_s, dLen_l, dLen_t, dTup_d, dLst_d, truD_n, truD_b, truD_i, truD_s, truD_l, truD_t, dNot_b, dNeg_i, asInt_i, asBl_b, dSl_s, dSl_l, dSl_t, isStr_s, items_l, items_t, items_s, dInt_i, dInt_b, dIx_li, dIx_ti, dStarts_ss, dTuple_l, dTuple_t, aList_l, aList_t, dIn_cs, dNotIn_cs, valD_d, valB_d, valB_o, valB_w, ownOf_o, isi_int_n, isi_int_b, isi_int_i, isi_int_s, isi_int_l, isi_int_t, isi_int_d, isi_str_n, isi_str_b, isi_str_i, isi_str_s, isi_str_l, isi_str_t, isi_str_d, isi_bool_n, isi_bool_b, isi_bool_i, isi_bool_s, isi_bool_l, isi_bool_t, isi_bool_d, isi_list_n, isi_list_b, isi_list_i, isi_list_s, isi_list_l, isi_list_t, isi_list_d, isi_tuple_n, isi_tuple_b, isi_tuple_i, isi_tuple_s, isi_tuple_l, isi_tuple_t, isi_tuple_d, isi_dict_n, isi_dict_b, isi_dict_i, isi_dict_s, isi_dict_l, isi_dict_t, isi_dict_d, decide_eq_true_eq, Bool.not_eq_true, Bool.not_true, Bool.not_false, if_true, if_false, Bool.false_eq_true, and_true, true_and, decide_true, decide_false, ite_true, ite_false, reduceCtorEq, lb__law_right_0]
    refine ⟨by unfold BIG; omega, ?_⟩
    by_cases ha : (a.length : Int) < 80
    · rw [if_pos ha]
      refine ⟨by unfold BIG; omega, ih (a ++ [c]) _ R (by simp; omega) fun o' => ?_⟩
      have e : (a ++ [c]) ++ r.take (80 - (a ++ [c]).length) = a ++ (c :: r).take (80 - a.length) := by
        rw [List.append_assoc, List.length_append, List.length_singleton]
        congr 1
        rw [show 80 - a.length = (80 - (a.length + 1)) + 1 by omega, List.take_succ_cons]
        rfl
      rw [e]
      exact h o'
    · rw [if_neg ha]
      refine ih a _ R (by omega) fun o' => ?_
      have e : 80 - a.length = 0 := by omega
      have := h o'
      rw [e] at this ⊢
      simpa using this
theorem right_ok {s : List Nat} {g : Store} (hs : s.length ≤ 600) {Q : D → Store → Prop} (w : Q (.bl true) g) : Ok (f__law_right [.str s] g) Q := by
  unfold f__law_right d__law_right
  simp only [ok_forNil, ok_forCons, forK_nx, forK_ct, forK_bk, forK_rt, ok_eOp, ok_eUn, ok_aNil, ok_aCons, ok_eFn, ok_aFn, ok_eApp, ok_eC, ok_eL, ok_eSt, ok_eM1, ok_aM1, ok_oNone, ok_oSome, ok_eSl, ok_tOf, ok_tTru, ok_tNot, ok_tAnd, ok_tOr, ok_eAnd, ok_eOr, ok_eIf, ok_eChain, ok_eVar, ok_eVarB, ok_sSeq, seqK_nx, seqK_rt, seqK_bk, seqK_ct, ok_sSet, ok_sRet, ok_sIf, ok_sNext, ok_sDrop, ok_sApp, ok_sFreeze, ok_sUnp, ok_sAug, ok_sFor, ok_aLcE, ok_aItems, runK_rt, runK_nx, ok_runD, okO_some, okO_map, valD_d, valB_d, valB_o, valB_w, ownOf_o, asInt_i, asBl_b, start3, frz, sets, tgName, tgTup, tgsCons, tgsNil, wipe3, List.set_cons_zero, List.set_cons_succ, List.getElem?_cons_zero, List.getElem?_cons_succ, List.map_cons, List.map_nil, List.length_cons, List.length_nil, List.cons_append, List.nil_append, List.replicate_succ, List.replicate_zero, Nat.reduceSub, Nat.reduceAdd, Nat.reduceLT]
  refine law_number_ok (by omega) ?_
  refine number_in_ok hs ?_
  have big : s.length ≤ BIG := by unfold BIG; omega
  have rest : ∀ v, Ok (forD (tgName 4) lb__law_right_0 (s.map fun c => .str [c]) [some (.d (.str s)), some (.d v), some (.d v), some (.d (.str [])), none] g) (seqK (sRet (eOp dEq (eApp f_shortened (aCons (eVar 0) aNil)) (eVarB 3))) (runK Q)) := by
    intro v
    refine first_loop s [] none _ (by simp; omega) fun o' => ?_
    simp only [ok_forNil, ok_forCons, forK_nx, forK_ct, forK_bk, forK_rt, ok_eOp, ok_eUn, ok_aNil, ok_aCons, ok_eFn, ok_aFn, ok_eApp, ok_eC, ok_eL, ok_eSt, ok_eM1, ok_aM1, ok_oNone, ok_oSome, ok_eSl, ok_tOf, ok_tTru, ok_tNot, ok_tAnd, ok_tOr, ok_eAnd, ok_eOr, ok_eIf, ok_eChain, ok_eVar, ok_eVarB, ok_sSeq, seqK_nx, seqK_rt, seqK_bk, seqK_ct, ok_sSet, ok_sRet, ok_sIf, ok_sNext, ok_sDrop, ok_sApp, ok_sFreeze, ok_sUnp, ok_sAug, ok_sFor, ok_aLcE, ok_aItems, runK_rt, runK_nx, ok_runD, okO_some, okO_map, valD_d, valB_d, valB_o, valB_w, ownOf_o, asInt_i, asBl_b, start3, frz, sets, tgName, tgTup, tgsCons, tgsNil, wipe3, List.set_cons_zero, List.set_cons_succ, List.getElem?_cons_zero, List.getElem?_cons_succ, List.map_cons, List.map_nil, List.length_cons, List.length_nil, List.cons_append, List.nil_append, List.replicate_succ, List.replicate_zero, Nat.reduceSub, Nat.reduceAdd, Nat.reduceLT]
    refine shortened_ok (by omega) ?_
    simp only [ok_forNil, ok_forCons, forK_nx, forK_ct, forK_bk, forK_rt, ok_eOp, ok_eUn, ok_aNil, ok_aCons, ok_eFn, ok_aFn, ok_eApp, ok_eC, ok_eL, ok_eSt, ok_eM1, ok_aM1, ok_oNone, ok_oSome, ok_eSl, ok_tOf, ok_tTru, ok_tNot, ok_tAnd, ok_tOr, ok_eAnd, ok_eOr, ok_eIf, ok_eChain, ok_eVar, ok_eVarB, ok_sSeq, seqK_nx, seqK_rt, seqK_bk, seqK_ct, ok_sSet, ok_sRet, ok_sIf, ok_sNext, ok_sDrop, ok_sApp, ok_sFreeze, ok_sUnp, ok_sAug, ok_sFor, ok_aLcE, ok_aItems, runK_rt, runK_nx, ok_runD, okO_some, okO_map, valD_d, valB_d, valB_o, valB_w, ownOf_o, asInt_i, asBl_b, start3, frz, sets, tgName, tgTup, tgsCons, tgsNil, wipe3, List.set_cons_zero, List.set_cons_succ, List.getElem?_cons_zero, List.getElem?_cons_succ, List.map_cons, List.map_nil, List.length_cons, List.length_nil, List.cons_append, List.nil_append, List.replicate_succ, List.replicate_zero, Nat.reduceSub, Nat.reduceAdd, Nat.reduceLT, okO_if, dAddA_ii, dAddA_ss, dAddA_ll, dAddA_tt, dAdd_ii, dAdd_ss, dSub_ii, dMul_ii, dMul_si, dMod_ii, dDiv_ii, dLt_ii, dLt_ss, dLe_ii, dLe_ss, dGt_ii, dGt_ss, dGe_ii, dGe_ss, dEq_ii, dEq_ss, dEq_bb, dEq_nn, dEq_ns, dEq_sn, dEq_ni, dEq_in, dNe_ii, dNe_ss, dNe_bb, dNe_nn, dNe_ns, dNe_sn, dNe_ni, dNe_in, dIs_n, dIsNot_n, dIs_b, dIsNot_b, dIs_i, dIsNot_i, dIs_s, dIsNot_s, dIs_l, dIsNot_l, dIs_t, dIsNot_t, dIs_d, dIsNot_d, dIs_o, dIsNot_o, dLen_s, dLen_l, dLen_t, dTup_d, dLst_d, truD_n, truD_b, truD_i, truD_s, truD_l, truD_t, dNot_b, dNeg_i, asInt_i, asBl_b, dSl_s, dSl_l, dSl_t, isStr_s, items_l, items_t, items_s, dInt_i, dInt_b, dIx_li, dIx_ti, dStarts_ss, dTuple_l, dTuple_t, aList_l, aList_t, dIn_cs, dNotIn_cs, valD_d, valB_d, valB_o, valB_w, ownOf_o, isi_int_n, isi_int_b, isi_int_i, isi_int_s, isi_int_l, isi_int_t, isi_int_d, isi_str_n, isi_str_b, isi_str_i, isi_str_s, isi_str_l, isi_str_t, isi_str_d, isi_bool_n, isi_bool_b, isi_bool_i, isi_bool_s, isi_bool_l, isi_bool_t, isi_bool_d, isi_list_n, isi_list_b, isi_list_i, isi_list_s, isi_list_l, isi_list_t, isi_list_d, isi_tuple_n, isi_tuple_b, isi_tuple_i, isi_tuple_s, isi_tuple_l, isi_tuple_t, isi_tuple_d, isi_dict_n, isi_dict_b, isi_dict_i, isi_dict_s, isi_dict_l, isi_dict_t, isi_dict_d, decide_eq_true_eq, Bool.not_eq_true, Bool.not_true, Bool.not_false, if_true, if_false, Bool.false_eq_true, and_true, true_and, decide_true, decide_false, ite_true, ite_false, reduceCtorEq]
    simpa using w
  by_cases hb : numBad s
  · rw [numD_bad hb]
    simp only [ok_forNil, ok_forCons, forK_nx, forK_ct, forK_bk, forK_rt, ok_eOp, ok_eUn, ok_aNil, ok_aCons, ok_eFn, ok_aFn, ok_eApp, ok_eC, ok_eL, ok_eSt, ok_eM1, ok_aM1, ok_oNone, ok_oSome, ok_eSl, ok_tOf, ok_tTru, ok_tNot, ok_tAnd, ok_tOr, ok_eAnd, ok_eOr, ok_eIf, ok_eChain, ok_eVar, ok_eVarB, ok_sSeq, seqK_nx, seqK_rt, seqK_bk, seqK_ct, ok_sSet, ok_sRet, ok_sIf, ok_sNext, ok_sDrop, ok_sApp, ok_sFreeze, ok_sUnp, ok_sAug, ok_sFor, ok_aLcE, ok_aItems, runK_rt, runK_nx, ok_runD, okO_some, okO_map, valD_d, valB_d, valB_o, valB_w, ownOf_o, asInt_i, asBl_b, start3, frz, sets, tgName, tgTup, tgsCons, tgsNil, wipe3, List.set_cons_zero, List.set_cons_succ, List.getElem?_cons_zero, List.getElem?_cons_succ, List.map_cons, List.map_nil, List.length_cons, List.length_nil, List.cons_append, List.nil_append, List.replicate_succ, List.replicate_zero, Nat.reduceSub, Nat.reduceAdd, Nat.reduceLT, okO_if, dAddA_ii, dAddA_ss, dAddA_ll, dAddA_tt, dAdd_ii, dAdd_ss, dSub_ii, dMul_ii, dMul_si, dMod_ii, dDiv_ii, dLt_ii, dLt_ss, dLe_ii, dLe_ss, dGt_ii, dGt_ss, dGe_ii, dGe_ss, dEq_ii, dEq_ss, dEq_bb, dEq_nn, dEq_ns, dEq_sn, dEq_ni, dEq_in, dNe_ii, dNe_ss, dNe_bb, dNe_nn, dNe_ns, dNe_sn, dNe_ni, dNe_in, dIs_n, dIsNot_n, dIs_b, dIsNot_b, dIs_i, dIsNot_i, dIs_s, dIsNot_s, dIs_l, dIsNot_l, dIs_t, dIsNot_t, dIs_d, dIsNot_d, dIs_o, dIsNot_o, dLen_s, dLen_l, dLen_t, dTup_d, dLst_d, truD_n, truD_b, truD_i, truD_s, truD_l, truD_t, dNot_b, dNeg_i, asInt_i, asBl_b, dSl_s, dSl_l, dSl_t, isStr_s, items_l, items_t, items_s, dInt_i, dInt_b, dIx_li, dIx_ti, dStarts_ss, dTuple_l, dTuple_t, aList_l, aList_t, dIn_cs, dNotIn_cs, valD_d, valB_d, valB_o, valB_w, ownOf_o, isi_int_n, isi_int_b, isi_int_i, isi_int_s, isi_int_l, isi_int_t, isi_int_d, isi_str_n, isi_str_b, isi_str_i, isi_str_s, isi_str_l, isi_str_t, isi_str_d, isi_bool_n, isi_bool_b, isi_bool_i, isi_bool_s, isi_bool_l, isi_bool_t, isi_bool_d, isi_list_n, isi_list_b, isi_list_i, isi_list_s, isi_list_l, isi_list_t, isi_list_d, isi_tuple_n, isi_tuple_b, isi_tuple_i, isi_tuple_s, isi_tuple_l, isi_tuple_t, isi_tuple_d, isi_dict_n, isi_dict_b, isi_dict_i, isi_dict_s, isi_dict_l, isi_dict_t, isi_dict_d, decide_eq_true_eq, Bool.not_eq_true, Bool.not_true, Bool.not_false, if_true, if_false, Bool.false_eq_true, and_true, true_and, decide_true, decide_false, ite_true, ite_false, reduceCtorEq]
    exact rest .non
  · rw [numD_good hb]
    simp only [ok_forNil, ok_forCons, forK_nx, forK_ct, forK_bk, forK_rt, ok_eOp, ok_eUn, ok_aNil, ok_aCons, ok_eFn, ok_aFn, ok_eApp, ok_eC, ok_eL, ok_eSt, ok_eM1, ok_aM1, ok_oNone, ok_oSome, ok_eSl, ok_tOf, ok_tTru, ok_tNot, ok_tAnd, ok_tOr, ok_eAnd, ok_eOr, ok_eIf, ok_eChain, ok_eVar, ok_eVarB, ok_sSeq, seqK_nx, seqK_rt, seqK_bk, seqK_ct, ok_sSet, ok_sRet, ok_sIf, ok_sNext, ok_sDrop, ok_sApp, ok_sFreeze, ok_sUnp, ok_sAug, ok_sFor, ok_aLcE, ok_aItems, runK_rt, runK_nx, ok_runD, okO_some, okO_map, valD_d, valB_d, valB_o, valB_w, ownOf_o, asInt_i, asBl_b, start3, frz, sets, tgName, tgTup, tgsCons, tgsNil, wipe3, List.set_cons_zero, List.set_cons_succ, List.getElem?_cons_zero, List.getElem?_cons_succ, List.map_cons, List.map_nil, List.length_cons, List.length_nil, List.cons_append, List.nil_append, List.replicate_succ, List.replicate_zero, Nat.reduceSub, Nat.reduceAdd, Nat.reduceLT, okO_if, dAddA_ii, dAddA_ss, dAddA_ll, dAddA_tt, dAdd_ii, dAdd_ss, dSub_ii, dMul_ii, dMul_si, dMod_ii, dDiv_ii, dLt_ii, dLt_ss, dLe_ii, dLe_ss, dGt_ii, dGt_ss, dGe_ii, dGe_ss, dEq_ii, dEq_ss, dEq_bb, dEq_nn, dEq_ns, dEq_sn, dEq_ni, dEq_in, dNe_ii, dNe_ss, dNe_bb, dNe_nn, dNe_ns, dNe_sn, dNe_ni, dNe_in, dIs_n, dIsNot_n, dIs_b, dIsNot_b, dIs_i, dIsNot_i, dIs_s, dIsNot_s, dIs_l, dIsNot_l, dIs_t, dIsNot_t, dIs_d, dIsNot_d, dIs_o, dIsNot_o, dLen_s, dLen_l, dLen_t, dTup_d, dLst_d, truD_n, truD_b, truD_i, truD_s, truD_l, truD_t, dNot_b, dNeg_i, asInt_i, asBl_b, dSl_s, dSl_l, dSl_t, isStr_s, items_l, items_t, items_s, dInt_i, dInt_b, dIx_li, dIx_ti, dStarts_ss, dTuple_l, dTuple_t, aList_l, aList_t, dIn_cs, dNotIn_cs, valD_d, valB_d, valB_o, valB_w, ownOf_o, isi_int_n, isi_int_b, isi_int_i, isi_int_s, isi_int_l, isi_int_t, isi_int_d, isi_str_n, isi_str_b, isi_str_i, isi_str_s, isi_str_l, isi_str_t, isi_str_d, isi_bool_n, isi_bool_b, isi_bool_i, isi_bool_s, isi_bool_l, isi_bool_t, isi_bool_d, isi_list_n, isi_list_b, isi_list_i, isi_list_s, isi_list_l, isi_list_t, isi_list_d, isi_tuple_n, isi_tuple_b, isi_tuple_i, isi_tuple_s, isi_tuple_l, isi_tuple_t, isi_tuple_d, isi_dict_n, isi_dict_b, isi_dict_i, isi_dict_s, isi_dict_l, isi_dict_t, isi_dict_d, decide_eq_true_eq, Bool.not_eq_true, Bool.not_true, Bool.not_false, if_true, if_false, Bool.false_eq_true, and_true, true_and, decide_true, decide_false, ite_true, ite_false, reduceCtorEq]
    refine whole_int ?_
    simp only [ok_forNil, ok_forCons, forK_nx, forK_ct, forK_bk, forK_rt, ok_eOp, ok_eUn, ok_aNil, ok_aCons, ok_eFn, ok_aFn, ok_eApp, ok_eC, ok_eL, ok_eSt, ok_eM1, ok_aM1, ok_oNone, ok_oSome, ok_eSl, ok_tOf, ok_tTru, ok_tNot, ok_tAnd, ok_tOr, ok_eAnd, ok_eOr, ok_eIf, ok_eChain, ok_eVar, ok_eVarB, ok_sSeq, seqK_nx, seqK_rt, seqK_bk, seqK_ct, ok_sSet, ok_sRet, ok_sIf, ok_sNext, ok_sDrop, ok_sApp, ok_sFreeze, ok_sUnp, ok_sAug, ok_sFor, ok_aLcE, ok_aItems, runK_rt, runK_nx, ok_runD, okO_some, okO_map, valD_d, valB_d, valB_o, valB_w, ownOf_o, asInt_i, asBl_b, start3, frz, sets, tgName, tgTup, tgsCons, tgsNil, wipe3, List.set_cons_zero, List.set_cons_succ, List.getElem?_cons_zero, List.getElem?_cons_succ, List.map_cons, List.map_nil, List.length_cons, List.length_nil, List.cons_append, List.nil_append, List.replicate_succ, List.replicate_zero, Nat.reduceSub, Nat.reduceAdd, Nat.reduceLT, okO_if, dAddA_ii, dAddA_ss, dAddA_ll, dAddA_tt, dAdd_ii, dAdd_ss, dSub_ii, dMul_ii, dMul_si, dMod_ii, dDiv_ii, dLt_ii, dLt_ss, dLe_ii, dLe_ss, dGt_ii, dGt_ss, dGe_ii, dGe_ss, dEq_ii, dEq_ss, dEq_bb, dEq_nn, dEq_ns, dEq_sn, dEq_ni, dEq_in, dNe_ii, dNe_ss, dNe_bb, dNe_nn, dNe_ns, dNe_sn, dNe_ni, dNe_in, dIs_n, dIsNot_n, dIs_b, dIsNot_b, dIs_i, dIsNot_i, dIs_s, dIsNot_s, dIs_l, dIsNot_l, dIs_t, dIsNot_t, dIs_d, dIsNot_d, dIs_o, dIsNot_o, dLen_s, dLen_l, dLen_t, dTup_d, dLst_d, truD_n, truD_b, truD_i, truD_s, truD_l, truD_t, dNot_b, dNeg_i, asInt_i, asBl_b, dSl_s, dSl_l, dSl_t, isStr_s, items_l, items_t, items_s, dInt_i, dInt_b, dIx_li, dIx_ti, dStarts_ss, dTuple_l, dTuple_t, aList_l, aList_t, dIn_cs, dNotIn_cs, valD_d, valB_d, valB_o, valB_w, ownOf_o, isi_int_n, isi_int_b, isi_int_i, isi_int_s, isi_int_l, isi_int_t, isi_int_d, isi_str_n, isi_str_b, isi_str_i, isi_str_s, isi_str_l, isi_str_t, isi_str_d, isi_bool_n, isi_bool_b, isi_bool_i, isi_bool_s, isi_bool_l, isi_bool_t, isi_bool_d, isi_list_n, isi_list_b, isi_list_i, isi_list_s, isi_list_l, isi_list_t, isi_list_d, isi_tuple_n, isi_tuple_b, isi_tuple_i, isi_tuple_s, isi_tuple_l, isi_tuple_t, isi_tuple_d, isi_dict_n, isi_dict_b, isi_dict_i, isi_dict_s, isi_dict_l, isi_dict_t, isi_dict_d, decide_eq_true_eq, Bool.not_eq_true, Bool.not_true, Bool.not_false, if_true, if_false, Bool.false_eq_true, and_true, true_and, decide_true, decide_false, ite_true, ite_false, reduceCtorEq]
    exact rest _
end W

namespace W
open L3
open L2 (atI ixN)
/-! fields -/
def flds (l : List Nat) : List (List Nat) := (splitC 32 l).filter fun p => !p.isEmpty
theorem splitC_app (c : Nat) : ∀ a b : List Nat, splitC c (a ++ c :: b) = splitC c a ++ splitC c b
  | [], b => by
    simp [splitC]
  | x :: a, b => by
    have ih := splitC_app c a b
    rw [List.cons_append]
    rw [splitC, splitC]
    split
    · rw [ih]; rfl
    · rw [ih]
      cases q : splitC c a with
      | nil => exact absurd q (splitC_ne c a)
      | cons p ps => rfl
theorem splitC_no {c : Nat} : ∀ {a : List Nat}, c ∉ a → splitC c a = [a]
  | [], _ => rfl
  | x :: a, h => by
    rw [splitC, if_neg fun e => h (by rw [e]; exact List.mem_cons_self), splitC_no fun z => h (List.mem_cons_of_mem _ z)]
theorem flds_app (a b : List Nat) : flds (a ++ 32 :: b) = flds a ++ flds b := by
  unfold flds
  rw [splitC_app, List.filter_append]
theorem flds_nil : flds [] = [] := rfl
theorem flds_one {p : List Nat} (h : 32 ∉ p) (hp : p ≠ []) : flds p = [p] := by
  unfold flds
  rw [splitC_no h]
  simp [hp]
theorem flds_blanks : ∀ k : Nat, flds (List.replicate k 32) = []
  | 0 => rfl
  | k + 1 => by
    rw [List.replicate_succ]
    have := flds_app [] (List.replicate k 32)
    rw [List.nil_append] at this
    rw [this, flds_nil, flds_blanks k]
    rfl
/-- a line at whose end the next part may stand -/
def shutL (l : List Nat) : Prop := l = [] ∨ ∃ a, l = a ++ [32]
theorem flds_shut {l : List Nat} (h : shutL l) (b : List Nat) : flds (l ++ b) = flds l ++ flds b := by
  rcases h with rfl | ⟨a, rfl⟩
  · rfl
  · rw [List.append_assoc, List.singleton_append, flds_app]
    rw [show a ++ [32] = a ++ 32 :: [] from rfl, flds_app, flds_nil, List.append_nil]
theorem shut_blanks (l : List Nat) (k : Nat) : shutL (l ++ List.replicate (k + 1) 32) := by
  right
  refine ⟨l ++ List.replicate k 32, ?_⟩
  rw [List.append_assoc, List.replicate_succ']
theorem flat_rep (k : Nat) (c : Nat) : (List.replicate k [c]).flatten = List.replicate k c := by
  induction k with
  | zero => rfl
  | succ k ih => rw [List.replicate_succ, List.flatten_cons, ih, List.replicate_succ]; rfl
theorem fields_ok {l : List Nat} {g : Store} (hl : l.length ≤ 1000) {Q : D → Store → Prop} (w : Q (.lst ((flds l).map .str)) g) : Ok (f_fields [.str l] g) Q := by
  unfold f_fields d_fields
  simp only [ok_forNil, ok_forCons, forK_nx, forK_ct, forK_bk, forK_rt, ok_eOp, ok_eUn, ok_aNil, ok_aCons, ok_eFn, ok_aFn, ok_eApp, ok_eC, ok_eL, ok_eSt, ok_eM1, ok_aM1, ok_oNone, ok_oSome, ok_eSl, ok_tOf, ok_tTru, ok_tNot, ok_tAnd, ok_tOr, ok_eAnd, ok_eOr, ok_eIf, ok_eChain, ok_eVar, ok_eVarB, ok_sSeq, seqK_nx, seqK_rt, seqK_bk, seqK_ct, ok_sSet, ok_sRet, ok_sIf, ok_sNext, ok_sDrop, ok_sApp, ok_sFreeze, ok_sUnp, ok_sAug, ok_sFor, ok_aLcE, ok_aItems, runK_rt, runK_nx, ok_runD, okO_some, okO_map, valD_d, valB_d, valB_o, valB_w, ownOf_o, asInt_i, asBl_b, start3, frz, sets, tgName, tgTup, tgsCons, tgsNil, wipe3, List.set_cons_zero, List.set_cons_succ, List.getElem?_cons_zero, List.getElem?_cons_succ, List.map_cons, List.map_nil, List.length_cons, List.length_nil, List.cons_append, List.nil_append, List.replicate_succ, List.replicate_zero, Nat.reduceSub, Nat.reduceAdd, Nat.reduceLT, okO_if, dAddA_ii, dAddA_ss, dAddA_ll, dAddA_tt, dAdd_ii, dAdd_ss, dSub_ii, dMul_ii, dMul_si, dMod_ii, dDiv_ii, dLt_ii, dLt_ss, dLe_ii, dLe_ss, dGt_ii, dGt_ss, dGe_ii, dGe_ss, dEq_ii, dEq_ss, dEq_bb, dEq_nn, dEq_ns, dEq_sn, dEq_ni, dEq_in, dNe_ii, dNe_ss, dNe_bb, dNe_nn, dNe_ns, dNe_sn, dNe_ni, dNe_in, dIs_n, dIsNot_n, dIs_b, dIsNot_b, dIs_i, dIsNot_i, dIs_s, dIsNot_s, dIs_l, dIsNot_l, dIs_t, dIsNot_t, dIs_d, dIsNot_d, dIs_o, dIsNot_o, dLen_s, dLen_l, dLen_t, dTup_d, dLst_d, truD_n, truD_b, truD_i, truD_s, truD_l, truD_t, dNot_b, dNeg_i, asInt_i, asBl_b, dSl_s, dSl_l, dSl_t, isStr_s, items_l, items_t, items_s, dInt_i, dInt_b, dIx_li, dIx_ti, dStarts_ss, dTuple_l, dTuple_t, aList_l, aList_t, dIn_cs, dNotIn_cs, valD_d, valB_d, valB_o, valB_w, ownOf_o, isi_int_n, isi_int_b, isi_int_i, isi_int_s, isi_int_l, isi_int_t, isi_int_d, isi_str_n, isi_str_b, isi_str_i, isi_str_s, isi_str_l, isi_str_t, isi_str_d, isi_bool_n, isi_bool_b, isi_bool_i, isi_bool_s, isi_bool_l, isi_bool_t, isi_bool_d, isi_list_n, isi_list_b, isi_list_i, isi_list_s, isi_list_l, isi_list_t, isi_list_d, isi_tuple_n, isi_tuple_b, isi_tuple_i, isi_tuple_s, isi_tuple_l, isi_tuple_t, isi_tuple_d, isi_dict_n, isi_dict_b, isi_dict_i, isi_dict_s, isi_dict_l, isi_dict_t, isi_dict_d, decide_eq_true_eq, Bool.not_eq_true, Bool.not_true, Bool.not_false, if_true, if_false, Bool.false_eq_true, and_true, true_and, decide_true, decide_false, ite_true, ite_false, reduceCtorEq]
  refine ⟨(splitC 32 l).map .str, ?_, ⟨?_, rfl⟩, ?_⟩
  · unfold aSplit
    dsimp only
    rw [if_pos ⟨by decide, by unfold BIG; omega⟩]
  · rw [List.length_map]
    have : ∀ l : List Nat, (splitC 32 l).length ≤ l.length + 1 := by
      intro l
      induction l with
      | nil => simp [splitC]
      | cons x r ih =>
        rw [splitC]
        split
        · simp; omega
        · split
          · simp
          · rename_i q
            rw [q] at ih
            simp at ih ⊢
            omega
    have := this l
    unfold BIG
    omega
  · refine Ok.of (x := (flds l).map .str) (g := g) ?_ w
    have := lc_filter (ρ := [some (.d (.str l)), none]) (g := g) (tg := tgName 1) (c := lt_fields_0) (e := le_fields_0) (f := fun d => d) (p := fun d => match d with | .str p => !p.isEmpty | _ => false) (ds := (splitC 32 l).map .str) fun d hd => by
      obtain ⟨p, _, rfl⟩ := List.mem_map.mp hd
      refine ⟨_, rfl, ?_, fun _ => ?_⟩
      · have e : Ok (lt_fields_0 (sets [some (.d (.str l)), none] [(1, .str p)]) g) fun z g' => z = (!p.isEmpty) ∧ g' = g := by
          simp only [ok_forNil, ok_forCons, forK_nx, forK_ct, forK_bk, forK_rt, ok_eOp, ok_eUn, ok_aNil, ok_aCons, ok_eFn, ok_aFn, ok_eApp, ok_eC, ok_eL, ok_eSt, ok_eM1, ok_aM1, ok_oNone, ok_oSome, ok_eSl, ok_tOf, ok_tTru, ok_tNot, ok_tAnd, ok_tOr, ok_eAnd, ok_eOr, ok_eIf, ok_eChain, ok_eVar, ok_eVarB, ok_sSeq, seqK_nx, seqK_rt, seqK_bk, seqK_ct, ok_sSet, ok_sRet, ok_sIf, ok_sNext, ok_sDrop, ok_sApp, ok_sFreeze, ok_sUnp, ok_sAug, ok_sFor, ok_aLcE, ok_aItems, runK_rt, runK_nx, ok_runD, okO_some, okO_map, valD_d, valB_d, valB_o, valB_w, ownOf_o, asInt_i, asBl_b, start3, frz, sets, tgName, tgTup, tgsCons, tgsNil, wipe3, List.set_cons_zero, List.set_cons_succ, List.getElem?_cons_zero, List.getElem?_cons_succ, List.map_cons, List.map_nil, List.length_cons, List.length_nil, List.cons_append, List.nil_append, List.replicate_succ, List.replicate_zero, Nat.reduceSub, Nat.reduceAdd, Nat.reduceLT, okO_if, dAddA_ii, dAddA_ss, dAddA_ll, dAddA_tt, dAdd_ii, dAdd_ss, dSub_ii, dMul_ii, dMul_si, dMod_ii, dDiv_ii, dLt_ii, dLt_ss, dLe_ii, dLe_ss, dGt_ii, dGt_ss, dGe_ii, dGe_ss, dEq_ii, dEq_ss, dEq_bb, dEq_nn, dEq_ns, dEq_sn, dEq_ni, dEq_in, dNe_ii, dNe_ss, dNe_bb, dNe_nn, dNe_ns, dNe_sn, dNe_ni, dNe_in, dIs_n, dIsNot_n, dIs_b, dIsNot_b, dIs_i, dIsNot_i, dIs_s, dIsNot_s, dIs_l, dIsNot_l, dIs_t, dIsNot_t, dIs_d, dIsNot_d, dIs_o, dIsNot_o, dLen_s, dLen_l, dLen_t, dTup_d, dLst_d, truD_n, truD_b, truD_i, truD_s, truD_l, truD_t, dNot_b, dNeg_i, asInt_i, asBl_b, dSl_s, dSl_l, dSl_t, isStr_s, items_l, items_t, items_s, dInt_i, dInt_b, dIx_li, dIx_ti, dStarts_ss, dTuple_l, dTuple_t, aList_l, aList_t, dIn_cs, dNotIn_cs, valD_d, valB_d, valB_o, valB_w, ownOf_o, isi_int_n, isi_int_b, isi_int_i, isi_int_s, isi_int_l, isi_int_t, isi_int_d, isi_str_n, isi_str_b, isi_str_i, isi_str_s, isi_str_l, isi_str_t, isi_str_d, isi_bool_n, isi_bool_b, isi_bool_i, isi_bool_s, isi_bool_l, isi_bool_t, isi_bool_d, isi_list_n, isi_list_b, isi_list_i, isi_list_s, isi_list_l, isi_list_t, isi_list_d, isi_tuple_n, isi_tuple_b, isi_tuple_i, isi_tuple_s, isi_tuple_l, isi_tuple_t, isi_tuple_d, isi_dict_n, isi_dict_b, isi_dict_i, isi_dict_s, isi_dict_l, isi_dict_t, isi_dict_d, decide_eq_true_eq, Bool.not_eq_true, Bool.not_true, Bool.not_false, if_true, if_false, Bool.false_eq_true, and_true, true_and, decide_true, decide_false, ite_true, ite_false, reduceCtorEq, lt_fields_0]
          cases p <;> simp
        obtain ⟨z, g', e, rfl, rfl⟩ := e
        exact e
      · have e : Ok (le_fields_0 (sets [some (.d (.str l)), none] [(1, .str p)]) g) fun z g' => z = .str p ∧ g' = g := by
          simp only [ok_forNil, ok_forCons, forK_nx, forK_ct, forK_bk, forK_rt, ok_eOp, ok_eUn, ok_aNil, ok_aCons, ok_eFn, ok_aFn, ok_eApp, ok_eC, ok_eL, ok_eSt, ok_eM1, ok_aM1, ok_oNone, ok_oSome, ok_eSl, ok_tOf, ok_tTru, ok_tNot, ok_tAnd, ok_tOr, ok_eAnd, ok_eOr, ok_eIf, ok_eChain, ok_eVar, ok_eVarB, ok_sSeq, seqK_nx, seqK_rt, seqK_bk, seqK_ct, ok_sSet, ok_sRet, ok_sIf, ok_sNext, ok_sDrop, ok_sApp, ok_sFreeze, ok_sUnp, ok_sAug, ok_sFor, ok_aLcE, ok_aItems, runK_rt, runK_nx, ok_runD, okO_some, okO_map, valD_d, valB_d, valB_o, valB_w, ownOf_o, asInt_i, asBl_b, start3, frz, sets, tgName, tgTup, tgsCons, tgsNil, wipe3, List.set_cons_zero, List.set_cons_succ, List.getElem?_cons_zero, List.getElem?_cons_succ, List.map_cons, List.map_nil, List.length_cons, List.length_nil, List.cons_append, List.nil_append, List.replicate_succ, List.replicate_zero, Nat.reduceSub, Nat.reduceAdd, Nat.reduceLT, okO_if, dAddA_ii, dAddA_ss, dAddA_ll, dAddA_tt, dAdd_ii, dAdd_ss, dSub_ii, dMul_ii, dMul_si, dMod_ii, dDiv_ii, dLt_ii, dLt_ss, dLe_ii, dLe_ss, dGt_ii, dGt_ss, dGe_ii, dGe_ss, dEq_ii, dEq_ss, dEq_bb, dEq_nn, dEq_ns, dEq_sn, dEq_ni, dEq_in, dNe_ii, dNe_ss, dNe_bb, dNe_nn, dNe_ns, dNe_sn, dNe_ni, dNe_in, dIs_n, dIsNot_n, dIs_b, dIsNot_b, dIs_i, dIsNot_i, dIs_s, dIsNot_s, dIs_l, dIsNot_l, dIs_t, dIsNot_t, dIs_d, dIsNot_d, dIs_o, dIsNot_o, dLen_s, dLen_l, dLen_t, dTup_d, dLst_d, truD_n, truD_b, truD_i, truD_s, truD_l, truD_t, dNot_b, dNeg_i, asInt_i, asBl_b, dSl_s, dSl_l, dSl_t, isStr_s, items_l, items_t, items_s, dInt_i, dInt_b, dIx_li, dIx_ti, dStarts_ss, dTuple_l, dTuple_t, aList_l, aList_t, dIn_cs, dNotIn_cs, valD_d, valB_d, valB_o, valB_w, ownOf_o, isi_int_n, isi_int_b, isi_int_i, isi_int_s, isi_int_l, isi_int_t, isi_int_d, isi_str_n, isi_str_b, isi_str_i, isi_str_s, isi_str_l, isi_str_t, isi_str_d, isi_bool_n, isi_bool_b, isi_bool_i, isi_bool_s, isi_bool_l, isi_bool_t, isi_bool_d, isi_list_n, isi_list_b, isi_list_i, isi_list_s, isi_list_l, isi_list_t, isi_list_d, isi_tuple_n, isi_tuple_b, isi_tuple_i, isi_tuple_s, isi_tuple_l, isi_tuple_t, isi_tuple_d, isi_dict_n, isi_dict_b, isi_dict_i, isi_dict_s, isi_dict_l, isi_dict_t, isi_dict_d, decide_eq_true_eq, Bool.not_eq_true, Bool.not_true, Bool.not_false, if_true, if_false, Bool.false_eq_true, and_true, true_and, decide_true, decide_false, ite_true, ite_false, reduceCtorEq, le_fields_0]
        obtain ⟨z, g', e, rfl, rfl⟩ := e
        exact e
    rw [this]
    unfold flds
    simp [List.filter_map, Function.comp_def]
def fieldV (l : List Nat) (k : Nat) : List Nat := if k = 0 then l else ((flds l)[k - 1]?).getD []
theorem field_ok {l : List Nat} {k : Nat} {g : Store} (hl : l.length ≤ 1000) {Q : D → Store → Prop} (w : Q (.str (fieldV l k)) g) : Ok (f_field [.str l, .int k] g) Q := by
  unfold f_field d_field
  simp only [ok_forNil, ok_forCons, forK_nx, forK_ct, forK_bk, forK_rt, ok_eOp, ok_eUn, ok_aNil, ok_aCons, ok_eFn, ok_aFn, ok_eApp, ok_eC, ok_eL, ok_eSt, ok_eM1, ok_aM1, ok_oNone, ok_oSome, ok_eSl, ok_tOf, ok_tTru, ok_tNot, ok_tAnd, ok_tOr, ok_eAnd, ok_eOr, ok_eIf, ok_eChain, ok_eVar, ok_eVarB, ok_sSeq, seqK_rt, seqK_bk, seqK_ct, ok_sSet, ok_sRet, ok_sIf, ok_sNext, ok_sDrop, ok_sApp, ok_sFreeze, ok_sUnp, ok_sAug, ok_sFor, ok_aLcE, ok_aItems, runK_rt, runK_nx, ok_runD, okO_some, okO_map, valD_d, valB_d, valB_o, valB_w, ownOf_o, asInt_i, asBl_b, start3, frz, sets, tgName, tgTup, tgsCons, tgsNil, wipe3, List.set_cons_zero, List.set_cons_succ, List.getElem?_cons_zero, List.getElem?_cons_succ, List.map_cons, List.map_nil, List.length_cons, List.length_nil, List.cons_append, List.nil_append, List.replicate_succ, List.replicate_zero, Nat.reduceSub, Nat.reduceAdd, Nat.reduceLT, okO_if, dAddA_ii, dAddA_ss, dAddA_ll, dAddA_tt, dAdd_ii, dAdd_ss, dSub_ii, dMul_ii, dMul_si, dMod_ii, dDiv_ii, dLt_ii, dLt_ss, dLe_ii, dLe_ss, dGt_ii, dGt_ss, dGe_ii, dGe_ss, dEq_ii, dEq_ss, dEq_bb, dEq_nn, dEq_ns, dEq_sn, dEq_ni, dEq_in, dNe_ii, dNe_ss, dNe_bb, dNe_nn, dNe_ns, dNe_sn, dNe_ni, dNe_in, dIs_n, dIsNot_n, dIs_b, dIsNot_b, dIs_i, dIsNot_i, dIs_s, dIsNot_s, dIs_l, dIsNot_l, dIs_t, dIsNot_t, dIs_d, dIsNot_d, dIs_o, dIsNot_o, dLen_s, dLen_l, dLen_t, dTup_d, dLst_d, truD_n, truD_b, truD_i, truD_s, truD_l, truD_t, dNot_b, dNeg_i, asInt_i, asBl_b, dSl_s, dSl_l, dSl_t, isStr_s, items_l, items_t, items_s, dInt_i, dInt_b, dIx_li, dIx_ti, dStarts_ss, dTuple_l, dTuple_t, aList_l, aList_t, dIn_cs, dNotIn_cs, valD_d, valB_d, valB_o, valB_w, ownOf_o, isi_int_n, isi_int_b, isi_int_i, isi_int_s, isi_int_l, isi_int_t, isi_int_d, isi_str_n, isi_str_b, isi_str_i, isi_str_s, isi_str_l, isi_str_t, isi_str_d, isi_bool_n, isi_bool_b, isi_bool_i, isi_bool_s, isi_bool_l, isi_bool_t, isi_bool_d, isi_list_n, isi_list_b, isi_list_i, isi_list_s, isi_list_l, isi_list_t, isi_list_d, isi_tuple_n, isi_tuple_b, isi_tuple_i, isi_tuple_s, isi_tuple_l, isi_tuple_t, isi_tuple_d, isi_dict_n, isi_dict_b, isi_dict_i, isi_dict_s, isi_dict_l, isi_dict_t, isi_dict_d, decide_eq_true_eq, Bool.not_eq_true, Bool.not_true, Bool.not_false, if_true, if_false, Bool.false_eq_true, and_true, true_and, decide_true, decide_false, ite_true, ite_false, reduceCtorEq]
  unfold fieldV at w
  by_cases h0 : k = 0
  · subst h0
    rw [if_pos (by rfl)]
    rw [if_pos rfl] at w
    exact w
  · rw [if_neg (by omega), seqK_nx]
    rw [if_neg h0] at w
    simp only [ok_forNil, ok_forCons, forK_nx, forK_ct, forK_bk, forK_rt, ok_eOp, ok_eUn, ok_aNil, ok_aCons, ok_eFn, ok_aFn, ok_eApp, ok_eC, ok_eL, ok_eSt, ok_eM1, ok_aM1, ok_oNone, ok_oSome, ok_eSl, ok_tOf, ok_tTru, ok_tNot, ok_tAnd, ok_tOr, ok_eAnd, ok_eOr, ok_eIf, ok_eChain, ok_eVar, ok_eVarB, ok_sSeq, seqK_rt, seqK_bk, seqK_ct, ok_sSet, ok_sRet, ok_sIf, ok_sNext, ok_sDrop, ok_sApp, ok_sFreeze, ok_sUnp, ok_sAug, ok_sFor, ok_aLcE, ok_aItems, runK_rt, runK_nx, ok_runD, okO_some, okO_map, valD_d, valB_d, valB_o, valB_w, ownOf_o, asInt_i, asBl_b, start3, frz, sets, tgName, tgTup, tgsCons, tgsNil, wipe3, List.set_cons_zero, List.set_cons_succ, List.getElem?_cons_zero, List.getElem?_cons_succ, List.map_cons, List.map_nil, List.length_cons, List.length_nil, List.cons_append, List.nil_append, List.replicate_succ, List.replicate_zero, Nat.reduceSub, Nat.reduceAdd, Nat.reduceLT, okO_if, dAddA_ii, dAddA_ss, dAddA_ll, dAddA_tt, dAdd_ii, dAdd_ss, dSub_ii, dMul_ii, dMul_si, dMod_ii, dDiv_ii, dLt_ii, dLt_ss, dLe_ii, dLe_ss, dGt_ii, dGt_ss, dGe_ii, dGe_ss, dEq_ii, dEq_ss, dEq_bb, dEq_nn, dEq_ns, dEq_sn, dEq_ni, dEq_in, dNe_ii, dNe_ss, dNe_bb, dNe_nn, dNe_ns, dNe_sn, dNe_ni, dNe_in, dIs_n, dIsNot_n, dIs_b, dIsNot_b, dIs_i, dIsNot_i, dIs_s, dIsNot_s, dIs_l, dIsNot_l, dIs_t, dIsNot_t, dIs_d, dIsNot_d, dIs_o, dIsNot_o, dLen_s, dLen_l, dLen_t, dTup_d, dLst_d, truD_n, truD_b, truD_i, truD_s, truD_l, truD_t, dNot_b, dNeg_i, asInt_i, asBl_b, dSl_s, dSl_l, dSl_t, isStr_s, items_l, items_t, items_s, dInt_i, dInt_b, dIx_li, dIx_ti, dStarts_ss, dTuple_l, dTuple_t, aList_l, aList_t, dIn_cs, dNotIn_cs, valD_d, valB_d, valB_o, valB_w, ownOf_o, isi_int_n, isi_int_b, isi_int_i, isi_int_s, isi_int_l, isi_int_t, isi_int_d, isi_str_n, isi_str_b, isi_str_i, isi_str_s, isi_str_l, isi_str_t, isi_str_d, isi_bool_n, isi_bool_b, isi_bool_i, isi_bool_s, isi_bool_l, isi_bool_t, isi_bool_d, isi_list_n, isi_list_b, isi_list_i, isi_list_s, isi_list_l, isi_list_t, isi_list_d, isi_tuple_n, isi_tuple_b, isi_tuple_i, isi_tuple_s, isi_tuple_l, isi_tuple_t, isi_tuple_d, isi_dict_n, isi_dict_b, isi_dict_i, isi_dict_s, isi_dict_l, isi_dict_t, isi_dict_d, decide_eq_true_eq, Bool.not_eq_true, Bool.not_true, Bool.not_false, if_true, if_false, Bool.false_eq_true, and_true, true_and, decide_true, decide_false, ite_true, ite_false, reduceCtorEq]
    refine fields_ok hl ?_
    rw [seqK_nx]
    simp only [ok_forNil, ok_forCons, forK_nx, forK_ct, forK_bk, forK_rt, ok_eOp, ok_eUn, ok_aNil, ok_aCons, ok_eFn, ok_aFn, ok_eApp, ok_eC, ok_eL, ok_eSt, ok_eM1, ok_aM1, ok_oNone, ok_oSome, ok_eSl, ok_tOf, ok_tTru, ok_tNot, ok_tAnd, ok_tOr, ok_eAnd, ok_eOr, ok_eIf, ok_eChain, ok_eVar, ok_eVarB, ok_sSeq, seqK_rt, seqK_bk, seqK_ct, ok_sSet, ok_sRet, ok_sIf, ok_sNext, ok_sDrop, ok_sApp, ok_sFreeze, ok_sUnp, ok_sAug, ok_sFor, ok_aLcE, ok_aItems, runK_rt, runK_nx, ok_runD, okO_some, okO_map, valD_d, valB_d, valB_o, valB_w, ownOf_o, asInt_i, asBl_b, start3, frz, sets, tgName, tgTup, tgsCons, tgsNil, wipe3, List.set_cons_zero, List.set_cons_succ, List.getElem?_cons_zero, List.getElem?_cons_succ, List.map_cons, List.map_nil, List.length_cons, List.length_nil, List.cons_append, List.nil_append, List.replicate_succ, List.replicate_zero, Nat.reduceSub, Nat.reduceAdd, Nat.reduceLT, okO_if, dAddA_ii, dAddA_ss, dAddA_ll, dAddA_tt, dAdd_ii, dAdd_ss, dSub_ii, dMul_ii, dMul_si, dMod_ii, dDiv_ii, dLt_ii, dLt_ss, dLe_ii, dLe_ss, dGt_ii, dGt_ss, dGe_ii, dGe_ss, dEq_ii, dEq_ss, dEq_bb, dEq_nn, dEq_ns, dEq_sn, dEq_ni, dEq_in, dNe_ii, dNe_ss, dNe_bb, dNe_nn, dNe_ns, dNe_sn, dNe_ni, dNe_in, dIs_n, dIsNot_n, dIs_b, dIsNot_b, dIs_i, dIsNot_i, dIs_s, dIsNot_s, dIs_l, dIsNot_l, dIs_t, dIsNot_t, dIs_d, dIsNot_d, dIs_o, dIsNot_o, dLen_s, dLen_l, dLen_t, dTup_d, dLst_d, truD_n, truD_b, truD_i, truD_s, truD_l, truD_t, dNot_b, dNeg_i, asInt_i, asBl_b, dSl_s, dSl_l, dSl_t, isStr_s, items_l, items_t, items_s, dInt_i, dInt_b, dIx_li, dIx_ti, dStarts_ss, dTuple_l, dTuple_t, aList_l, aList_t, dIn_cs, dNotIn_cs, valD_d, valB_d, valB_o, valB_w, ownOf_o, isi_int_n, isi_int_b, isi_int_i, isi_int_s, isi_int_l, isi_int_t, isi_int_d, isi_str_n, isi_str_b, isi_str_i, isi_str_s, isi_str_l, isi_str_t, isi_str_d, isi_bool_n, isi_bool_b, isi_bool_i, isi_bool_s, isi_bool_l, isi_bool_t, isi_bool_d, isi_list_n, isi_list_b, isi_list_i, isi_list_s, isi_list_l, isi_list_t, isi_list_d, isi_tuple_n, isi_tuple_b, isi_tuple_i, isi_tuple_s, isi_tuple_l, isi_tuple_t, isi_tuple_d, isi_dict_n, isi_dict_b, isi_dict_i, isi_dict_s, isi_dict_l, isi_dict_t, isi_dict_d, decide_eq_true_eq, Bool.not_eq_true, Bool.not_true, Bool.not_false, if_true, if_false, Bool.false_eq_true, and_true, true_and, decide_true, decide_false, ite_true, ite_false, reduceCtorEq, List.length_map]
    by_cases h1 : (flds l).length < k
    · rw [if_pos (by omega)]
      rw [List.getElem?_eq_none (by omega)] at w
      exact w
    · rw [if_neg (by omega), seqK_nx]
      simp only [ok_forNil, ok_forCons, forK_nx, forK_ct, forK_bk, forK_rt, ok_eOp, ok_eUn, ok_aNil, ok_aCons, ok_eFn, ok_aFn, ok_eApp, ok_eC, ok_eL, ok_eSt, ok_eM1, ok_aM1, ok_oNone, ok_oSome, ok_eSl, ok_tOf, ok_tTru, ok_tNot, ok_tAnd, ok_tOr, ok_eAnd, ok_eOr, ok_eIf, ok_eChain, ok_eVar, ok_eVarB, ok_sSeq, seqK_rt, seqK_bk, seqK_ct, ok_sSet, ok_sRet, ok_sIf, ok_sNext, ok_sDrop, ok_sApp, ok_sFreeze, ok_sUnp, ok_sAug, ok_sFor, ok_aLcE, ok_aItems, runK_rt, runK_nx, ok_runD, okO_some, okO_map, valD_d, valB_d, valB_o, valB_w, ownOf_o, asInt_i, asBl_b, start3, frz, sets, tgName, tgTup, tgsCons, tgsNil, wipe3, List.set_cons_zero, List.set_cons_succ, List.getElem?_cons_zero, List.getElem?_cons_succ, List.map_cons, List.map_nil, List.length_cons, List.length_nil, List.cons_append, List.nil_append, List.replicate_succ, List.replicate_zero, Nat.reduceSub, Nat.reduceAdd, Nat.reduceLT, okO_if, dAddA_ii, dAddA_ss, dAddA_ll, dAddA_tt, dAdd_ii, dAdd_ss, dSub_ii, dMul_ii, dMul_si, dMod_ii, dDiv_ii, dLt_ii, dLt_ss, dLe_ii, dLe_ss, dGt_ii, dGt_ss, dGe_ii, dGe_ss, dEq_ii, dEq_ss, dEq_bb, dEq_nn, dEq_ns, dEq_sn, dEq_ni, dEq_in, dNe_ii, dNe_ss, dNe_bb, dNe_nn, dNe_ns, dNe_sn, dNe_ni, dNe_in, dIs_n, dIsNot_n, dIs_b, dIsNot_b, dIs_i, dIsNot_i, dIs_s, dIsNot_s, dIs_l, dIsNot_l, dIs_t, dIsNot_t, dIs_d, dIsNot_d, dIs_o, dIsNot_o, dLen_s, dLen_l, dLen_t, dTup_d, dLst_d, truD_n, truD_b, truD_i, truD_s, truD_l, truD_t, dNot_b, dNeg_i, asInt_i, asBl_b, dSl_s, dSl_l, dSl_t, isStr_s, items_l, items_t, items_s, dInt_i, dInt_b, dIx_li, dIx_ti, dStarts_ss, dTuple_l, dTuple_t, aList_l, aList_t, dIn_cs, dNotIn_cs, valD_d, valB_d, valB_o, valB_w, ownOf_o, isi_int_n, isi_int_b, isi_int_i, isi_int_s, isi_int_l, isi_int_t, isi_int_d, isi_str_n, isi_str_b, isi_str_i, isi_str_s, isi_str_l, isi_str_t, isi_str_d, isi_bool_n, isi_bool_b, isi_bool_i, isi_bool_s, isi_bool_l, isi_bool_t, isi_bool_d, isi_list_n, isi_list_b, isi_list_i, isi_list_s, isi_list_l, isi_list_t, isi_list_d, isi_tuple_n, isi_tuple_b, isi_tuple_i, isi_tuple_s, isi_tuple_l, isi_tuple_t, isi_tuple_d, isi_dict_n, isi_dict_b, isi_dict_i, isi_dict_s, isi_dict_l, isi_dict_t, isi_dict_d, decide_eq_true_eq, Bool.not_eq_true, Bool.not_true, Bool.not_false, if_true, if_false, Bool.false_eq_true, and_true, true_and, decide_true, decide_false, ite_true, ite_false, reduceCtorEq]
      have hk : k - 1 < (flds l).length := by omega
      rw [List.getElem?_eq_getElem hk] at w
      refine ⟨.str (flds l)[k - 1], ?_, w⟩
      rw [show (k : Int) - 1 = ((k - 1 : Nat) : Int) by omega]
      exact L2.atI_nat (by rw [List.getElem?_map, List.getElem?_eq_getElem hk]; rfl)
theorem range2_ok {i j : Int} (h0 : 0 ≤ i) (h1 : i ≤ 1000000) (h2 : 0 ≤ j) (h3 : j ≤ 1000000) : dRange2 [.int i, .int j] = some (rangeD i (j - i).toNat) := by
  unfold dRange2
  dsimp only
  rw [if_pos ⟨by omega, h1, by omega, h3⟩]
theorem law_fields_ok {l : List Nat} {g : Store} (hl : l.length ≤ 1000) {Q : D → Store → Prop} (w : Q (.bl true) g) : Ok (f__law_fields [.str l, .lst ((flds l).map .str)] g) Q := by
  unfold f__law_fields d__law_fields
  simp only [ok_forNil, ok_forCons, forK_nx, forK_ct, forK_bk, forK_rt, ok_eOp, ok_eUn, ok_aNil, ok_aCons, ok_eFn, ok_aFn, ok_eApp, ok_eC, ok_eL, ok_eSt, ok_eM1, ok_aM1, ok_oNone, ok_oSome, ok_eSl, ok_tOf, ok_tTru, ok_tNot, ok_tAnd, ok_tOr, ok_eAnd, ok_eOr, ok_eIf, ok_eChain, ok_eVar, ok_eVarB, ok_sSeq, seqK_rt, seqK_bk, seqK_ct, ok_sSet, ok_sRet, ok_sIf, ok_sNext, ok_sDrop, ok_sApp, ok_sFreeze, ok_sUnp, ok_sAug, ok_sFor, ok_aLcE, ok_aItems, runK_rt, runK_nx, ok_runD, okO_some, okO_map, valD_d, valB_d, valB_o, valB_w, ownOf_o, asInt_i, asBl_b, start3, frz, sets, tgName, tgTup, tgsCons, tgsNil, wipe3, List.set_cons_zero, List.set_cons_succ, List.getElem?_cons_zero, List.getElem?_cons_succ, List.map_cons, List.map_nil, List.length_cons, List.length_nil, List.cons_append, List.nil_append, List.replicate_succ, List.replicate_zero, Nat.reduceSub, Nat.reduceAdd, Nat.reduceLT, okO_if, dAddA_ii, dAddA_ss, dAddA_ll, dAddA_tt, dAdd_ii, dAdd_ss, dSub_ii, dMul_ii, dMul_si, dMod_ii, dDiv_ii, dLt_ii, dLt_ss, dLe_ii, dLe_ss, dGt_ii, dGt_ss, dGe_ii, dGe_ss, dEq_ii, dEq_ss, dEq_bb, dEq_nn, dEq_ns, dEq_sn, dEq_ni, dEq_in, dNe_ii, dNe_ss, dNe_bb, dNe_nn, dNe_ns, dNe_sn, dNe_ni, dNe_in, dIs_n, dIsNot_n, dIs_b, dIsNot_b, dIs_i, dIsNot_i, dIs_s, dIsNot_s, dIs_l, dIsNot_l, dIs_t, dIsNot_t, dIs_d, dIsNot_d, dIs_o, dIsNot_o, dLen_s, dLen_l, dLen_t, dTup_d, dLst_d, truD_n, truD_b, truD_i, truD_s, truD_l, truD_t, dNot_b, dNeg_i, asInt_i, asBl_b, dSl_s, dSl_l, dSl_t, isStr_s, items_l, items_t, items_s, dInt_i, dInt_b, dIx_li, dIx_ti, dStarts_ss, dTuple_l, dTuple_t, aList_l, aList_t, dIn_cs, dNotIn_cs, valD_d, valB_d, valB_o, valB_w, ownOf_o, isi_int_n, isi_int_b, isi_int_i, isi_int_s, isi_int_l, isi_int_t, isi_int_d, isi_str_n, isi_str_b, isi_str_i, isi_str_s, isi_str_l, isi_str_t, isi_str_d, isi_bool_n, isi_bool_b, isi_bool_i, isi_bool_s, isi_bool_l, isi_bool_t, isi_bool_d, isi_list_n, isi_list_b, isi_list_i, isi_list_s, isi_list_l, isi_list_t, isi_list_d, isi_tuple_n, isi_tuple_b, isi_tuple_i, isi_tuple_s, isi_tuple_l, isi_tuple_t, isi_tuple_d, isi_dict_n, isi_dict_b, isi_dict_i, isi_dict_s, isi_dict_l, isi_dict_t, isi_dict_d, decide_eq_true_eq, Bool.not_eq_true, Bool.not_true, Bool.not_false, if_true, if_false, Bool.false_eq_true, and_true, true_and, decide_true, decide_false, ite_true, ite_false, reduceCtorEq]
  refine field_ok (k := 0) hl ?_
  simp only [ok_forNil, ok_forCons, forK_nx, forK_ct, forK_bk, forK_rt, ok_eOp, ok_eUn, ok_aNil, ok_aCons, ok_eFn, ok_aFn, ok_eApp, ok_eC, ok_eL, ok_eSt, ok_eM1, ok_aM1, ok_oNone, ok_oSome, ok_eSl, ok_tOf, ok_tTru, ok_tNot, ok_tAnd, ok_tOr, ok_eAnd, ok_eOr, ok_eIf, ok_eChain, ok_eVar, ok_eVarB, ok_sSeq, seqK_rt, seqK_bk, seqK_ct, ok_sSet, ok_sRet, ok_sIf, ok_sNext, ok_sDrop, ok_sApp, ok_sFreeze, ok_sUnp, ok_sAug, ok_sFor, ok_aLcE, ok_aItems, runK_rt, runK_nx, ok_runD, okO_some, okO_map, valD_d, valB_d, valB_o, valB_w, ownOf_o, asInt_i, asBl_b, start3, frz, sets, tgName, tgTup, tgsCons, tgsNil, wipe3, List.set_cons_zero, List.set_cons_succ, List.getElem?_cons_zero, List.getElem?_cons_succ, List.map_cons, List.map_nil, List.length_cons, List.length_nil, List.cons_append, List.nil_append, List.replicate_succ, List.replicate_zero, Nat.reduceSub, Nat.reduceAdd, Nat.reduceLT, okO_if, dAddA_ii, dAddA_ss, dAddA_ll, dAddA_tt, dAdd_ii, dAdd_ss, dSub_ii, dMul_ii, dMul_si, dMod_ii, dDiv_ii, dLt_ii, dLt_ss, dLe_ii, dLe_ss, dGt_ii, dGt_ss, dGe_ii, dGe_ss, dEq_ii, dEq_ss, dEq_bb, dEq_nn, dEq_ns, dEq_sn, dEq_ni, dEq_in, dNe_ii, dNe_ss, dNe_bb, dNe_nn, dNe_ns, dNe_sn, dNe_ni, dNe_in, dIs_n, dIsNot_n, dIs_b, dIsNot_b, dIs_i, dIsNot_i, dIs_s, dIsNot_s, dIs_l, dIsNot_l, dIs_t, dIsNot_t, dIs_d, dIsNot_d, dIs_o, dIsNot_o, dLen_s, dLen_l, dLen_t, dTup_d, dLst_d, truD_n, truD_b, truD_i, truD_s, truD_l, truD_t, dNot_b, dNeg_i, asInt_i, asBl_b, dSl_s, dSl_l, dSl_t, isStr_s, items_l, items_t, items_s, dInt_i, dInt_b, dIx_li, dIx_ti, dStarts_ss, dTuple_l, dTuple_t, aList_l, aList_t, dIn_cs, dNotIn_cs, valD_d, valB_d, valB_o, valB_w, ownOf_o, isi_int_n, isi_int_b, isi_int_i, isi_int_s, isi_int_l, isi_int_t, isi_int_d, isi_str_n, isi_str_b, isi_str_i, isi_str_s, isi_str_l, isi_str_t, isi_str_d, isi_bool_n, isi_bool_b, isi_bool_i, isi_bool_s, isi_bool_l, isi_bool_t, isi_bool_d, isi_list_n, isi_list_b, isi_list_i, isi_list_s, isi_list_l, isi_list_t, isi_list_d, isi_tuple_n, isi_tuple_b, isi_tuple_i, isi_tuple_s, isi_tuple_l, isi_tuple_t, isi_tuple_d, isi_dict_n, isi_dict_b, isi_dict_i, isi_dict_s, isi_dict_l, isi_dict_t, isi_dict_d, decide_eq_true_eq, Bool.not_eq_true, Bool.not_true, Bool.not_false, if_true, if_false, Bool.false_eq_true, and_true, true_and, decide_true, decide_false, ite_true, ite_false, reduceCtorEq]
  rw [if_neg (by simp [fieldV]), seqK_nx]
  simp only [ok_forNil, ok_forCons, forK_nx, forK_ct, forK_bk, forK_rt, ok_eOp, ok_eUn, ok_aNil, ok_aCons, ok_eFn, ok_aFn, ok_eApp, ok_eC, ok_eL, ok_eSt, ok_eM1, ok_aM1, ok_oNone, ok_oSome, ok_eSl, ok_tOf, ok_tTru, ok_tNot, ok_tAnd, ok_tOr, ok_eAnd, ok_eOr, ok_eIf, ok_eChain, ok_eVar, ok_eVarB, ok_sSeq, seqK_rt, seqK_bk, seqK_ct, ok_sSet, ok_sRet, ok_sIf, ok_sNext, ok_sDrop, ok_sApp, ok_sFreeze, ok_sUnp, ok_sAug, ok_sFor, ok_aLcE, ok_aItems, runK_rt, runK_nx, ok_runD, okO_some, okO_map, valD_d, valB_d, valB_o, valB_w, ownOf_o, asInt_i, asBl_b, start3, frz, sets, tgName, tgTup, tgsCons, tgsNil, wipe3, List.set_cons_zero, List.set_cons_succ, List.getElem?_cons_zero, List.getElem?_cons_succ, List.map_cons, List.map_nil, List.length_cons, List.length_nil, List.cons_append, List.nil_append, List.replicate_succ, List.replicate_zero, Nat.reduceSub, Nat.reduceAdd, Nat.reduceLT, okO_if, dAddA_ii, dAddA_ss, dAddA_ll, dAddA_tt, dAdd_ii, dAdd_ss, dSub_ii, dMul_ii, dMul_si, dMod_ii, dDiv_ii, dLt_ii, dLt_ss, dLe_ii, dLe_ss, dGt_ii, dGt_ss, dGe_ii, dGe_ss, dEq_ii, dEq_ss, dEq_bb, dEq_nn, dEq_ns, dEq_sn, dEq_ni, dEq_in, dNe_ii, dNe_ss, dNe_bb, dNe_nn, dNe_ns, dNe_sn, dNe_ni, dNe_in, dIs_n, dIsNot_n, dIs_b, dIsNot_b, dIs_i, dIsNot_i, dIs_s, dIsNot_s, dIs_l, dIsNot_l, dIs_t, dIsNot_t, dIs_d, dIsNot_d, dIs_o, dIsNot_o, dLen_s, dLen_l, dLen_t, dTup_d, dLst_d, truD_n, truD_b, truD_i, truD_s, truD_l, truD_t, dNot_b, dNeg_i, asInt_i, asBl_b, dSl_s, dSl_l, dSl_t, isStr_s, items_l, items_t, items_s, dInt_i, dInt_b, dIx_li, dIx_ti, dStarts_ss, dTuple_l, dTuple_t, aList_l, aList_t, dIn_cs, dNotIn_cs, valD_d, valB_d, valB_o, valB_w, ownOf_o, isi_int_n, isi_int_b, isi_int_i, isi_int_s, isi_int_l, isi_int_t, isi_int_d, isi_str_n, isi_str_b, isi_str_i, isi_str_s, isi_str_l, isi_str_t, isi_str_d, isi_bool_n, isi_bool_b, isi_bool_i, isi_bool_s, isi_bool_l, isi_bool_t, isi_bool_d, isi_list_n, isi_list_b, isi_list_i, isi_list_s, isi_list_l, isi_list_t, isi_list_d, isi_tuple_n, isi_tuple_b, isi_tuple_i, isi_tuple_s, isi_tuple_l, isi_tuple_t, isi_tuple_d, isi_dict_n, isi_dict_b, isi_dict_i, isi_dict_s, isi_dict_l, isi_dict_t, isi_dict_d, decide_eq_true_eq, Bool.not_eq_true, Bool.not_true, Bool.not_false, if_true, if_false, Bool.false_eq_true, and_true, true_and, decide_true, decide_false, ite_true, ite_false, reduceCtorEq]
  refine ⟨_, range2_ok (by decide) (by decide) (by decide) (by decide), ?_⟩
  refine ok_for (fun ds ρ g' => g' = g ∧ (∀ d ∈ ds, ∃ k : Nat, 1 ≤ k ∧ d = .int k) ∧ ∃ a b, ρ = [some (.d (.str l)), some (.d (.lst ((flds l).map .str))), a, b]) ⟨rfl, fun d hd => ?_, none, none, rfl⟩ (fun d r ρ g' hJ => ?_) (fun ρ g' hJ => ?_)
  · obtain ⟨i, _, rfl⟩ := mem_range hd
    exact ⟨1 + i, by omega, by push_cast; rfl⟩
  · obtain ⟨rfl, hds, a, b, rfl⟩ := hJ
    obtain ⟨k, hk, rfl⟩ := hds d List.mem_cons_self
    refine ⟨_, rfl, ?_⟩
    have goal : ∀ (x : List Nat), x = fieldV l k → Ok (sIf (tOf (eOp dNe (eApp f_field (aCons (eVar 0) (aCons (eVar 2) aNil))) (eVarB 3))) (sRet (eC (.bl false))) sNext [some (.d (.str l)), some (.d (.lst ((flds l).map .str))), some (.d (.int k)), some (.d (.str x))] g') fun o g1 => match o with
        | .nx ρ1 => g1 = g' ∧ (∀ d ∈ r, ∃ k : Nat, 1 ≤ k ∧ d = .int k) ∧ ∃ a b, ρ1 = [some (.d (.str l)), some (.d (.lst ((flds l).map .str))), a, b]
        | .ct ρ1 => g1 = g' ∧ (∀ d ∈ r, ∃ k : Nat, 1 ≤ k ∧ d = .int k) ∧ ∃ a b, ρ1 = [some (.d (.str l)), some (.d (.lst ((flds l).map .str))), a, b]
        | .bk ρ1 => seqK (sRet (eC (.bl true))) (runK Q) (.nx ρ1) g1
        | .rt d => seqK (sRet (eC (.bl true))) (runK Q) (.rt d) g1 := by
      intro x ex
      subst ex
      simp only [ok_forNil, ok_forCons, forK_nx, forK_ct, forK_bk, forK_rt, ok_eOp, ok_eUn, ok_aNil, ok_aCons, ok_eFn, ok_aFn, ok_eApp, ok_eC, ok_eL, ok_eSt, ok_eM1, ok_aM1, ok_oNone, ok_oSome, ok_eSl, ok_tOf, ok_tTru, ok_tNot, ok_tAnd, ok_tOr, ok_eAnd, ok_eOr, ok_eIf, ok_eChain, ok_eVar, ok_eVarB, ok_sSeq, seqK_rt, seqK_bk, seqK_ct, ok_sSet, ok_sRet, ok_sIf, ok_sNext, ok_sDrop, ok_sApp, ok_sFreeze, ok_sUnp, ok_sAug, ok_sFor, ok_aLcE, ok_aItems, runK_rt, runK_nx, ok_runD, okO_some, okO_map, valD_d, valB_d, valB_o, valB_w, ownOf_o, asInt_i, asBl_b, start3, frz, sets, tgName, tgTup, tgsCons, tgsNil, wipe3, List.set_cons_zero, List.set_cons_succ, List.getElem?_cons_zero, List.getElem?_cons_succ, List.map_cons, List.map_nil, List.length_cons, List.length_nil, List.cons_append, List.nil_append, List.replicate_succ, List.replicate_zero, Nat.reduceSub, Nat.reduceAdd, Nat.reduceLT, okO_if, dAddA_ii, dAddA_ss, dAddA_ll, dAddA_tt, dAdd_ii, dAdd_ss, dSub_ii, dMul_ii, dMul_si, dMod_ii, dDiv_ii, dLt_ii, dLt_ss, dLe_ii, dLe_ss, dGt_ii, dGt_ss, dGe_ii, dGe_ss, dEq_ii, dEq_ss, dEq_bb, dEq_nn, dEq_ns, dEq_sn, dEq_ni, dEq_in, dNe_ii, dNe_ss, dNe_bb, dNe_nn, dNe_ns, dNe_sn, dNe_ni, dNe_in, dIs_n, dIsNot_n, dIs_b, dIsNot_b, dIs_i, dIsNot_i, dIs_s, dIsNot_s, dIs_l, dIsNot_l, dIs_t, dIsNot_t, dIs_d, dIsNot_d, dIs_o, dIsNot_o, dLen_s, dLen_l, dLen_t, dTup_d, dLst_d, truD_n, truD_b, truD_i, truD_s, truD_l, truD_t, dNot_b, dNeg_i, asInt_i, asBl_b, dSl_s, dSl_l, dSl_t, isStr_s, items_l, items_t, items_s, dInt_i, dInt_b, dIx_li, dIx_ti, dStarts_ss, dTuple_l, dTuple_t, aList_l, aList_t, dIn_cs, dNotIn_cs, valD_d, valB_d, valB_o, valB_w, ownOf_o, isi_int_n, isi_int_b, isi_int_i, isi_int_s, isi_int_l, isi_int_t, isi_int_d, isi_str_n, isi_str_b, isi_str_i, isi_str_s, isi_str_l, isi_str_t, isi_str_d, isi_bool_n, isi_bool_b, isi_bool_i, isi_bool_s, isi_bool_l, isi_bool_t, isi_bool_d, isi_list_n, isi_list_b, isi_list_i, isi_list_s, isi_list_l, isi_list_t, isi_list_d, isi_tuple_n, isi_tuple_b, isi_tuple_i, isi_tuple_s, isi_tuple_l, isi_tuple_t, isi_tuple_d, isi_dict_n, isi_dict_b, isi_dict_i, isi_dict_s, isi_dict_l, isi_dict_t, isi_dict_d, decide_eq_true_eq, Bool.not_eq_true, Bool.not_true, Bool.not_false, if_true, if_false, Bool.false_eq_true, and_true, true_and, decide_true, decide_false, ite_true, ite_false, reduceCtorEq]
      refine field_ok hl ?_
      simp only [ok_forNil, ok_forCons, forK_nx, forK_ct, forK_bk, forK_rt, ok_eOp, ok_eUn, ok_aNil, ok_aCons, ok_eFn, ok_aFn, ok_eApp, ok_eC, ok_eL, ok_eSt, ok_eM1, ok_aM1, ok_oNone, ok_oSome, ok_eSl, ok_tOf, ok_tTru, ok_tNot, ok_tAnd, ok_tOr, ok_eAnd, ok_eOr, ok_eIf, ok_eChain, ok_eVar, ok_eVarB, ok_sSeq, seqK_rt, seqK_bk, seqK_ct, ok_sSet, ok_sRet, ok_sIf, ok_sNext, ok_sDrop, ok_sApp, ok_sFreeze, ok_sUnp, ok_sAug, ok_sFor, ok_aLcE, ok_aItems, runK_rt, runK_nx, ok_runD, okO_some, okO_map, valD_d, valB_d, valB_o, valB_w, ownOf_o, asInt_i, asBl_b, start3, frz, sets, tgName, tgTup, tgsCons, tgsNil, wipe3, List.set_cons_zero, List.set_cons_succ, List.getElem?_cons_zero, List.getElem?_cons_succ, List.map_cons, List.map_nil, List.length_cons, List.length_nil, List.cons_append, List.nil_append, List.replicate_succ, List.replicate_zero, Nat.reduceSub, Nat.reduceAdd, Nat.reduceLT, okO_if, dAddA_ii, dAddA_ss, dAddA_ll, dAddA_tt, dAdd_ii, dAdd_ss, dSub_ii, dMul_ii, dMul_si, dMod_ii, dDiv_ii, dLt_ii, dLt_ss, dLe_ii, dLe_ss, dGt_ii, dGt_ss, dGe_ii, dGe_ss, dEq_ii, dEq_ss, dEq_bb, dEq_nn, dEq_ns, dEq_sn, dEq_ni, dEq_in, dNe_ii, dNe_ss, dNe_bb, dNe_nn, dNe_ns, dNe_sn, dNe_ni, dNe_in, dIs_n, dIsNot_n, dIs_b, dIsNot_b, dIs_i, dIsNot_i, dIs_s, dIsNot_s, dIs_l, dIsNot_l, dIs_t, dIsNot_t, dIs_d, dIsNot_d, dIs_o, dIsNot_o, dLen_s, dLen_l, dLen_t, dTup_d, dLst_d, truD_n, truD_b, truD_i, truD_s, truD_l, truD_t, dNot_b, dNeg_i, asInt_i, asBl_b, dSl_s, dSl_l, dSl_t, isStr_s, items_l, items_t, items_s, dInt_i, dInt_b, dIx_li, dIx_ti, dStarts_ss, dTuple_l, dTuple_t, aList_l, aList_t, dIn_cs, dNotIn_cs, valD_d, valB_d, valB_o, valB_w, ownOf_o, isi_int_n, isi_int_b, isi_int_i, isi_int_s, isi_int_l, isi_int_t, isi_int_d, isi_str_n, isi_str_b, isi_str_i, isi_str_s, isi_str_l, isi_str_t, isi_str_d, isi_bool_n, isi_bool_b, isi_bool_i, isi_bool_s, isi_bool_l, isi_bool_t, isi_bool_d, isi_list_n, isi_list_b, isi_list_i, isi_list_s, isi_list_l, isi_list_t, isi_list_d, isi_tuple_n, isi_tuple_b, isi_tuple_i, isi_tuple_s, isi_tuple_l, isi_tuple_t, isi_tuple_d, isi_dict_n, isi_dict_b, isi_dict_i, isi_dict_s, isi_dict_l, isi_dict_t, isi_dict_d, decide_eq_true_eq, Bool.not_eq_true, Bool.not_true, Bool.not_false, if_true, if_false, Bool.false_eq_true, and_true, true_and, decide_true, decide_false, ite_true, ite_false, reduceCtorEq]
      exact ⟨fun d hd => hds d (List.mem_cons_of_mem _ hd), _, _, rfl⟩
    unfold lb__law_fields_0
    simp only [ok_forNil, ok_forCons, forK_nx, forK_ct, forK_bk, forK_rt, ok_eOp, ok_eUn, ok_aNil, ok_aCons, ok_eFn, ok_aFn, ok_eApp, ok_eC, ok_eL, ok_eSt, ok_eM1, ok_aM1, ok_oNone, ok_oSome, ok_eSl, ok_tOf, ok_tTru, ok_tNot, ok_tAnd, ok_tOr, ok_eAnd, ok_eOr, ok_eIf, ok_eChain, ok_eVar, ok_eVarB, ok_sSeq, seqK_rt, seqK_bk, seqK_ct, ok_sSet, ok_sRet, ok_sIf, ok_sNext, ok_sDrop, ok_sApp, ok_sFreeze, ok_sUnp, ok_sAug, ok_sFor, ok_aLcE, ok_aItems, runK_rt, runK_nx, ok_runD, okO_some, okO_map, valD_d, valB_d, valB_o, valB_w, ownOf_o, asInt_i, asBl_b, start3, frz, sets, tgName, tgTup, tgsCons, tgsNil, wipe3, List.set_cons_zero, List.set_cons_succ, List.getElem?_cons_zero, List.getElem?_cons_succ, List.map_cons, List.map_nil, List.length_cons, List.length_nil, List.cons_append, List.nil_append, List.replicate_succ, List.replicate_zero, Nat.reduceSub, Nat.reduceAdd, Nat.reduceLT, okO_if, dAddA_ii, dAddA_ss, dAddA_ll, dAddA_tt, dAdd_ii, dAdd_ss, dSub_ii, dMul_ii, dMul_si, dMod_ii, dDiv_ii, dLt_ii, dLt_ss, dLe_ii, dLe_ss, dGt_ii, dGt_ss, dGe_ii, dGe_ss, dEq_ii, dEq_ss, dEq_bb, dEq_nn, dEq_ns, dEq_sn, dEq_ni, dEq_in, dNe_ii, dNe_ss, dNe_bb, dNe_nn, dNe_ns, dNe_sn, dNe_ni, dNe_in, dIs_n, dIsNot_n, dIs_b, dIsNot_b, dIs_i, dIsNot_i, dIs_s, dIsNot_s, dIs_l, dIsNot_l, dIs_t, dIsNot_t, dIs_d, dIsNot_d, dIs_o, dIsNot_o, dLen_s, dLen_l, dLen_t, dTup_d, dLst_d, truD_n, truD_b, truD_i, truD_s, truD_l, truD_t, dNot_b, dNeg_i, asInt_i, asBl_b, dSl_s, dSl_l, dSl_t, isStr_s, items_l, items_t, items_s, dInt_i, dInt_b, dIx_li, dIx_ti, dStarts_ss, dTuple_l, dTuple_t, aList_l, aList_t, dIn_cs, dNotIn_cs, valD_d, valB_d, valB_o, valB_w, ownOf_o, isi_int_n, isi_int_b, isi_int_i, isi_int_s, isi_int_l, isi_int_t, isi_int_d, isi_str_n, isi_str_b, isi_str_i, isi_str_s, isi_str_l, isi_str_t, isi_str_d, isi_bool_n, isi_bool_b, isi_bool_i, isi_bool_s, isi_bool_l, isi_bool_t, isi_bool_d, isi_list_n, isi_list_b, isi_list_i, isi_list_s, isi_list_l, isi_list_t, isi_list_d, isi_tuple_n, isi_tuple_b, isi_tuple_i, isi_tuple_s, isi_tuple_l, isi_tuple_t, isi_tuple_d, isi_dict_n, isi_dict_b, isi_dict_i, isi_dict_s, isi_dict_l, isi_dict_t, isi_dict_d, decide_eq_true_eq, Bool.not_eq_true, Bool.not_true, Bool.not_false, if_true, if_false, Bool.false_eq_true, and_true, true_and, decide_true, decide_false, ite_true, ite_false, reduceCtorEq]
    rw [seqK_nx]
    simp only [ok_forNil, ok_forCons, forK_nx, forK_ct, forK_bk, forK_rt, ok_eOp, ok_eUn, ok_aNil, ok_aCons, ok_eFn, ok_aFn, ok_eApp, ok_eC, ok_eL, ok_eSt, ok_eM1, ok_aM1, ok_oNone, ok_oSome, ok_eSl, ok_tOf, ok_tTru, ok_tNot, ok_tAnd, ok_tOr, ok_eAnd, ok_eOr, ok_eIf, ok_eChain, ok_eVar, ok_eVarB, ok_sSeq, seqK_rt, seqK_bk, seqK_ct, ok_sSet, ok_sRet, ok_sIf, ok_sNext, ok_sDrop, ok_sApp, ok_sFreeze, ok_sUnp, ok_sAug, ok_sFor, ok_aLcE, ok_aItems, runK_rt, runK_nx, ok_runD, okO_some, okO_map, valD_d, valB_d, valB_o, valB_w, ownOf_o, asInt_i, asBl_b, start3, frz, sets, tgName, tgTup, tgsCons, tgsNil, wipe3, List.set_cons_zero, List.set_cons_succ, List.getElem?_cons_zero, List.getElem?_cons_succ, List.map_cons, List.map_nil, List.length_cons, List.length_nil, List.cons_append, List.nil_append, List.replicate_succ, List.replicate_zero, Nat.reduceSub, Nat.reduceAdd, Nat.reduceLT, okO_if, dAddA_ii, dAddA_ss, dAddA_ll, dAddA_tt, dAdd_ii, dAdd_ss, dSub_ii, dMul_ii, dMul_si, dMod_ii, dDiv_ii, dLt_ii, dLt_ss, dLe_ii, dLe_ss, dGt_ii, dGt_ss, dGe_ii, dGe_ss, dEq_ii, dEq_ss, dEq_bb, dEq_nn, dEq_ns, dEq_sn, dEq_ni, dEq_in, dNe_ii, dNe_ss, dNe_bb, dNe_nn, dNe_ns, dNe_sn, dNe_ni, dNe_in, dIs_n, dIsNot_n, dIs_b, dIsNot_b, dIs_i, dIsNot_i, dIs_s, dIsNot_s, dIs_l, dIsNot_l, dIs_t, dIsNot_t, dIs_d, dIsNot_d, dIs_o, dIsNot_o, dLen_s, dLen_l, dLen_t, dTup_d, dLst_d, truD_n, truD_b, truD_i, truD_s, truD_l, truD_t, dNot_b, dNeg_i, asInt_i, asBl_b, dSl_s, dSl_l, dSl_t, isStr_s, items_l, items_t, items_s, dInt_i, dInt_b, dIx_li, dIx_ti, dStarts_ss, dTuple_l, dTuple_t, aList_l, aList_t, dIn_cs, dNotIn_cs, valD_d, valB_d, valB_o, valB_w, ownOf_o, isi_int_n, isi_int_b, isi_int_i, isi_int_s, isi_int_l, isi_int_t, isi_int_d, isi_str_n, isi_str_b, isi_str_i, isi_str_s, isi_str_l, isi_str_t, isi_str_d, isi_bool_n, isi_bool_b, isi_bool_i, isi_bool_s, isi_bool_l, isi_bool_t, isi_bool_d, isi_list_n, isi_list_b, isi_list_i, isi_list_s, isi_list_l, isi_list_t, isi_list_d, isi_tuple_n, isi_tuple_b, isi_tuple_i, isi_tuple_s, isi_tuple_l, isi_tuple_t, isi_tuple_d, isi_dict_n, isi_dict_b, isi_dict_i, isi_dict_s, isi_dict_l, isi_dict_t, isi_dict_d, decide_eq_true_eq, Bool.not_eq_true, Bool.not_true, Bool.not_false, if_true, if_false, Bool.false_eq_true, and_true, true_and, decide_true, decide_false, ite_true, ite_false, reduceCtorEq, List.length_map]
    by_cases h1 : k ≤ (flds l).length
    · rw [if_pos (by omega)]
      have hk' : k - 1 < (flds l).length := by omega
      refine ⟨.str (flds l)[k - 1], ?_, ?_⟩
      · rw [show (k : Int) - 1 = ((k - 1 : Nat) : Int) by omega]
        exact L2.atI_nat (by rw [List.getElem?_map, List.getElem?_eq_getElem hk']; rfl)
      · exact goal _ (by unfold fieldV; rw [if_neg (by omega), List.getElem?_eq_getElem hk']; rfl)
    · rw [if_neg (by omega)]
      exact goal _ (by unfold fieldV; rw [if_neg (by omega), List.getElem?_eq_none (by omega)]; rfl)
  · obtain ⟨rfl, _, a, b, rfl⟩ := hJ
    simp only [ok_forNil, ok_forCons, forK_nx, forK_ct, forK_bk, forK_rt, ok_eOp, ok_eUn, ok_aNil, ok_aCons, ok_eFn, ok_aFn, ok_eApp, ok_eC, ok_eL, ok_eSt, ok_eM1, ok_aM1, ok_oNone, ok_oSome, ok_eSl, ok_tOf, ok_tTru, ok_tNot, ok_tAnd, ok_tOr, ok_eAnd, ok_eOr, ok_eIf, ok_eChain, ok_eVar, ok_eVarB, ok_sSeq, seqK_nx, seqK_rt, seqK_bk, seqK_ct, ok_sSet, ok_sRet, ok_sIf, ok_sNext, ok_sDrop, ok_sApp, ok_sFreeze, ok_sUnp, ok_sAug, ok_sFor, ok_aLcE, ok_aItems, runK_rt, runK_nx, ok_runD, okO_some, okO_map, valD_d, valB_d, valB_o, valB_w, ownOf_o, asInt_i, asBl_b, start3, frz, sets, tgName, tgTup, tgsCons, tgsNil, wipe3, List.set_cons_zero, List.set_cons_succ, List.getElem?_cons_zero, List.getElem?_cons_succ, List.map_cons, List.map_nil, List.length_cons, List.length_nil, List.cons_append, List.nil_append, List.replicate_succ, List.replicate_zero, Nat.reduceSub, Nat.reduceAdd, Nat.reduceLT]
    exact w
theorem replL_1 (x : List Nat) : PySem.StrLaws.replL [32] [98] x = x.map fun c => if c = 32 then 98 else c := by
  induction x with
  | nil => exact PySem.StrLaws.replL_nil
  | cons c r ih =>
    by_cases h : c = 32
    · subst h
      rw [PySem.StrLaws.replL_hit (by decide) rfl]
      show [98] ++ PySem.StrLaws.replL [32] [98] r = _
      rw [ih]
      rfl
    · rw [PySem.StrLaws.replL_miss (by simp; exact h), ih, List.map_cons, if_neg h]
theorem cut_m1 (l : List Nat) : cutL l (some (-1)) none = l.drop (l.length - 1) ∧ cutL l none (some (-1)) = l.take (l.length - 1) := by
  have e : (-1 + (l.length : Int)).toNat = l.length - 1 := by omega
  constructor
  · unfold cutL
    simp only [HT.sIx]
    rw [if_pos (by decide), e, List.take_of_length_le (by rw [List.length_drop]; omega)]
  · unfold cutL
    simp only [HT.sIx]
    rw [if_pos (by decide), e, Nat.sub_zero, List.drop_zero]
theorem canLay_strs : ∀ l : List (List Nat), (∀ p ∈ l, ∀ c ∈ p, c < 1114112) → ∃ ps, toPys (l.map D.str) = some ps ∧ PySem.PyData.canLayAll0 ps = true ∧ PySem.PyData.depthAll ps = 0
  | [], _ => ⟨[], by simp [toPys], rfl, rfl⟩
  | p :: l, h => by
    obtain ⟨ps, e1, e2, e3⟩ := canLay_strs l fun q hq => h q (List.mem_cons_of_mem _ hq)
    refine ⟨.str (S p) :: ps, ?_, ?_, ?_⟩
    · rw [List.map_cons]
      simp only [toPys, toPy, e1]
    · simp only [PySem.PyData.canLayAll0, PySem.PyData.canLay0, e2, Bool.and_true]
      unfold PySem.PyData.strOk
      simp only [S, List.all_toArray, List.all_eq_true, decide_eq_true_eq]
      exact h p List.mem_cons_self
    · simp only [PySem.PyData.depthAll, PySem.PyData.depth, e3]
      rfl
theorem ne_nil_ok (l : List (List Nat)) (h : ∀ p ∈ l, ∀ c ∈ p, c < 1114112) : ∃ b, dNe (.lst (l.map .str)) (.lst []) = some (.bl b) := by
  obtain ⟨ps, e1, e2, e3⟩ := canLay_strs l h
  have sh : PySem.SeqAt.shaped (.list ps) = true := by
    unfold PySem.SeqAt.shaped
    simp only [PySem.PyData.canLay0, PySem.PyData.depth, e2, e3]
    rfl
  have sh0 : PySem.SeqAt.shaped (.list []) = true := by decide
  unfold dNe dEqB dEqP
  simp only [toPy, e1, toPys, Option.map_some, sh, sh0, and_self, if_true]
  exact ⟨_, rfl⟩
theorem line_ok {n : Nat} {g : Store} {Q : D → Store → Prop} (h : DeckOk n g) (w : ∀ l g', DeckOk n g' → l.length ≤ 500 → Q (.tup [.str l, .lst ((flds l).map .str)]) g') : Ok (f__law_line [.obj n] g) Q := by
  unfold f__law_line d__law_line
  simp only [ok_forNil, ok_forCons, forK_nx, forK_ct, forK_bk, forK_rt, ok_eOp, ok_eUn, ok_aNil, ok_aCons, ok_eFn, ok_aFn, ok_eApp, ok_eC, ok_eL, ok_eSt, ok_eM1, ok_aM1, ok_oNone, ok_oSome, ok_eSl, ok_tOf, ok_tTru, ok_tNot, ok_tAnd, ok_tOr, ok_eAnd, ok_eOr, ok_eIf, ok_eChain, ok_eVar, ok_eVarB, ok_sSeq, seqK_rt, seqK_bk, seqK_ct, ok_sSet, ok_sRet, ok_sIf, ok_sNext, ok_sDrop, ok_sApp, ok_sFreeze, ok_sUnp, ok_sAug, ok_sFor, ok_aLcE, ok_aItems, runK_rt, runK_nx, ok_runD, okO_some, okO_map, valD_d, valB_d, valB_o, valB_w, ownOf_o, asInt_i, asBl_b, start3, frz, sets, tgName, tgTup, tgsCons, tgsNil, wipe3, List.set_cons_zero, List.set_cons_succ, List.getElem?_cons_zero, List.getElem?_cons_succ, List.map_cons, List.map_nil, List.length_cons, List.length_nil, List.cons_append, List.nil_append, List.replicate_succ, List.replicate_zero, Nat.reduceSub, Nat.reduceAdd, Nat.reduceLT, okO_if, dAddA_ii, dAddA_ss, dAddA_ll, dAddA_tt, dAdd_ii, dAdd_ss, dSub_ii, dMul_ii, dMul_si, dMod_ii, dDiv_ii, dLt_ii, dLt_ss, dLe_ii, dLe_ss, dGt_ii, dGt_ss, dGe_ii, dGe_ss, dEq_ii, dEq_ss, dEq_bb, dEq_nn, dEq_ns, dEq_sn, dEq_ni, dEq_in, dNe_ii, dNe_ss, dNe_bb, dNe_nn, dNe_ns, dNe_sn, dNe_ni, dNe_in, dIs_n, dIsNot_n, dIs_b, dIsNot_b, dIs_i, dIsNot_i, dIs_s, dIsNot_s, dIs_l, dIsNot_l, dIs_t, dIsNot_t, dIs_d, dIsNot_d, dIs_o, dIsNot_o, dLen_s, dLen_l, dLen_t, dTup_d, dLst_d, truD_n, truD_b, truD_i, truD_s, truD_l, truD_t, dNot_b, dNeg_i, asInt_i, asBl_b, dSl_s, dSl_l, dSl_t, isStr_s, items_l, items_t, items_s, dInt_i, dInt_b, dIx_li, dIx_ti, dStarts_ss, dTuple_l, dTuple_t, aList_l, aList_t, dIn_cs, dNotIn_cs, valD_d, valB_d, valB_o, valB_w, ownOf_o, isi_int_n, isi_int_b, isi_int_i, isi_int_s, isi_int_l, isi_int_t, isi_int_d, isi_str_n, isi_str_b, isi_str_i, isi_str_s, isi_str_l, isi_str_t, isi_str_d, isi_bool_n, isi_bool_b, isi_bool_i, isi_bool_s, isi_bool_l, isi_bool_t, isi_bool_d, isi_list_n, isi_list_b, isi_list_i, isi_list_s, isi_list_l, isi_list_t, isi_list_d, isi_tuple_n, isi_tuple_b, isi_tuple_i, isi_tuple_s, isi_tuple_l, isi_tuple_t, isi_tuple_d, isi_dict_n, isi_dict_b, isi_dict_i, isi_dict_s, isi_dict_l, isi_dict_t, isi_dict_d, decide_eq_true_eq, Bool.not_eq_true, Bool.not_true, Bool.not_false, if_true, if_false, Bool.false_eq_true, and_true, true_and, decide_true, decide_false, ite_true, ite_false, reduceCtorEq]
  rw [ok_sOwn _ _ _ (by simp)]
  simp only [ok_forNil, ok_forCons, forK_nx, forK_ct, forK_bk, forK_rt, ok_eOp, ok_eUn, ok_aNil, ok_aCons, ok_eFn, ok_aFn, ok_eApp, ok_eC, ok_eL, ok_eSt, ok_eM1, ok_aM1, ok_oNone, ok_oSome, ok_eSl, ok_tOf, ok_tTru, ok_tNot, ok_tAnd, ok_tOr, ok_eAnd, ok_eOr, ok_eIf, ok_eChain, ok_eVar, ok_eVarB, ok_sSeq, seqK_rt, seqK_bk, seqK_ct, ok_sSet, ok_sRet, ok_sIf, ok_sNext, ok_sDrop, ok_sApp, ok_sFreeze, ok_sUnp, ok_sAug, ok_sFor, ok_aLcE, ok_aItems, runK_rt, runK_nx, ok_runD, okO_some, okO_map, valD_d, valB_d, valB_o, valB_w, ownOf_o, asInt_i, asBl_b, start3, frz, sets, tgName, tgTup, tgsCons, tgsNil, wipe3, List.set_cons_zero, List.set_cons_succ, List.getElem?_cons_zero, List.getElem?_cons_succ, List.map_cons, List.map_nil, List.length_cons, List.length_nil, List.cons_append, List.nil_append, List.replicate_succ, List.replicate_zero, Nat.reduceSub, Nat.reduceAdd, Nat.reduceLT, okO_if, dAddA_ii, dAddA_ss, dAddA_ll, dAddA_tt, dAdd_ii, dAdd_ss, dSub_ii, dMul_ii, dMul_si, dMod_ii, dDiv_ii, dLt_ii, dLt_ss, dLe_ii, dLe_ss, dGt_ii, dGt_ss, dGe_ii, dGe_ss, dEq_ii, dEq_ss, dEq_bb, dEq_nn, dEq_ns, dEq_sn, dEq_ni, dEq_in, dNe_ii, dNe_ss, dNe_bb, dNe_nn, dNe_ns, dNe_sn, dNe_ni, dNe_in, dIs_n, dIsNot_n, dIs_b, dIsNot_b, dIs_i, dIsNot_i, dIs_s, dIsNot_s, dIs_l, dIsNot_l, dIs_t, dIsNot_t, dIs_d, dIsNot_d, dIs_o, dIsNot_o, dLen_s, dLen_l, dLen_t, dTup_d, dLst_d, truD_n, truD_b, truD_i, truD_s, truD_l, truD_t, dNot_b, dNeg_i, asInt_i, asBl_b, dSl_s, dSl_l, dSl_t, isStr_s, items_l, items_t, items_s, dInt_i, dInt_b, dIx_li, dIx_ti, dStarts_ss, dTuple_l, dTuple_t, aList_l, aList_t, dIn_cs, dNotIn_cs, valD_d, valB_d, valB_o, valB_w, ownOf_o, isi_int_n, isi_int_b, isi_int_i, isi_int_s, isi_int_l, isi_int_t, isi_int_d, isi_str_n, isi_str_b, isi_str_i, isi_str_s, isi_str_l, isi_str_t, isi_str_d, isi_bool_n, isi_bool_b, isi_bool_i, isi_bool_s, isi_bool_l, isi_bool_t, isi_bool_d, isi_list_n, isi_list_b, isi_list_i, isi_list_s, isi_list_l, isi_list_t, isi_list_d, isi_tuple_n, isi_tuple_b, isi_tuple_i, isi_tuple_s, isi_tuple_l, isi_tuple_t, isi_tuple_d, isi_dict_n, isi_dict_b, isi_dict_i, isi_dict_s, isi_dict_l, isi_dict_t, isi_dict_d, decide_eq_true_eq, Bool.not_eq_true, Bool.not_true, Bool.not_false, if_true, if_false, Bool.false_eq_true, and_true, true_and, decide_true, decide_false, ite_true, ite_false, reduceCtorEq]
  refine ⟨by decide, ?_⟩
  rw [seqK_nx]
  simp only [ok_forNil, ok_forCons, forK_nx, forK_ct, forK_bk, forK_rt, ok_eOp, ok_eUn, ok_aNil, ok_aCons, ok_eFn, ok_aFn, ok_eApp, ok_eC, ok_eL, ok_eSt, ok_eM1, ok_aM1, ok_oNone, ok_oSome, ok_eSl, ok_tOf, ok_tTru, ok_tNot, ok_tAnd, ok_tOr, ok_eAnd, ok_eOr, ok_eIf, ok_eChain, ok_eVar, ok_eVarB, ok_sSeq, seqK_rt, seqK_bk, seqK_ct, ok_sSet, ok_sRet, ok_sIf, ok_sNext, ok_sDrop, ok_sApp, ok_sFreeze, ok_sUnp, ok_sAug, ok_sFor, ok_aLcE, ok_aItems, runK_rt, runK_nx, ok_runD, okO_some, okO_map, valD_d, valB_d, valB_o, valB_w, ownOf_o, asInt_i, asBl_b, start3, frz, sets, tgName, tgTup, tgsCons, tgsNil, wipe3, List.set_cons_zero, List.set_cons_succ, List.getElem?_cons_zero, List.getElem?_cons_succ, List.map_cons, List.map_nil, List.length_cons, List.length_nil, List.cons_append, List.nil_append, List.replicate_succ, List.replicate_zero, Nat.reduceSub, Nat.reduceAdd, Nat.reduceLT, okO_if, dAddA_ii, dAddA_ss, dAddA_ll, dAddA_tt, dAdd_ii, dAdd_ss, dSub_ii, dMul_ii, dMul_si, dMod_ii, dDiv_ii, dLt_ii, dLt_ss, dLe_ii, dLe_ss, dGt_ii, dGt_ss, dGe_ii, dGe_ss, dEq_ii, dEq_ss, dEq_bb, dEq_nn, dEq_ns, dEq_sn, dEq_ni, dEq_in, dNe_ii, dNe_ss, dNe_bb, dNe_nn, dNe_ns, dNe_sn, dNe_ni, dNe_in, dIs_n, dIsNot_n, dIs_b, dIsNot_b, dIs_i, dIsNot_i, dIs_s, dIsNot_s, dIs_l, dIsNot_l, dIs_t, dIsNot_t, dIs_d, dIsNot_d, dIs_o, dIsNot_o, dLen_s, dLen_l, dLen_t, dTup_d, dLst_d, truD_n, truD_b, truD_i, truD_s, truD_l, truD_t, dNot_b, dNeg_i, asInt_i, asBl_b, dSl_s, dSl_l, dSl_t, isStr_s, items_l, items_t, items_s, dInt_i, dInt_b, dIx_li, dIx_ti, dStarts_ss, dTuple_l, dTuple_t, aList_l, aList_t, dIn_cs, dNotIn_cs, valD_d, valB_d, valB_o, valB_w, ownOf_o, isi_int_n, isi_int_b, isi_int_i, isi_int_s, isi_int_l, isi_int_t, isi_int_d, isi_str_n, isi_str_b, isi_str_i, isi_str_s, isi_str_l, isi_str_t, isi_str_d, isi_bool_n, isi_bool_b, isi_bool_i, isi_bool_s, isi_bool_l, isi_bool_t, isi_bool_d, isi_list_n, isi_list_b, isi_list_i, isi_list_s, isi_list_l, isi_list_t, isi_list_d, isi_tuple_n, isi_tuple_b, isi_tuple_i, isi_tuple_s, isi_tuple_l, isi_tuple_t, isi_tuple_d, isi_dict_n, isi_dict_b, isi_dict_i, isi_dict_s, isi_dict_l, isi_dict_t, isi_dict_d, decide_eq_true_eq, Bool.not_eq_true, Bool.not_true, Bool.not_false, if_true, if_false, Bool.false_eq_true, and_true, true_and, decide_true, decide_false, ite_true, ite_false, reduceCtorEq]
  refine Ok.next h (by decide) (by decide) fun v g1 b0 b1 h1 => ?_
  simp only [ok_forNil, ok_forCons, forK_nx, forK_ct, forK_bk, forK_rt, ok_eOp, ok_eUn, ok_aNil, ok_aCons, ok_eFn, ok_aFn, ok_eApp, ok_eC, ok_eL, ok_eSt, ok_eM1, ok_aM1, ok_oNone, ok_oSome, ok_eSl, ok_tOf, ok_tTru, ok_tNot, ok_tAnd, ok_tOr, ok_eAnd, ok_eOr, ok_eIf, ok_eChain, ok_eVar, ok_eVarB, ok_sSeq, seqK_rt, seqK_bk, seqK_ct, ok_sSet, ok_sRet, ok_sIf, ok_sNext, ok_sDrop, ok_sApp, ok_sFreeze, ok_sUnp, ok_sAug, ok_sFor, ok_aLcE, ok_aItems, runK_rt, runK_nx, ok_runD, okO_some, okO_map, valD_d, valB_d, valB_o, valB_w, ownOf_o, asInt_i, asBl_b, start3, frz, sets, tgName, tgTup, tgsCons, tgsNil, wipe3, List.set_cons_zero, List.set_cons_succ, List.getElem?_cons_zero, List.getElem?_cons_succ, List.map_cons, List.map_nil, List.length_cons, List.length_nil, List.cons_append, List.nil_append, List.replicate_succ, List.replicate_zero, Nat.reduceSub, Nat.reduceAdd, Nat.reduceLT, okO_if, dAddA_ii, dAddA_ss, dAddA_ll, dAddA_tt, dAdd_ii, dAdd_ss, dSub_ii, dMul_ii, dMul_si, dMod_ii, dDiv_ii, dLt_ii, dLt_ss, dLe_ii, dLe_ss, dGt_ii, dGt_ss, dGe_ii, dGe_ss, dEq_ii, dEq_ss, dEq_bb, dEq_nn, dEq_ns, dEq_sn, dEq_ni, dEq_in, dNe_ii, dNe_ss, dNe_bb, dNe_nn, dNe_ns, dNe_sn, dNe_ni, dNe_in, dIs_n, dIsNot_n, dIs_b, dIsNot_b, dIs_i, dIsNot_i, dIs_s, dIsNot_s, dIs_l, dIsNot_l, dIs_t, dIsNot_t, dIs_d, dIsNot_d, dIs_o, dIsNot_o, dLen_s, dLen_l, dLen_t, dTup_d, dLst_d, truD_n, truD_b, truD_i, truD_s, truD_l, truD_t, dNot_b, dNeg_i, asInt_i, asBl_b, dSl_s, dSl_l, dSl_t, isStr_s, items_l, items_t, items_s, dInt_i, dInt_b, dIx_li, dIx_ti, dStarts_ss, dTuple_l, dTuple_t, aList_l, aList_t, dIn_cs, dNotIn_cs, valD_d, valB_d, valB_o, valB_w, ownOf_o, isi_int_n, isi_int_b, isi_int_i, isi_int_s, isi_int_l, isi_int_t, isi_int_d, isi_str_n, isi_str_b, isi_str_i, isi_str_s, isi_str_l, isi_str_t, isi_str_d, isi_bool_n, isi_bool_b, isi_bool_i, isi_bool_s, isi_bool_l, isi_bool_t, isi_bool_d, isi_list_n, isi_list_b, isi_list_i, isi_list_s, isi_list_l, isi_list_t, isi_list_d, isi_tuple_n, isi_tuple_b, isi_tuple_i, isi_tuple_s, isi_tuple_l, isi_tuple_t, isi_tuple_d, isi_dict_n, isi_dict_b, isi_dict_i, isi_dict_s, isi_dict_l, isi_dict_t, isi_dict_d, decide_eq_true_eq, Bool.not_eq_true, Bool.not_true, Bool.not_false, if_true, if_false, Bool.false_eq_true, and_true, true_and, decide_true, decide_false, ite_true, ite_false, reduceCtorEq]
  refine ⟨⟨b0, by omega, by unfold BIG; simp; omega⟩, ?_⟩
  rw [seqK_nx, flat_rep]
  simp only [ok_forNil, ok_forCons, forK_nx, forK_ct, forK_bk, forK_rt, ok_eOp, ok_eUn, ok_aNil, ok_aCons, ok_eFn, ok_aFn, ok_eApp, ok_eC, ok_eL, ok_eSt, ok_eM1, ok_aM1, ok_oNone, ok_oSome, ok_eSl, ok_tOf, ok_tTru, ok_tNot, ok_tAnd, ok_tOr, ok_eAnd, ok_eOr, ok_eIf, ok_eChain, ok_eVar, ok_eVarB, ok_sSeq, seqK_rt, seqK_bk, seqK_ct, ok_sSet, ok_sRet, ok_sIf, ok_sNext, ok_sDrop, ok_sApp, ok_sFreeze, ok_sUnp, ok_sAug, ok_sFor, ok_aLcE, ok_aItems, runK_rt, runK_nx, ok_runD, okO_some, okO_map, valD_d, valB_d, valB_o, valB_w, ownOf_o, asInt_i, asBl_b, start3, frz, sets, tgName, tgTup, tgsCons, tgsNil, wipe3, List.set_cons_zero, List.set_cons_succ, List.getElem?_cons_zero, List.getElem?_cons_succ, List.map_cons, List.map_nil, List.length_cons, List.length_nil, List.cons_append, List.nil_append, List.replicate_succ, List.replicate_zero, Nat.reduceSub, Nat.reduceAdd, Nat.reduceLT, okO_if, dAddA_ii, dAddA_ss, dAddA_ll, dAddA_tt, dAdd_ii, dAdd_ss, dSub_ii, dMul_ii, dMul_si, dMod_ii, dDiv_ii, dLt_ii, dLt_ss, dLe_ii, dLe_ss, dGt_ii, dGt_ss, dGe_ii, dGe_ss, dEq_ii, dEq_ss, dEq_bb, dEq_nn, dEq_ns, dEq_sn, dEq_ni, dEq_in, dNe_ii, dNe_ss, dNe_bb, dNe_nn, dNe_ns, dNe_sn, dNe_ni, dNe_in, dIs_n, dIsNot_n, dIs_b, dIsNot_b, dIs_i, dIsNot_i, dIs_s, dIsNot_s, dIs_l, dIsNot_l, dIs_t, dIsNot_t, dIs_d, dIsNot_d, dIs_o, dIsNot_o, dLen_s, dLen_l, dLen_t, dTup_d, dLst_d, truD_n, truD_b, truD_i, truD_s, truD_l, truD_t, dNot_b, dNeg_i, asInt_i, asBl_b, dSl_s, dSl_l, dSl_t, isStr_s, items_l, items_t, items_s, dInt_i, dInt_b, dIx_li, dIx_ti, dStarts_ss, dTuple_l, dTuple_t, aList_l, aList_t, dIn_cs, dNotIn_cs, valD_d, valB_d, valB_o, valB_w, ownOf_o, isi_int_n, isi_int_b, isi_int_i, isi_int_s, isi_int_l, isi_int_t, isi_int_d, isi_str_n, isi_str_b, isi_str_i, isi_str_s, isi_str_l, isi_str_t, isi_str_d, isi_bool_n, isi_bool_b, isi_bool_i, isi_bool_s, isi_bool_l, isi_bool_t, isi_bool_d, isi_list_n, isi_list_b, isi_list_i, isi_list_s, isi_list_l, isi_list_t, isi_list_d, isi_tuple_n, isi_tuple_b, isi_tuple_i, isi_tuple_s, isi_tuple_l, isi_tuple_t, isi_tuple_d, isi_dict_n, isi_dict_b, isi_dict_i, isi_dict_s, isi_dict_l, isi_dict_t, isi_dict_d, decide_eq_true_eq, Bool.not_eq_true, Bool.not_true, Bool.not_false, if_true, if_false, Bool.false_eq_true, and_true, true_and, decide_true, decide_false, ite_true, ite_false, reduceCtorEq]
  refine Ok.next h1 (by decide) (by decide) fun m g2 c0 c1 h2 => ?_
  refine ⟨_, range1_ok c0 (by omega), ?_⟩
  have endB : ∀ (l : List Nat) (a b c : Option SV) (g' : Store), DeckOk n g' → l.length ≤ 500 → (∀ p ∈ flds l, ∀ c ∈ p, c < 1114112) → Ok ((sSeq (sIf (tAndD (tOf (eOp dEq (eApp f__law_next (aCons (eVar 0) (aCons (eC (.int 2)) aNil))) (eC (.int 0)))) (tOf (eOp dEq (eSl dSl (eVarB 2) (oSome (eUn dNeg (eC (.int 1)))) oNone) (eC (.str [32]))))) (sSeq (sSet 2 (eSl dSl (eVarB 2) oNone (oSome (eUn dNeg (eC (.int 1))))))
  (sIf (tAndD (tOf (eOp dNe (eSl dSl (eVarB 2) (oSome (eUn dNeg (eC (.int 1)))) oNone) (eC (.str [32])))) (tAndD (tOf (eOp dNe (eVarB 1) (eL (aFn dLst aNil)))) (tOf (eOp dNe (eVarB 2) (eC (.str [])))))) (sFreeze 1 (sRet (eFn dTup (aCons (eVar 2) (aCons (eVar 1) aNil))))) sNext)) sNext)
  (sFreeze 1 (sRet (eFn dTup (aCons (eVar 2) (aCons (eVar 1) aNil)))))) [some (.d (.obj n)), some (.own ((flds l).map .str)), some (.d (.str l)), a, b, c] g') (runK Q) := by
    intro l a b c g' hg hl hc
    have big : l.length ≤ BIG := by unfold BIG; omega
    simp only [ok_forNil, ok_forCons, forK_nx, forK_ct, forK_bk, forK_rt, ok_eOp, ok_eUn, ok_aNil, ok_aCons, ok_eFn, ok_aFn, ok_eApp, ok_eC, ok_eL, ok_eSt, ok_eM1, ok_aM1, ok_oNone, ok_oSome, ok_eSl, ok_tOf, ok_tTru, ok_tNot, ok_tAnd, ok_tOr, ok_eAnd, ok_eOr, ok_eIf, ok_eChain, ok_eVar, ok_eVarB, ok_sSeq, seqK_rt, seqK_bk, seqK_ct, ok_sSet, ok_sRet, ok_sIf, ok_sNext, ok_sDrop, ok_sApp, ok_sFreeze, ok_sUnp, ok_sAug, ok_sFor, ok_aLcE, ok_aItems, runK_rt, runK_nx, ok_runD, okO_some, okO_map, valD_d, valB_d, valB_o, valB_w, ownOf_o, asInt_i, asBl_b, start3, frz, sets, tgName, tgTup, tgsCons, tgsNil, wipe3, List.set_cons_zero, List.set_cons_succ, List.getElem?_cons_zero, List.getElem?_cons_succ, List.map_cons, List.map_nil, List.length_cons, List.length_nil, List.cons_append, List.nil_append, List.replicate_succ, List.replicate_zero, Nat.reduceSub, Nat.reduceAdd, Nat.reduceLT, okO_if, dAddA_ii, dAddA_ss, dAddA_ll, dAddA_tt, dAdd_ii, dAdd_ss, dSub_ii, dMul_ii, dMul_si, dMod_ii, dDiv_ii, dLt_ii, dLt_ss, dLe_ii, dLe_ss, dGt_ii, dGt_ss, dGe_ii, dGe_ss, dEq_ii, dEq_ss, dEq_bb, dEq_nn, dEq_ns, dEq_sn, dEq_ni, dEq_in, dNe_ii, dNe_ss, dNe_bb, dNe_nn, dNe_ns, dNe_sn, dNe_ni, dNe_in, dIs_n, dIsNot_n, dIs_b, dIsNot_b, dIs_i, dIsNot_i, dIs_s, dIsNot_s, dIs_l, dIsNot_l, dIs_t, dIsNot_t, dIs_d, dIsNot_d, dIs_o, dIsNot_o, dLen_s, dLen_l, dLen_t, dTup_d, dLst_d, truD_n, truD_b, truD_i, truD_s, truD_l, truD_t, dNot_b, dNeg_i, asInt_i, asBl_b, dSl_s, dSl_l, dSl_t, isStr_s, items_l, items_t, items_s, dInt_i, dInt_b, dIx_li, dIx_ti, dStarts_ss, dTuple_l, dTuple_t, aList_l, aList_t, dIn_cs, dNotIn_cs, valD_d, valB_d, valB_o, valB_w, ownOf_o, isi_int_n, isi_int_b, isi_int_i, isi_int_s, isi_int_l, isi_int_t, isi_int_d, isi_str_n, isi_str_b, isi_str_i, isi_str_s, isi_str_l, isi_str_t, isi_str_d, isi_bool_n, isi_bool_b, isi_bool_i, isi_bool_s, isi_bool_l, isi_bool_t, isi_bool_d, isi_list_n, isi_list_b, isi_list_i, isi_list_s, isi_list_l, isi_list_t, isi_list_d, isi_tuple_n, isi_tuple_b, isi_tuple_i, isi_tuple_s, isi_tuple_l, isi_tuple_t, isi_tuple_d, isi_dict_n, isi_dict_b, isi_dict_i, isi_dict_s, isi_dict_l, isi_dict_t, isi_dict_d, decide_eq_true_eq, Bool.not_eq_true, Bool.not_true, Bool.not_false, if_true, if_false, Bool.false_eq_true, and_true, true_and, decide_true, decide_false, ite_true, ite_false, reduceCtorEq]
    refine Ok.next hg (by decide) (by decide) fun v g3 d0 d1 h3 => ?_
    simp only [ok_forNil, ok_forCons, forK_nx, forK_ct, forK_bk, forK_rt, ok_eOp, ok_eUn, ok_aNil, ok_aCons, ok_eFn, ok_aFn, ok_eApp, ok_eC, ok_eL, ok_eSt, ok_eM1, ok_aM1, ok_oNone, ok_oSome, ok_eSl, ok_tOf, ok_tTru, ok_tNot, ok_tAnd, ok_tOr, ok_eAnd, ok_eOr, ok_eIf, ok_eChain, ok_eVar, ok_eVarB, ok_sSeq, seqK_rt, seqK_bk, seqK_ct, ok_sSet, ok_sRet, ok_sIf, ok_sNext, ok_sDrop, ok_sApp, ok_sFreeze, ok_sUnp, ok_sAug, ok_sFor, ok_aLcE, ok_aItems, runK_rt, runK_nx, ok_runD, okO_some, okO_map, valD_d, valB_d, valB_o, valB_w, ownOf_o, asInt_i, asBl_b, start3, frz, sets, tgName, tgTup, tgsCons, tgsNil, wipe3, List.set_cons_zero, List.set_cons_succ, List.getElem?_cons_zero, List.getElem?_cons_succ, List.map_cons, List.map_nil, List.length_cons, List.length_nil, List.cons_append, List.nil_append, List.replicate_succ, List.replicate_zero, Nat.reduceSub, Nat.reduceAdd, Nat.reduceLT, okO_if, dAddA_ii, dAddA_ss, dAddA_ll, dAddA_tt, dAdd_ii, dAdd_ss, dSub_ii, dMul_ii, dMul_si, dMod_ii, dDiv_ii, dLt_ii, dLt_ss, dLe_ii, dLe_ss, dGt_ii, dGt_ss, dGe_ii, dGe_ss, dEq_ii, dEq_ss, dEq_bb, dEq_nn, dEq_ns, dEq_sn, dEq_ni, dEq_in, dNe_ii, dNe_ss, dNe_bb, dNe_nn, dNe_ns, dNe_sn, dNe_ni, dNe_in, dIs_n, dIsNot_n, dIs_b, dIsNot_b, dIs_i, dIsNot_i, dIs_s, dIsNot_s, dIs_l, dIsNot_l, dIs_t, dIsNot_t, dIs_d, dIsNot_d, dIs_o, dIsNot_o, dLen_s, dLen_l, dLen_t, dTup_d, dLst_d, truD_n, truD_b, truD_i, truD_s, truD_l, truD_t, dNot_b, dNeg_i, asInt_i, asBl_b, dSl_s, dSl_l, dSl_t, isStr_s, items_l, items_t, items_s, dInt_i, dInt_b, dIx_li, dIx_ti, dStarts_ss, dTuple_l, dTuple_t, aList_l, aList_t, dIn_cs, dNotIn_cs, valD_d, valB_d, valB_o, valB_w, ownOf_o, isi_int_n, isi_int_b, isi_int_i, isi_int_s, isi_int_l, isi_int_t, isi_int_d, isi_str_n, isi_str_b, isi_str_i, isi_str_s, isi_str_l, isi_str_t, isi_str_d, isi_bool_n, isi_bool_b, isi_bool_i, isi_bool_s, isi_bool_l, isi_bool_t, isi_bool_d, isi_list_n, isi_list_b, isi_list_i, isi_list_s, isi_list_l, isi_list_t, isi_list_d, isi_tuple_n, isi_tuple_b, isi_tuple_i, isi_tuple_s, isi_tuple_l, isi_tuple_t, isi_tuple_d, isi_dict_n, isi_dict_b, isi_dict_i, isi_dict_s, isi_dict_l, isi_dict_t, isi_dict_d, decide_eq_true_eq, Bool.not_eq_true, Bool.not_true, Bool.not_false, if_true, if_false, Bool.false_eq_true, and_true, true_and, decide_true, decide_false, ite_true, ite_false, reduceCtorEq, big]
    have stay : seqK (sFreeze 1 (sRet (eFn dTup (aCons (eVar 2) (aCons (eVar 1) aNil))))) (runK Q) (.nx [some (.d (.obj n)), some (.own ((flds l).map .str)), some (.d (.str l)), a, b, c]) g3 := by
      rw [seqK_nx]
      simp only [ok_forNil, ok_forCons, forK_nx, forK_ct, forK_bk, forK_rt, ok_eOp, ok_eUn, ok_aNil, ok_aCons, ok_eFn, ok_aFn, ok_eApp, ok_eC, ok_eL, ok_eSt, ok_eM1, ok_aM1, ok_oNone, ok_oSome, ok_eSl, ok_tOf, ok_tTru, ok_tNot, ok_tAnd, ok_tOr, ok_eAnd, ok_eOr, ok_eIf, ok_eChain, ok_eVar, ok_eVarB, ok_sSeq, seqK_nx, seqK_rt, seqK_bk, seqK_ct, ok_sSet, ok_sRet, ok_sIf, ok_sNext, ok_sDrop, ok_sApp, ok_sFreeze, ok_sUnp, ok_sAug, ok_sFor, ok_aLcE, ok_aItems, runK_rt, runK_nx, ok_runD, okO_some, okO_map, valD_d, valB_d, valB_o, valB_w, ownOf_o, asInt_i, asBl_b, start3, frz, sets, tgName, tgTup, tgsCons, tgsNil, wipe3, List.set_cons_zero, List.set_cons_succ, List.getElem?_cons_zero, List.getElem?_cons_succ, List.map_cons, List.map_nil, List.length_cons, List.length_nil, List.cons_append, List.nil_append, List.replicate_succ, List.replicate_zero, Nat.reduceSub, Nat.reduceAdd, Nat.reduceLT, okO_if, dAddA_ii, dAddA_ss, dAddA_ll, dAddA_tt, dAdd_ii, dAdd_ss, dSub_ii, dMul_ii, dMul_si, dMod_ii, dDiv_ii, dLt_ii, dLt_ss, dLe_ii, dLe_ss, dGt_ii, dGt_ss, dGe_ii, dGe_ss, dEq_ii, dEq_ss, dEq_bb, dEq_nn, dEq_ns, dEq_sn, dEq_ni, dEq_in, dNe_ii, dNe_ss, dNe_bb, dNe_nn, dNe_ns, dNe_sn, dNe_ni, dNe_in, dIs_n, dIsNot_n, dIs_b, dIsNot_b, dIs_i, dIsNot_i, dIs_s, dIsNot_s, dIs_l, dIsNot_l, dIs_t, dIsNot_t, dIs_d, dIsNot_d, dIs_o, dIsNot_o, dLen_s, dLen_l, dLen_t, dTup_d, dLst_d, truD_n, truD_b, truD_i, truD_s, truD_l, truD_t, dNot_b, dNeg_i, asInt_i, asBl_b, dSl_s, dSl_l, dSl_t, isStr_s, items_l, items_t, items_s, dInt_i, dInt_b, dIx_li, dIx_ti, dStarts_ss, dTuple_l, dTuple_t, aList_l, aList_t, dIn_cs, dNotIn_cs, valD_d, valB_d, valB_o, valB_w, ownOf_o, isi_int_n, isi_int_b, isi_int_i, isi_int_s, isi_int_l, isi_int_t, isi_int_d, isi_str_n, isi_str_b, isi_str_i, isi_str_s, isi_str_l, isi_str_t, isi_str_d, isi_bool_n, isi_bool_b, isi_bool_i, isi_bool_s, isi_bool_l, isi_bool_t, isi_bool_d, isi_list_n, isi_list_b, isi_list_i, isi_list_s, isi_list_l, isi_list_t, isi_list_d, isi_tuple_n, isi_tuple_b, isi_tuple_i, isi_tuple_s, isi_tuple_l, isi_tuple_t, isi_tuple_d, isi_dict_n, isi_dict_b, isi_dict_i, isi_dict_s, isi_dict_l, isi_dict_t, isi_dict_d, decide_eq_true_eq, Bool.not_eq_true, Bool.not_true, Bool.not_false, if_true, if_false, Bool.false_eq_true, and_true, true_and, decide_true, decide_false, ite_true, ite_false, reduceCtorEq]
      exact ⟨by decide, w l g3 h3 hl⟩
    split
    · by_cases hlast : cutL l (some (-1)) none = [32]
      · rw [if_pos hlast]
        rw [seqK_nx]
        have hne : l ≠ [] := fun e => by rw [e] at hlast; simp [cutL, HT.sIx] at hlast
        have hlp : 0 < l.length := List.length_pos_iff.mpr hne
        rw [(cut_m1 l).1] at hlast
        have el : l = l.take (l.length - 1) ++ [32] := by
          rw [← hlast, List.take_append_drop]
        have ef : flds l = flds (l.take (l.length - 1)) := by
          rw [el]
          have := flds_app (l.take (l.length - 1)) []
          rw [flds_nil, List.append_nil] at this
          rw [this]
          congr 1
          rw [List.length_append, List.length_singleton, Nat.add_sub_cancel, List.take_append_of_le_length (Nat.le_refl _), List.take_length]
        have hl' : (l.take (l.length - 1)).length ≤ 500 := by rw [List.length_take]; omega
        have big' : (l.take (l.length - 1)).length ≤ BIG := by unfold BIG; omega
        have last : ∀ x : List (List Nat), x = flds (l.take (l.length - 1)) → (2 ≤ BIG) ∧ Q (.tup [.str (l.take (l.length - 1)), .lst (x.map .str)]) g3 := fun x ex => by
          subst ex
          exact ⟨by decide, w _ g3 h3 hl'⟩
        simp only [ok_forNil, ok_forCons, forK_nx, forK_ct, forK_bk, forK_rt, ok_eOp, ok_eUn, ok_aNil, ok_aCons, ok_eFn, ok_aFn, ok_eApp, ok_eC, ok_eL, ok_eSt, ok_eM1, ok_aM1, ok_oNone, ok_oSome, ok_eSl, ok_tOf, ok_tTru, ok_tNot, ok_tAnd, ok_tOr, ok_eAnd, ok_eOr, ok_eIf, ok_eChain, ok_eVar, ok_eVarB, ok_sSeq, seqK_nx, seqK_rt, seqK_bk, seqK_ct, ok_sSet, ok_sRet, ok_sIf, ok_sNext, ok_sDrop, ok_sApp, ok_sFreeze, ok_sUnp, ok_sAug, ok_sFor, ok_aLcE, ok_aItems, runK_rt, runK_nx, ok_runD, okO_some, okO_map, valD_d, valB_d, valB_o, valB_w, ownOf_o, asInt_i, asBl_b, start3, frz, sets, tgName, tgTup, tgsCons, tgsNil, wipe3, List.set_cons_zero, List.set_cons_succ, List.getElem?_cons_zero, List.getElem?_cons_succ, List.map_cons, List.map_nil, List.length_cons, List.length_nil, List.cons_append, List.nil_append, List.replicate_succ, List.replicate_zero, Nat.reduceSub, Nat.reduceAdd, Nat.reduceLT, okO_if, dAddA_ii, dAddA_ss, dAddA_ll, dAddA_tt, dAdd_ii, dAdd_ss, dSub_ii, dMul_ii, dMul_si, dMod_ii, dDiv_ii, dLt_ii, dLt_ss, dLe_ii, dLe_ss, dGt_ii, dGt_ss, dGe_ii, dGe_ss, dEq_ii, dEq_ss, dEq_bb, dEq_nn, dEq_ns, dEq_sn, dEq_ni, dEq_in, dNe_ii, dNe_ss, dNe_bb, dNe_nn, dNe_ns, dNe_sn, dNe_ni, dNe_in, dIs_n, dIsNot_n, dIs_b, dIsNot_b, dIs_i, dIsNot_i, dIs_s, dIsNot_s, dIs_l, dIsNot_l, dIs_t, dIsNot_t, dIs_d, dIsNot_d, dIs_o, dIsNot_o, dLen_s, dLen_l, dLen_t, dTup_d, dLst_d, truD_n, truD_b, truD_i, truD_s, truD_l, truD_t, dNot_b, dNeg_i, asInt_i, asBl_b, dSl_s, dSl_l, dSl_t, isStr_s, items_l, items_t, items_s, dInt_i, dInt_b, dIx_li, dIx_ti, dStarts_ss, dTuple_l, dTuple_t, aList_l, aList_t, dIn_cs, dNotIn_cs, valD_d, valB_d, valB_o, valB_w, ownOf_o, isi_int_n, isi_int_b, isi_int_i, isi_int_s, isi_int_l, isi_int_t, isi_int_d, isi_str_n, isi_str_b, isi_str_i, isi_str_s, isi_str_l, isi_str_t, isi_str_d, isi_bool_n, isi_bool_b, isi_bool_i, isi_bool_s, isi_bool_l, isi_bool_t, isi_bool_d, isi_list_n, isi_list_b, isi_list_i, isi_list_s, isi_list_l, isi_list_t, isi_list_d, isi_tuple_n, isi_tuple_b, isi_tuple_i, isi_tuple_s, isi_tuple_l, isi_tuple_t, isi_tuple_d, isi_dict_n, isi_dict_b, isi_dict_i, isi_dict_s, isi_dict_l, isi_dict_t, isi_dict_d, decide_eq_true_eq, Bool.not_eq_true, Bool.not_true, Bool.not_false, if_true, if_false, Bool.false_eq_true, and_true, true_and, decide_true, decide_false, ite_true, ite_false, reduceCtorEq, (cut_m1 l).2, big']
        obtain ⟨bb, ebb⟩ := ne_nil_ok (flds l) hc
        by_cases hx : cutL (l.take (l.length - 1)) (some (-1)) none = [32]
        · simp only [hx, decide_true, Bool.not_true, Bool.false_eq_true, if_false]
          exact last _ ef
        · simp only [hx, decide_false, Bool.not_false, if_true]
          refine ⟨by decide, _, ebb, ?_⟩
          simp only [ok_forNil, ok_forCons, forK_nx, forK_ct, forK_bk, forK_rt, ok_eOp, ok_eUn, ok_aNil, ok_aCons, ok_eFn, ok_aFn, ok_eApp, ok_eC, ok_eL, ok_eSt, ok_eM1, ok_aM1, ok_oNone, ok_oSome, ok_eSl, ok_tOf, ok_tTru, ok_tNot, ok_tAnd, ok_tOr, ok_eAnd, ok_eOr, ok_eIf, ok_eChain, ok_eVar, ok_eVarB, ok_sSeq, seqK_nx, seqK_rt, seqK_bk, seqK_ct, ok_sSet, ok_sRet, ok_sIf, ok_sNext, ok_sDrop, ok_sApp, ok_sFreeze, ok_sUnp, ok_sAug, ok_sFor, ok_aLcE, ok_aItems, runK_rt, runK_nx, ok_runD, okO_some, okO_map, valD_d, valB_d, valB_o, valB_w, ownOf_o, asInt_i, asBl_b, start3, frz, sets, tgName, tgTup, tgsCons, tgsNil, wipe3, List.set_cons_zero, List.set_cons_succ, List.getElem?_cons_zero, List.getElem?_cons_succ, List.map_cons, List.map_nil, List.length_cons, List.length_nil, List.cons_append, List.nil_append, List.replicate_succ, List.replicate_zero, Nat.reduceSub, Nat.reduceAdd, Nat.reduceLT, okO_if, dAddA_ii, dAddA_ss, dAddA_ll, dAddA_tt, dAdd_ii, dAdd_ss, dSub_ii, dMul_ii, dMul_si, dMod_ii, dDiv_ii, dLt_ii, dLt_ss, dLe_ii, dLe_ss, dGt_ii, dGt_ss, dGe_ii, dGe_ss, dEq_ii, dEq_ss, dEq_bb, dEq_nn, dEq_ns, dEq_sn, dEq_ni, dEq_in, dNe_ii, dNe_ss, dNe_bb, dNe_nn, dNe_ns, dNe_sn, dNe_ni, dNe_in, dIs_n, dIsNot_n, dIs_b, dIsNot_b, dIs_i, dIsNot_i, dIs_s, dIsNot_s, dIs_l, dIsNot_l, dIs_t, dIsNot_t, dIs_d, dIsNot_d, dIs_o, dIsNot_o, dLen_s, dLen_l, dLen_t, dTup_d, dLst_d, truD_n, truD_b, truD_i, truD_s, truD_l, truD_t, dNot_b, dNeg_i, asInt_i, asBl_b, dSl_s, dSl_l, dSl_t, isStr_s, items_l, items_t, items_s, dInt_i, dInt_b, dIx_li, dIx_ti, dStarts_ss, dTuple_l, dTuple_t, aList_l, aList_t, dIn_cs, dNotIn_cs, valD_d, valB_d, valB_o, valB_w, ownOf_o, isi_int_n, isi_int_b, isi_int_i, isi_int_s, isi_int_l, isi_int_t, isi_int_d, isi_str_n, isi_str_b, isi_str_i, isi_str_s, isi_str_l, isi_str_t, isi_str_d, isi_bool_n, isi_bool_b, isi_bool_i, isi_bool_s, isi_bool_l, isi_bool_t, isi_bool_d, isi_list_n, isi_list_b, isi_list_i, isi_list_s, isi_list_l, isi_list_t, isi_list_d, isi_tuple_n, isi_tuple_b, isi_tuple_i, isi_tuple_s, isi_tuple_l, isi_tuple_t, isi_tuple_d, isi_dict_n, isi_dict_b, isi_dict_i, isi_dict_s, isi_dict_l, isi_dict_t, isi_dict_d, decide_eq_true_eq, Bool.not_eq_true, Bool.not_true, Bool.not_false, if_true, if_false, Bool.false_eq_true, and_true, true_and, decide_true, decide_false, ite_true, ite_false, reduceCtorEq]
          cases bb
          · simp only [Bool.false_eq_true, if_false]
            exact last _ ef
          · simp only [if_true]
            split <;> exact last _ ef
      · rw [if_neg hlast]
        exact stay
    · exact stay
  refine ok_for (fun ds ρ g' => DeckOk n g' ∧ ∃ l a b, ρ = [some (.d (.obj n)), some (.own ((flds l).map .str)), some (.d (.str l)), a, b, none] ∧ shutL l ∧ l.length + 10 * ds.length ≤ 200 ∧ (flds l).length + ds.length ≤ 1000 ∧ (∀ p ∈ flds l, ∀ c ∈ p, c < 1114112))
    ⟨h2, List.replicate v.toNat 32, none, none, by rw [flds_blanks]; rfl, ?_, ?_, ?_, ?_⟩ (fun d r ρ g' hJ => ?_) (fun ρ g' hJ => ?_)
  · cases q : v.toNat with
    | zero => exact .inl rfl
    | succ k => have := shut_blanks [] k; rw [List.nil_append] at this; exact this
  · rw [rangeD_len, List.length_replicate]; omega
  · rw [rangeD_len, flds_blanks]; simp; omega
  · rw [flds_blanks]; simp
  · obtain ⟨hg, l, a, b, rfl, hsh, hlen, hfl, hcs⟩ := hJ
    rw [List.length_cons] at hlen hfl
    refine ⟨_, rfl, ?_⟩
    unfold lb__law_line_0
    simp only [ok_forNil, ok_forCons, forK_nx, forK_ct, forK_bk, forK_rt, ok_eOp, ok_eUn, ok_aNil, ok_aCons, ok_eFn, ok_aFn, ok_eApp, ok_eC, ok_eL, ok_eSt, ok_eM1, ok_aM1, ok_oNone, ok_oSome, ok_eSl, ok_tOf, ok_tTru, ok_tNot, ok_tAnd, ok_tOr, ok_eAnd, ok_eOr, ok_eIf, ok_eChain, ok_eVar, ok_eVarB, ok_sSeq, seqK_rt, seqK_bk, seqK_ct, ok_sSet, ok_sRet, ok_sIf, ok_sNext, ok_sDrop, ok_sApp, ok_sFreeze, ok_sUnp, ok_sAug, ok_sFor, ok_aLcE, ok_aItems, runK_rt, runK_nx, ok_runD, okO_some, okO_map, valD_d, valB_d, valB_o, valB_w, ownOf_o, asInt_i, asBl_b, start3, frz, sets, tgName, tgTup, tgsCons, tgsNil, wipe3, List.set_cons_zero, List.set_cons_succ, List.getElem?_cons_zero, List.getElem?_cons_succ, List.map_cons, List.map_nil, List.length_cons, List.length_nil, List.cons_append, List.nil_append, List.replicate_succ, List.replicate_zero, Nat.reduceSub, Nat.reduceAdd, Nat.reduceLT, okO_if, dAddA_ii, dAddA_ss, dAddA_ll, dAddA_tt, dAdd_ii, dAdd_ss, dSub_ii, dMul_ii, dMul_si, dMod_ii, dDiv_ii, dLt_ii, dLt_ss, dLe_ii, dLe_ss, dGt_ii, dGt_ss, dGe_ii, dGe_ss, dEq_ii, dEq_ss, dEq_bb, dEq_nn, dEq_ns, dEq_sn, dEq_ni, dEq_in, dNe_ii, dNe_ss, dNe_bb, dNe_nn, dNe_ns, dNe_sn, dNe_ni, dNe_in, dIs_n, dIsNot_n, dIs_b, dIsNot_b, dIs_i, dIsNot_i, dIs_s, dIsNot_s, dIs_l, dIsNot_l, dIs_t, dIsNot_t, dIs_d, dIsNot_d, dIs_o, dIsNot_o, dLen_s, dLen_l, dLen_t, dTup_d, dLst_d, truD_n, truD_b, truD_i, truD_s, truD_l, truD_t, dNot_b, dNeg_i, asInt_i, asBl_b, dSl_s, dSl_l, dSl_t, isStr_s, items_l, items_t, items_s, dInt_i, dInt_b, dIx_li, dIx_ti, dStarts_ss, dTuple_l, dTuple_t, aList_l, aList_t, dIn_cs, dNotIn_cs, valD_d, valB_d, valB_o, valB_w, ownOf_o, isi_int_n, isi_int_b, isi_int_i, isi_int_s, isi_int_l, isi_int_t, isi_int_d, isi_str_n, isi_str_b, isi_str_i, isi_str_s, isi_str_l, isi_str_t, isi_str_d, isi_bool_n, isi_bool_b, isi_bool_i, isi_bool_s, isi_bool_l, isi_bool_t, isi_bool_d, isi_list_n, isi_list_b, isi_list_i, isi_list_s, isi_list_l, isi_list_t, isi_list_d, isi_tuple_n, isi_tuple_b, isi_tuple_i, isi_tuple_s, isi_tuple_l, isi_tuple_t, isi_tuple_d, isi_dict_n, isi_dict_b, isi_dict_i, isi_dict_s, isi_dict_l, isi_dict_t, isi_dict_d, decide_eq_true_eq, Bool.not_eq_true, Bool.not_true, Bool.not_false, if_true, if_false, Bool.false_eq_true, and_true, true_and, decide_true, decide_false, ite_true, ite_false, reduceCtorEq]
    refine Ok.next hg (by decide) (by decide) fun k g3 d0 d1 h3 => ?_
    simp only [ok_forNil, ok_forCons, forK_nx, forK_ct, forK_bk, forK_rt, ok_eOp, ok_eUn, ok_aNil, ok_aCons, ok_eFn, ok_aFn, ok_eApp, ok_eC, ok_eL, ok_eSt, ok_eM1, ok_aM1, ok_oNone, ok_oSome, ok_eSl, ok_tOf, ok_tTru, ok_tNot, ok_tAnd, ok_tOr, ok_eAnd, ok_eOr, ok_eIf, ok_eChain, ok_eVar, ok_eVarB, ok_sSeq, seqK_rt, seqK_bk, seqK_ct, ok_sSet, ok_sRet, ok_sIf, ok_sNext, ok_sDrop, ok_sApp, ok_sFreeze, ok_sUnp, ok_sAug, ok_sFor, ok_aLcE, ok_aItems, runK_rt, runK_nx, ok_runD, okO_some, okO_map, valD_d, valB_d, valB_o, valB_w, ownOf_o, asInt_i, asBl_b, start3, frz, sets, tgName, tgTup, tgsCons, tgsNil, wipe3, List.set_cons_zero, List.set_cons_succ, List.getElem?_cons_zero, List.getElem?_cons_succ, List.map_cons, List.map_nil, List.length_cons, List.length_nil, List.cons_append, List.nil_append, List.replicate_succ, List.replicate_zero, Nat.reduceSub, Nat.reduceAdd, Nat.reduceLT, okO_if, dAddA_ii, dAddA_ss, dAddA_ll, dAddA_tt, dAdd_ii, dAdd_ss, dSub_ii, dMul_ii, dMul_si, dMod_ii, dDiv_ii, dLt_ii, dLt_ss, dLe_ii, dLe_ss, dGt_ii, dGt_ss, dGe_ii, dGe_ss, dEq_ii, dEq_ss, dEq_bb, dEq_nn, dEq_ns, dEq_sn, dEq_ni, dEq_in, dNe_ii, dNe_ss, dNe_bb, dNe_nn, dNe_ns, dNe_sn, dNe_ni, dNe_in, dIs_n, dIsNot_n, dIs_b, dIsNot_b, dIs_i, dIsNot_i, dIs_s, dIsNot_s, dIs_l, dIsNot_l, dIs_t, dIsNot_t, dIs_d, dIsNot_d, dIs_o, dIsNot_o, dLen_s, dLen_l, dLen_t, dTup_d, dLst_d, truD_n, truD_b, truD_i, truD_s, truD_l, truD_t, dNot_b, dNeg_i, asInt_i, asBl_b, dSl_s, dSl_l, dSl_t, isStr_s, items_l, items_t, items_s, dInt_i, dInt_b, dIx_li, dIx_ti, dStarts_ss, dTuple_l, dTuple_t, aList_l, aList_t, dIn_cs, dNotIn_cs, valD_d, valB_d, valB_o, valB_w, ownOf_o, isi_int_n, isi_int_b, isi_int_i, isi_int_s, isi_int_l, isi_int_t, isi_int_d, isi_str_n, isi_str_b, isi_str_i, isi_str_s, isi_str_l, isi_str_t, isi_str_d, isi_bool_n, isi_bool_b, isi_bool_i, isi_bool_s, isi_bool_l, isi_bool_t, isi_bool_d, isi_list_n, isi_list_b, isi_list_i, isi_list_s, isi_list_l, isi_list_t, isi_list_d, isi_tuple_n, isi_tuple_b, isi_tuple_i, isi_tuple_s, isi_tuple_l, isi_tuple_t, isi_tuple_d, isi_dict_n, isi_dict_b, isi_dict_i, isi_dict_s, isi_dict_l, isi_dict_t, isi_dict_d, decide_eq_true_eq, Bool.not_eq_true, Bool.not_true, Bool.not_false, if_true, if_false, Bool.false_eq_true, and_true, true_and, decide_true, decide_false, ite_true, ite_false, reduceCtorEq]
    refine ⟨_, range1_ok (by omega) (by omega), ⟨by rw [rangeD_len]; unfold BIG; omega, rfl⟩, ?_⟩
    refine join_ok (DeckOk n) (fun s => ∃ c, s = [c] ∧ 32 ≤ c ∧ c ≤ 126) 1 h3 (by rw [rangeD_len]; unfold BIG; omega) (fun d hd g hg => ⟨_, rfl, ?_⟩) (fun ls g4 hg4 hls hP => ?_)
    · simp only [ok_forNil, ok_forCons, forK_nx, forK_ct, forK_bk, forK_rt, ok_eOp, ok_eUn, ok_aNil, ok_aCons, ok_eFn, ok_aFn, ok_eApp, ok_eC, ok_eL, ok_eSt, ok_eM1, ok_aM1, ok_oNone, ok_oSome, ok_eSl, ok_tOf, ok_tTru, ok_tNot, ok_tAnd, ok_tOr, ok_eAnd, ok_eOr, ok_eIf, ok_eChain, ok_eVar, ok_eVarB, ok_sSeq, seqK_nx, seqK_rt, seqK_bk, seqK_ct, ok_sSet, ok_sRet, ok_sIf, ok_sNext, ok_sDrop, ok_sApp, ok_sFreeze, ok_sUnp, ok_sAug, ok_sFor, ok_aLcE, ok_aItems, runK_rt, runK_nx, ok_runD, okO_some, okO_map, valD_d, valB_d, valB_o, valB_w, ownOf_o, asInt_i, asBl_b, start3, frz, sets, tgName, tgTup, tgsCons, tgsNil, wipe3, List.set_cons_zero, List.set_cons_succ, List.getElem?_cons_zero, List.getElem?_cons_succ, List.map_cons, List.map_nil, List.length_cons, List.length_nil, List.cons_append, List.nil_append, List.replicate_succ, List.replicate_zero, Nat.reduceSub, Nat.reduceAdd, Nat.reduceLT, le__law_line_0]
      exact sign_ok hg fun c g' hg' e0 e1 => ⟨⟨_, rfl, ⟨c, rfl, e0, e1⟩, Nat.le_refl _⟩, hg'⟩
    · rw [rangeD_len] at hls
      obtain ⟨k1, k2⟩ := signs_flat ls fun s hs => (hP s hs).1
      generalize ls.flatten = x at k1 k2
      have hx : x.length = 1 + k.toNat := by omega
      refine ⟨.str (x.map fun c => if c = 32 then 98 else c), ?_, ?_⟩
      · unfold dReplC
        dsimp only
        rw [if_pos (by simp; omega), replL_1]
      generalize hp : (x.map fun c => if c = 32 then 98 else c) = p
      have hpl : p.length = x.length := by rw [← hp, List.length_map]
      have hp32 : 32 ∉ p := by
        rw [← hp]
        intro hm
        obtain ⟨c, _, e⟩ := List.mem_map.mp hm
        split at e
        · cases e
        · rename_i hn; exact hn e
      have hpne : p ≠ [] := fun e => by rw [e] at hpl; simp at hpl; omega
      have hpc : ∀ c ∈ p, c < 1114112 := by
        rw [← hp]
        intro c hm
        obtain ⟨c', hc', e⟩ := List.mem_map.mp hm
        have := k2 c' hc'
        split at e <;> omega
      rw [seqK_nx]
      simp only [ok_forNil, ok_forCons, forK_nx, forK_ct, forK_bk, forK_rt, ok_eOp, ok_eUn, ok_aNil, ok_aCons, ok_eFn, ok_aFn, ok_eApp, ok_eC, ok_eL, ok_eSt, ok_eM1, ok_aM1, ok_oNone, ok_oSome, ok_eSl, ok_tOf, ok_tTru, ok_tNot, ok_tAnd, ok_tOr, ok_eAnd, ok_eOr, ok_eIf, ok_eChain, ok_eVar, ok_eVarB, ok_sSeq, seqK_rt, seqK_bk, seqK_ct, ok_sSet, ok_sRet, ok_sIf, ok_sNext, ok_sDrop, ok_sApp, ok_sFreeze, ok_sUnp, ok_sAug, ok_sFor, ok_aLcE, ok_aItems, runK_rt, runK_nx, ok_runD, okO_some, okO_map, valD_d, valB_d, valB_o, valB_w, ownOf_o, asInt_i, asBl_b, start3, frz, sets, tgName, tgTup, tgsCons, tgsNil, wipe3, List.set_cons_zero, List.set_cons_succ, List.getElem?_cons_zero, List.getElem?_cons_succ, List.map_cons, List.map_nil, List.length_cons, List.length_nil, List.cons_append, List.nil_append, List.replicate_succ, List.replicate_zero, Nat.reduceSub, Nat.reduceAdd, Nat.reduceLT, okO_if, dAddA_ii, dAddA_ss, dAddA_ll, dAddA_tt, dAdd_ii, dAdd_ss, dSub_ii, dMul_ii, dMul_si, dMod_ii, dDiv_ii, dLt_ii, dLt_ss, dLe_ii, dLe_ss, dGt_ii, dGt_ss, dGe_ii, dGe_ss, dEq_ii, dEq_ss, dEq_bb, dEq_nn, dEq_ns, dEq_sn, dEq_ni, dEq_in, dNe_ii, dNe_ss, dNe_bb, dNe_nn, dNe_ns, dNe_sn, dNe_ni, dNe_in, dIs_n, dIsNot_n, dIs_b, dIsNot_b, dIs_i, dIsNot_i, dIs_s, dIsNot_s, dIs_l, dIsNot_l, dIs_t, dIsNot_t, dIs_d, dIsNot_d, dIs_o, dIsNot_o, dLen_s, dLen_l, dLen_t, dTup_d, dLst_d, truD_n, truD_b, truD_i, truD_s, truD_l, truD_t, dNot_b, dNeg_i, asInt_i, asBl_b, dSl_s, dSl_l, dSl_t, isStr_s, items_l, items_t, items_s, dInt_i, dInt_b, dIx_li, dIx_ti, dStarts_ss, dTuple_l, dTuple_t, aList_l, aList_t, dIn_cs, dNotIn_cs, valD_d, valB_d, valB_o, valB_w, ownOf_o, isi_int_n, isi_int_b, isi_int_i, isi_int_s, isi_int_l, isi_int_t, isi_int_d, isi_str_n, isi_str_b, isi_str_i, isi_str_s, isi_str_l, isi_str_t, isi_str_d, isi_bool_n, isi_bool_b, isi_bool_i, isi_bool_s, isi_bool_l, isi_bool_t, isi_bool_d, isi_list_n, isi_list_b, isi_list_i, isi_list_s, isi_list_l, isi_list_t, isi_list_d, isi_tuple_n, isi_tuple_b, isi_tuple_i, isi_tuple_s, isi_tuple_l, isi_tuple_t, isi_tuple_d, isi_dict_n, isi_dict_b, isi_dict_i, isi_dict_s, isi_dict_l, isi_dict_t, isi_dict_d, decide_eq_true_eq, Bool.not_eq_true, Bool.not_true, Bool.not_false, if_true, if_false, Bool.false_eq_true, and_true, true_and, decide_true, decide_false, ite_true, ite_false, reduceCtorEq]
      refine ⟨by rw [List.length_map]; unfold BIG; omega, ?_⟩
      rw [seqK_nx]
      simp only [ok_forNil, ok_forCons, forK_nx, forK_ct, forK_bk, forK_rt, ok_eOp, ok_eUn, ok_aNil, ok_aCons, ok_eFn, ok_aFn, ok_eApp, ok_eC, ok_eL, ok_eSt, ok_eM1, ok_aM1, ok_oNone, ok_oSome, ok_eSl, ok_tOf, ok_tTru, ok_tNot, ok_tAnd, ok_tOr, ok_eAnd, ok_eOr, ok_eIf, ok_eChain, ok_eVar, ok_eVarB, ok_sSeq, seqK_rt, seqK_bk, seqK_ct, ok_sSet, ok_sRet, ok_sIf, ok_sNext, ok_sDrop, ok_sApp, ok_sFreeze, ok_sUnp, ok_sAug, ok_sFor, ok_aLcE, ok_aItems, runK_rt, runK_nx, ok_runD, okO_some, okO_map, valD_d, valB_d, valB_o, valB_w, ownOf_o, asInt_i, asBl_b, start3, frz, sets, tgName, tgTup, tgsCons, tgsNil, wipe3, List.set_cons_zero, List.set_cons_succ, List.getElem?_cons_zero, List.getElem?_cons_succ, List.map_cons, List.map_nil, List.length_cons, List.length_nil, List.cons_append, List.nil_append, List.replicate_succ, List.replicate_zero, Nat.reduceSub, Nat.reduceAdd, Nat.reduceLT, okO_if, dAddA_ii, dAddA_ss, dAddA_ll, dAddA_tt, dAdd_ii, dAdd_ss, dSub_ii, dMul_ii, dMul_si, dMod_ii, dDiv_ii, dLt_ii, dLt_ss, dLe_ii, dLe_ss, dGt_ii, dGt_ss, dGe_ii, dGe_ss, dEq_ii, dEq_ss, dEq_bb, dEq_nn, dEq_ns, dEq_sn, dEq_ni, dEq_in, dNe_ii, dNe_ss, dNe_bb, dNe_nn, dNe_ns, dNe_sn, dNe_ni, dNe_in, dIs_n, dIsNot_n, dIs_b, dIsNot_b, dIs_i, dIsNot_i, dIs_s, dIsNot_s, dIs_l, dIsNot_l, dIs_t, dIsNot_t, dIs_d, dIsNot_d, dIs_o, dIsNot_o, dLen_s, dLen_l, dLen_t, dTup_d, dLst_d, truD_n, truD_b, truD_i, truD_s, truD_l, truD_t, dNot_b, dNeg_i, asInt_i, asBl_b, dSl_s, dSl_l, dSl_t, isStr_s, items_l, items_t, items_s, dInt_i, dInt_b, dIx_li, dIx_ti, dStarts_ss, dTuple_l, dTuple_t, aList_l, aList_t, dIn_cs, dNotIn_cs, valD_d, valB_d, valB_o, valB_w, ownOf_o, isi_int_n, isi_int_b, isi_int_i, isi_int_s, isi_int_l, isi_int_t, isi_int_d, isi_str_n, isi_str_b, isi_str_i, isi_str_s, isi_str_l, isi_str_t, isi_str_d, isi_bool_n, isi_bool_b, isi_bool_i, isi_bool_s, isi_bool_l, isi_bool_t, isi_bool_d, isi_list_n, isi_list_b, isi_list_i, isi_list_s, isi_list_l, isi_list_t, isi_list_d, isi_tuple_n, isi_tuple_b, isi_tuple_i, isi_tuple_s, isi_tuple_l, isi_tuple_t, isi_tuple_d, isi_dict_n, isi_dict_b, isi_dict_i, isi_dict_s, isi_dict_l, isi_dict_t, isi_dict_d, decide_eq_true_eq, Bool.not_eq_true, Bool.not_true, Bool.not_false, if_true, if_false, Bool.false_eq_true, and_true, true_and, decide_true, decide_false, ite_true, ite_false, reduceCtorEq]
      refine ⟨by unfold BIG; omega, Ok.next hg4 (by decide) (by decide) fun k2 g5 e0 e1 h5 => ?_⟩
      simp only [ok_forNil, ok_forCons, forK_nx, forK_ct, forK_bk, forK_rt, ok_eOp, ok_eUn, ok_aNil, ok_aCons, ok_eFn, ok_aFn, ok_eApp, ok_eC, ok_eL, ok_eSt, ok_eM1, ok_aM1, ok_oNone, ok_oSome, ok_eSl, ok_tOf, ok_tTru, ok_tNot, ok_tAnd, ok_tOr, ok_eAnd, ok_eOr, ok_eIf, ok_eChain, ok_eVar, ok_eVarB, ok_sSeq, seqK_rt, seqK_bk, seqK_ct, ok_sSet, ok_sRet, ok_sIf, ok_sNext, ok_sDrop, ok_sApp, ok_sFreeze, ok_sUnp, ok_sAug, ok_sFor, ok_aLcE, ok_aItems, runK_rt, runK_nx, ok_runD, okO_some, okO_map, valD_d, valB_d, valB_o, valB_w, ownOf_o, asInt_i, asBl_b, start3, frz, sets, tgName, tgTup, tgsCons, tgsNil, wipe3, List.set_cons_zero, List.set_cons_succ, List.getElem?_cons_zero, List.getElem?_cons_succ, List.map_cons, List.map_nil, List.length_cons, List.length_nil, List.cons_append, List.nil_append, List.replicate_succ, List.replicate_zero, Nat.reduceSub, Nat.reduceAdd, Nat.reduceLT, okO_if, dAddA_ii, dAddA_ss, dAddA_ll, dAddA_tt, dAdd_ii, dAdd_ss, dSub_ii, dMul_ii, dMul_si, dMod_ii, dDiv_ii, dLt_ii, dLt_ss, dLe_ii, dLe_ss, dGt_ii, dGt_ss, dGe_ii, dGe_ss, dEq_ii, dEq_ss, dEq_bb, dEq_nn, dEq_ns, dEq_sn, dEq_ni, dEq_in, dNe_ii, dNe_ss, dNe_bb, dNe_nn, dNe_ns, dNe_sn, dNe_ni, dNe_in, dIs_n, dIsNot_n, dIs_b, dIsNot_b, dIs_i, dIsNot_i, dIs_s, dIsNot_s, dIs_l, dIsNot_l, dIs_t, dIsNot_t, dIs_d, dIsNot_d, dIs_o, dIsNot_o, dLen_s, dLen_l, dLen_t, dTup_d, dLst_d, truD_n, truD_b, truD_i, truD_s, truD_l, truD_t, dNot_b, dNeg_i, asInt_i, asBl_b, dSl_s, dSl_l, dSl_t, isStr_s, items_l, items_t, items_s, dInt_i, dInt_b, dIx_li, dIx_ti, dStarts_ss, dTuple_l, dTuple_t, aList_l, aList_t, dIn_cs, dNotIn_cs, valD_d, valB_d, valB_o, valB_w, ownOf_o, isi_int_n, isi_int_b, isi_int_i, isi_int_s, isi_int_l, isi_int_t, isi_int_d, isi_str_n, isi_str_b, isi_str_i, isi_str_s, isi_str_l, isi_str_t, isi_str_d, isi_bool_n, isi_bool_b, isi_bool_i, isi_bool_s, isi_bool_l, isi_bool_t, isi_bool_d, isi_list_n, isi_list_b, isi_list_i, isi_list_s, isi_list_l, isi_list_t, isi_list_d, isi_tuple_n, isi_tuple_b, isi_tuple_i, isi_tuple_s, isi_tuple_l, isi_tuple_t, isi_tuple_d, isi_dict_n, isi_dict_b, isi_dict_i, isi_dict_s, isi_dict_l, isi_dict_t, isi_dict_d, decide_eq_true_eq, Bool.not_eq_true, Bool.not_true, Bool.not_false, if_true, if_false, Bool.false_eq_true, and_true, true_and, decide_true, decide_false, ite_true, ite_false, reduceCtorEq, List.length_append]
      refine ⟨⟨by omega, by omega, by unfold BIG; simp; omega⟩, ?_⟩
      have eb : (List.replicate (1 + k2).toNat [32]).flatten = List.replicate (k2.toNat + 1) 32 := by
        rw [flat_rep, show (1 + k2).toNat = k2.toNat + 1 by omega]
      rw [eb]
      have ef : flds ((l ++ p) ++ List.replicate (k2.toNat + 1) 32) = flds l ++ [p] := by
        rw [List.append_assoc, flds_shut hsh, List.replicate_succ, flds_app, flds_one hp32 hpne, flds_blanks, List.append_nil]
      refine ⟨by rw [List.length_replicate]; unfold BIG; omega, h5, (l ++ p) ++ List.replicate (k2.toNat + 1) 32, some (.d d), some (.d (.str p)), ?_, shut_blanks _ _, ?_, ?_, ?_⟩
      · rw [ef, List.map_append]; rfl
      · rw [List.length_append, List.length_append, List.length_replicate]; omega
      · rw [ef, List.length_append, List.length_singleton]; omega
      · rw [ef]
        intro q hq c hc
        rcases List.mem_append.mp hq with hq | hq
        · exact hcs q hq c hc
        · rw [List.mem_singleton.mp hq] at hc; exact hpc c hc
  · obtain ⟨hg, l, a, b, rfl, hsh, hlen, hfl, hcs⟩ := hJ
    rw [seqK_nx]
    exact endB l a b none g' hg (by simp at hlen; omega) hcs
end W

namespace W
open L3
def rowOk (d : D) : Prop := ∃ s l, d = .tup [.str s, .tup [.str l, .lst ((flds l).map .str)]] ∧ s.length ≤ 200 ∧ l.length ≤ 500
theorem law_ok (ns : List Int) (hl : ns.length ≤ 63) : Ok (f_law [.lst (ns.map .int)] []) fun d _ => d = .bl true := by
  unfold f_law d_law
  simp only [ok_forNil, ok_forCons, forK_nx, forK_ct, forK_bk, forK_rt, ok_eOp, ok_eUn, ok_aNil, ok_aCons, ok_eFn, ok_aFn, ok_eApp, ok_eC, ok_eL, ok_eSt, ok_eM1, ok_aM1, ok_oNone, ok_oSome, ok_eSl, ok_tOf, ok_tTru, ok_tNot, ok_tAnd, ok_tOr, ok_eAnd, ok_eOr, ok_eIf, ok_eChain, ok_eVar, ok_eVarB, ok_sSeq, seqK_rt, seqK_bk, seqK_ct, ok_sSet, ok_sRet, ok_sIf, ok_sNext, ok_sDrop, ok_sApp, ok_sFreeze, ok_sUnp, ok_sAug, ok_sFor, ok_aLcE, ok_aItems, runK_rt, runK_nx, ok_runD, okO_some, okO_map, valD_d, valB_d, valB_o, valB_w, ownOf_o, asInt_i, asBl_b, start3, frz, sets, tgName, tgTup, tgsCons, tgsNil, wipe3, List.set_cons_zero, List.set_cons_succ, List.getElem?_cons_zero, List.getElem?_cons_succ, List.map_cons, List.map_nil, List.length_cons, List.length_nil, List.cons_append, List.nil_append, List.replicate_succ, List.replicate_zero, Nat.reduceSub, Nat.reduceAdd, Nat.reduceLT, okO_if, dAddA_ii, dAddA_ss, dAddA_ll, dAddA_tt, dAdd_ii, dAdd_ss, dSub_ii, dMul_ii, dMul_si, dMod_ii, dDiv_ii, dLt_ii, dLt_ss, dLe_ii, dLe_ss, dGt_ii, dGt_ss, dGe_ii, dGe_ss, dEq_ii, dEq_ss, dEq_bb, dEq_nn, dEq_ns, dEq_sn, dEq_ni, dEq_in, dNe_ii, dNe_ss, dNe_bb, dNe_nn, dNe_ns, dNe_sn, dNe_ni, dNe_in, dIs_n, dIsNot_n, dIs_b, dIsNot_b, dIs_i, dIsNot_i, dIs_s, dIsNot_s, dIs_l, dIsNot_l, dIs_t, dIsNot_t, dIs_d, dIsNot_d, dIs_o, dIsNot_o, dLen_s, dLen_l, dLen_t, dTup_d, dLst_d, truD_n, truD_b, truD_i, truD_s, truD_l, truD_t, dNot_b, dNeg_i, asInt_i, asBl_b, dSl_s, dSl_l, dSl_t, isStr_s, items_l, items_t, items_s, dInt_i, dInt_b, dIx_li, dIx_ti, dStarts_ss, dTuple_l, dTuple_t, aList_l, aList_t, dIn_cs, dNotIn_cs, valD_d, valB_d, valB_o, valB_w, ownOf_o, isi_int_n, isi_int_b, isi_int_i, isi_int_s, isi_int_l, isi_int_t, isi_int_d, isi_str_n, isi_str_b, isi_str_i, isi_str_s, isi_str_l, isi_str_t, isi_str_d, isi_bool_n, isi_bool_b, isi_bool_i, isi_bool_s, isi_bool_l, isi_bool_t, isi_bool_d, isi_list_n, isi_list_b, isi_list_i, isi_list_s, isi_list_l, isi_list_t, isi_list_d, isi_tuple_n, isi_tuple_b, isi_tuple_i, isi_tuple_s, isi_tuple_l, isi_tuple_t, isi_tuple_d, isi_dict_n, isi_dict_b, isi_dict_i, isi_dict_s, isi_dict_l, isi_dict_t, isi_dict_d, decide_eq_true_eq, Bool.not_eq_true, Bool.not_true, Bool.not_false, if_true, if_false, Bool.false_eq_true, and_true, true_and, decide_true, decide_false, ite_true, ite_false, reduceCtorEq]
  refine (deck_ok ns hl).mono ?_
  rintro d g ⟨rfl, hg⟩
  rw [seqK_nx]
  simp only [ok_forNil, ok_forCons, forK_nx, forK_ct, forK_bk, forK_rt, ok_eOp, ok_eUn, ok_aNil, ok_aCons, ok_eFn, ok_aFn, ok_eApp, ok_eC, ok_eL, ok_eSt, ok_eM1, ok_aM1, ok_oNone, ok_oSome, ok_eSl, ok_tOf, ok_tTru, ok_tNot, ok_tAnd, ok_tOr, ok_eAnd, ok_eOr, ok_eIf, ok_eChain, ok_eVar, ok_eVarB, ok_sSeq, seqK_rt, seqK_bk, seqK_ct, ok_sSet, ok_sRet, ok_sIf, ok_sNext, ok_sDrop, ok_sApp, ok_sFreeze, ok_sUnp, ok_sAug, ok_sFor, ok_aLcE, ok_aItems, runK_rt, runK_nx, ok_runD, okO_some, okO_map, valD_d, valB_d, valB_o, valB_w, ownOf_o, asInt_i, asBl_b, start3, frz, sets, tgName, tgTup, tgsCons, tgsNil, wipe3, List.set_cons_zero, List.set_cons_succ, List.getElem?_cons_zero, List.getElem?_cons_succ, List.map_cons, List.map_nil, List.length_cons, List.length_nil, List.cons_append, List.nil_append, List.replicate_succ, List.replicate_zero, Nat.reduceSub, Nat.reduceAdd, Nat.reduceLT, okO_if, dAddA_ii, dAddA_ss, dAddA_ll, dAddA_tt, dAdd_ii, dAdd_ss, dSub_ii, dMul_ii, dMul_si, dMod_ii, dDiv_ii, dLt_ii, dLt_ss, dLe_ii, dLe_ss, dGt_ii, dGt_ss, dGe_ii, dGe_ss, dEq_ii, dEq_ss, dEq_bb, dEq_nn, dEq_ns, dEq_sn, dEq_ni, dEq_in, dNe_ii, dNe_ss, dNe_bb, dNe_nn, dNe_ns, dNe_sn, dNe_ni, dNe_in, dIs_n, dIsNot_n, dIs_b, dIsNot_b, dIs_i, dIsNot_i, dIs_s, dIsNot_s, dIs_l, dIsNot_l, dIs_t, dIsNot_t, dIs_d, dIsNot_d, dIs_o, dIsNot_o, dLen_s, dLen_l, dLen_t, dTup_d, dLst_d, truD_n, truD_b, truD_i, truD_s, truD_l, truD_t, dNot_b, dNeg_i, asInt_i, asBl_b, dSl_s, dSl_l, dSl_t, isStr_s, items_l, items_t, items_s, dInt_i, dInt_b, dIx_li, dIx_ti, dStarts_ss, dTuple_l, dTuple_t, aList_l, aList_t, dIn_cs, dNotIn_cs, valD_d, valB_d, valB_o, valB_w, ownOf_o, isi_int_n, isi_int_b, isi_int_i, isi_int_s, isi_int_l, isi_int_t, isi_int_d, isi_str_n, isi_str_b, isi_str_i, isi_str_s, isi_str_l, isi_str_t, isi_str_d, isi_bool_n, isi_bool_b, isi_bool_i, isi_bool_s, isi_bool_l, isi_bool_t, isi_bool_d, isi_list_n, isi_list_b, isi_list_i, isi_list_s, isi_list_l, isi_list_t, isi_list_d, isi_tuple_n, isi_tuple_b, isi_tuple_i, isi_tuple_s, isi_tuple_l, isi_tuple_t, isi_tuple_d, isi_dict_n, isi_dict_b, isi_dict_i, isi_dict_s, isi_dict_l, isi_dict_t, isi_dict_d, decide_eq_true_eq, Bool.not_eq_true, Bool.not_true, Bool.not_false, if_true, if_false, Bool.false_eq_true, and_true, true_and, decide_true, decide_false, ite_true, ite_false, reduceCtorEq]
  rw [ok_sOwn _ _ _ (by simp)]
  simp only [ok_forNil, ok_forCons, forK_nx, forK_ct, forK_bk, forK_rt, ok_eOp, ok_eUn, ok_aNil, ok_aCons, ok_eFn, ok_aFn, ok_eApp, ok_eC, ok_eL, ok_eSt, ok_eM1, ok_aM1, ok_oNone, ok_oSome, ok_eSl, ok_tOf, ok_tTru, ok_tNot, ok_tAnd, ok_tOr, ok_eAnd, ok_eOr, ok_eIf, ok_eChain, ok_eVar, ok_eVarB, ok_sSeq, seqK_rt, seqK_bk, seqK_ct, ok_sSet, ok_sRet, ok_sIf, ok_sNext, ok_sDrop, ok_sApp, ok_sFreeze, ok_sUnp, ok_sAug, ok_sFor, ok_aLcE, ok_aItems, runK_rt, runK_nx, ok_runD, okO_some, okO_map, valD_d, valB_d, valB_o, valB_w, ownOf_o, asInt_i, asBl_b, start3, frz, sets, tgName, tgTup, tgsCons, tgsNil, wipe3, List.set_cons_zero, List.set_cons_succ, List.getElem?_cons_zero, List.getElem?_cons_succ, List.map_cons, List.map_nil, List.length_cons, List.length_nil, List.cons_append, List.nil_append, List.replicate_succ, List.replicate_zero, Nat.reduceSub, Nat.reduceAdd, Nat.reduceLT, okO_if, dAddA_ii, dAddA_ss, dAddA_ll, dAddA_tt, dAdd_ii, dAdd_ss, dSub_ii, dMul_ii, dMul_si, dMod_ii, dDiv_ii, dLt_ii, dLt_ss, dLe_ii, dLe_ss, dGt_ii, dGt_ss, dGe_ii, dGe_ss, dEq_ii, dEq_ss, dEq_bb, dEq_nn, dEq_ns, dEq_sn, dEq_ni, dEq_in, dNe_ii, dNe_ss, dNe_bb, dNe_nn, dNe_ns, dNe_sn, dNe_ni, dNe_in, dIs_n, dIsNot_n, dIs_b, dIsNot_b, dIs_i, dIsNot_i, dIs_s, dIsNot_s, dIs_l, dIsNot_l, dIs_t, dIsNot_t, dIs_d, dIsNot_d, dIs_o, dIsNot_o, dLen_s, dLen_l, dLen_t, dTup_d, dLst_d, truD_n, truD_b, truD_i, truD_s, truD_l, truD_t, dNot_b, dNeg_i, asInt_i, asBl_b, dSl_s, dSl_l, dSl_t, isStr_s, items_l, items_t, items_s, dInt_i, dInt_b, dIx_li, dIx_ti, dStarts_ss, dTuple_l, dTuple_t, aList_l, aList_t, dIn_cs, dNotIn_cs, valD_d, valB_d, valB_o, valB_w, ownOf_o, isi_int_n, isi_int_b, isi_int_i, isi_int_s, isi_int_l, isi_int_t, isi_int_d, isi_str_n, isi_str_b, isi_str_i, isi_str_s, isi_str_l, isi_str_t, isi_str_d, isi_bool_n, isi_bool_b, isi_bool_i, isi_bool_s, isi_bool_l, isi_bool_t, isi_bool_d, isi_list_n, isi_list_b, isi_list_i, isi_list_s, isi_list_l, isi_list_t, isi_list_d, isi_tuple_n, isi_tuple_b, isi_tuple_i, isi_tuple_s, isi_tuple_l, isi_tuple_t, isi_tuple_d, isi_dict_n, isi_dict_b, isi_dict_i, isi_dict_s, isi_dict_l, isi_dict_t, isi_dict_d, decide_eq_true_eq, Bool.not_eq_true, Bool.not_true, Bool.not_false, if_true, if_false, Bool.false_eq_true, and_true, true_and, decide_true, decide_false, ite_true, ite_false, reduceCtorEq]
  refine ⟨by decide, ?_⟩
  rw [seqK_nx]
  simp only [ok_forNil, ok_forCons, forK_nx, forK_ct, forK_bk, forK_rt, ok_eOp, ok_eUn, ok_aNil, ok_aCons, ok_eFn, ok_aFn, ok_eApp, ok_eC, ok_eL, ok_eSt, ok_eM1, ok_aM1, ok_oNone, ok_oSome, ok_eSl, ok_tOf, ok_tTru, ok_tNot, ok_tAnd, ok_tOr, ok_eAnd, ok_eOr, ok_eIf, ok_eChain, ok_eVar, ok_eVarB, ok_sSeq, seqK_rt, seqK_bk, seqK_ct, ok_sSet, ok_sRet, ok_sIf, ok_sNext, ok_sDrop, ok_sApp, ok_sFreeze, ok_sUnp, ok_sAug, ok_sFor, ok_aLcE, ok_aItems, runK_rt, runK_nx, ok_runD, okO_some, okO_map, valD_d, valB_d, valB_o, valB_w, ownOf_o, asInt_i, asBl_b, start3, frz, sets, tgName, tgTup, tgsCons, tgsNil, wipe3, List.set_cons_zero, List.set_cons_succ, List.getElem?_cons_zero, List.getElem?_cons_succ, List.map_cons, List.map_nil, List.length_cons, List.length_nil, List.cons_append, List.nil_append, List.replicate_succ, List.replicate_zero, Nat.reduceSub, Nat.reduceAdd, Nat.reduceLT, okO_if, dAddA_ii, dAddA_ss, dAddA_ll, dAddA_tt, dAdd_ii, dAdd_ss, dSub_ii, dMul_ii, dMul_si, dMod_ii, dDiv_ii, dLt_ii, dLt_ss, dLe_ii, dLe_ss, dGt_ii, dGt_ss, dGe_ii, dGe_ss, dEq_ii, dEq_ss, dEq_bb, dEq_nn, dEq_ns, dEq_sn, dEq_ni, dEq_in, dNe_ii, dNe_ss, dNe_bb, dNe_nn, dNe_ns, dNe_sn, dNe_ni, dNe_in, dIs_n, dIsNot_n, dIs_b, dIsNot_b, dIs_i, dIsNot_i, dIs_s, dIsNot_s, dIs_l, dIsNot_l, dIs_t, dIsNot_t, dIs_d, dIsNot_d, dIs_o, dIsNot_o, dLen_s, dLen_l, dLen_t, dTup_d, dLst_d, truD_n, truD_b, truD_i, truD_s, truD_l, truD_t, dNot_b, dNeg_i, asInt_i, asBl_b, dSl_s, dSl_l, dSl_t, isStr_s, items_l, items_t, items_s, dInt_i, dInt_b, dIx_li, dIx_ti, dStarts_ss, dTuple_l, dTuple_t, aList_l, aList_t, dIn_cs, dNotIn_cs, valD_d, valB_d, valB_o, valB_w, ownOf_o, isi_int_n, isi_int_b, isi_int_i, isi_int_s, isi_int_l, isi_int_t, isi_int_d, isi_str_n, isi_str_b, isi_str_i, isi_str_s, isi_str_l, isi_str_t, isi_str_d, isi_bool_n, isi_bool_b, isi_bool_i, isi_bool_s, isi_bool_l, isi_bool_t, isi_bool_d, isi_list_n, isi_list_b, isi_list_i, isi_list_s, isi_list_l, isi_list_t, isi_list_d, isi_tuple_n, isi_tuple_b, isi_tuple_i, isi_tuple_s, isi_tuple_l, isi_tuple_t, isi_tuple_d, isi_dict_n, isi_dict_b, isi_dict_i, isi_dict_s, isi_dict_l, isi_dict_t, isi_dict_d, decide_eq_true_eq, Bool.not_eq_true, Bool.not_true, Bool.not_false, if_true, if_false, Bool.false_eq_true, and_true, true_and, decide_true, decide_false, ite_true, ite_false, reduceCtorEq]
  refine ⟨_, range1_ok (by decide) (by decide), ?_⟩
  refine ok_for (fun ds ρ g' => DeckOk 1 g' ∧ ∃ xs a, ρ = [some (.d (.lst (ns.map .int))), some (.d (.obj 1)), some (.own xs), a, none, none] ∧ xs.length + ds.length ≤ 8 ∧ ∀ x ∈ xs, rowOk x) ⟨hg, [], none, rfl, by decide, by simp⟩ (fun d r ρ g' hJ => ?_) (fun ρ g' hJ => ?_)
  · obtain ⟨hg, xs, a, rfl, hx, hr⟩ := hJ
    rw [List.length_cons] at hx
    refine ⟨_, rfl, ?_⟩
    unfold lb_law_0
    simp only [ok_forNil, ok_forCons, forK_nx, forK_ct, forK_bk, forK_rt, ok_eOp, ok_eUn, ok_aNil, ok_aCons, ok_eFn, ok_aFn, ok_eApp, ok_eC, ok_eL, ok_eSt, ok_eM1, ok_aM1, ok_oNone, ok_oSome, ok_eSl, ok_tOf, ok_tTru, ok_tNot, ok_tAnd, ok_tOr, ok_eAnd, ok_eOr, ok_eIf, ok_eChain, ok_eVar, ok_eVarB, ok_sSeq, seqK_rt, seqK_bk, seqK_ct, ok_sSet, ok_sRet, ok_sIf, ok_sNext, ok_sDrop, ok_sApp, ok_sFreeze, ok_sUnp, ok_sAug, ok_sFor, ok_aLcE, ok_aItems, runK_rt, runK_nx, ok_runD, okO_some, okO_map, valD_d, valB_d, valB_o, valB_w, ownOf_o, asInt_i, asBl_b, start3, frz, sets, tgName, tgTup, tgsCons, tgsNil, wipe3, List.set_cons_zero, List.set_cons_succ, List.getElem?_cons_zero, List.getElem?_cons_succ, List.map_cons, List.map_nil, List.length_cons, List.length_nil, List.cons_append, List.nil_append, List.replicate_succ, List.replicate_zero, Nat.reduceSub, Nat.reduceAdd, Nat.reduceLT, okO_if, dAddA_ii, dAddA_ss, dAddA_ll, dAddA_tt, dAdd_ii, dAdd_ss, dSub_ii, dMul_ii, dMul_si, dMod_ii, dDiv_ii, dLt_ii, dLt_ss, dLe_ii, dLe_ss, dGt_ii, dGt_ss, dGe_ii, dGe_ss, dEq_ii, dEq_ss, dEq_bb, dEq_nn, dEq_ns, dEq_sn, dEq_ni, dEq_in, dNe_ii, dNe_ss, dNe_bb, dNe_nn, dNe_ns, dNe_sn, dNe_ni, dNe_in, dIs_n, dIsNot_n, dIs_b, dIsNot_b, dIs_i, dIsNot_i, dIs_s, dIsNot_s, dIs_l, dIsNot_l, dIs_t, dIsNot_t, dIs_d, dIsNot_d, dIs_o, dIsNot_o, dLen_s, dLen_l, dLen_t, dTup_d, dLst_d, truD_n, truD_b, truD_i, truD_s, truD_l, truD_t, dNot_b, dNeg_i, asInt_i, asBl_b, dSl_s, dSl_l, dSl_t, isStr_s, items_l, items_t, items_s, dInt_i, dInt_b, dIx_li, dIx_ti, dStarts_ss, dTuple_l, dTuple_t, aList_l, aList_t, dIn_cs, dNotIn_cs, valD_d, valB_d, valB_o, valB_w, ownOf_o, isi_int_n, isi_int_b, isi_int_i, isi_int_s, isi_int_l, isi_int_t, isi_int_d, isi_str_n, isi_str_b, isi_str_i, isi_str_s, isi_str_l, isi_str_t, isi_str_d, isi_bool_n, isi_bool_b, isi_bool_i, isi_bool_s, isi_bool_l, isi_bool_t, isi_bool_d, isi_list_n, isi_list_b, isi_list_i, isi_list_s, isi_list_l, isi_list_t, isi_list_d, isi_tuple_n, isi_tuple_b, isi_tuple_i, isi_tuple_s, isi_tuple_l, isi_tuple_t, isi_tuple_d, isi_dict_n, isi_dict_b, isi_dict_i, isi_dict_s, isi_dict_l, isi_dict_t, isi_dict_d, decide_eq_true_eq, Bool.not_eq_true, Bool.not_true, Bool.not_false, if_true, if_false, Bool.false_eq_true, and_true, true_and, decide_true, decide_false, ite_true, ite_false, reduceCtorEq]
    refine text_ok hg fun s g1 h1 hs => line_ok h1 fun l g2 h2 hl => ?_
    refine ⟨by decide, by unfold BIG; omega, h2, xs ++ [.tup [.str s, .tup [.str l, .lst ((flds l).map .str)]]], _, rfl, by rw [List.length_append, List.length_singleton]; omega, fun x hm => ?_⟩
    rcases List.mem_append.mp hm with hm | hm
    · exact hr x hm
    · rw [List.mem_singleton] at hm
      exact ⟨s, l, hm, hs, hl⟩
  · obtain ⟨hg, xs, a, rfl, hx, hr⟩ := hJ
    rw [List.length_nil] at hx
    rw [seqK_nx]
    simp only [ok_forNil, ok_forCons, forK_nx, forK_ct, forK_bk, forK_rt, ok_eOp, ok_eUn, ok_aNil, ok_aCons, ok_eFn, ok_aFn, ok_eApp, ok_eC, ok_eL, ok_eSt, ok_eM1, ok_aM1, ok_oNone, ok_oSome, ok_eSl, ok_tOf, ok_tTru, ok_tNot, ok_tAnd, ok_tOr, ok_eAnd, ok_eOr, ok_eIf, ok_eChain, ok_eVar, ok_eVarB, ok_sSeq, seqK_rt, seqK_bk, seqK_ct, ok_sSet, ok_sRet, ok_sIf, ok_sNext, ok_sDrop, ok_sApp, ok_sFreeze, ok_sUnp, ok_sAug, ok_sFor, ok_aLcE, ok_aItems, runK_rt, runK_nx, ok_runD, okO_some, okO_map, valD_d, valB_d, valB_o, valB_w, ownOf_o, asInt_i, asBl_b, start3, frz, sets, tgName, tgTup, tgsCons, tgsNil, wipe3, List.set_cons_zero, List.set_cons_succ, List.getElem?_cons_zero, List.getElem?_cons_succ, List.map_cons, List.map_nil, List.length_cons, List.length_nil, List.cons_append, List.nil_append, List.replicate_succ, List.replicate_zero, Nat.reduceSub, Nat.reduceAdd, Nat.reduceLT, okO_if, dAddA_ii, dAddA_ss, dAddA_ll, dAddA_tt, dAdd_ii, dAdd_ss, dSub_ii, dMul_ii, dMul_si, dMod_ii, dDiv_ii, dLt_ii, dLt_ss, dLe_ii, dLe_ss, dGt_ii, dGt_ss, dGe_ii, dGe_ss, dEq_ii, dEq_ss, dEq_bb, dEq_nn, dEq_ns, dEq_sn, dEq_ni, dEq_in, dNe_ii, dNe_ss, dNe_bb, dNe_nn, dNe_ns, dNe_sn, dNe_ni, dNe_in, dIs_n, dIsNot_n, dIs_b, dIsNot_b, dIs_i, dIsNot_i, dIs_s, dIsNot_s, dIs_l, dIsNot_l, dIs_t, dIsNot_t, dIs_d, dIsNot_d, dIs_o, dIsNot_o, dLen_s, dLen_l, dLen_t, dTup_d, dLst_d, truD_n, truD_b, truD_i, truD_s, truD_l, truD_t, dNot_b, dNeg_i, asInt_i, asBl_b, dSl_s, dSl_l, dSl_t, isStr_s, items_l, items_t, items_s, dInt_i, dInt_b, dIx_li, dIx_ti, dStarts_ss, dTuple_l, dTuple_t, aList_l, aList_t, dIn_cs, dNotIn_cs, valD_d, valB_d, valB_o, valB_w, ownOf_o, isi_int_n, isi_int_b, isi_int_i, isi_int_s, isi_int_l, isi_int_t, isi_int_d, isi_str_n, isi_str_b, isi_str_i, isi_str_s, isi_str_l, isi_str_t, isi_str_d, isi_bool_n, isi_bool_b, isi_bool_i, isi_bool_s, isi_bool_l, isi_bool_t, isi_bool_d, isi_list_n, isi_list_b, isi_list_i, isi_list_s, isi_list_l, isi_list_t, isi_list_d, isi_tuple_n, isi_tuple_b, isi_tuple_i, isi_tuple_s, isi_tuple_l, isi_tuple_t, isi_tuple_d, isi_dict_n, isi_dict_b, isi_dict_i, isi_dict_s, isi_dict_l, isi_dict_t, isi_dict_d, decide_eq_true_eq, Bool.not_eq_true, Bool.not_true, Bool.not_false, if_true, if_false, Bool.false_eq_true, and_true, true_and, decide_true, decide_false, ite_true, ite_false, reduceCtorEq]
    refine ⟨by unfold BIG; omega, ?_⟩
    refine ok_for (fun ds ρ g' => ∃ a b c, ρ = [some (.d (.lst (ns.map .int))), some (.d (.obj 1)), some (.own xs), a, b, c] ∧ ∀ x ∈ ds, rowOk x) ⟨_, _, _, rfl, fun x hm => by rcases List.mem_append.mp hm with hm | hm <;> exact hr x hm⟩ (fun d r ρ g' hJ => ?_) (fun ρ g' hJ => ?_)
    · obtain ⟨a, b, c, rfl, hr⟩ := hJ
      obtain ⟨s, l, rfl, hs, hl⟩ := hr _ (List.mem_cons_self ..)
      refine ⟨_, rfl, ?_⟩
      unfold lb_law_1
      simp only [ok_forNil, ok_forCons, forK_nx, forK_ct, forK_bk, forK_rt, ok_eOp, ok_eUn, ok_aNil, ok_aCons, ok_eFn, ok_aFn, ok_eApp, ok_eC, ok_eL, ok_eSt, ok_eM1, ok_aM1, ok_oNone, ok_oSome, ok_eSl, ok_tOf, ok_tTru, ok_tNot, ok_tAnd, ok_tOr, ok_eAnd, ok_eOr, ok_eIf, ok_eChain, ok_eVar, ok_eVarB, ok_sSeq, seqK_rt, seqK_bk, seqK_ct, ok_sSet, ok_sRet, ok_sIf, ok_sNext, ok_sDrop, ok_sApp, ok_sFreeze, ok_sUnp, ok_sAug, ok_sFor, ok_aLcE, ok_aItems, runK_rt, runK_nx, ok_runD, okO_some, okO_map, valD_d, valB_d, valB_o, valB_w, ownOf_o, asInt_i, asBl_b, start3, frz, sets, tgName, tgTup, tgsCons, tgsNil, wipe3, List.set_cons_zero, List.set_cons_succ, List.getElem?_cons_zero, List.getElem?_cons_succ, List.map_cons, List.map_nil, List.length_cons, List.length_nil, List.cons_append, List.nil_append, List.replicate_succ, List.replicate_zero, Nat.reduceSub, Nat.reduceAdd, Nat.reduceLT, okO_if, dAddA_ii, dAddA_ss, dAddA_ll, dAddA_tt, dAdd_ii, dAdd_ss, dSub_ii, dMul_ii, dMul_si, dMod_ii, dDiv_ii, dLt_ii, dLt_ss, dLe_ii, dLe_ss, dGt_ii, dGt_ss, dGe_ii, dGe_ss, dEq_ii, dEq_ss, dEq_bb, dEq_nn, dEq_ns, dEq_sn, dEq_ni, dEq_in, dNe_ii, dNe_ss, dNe_bb, dNe_nn, dNe_ns, dNe_sn, dNe_ni, dNe_in, dIs_n, dIsNot_n, dIs_b, dIsNot_b, dIs_i, dIsNot_i, dIs_s, dIsNot_s, dIs_l, dIsNot_l, dIs_t, dIsNot_t, dIs_d, dIsNot_d, dIs_o, dIsNot_o, dLen_s, dLen_l, dLen_t, dTup_d, dLst_d, truD_n, truD_b, truD_i, truD_s, truD_l, truD_t, dNot_b, dNeg_i, asInt_i, asBl_b, dSl_s, dSl_l, dSl_t, isStr_s, items_l, items_t, items_s, dInt_i, dInt_b, dIx_li, dIx_ti, dStarts_ss, dTuple_l, dTuple_t, aList_l, aList_t, dIn_cs, dNotIn_cs, valD_d, valB_d, valB_o, valB_w, ownOf_o, isi_int_n, isi_int_b, isi_int_i, isi_int_s, isi_int_l, isi_int_t, isi_int_d, isi_str_n, isi_str_b, isi_str_i, isi_str_s, isi_str_l, isi_str_t, isi_str_d, isi_bool_n, isi_bool_b, isi_bool_i, isi_bool_s, isi_bool_l, isi_bool_t, isi_bool_d, isi_list_n, isi_list_b, isi_list_i, isi_list_s, isi_list_l, isi_list_t, isi_list_d, isi_tuple_n, isi_tuple_b, isi_tuple_i, isi_tuple_s, isi_tuple_l, isi_tuple_t, isi_tuple_d, isi_dict_n, isi_dict_b, isi_dict_i, isi_dict_s, isi_dict_l, isi_dict_t, isi_dict_d, decide_eq_true_eq, Bool.not_eq_true, Bool.not_true, Bool.not_false, if_true, if_false, Bool.false_eq_true, and_true, true_and, decide_true, decide_false, ite_true, ite_false, reduceCtorEq]
      refine right_ok (by omega) ?_
      simp only [ok_forNil, ok_forCons, forK_nx, forK_ct, forK_bk, forK_rt, ok_eOp, ok_eUn, ok_aNil, ok_aCons, ok_eFn, ok_aFn, ok_eApp, ok_eC, ok_eL, ok_eSt, ok_eM1, ok_aM1, ok_oNone, ok_oSome, ok_eSl, ok_tOf, ok_tTru, ok_tNot, ok_tAnd, ok_tOr, ok_eAnd, ok_eOr, ok_eIf, ok_eChain, ok_eVar, ok_eVarB, ok_sSeq, seqK_rt, seqK_bk, seqK_ct, ok_sSet, ok_sRet, ok_sIf, ok_sNext, ok_sDrop, ok_sApp, ok_sFreeze, ok_sUnp, ok_sAug, ok_sFor, ok_aLcE, ok_aItems, runK_rt, runK_nx, ok_runD, okO_some, okO_map, valD_d, valB_d, valB_o, valB_w, ownOf_o, asInt_i, asBl_b, start3, frz, sets, tgName, tgTup, tgsCons, tgsNil, wipe3, List.set_cons_zero, List.set_cons_succ, List.getElem?_cons_zero, List.getElem?_cons_succ, List.map_cons, List.map_nil, List.length_cons, List.length_nil, List.cons_append, List.nil_append, List.replicate_succ, List.replicate_zero, Nat.reduceSub, Nat.reduceAdd, Nat.reduceLT, okO_if, dAddA_ii, dAddA_ss, dAddA_ll, dAddA_tt, dAdd_ii, dAdd_ss, dSub_ii, dMul_ii, dMul_si, dMod_ii, dDiv_ii, dLt_ii, dLt_ss, dLe_ii, dLe_ss, dGt_ii, dGt_ss, dGe_ii, dGe_ss, dEq_ii, dEq_ss, dEq_bb, dEq_nn, dEq_ns, dEq_sn, dEq_ni, dEq_in, dNe_ii, dNe_ss, dNe_bb, dNe_nn, dNe_ns, dNe_sn, dNe_ni, dNe_in, dIs_n, dIsNot_n, dIs_b, dIsNot_b, dIs_i, dIsNot_i, dIs_s, dIsNot_s, dIs_l, dIsNot_l, dIs_t, dIsNot_t, dIs_d, dIsNot_d, dIs_o, dIsNot_o, dLen_s, dLen_l, dLen_t, dTup_d, dLst_d, truD_n, truD_b, truD_i, truD_s, truD_l, truD_t, dNot_b, dNeg_i, asInt_i, asBl_b, dSl_s, dSl_l, dSl_t, isStr_s, items_l, items_t, items_s, dInt_i, dInt_b, dIx_li, dIx_ti, dStarts_ss, dTuple_l, dTuple_t, aList_l, aList_t, dIn_cs, dNotIn_cs, valD_d, valB_d, valB_o, valB_w, ownOf_o, isi_int_n, isi_int_b, isi_int_i, isi_int_s, isi_int_l, isi_int_t, isi_int_d, isi_str_n, isi_str_b, isi_str_i, isi_str_s, isi_str_l, isi_str_t, isi_str_d, isi_bool_n, isi_bool_b, isi_bool_i, isi_bool_s, isi_bool_l, isi_bool_t, isi_bool_d, isi_list_n, isi_list_b, isi_list_i, isi_list_s, isi_list_l, isi_list_t, isi_list_d, isi_tuple_n, isi_tuple_b, isi_tuple_i, isi_tuple_s, isi_tuple_l, isi_tuple_t, isi_tuple_d, isi_dict_n, isi_dict_b, isi_dict_i, isi_dict_s, isi_dict_l, isi_dict_t, isi_dict_d, decide_eq_true_eq, Bool.not_eq_true, Bool.not_true, Bool.not_false, if_true, if_false, Bool.false_eq_true, and_true, true_and, decide_true, decide_false, ite_true, ite_false, reduceCtorEq]
      refine ⟨_, rfl, right_ok (by omega) ?_⟩
      simp only [ok_forNil, ok_forCons, forK_nx, forK_ct, forK_bk, forK_rt, ok_eOp, ok_eUn, ok_aNil, ok_aCons, ok_eFn, ok_aFn, ok_eApp, ok_eC, ok_eL, ok_eSt, ok_eM1, ok_aM1, ok_oNone, ok_oSome, ok_eSl, ok_tOf, ok_tTru, ok_tNot, ok_tAnd, ok_tOr, ok_eAnd, ok_eOr, ok_eIf, ok_eChain, ok_eVar, ok_eVarB, ok_sSeq, seqK_rt, seqK_bk, seqK_ct, ok_sSet, ok_sRet, ok_sIf, ok_sNext, ok_sDrop, ok_sApp, ok_sFreeze, ok_sUnp, ok_sAug, ok_sFor, ok_aLcE, ok_aItems, runK_rt, runK_nx, ok_runD, okO_some, okO_map, valD_d, valB_d, valB_o, valB_w, ownOf_o, asInt_i, asBl_b, start3, frz, sets, tgName, tgTup, tgsCons, tgsNil, wipe3, List.set_cons_zero, List.set_cons_succ, List.getElem?_cons_zero, List.getElem?_cons_succ, List.map_cons, List.map_nil, List.length_cons, List.length_nil, List.cons_append, List.nil_append, List.replicate_succ, List.replicate_zero, Nat.reduceSub, Nat.reduceAdd, Nat.reduceLT, okO_if, dAddA_ii, dAddA_ss, dAddA_ll, dAddA_tt, dAdd_ii, dAdd_ss, dSub_ii, dMul_ii, dMul_si, dMod_ii, dDiv_ii, dLt_ii, dLt_ss, dLe_ii, dLe_ss, dGt_ii, dGt_ss, dGe_ii, dGe_ss, dEq_ii, dEq_ss, dEq_bb, dEq_nn, dEq_ns, dEq_sn, dEq_ni, dEq_in, dNe_ii, dNe_ss, dNe_bb, dNe_nn, dNe_ns, dNe_sn, dNe_ni, dNe_in, dIs_n, dIsNot_n, dIs_b, dIsNot_b, dIs_i, dIsNot_i, dIs_s, dIsNot_s, dIs_l, dIsNot_l, dIs_t, dIsNot_t, dIs_d, dIsNot_d, dIs_o, dIsNot_o, dLen_s, dLen_l, dLen_t, dTup_d, dLst_d, truD_n, truD_b, truD_i, truD_s, truD_l, truD_t, dNot_b, dNeg_i, asInt_i, asBl_b, dSl_s, dSl_l, dSl_t, isStr_s, items_l, items_t, items_s, dInt_i, dInt_b, dIx_li, dIx_ti, dStarts_ss, dTuple_l, dTuple_t, aList_l, aList_t, dIn_cs, dNotIn_cs, valD_d, valB_d, valB_o, valB_w, ownOf_o, isi_int_n, isi_int_b, isi_int_i, isi_int_s, isi_int_l, isi_int_t, isi_int_d, isi_str_n, isi_str_b, isi_str_i, isi_str_s, isi_str_l, isi_str_t, isi_str_d, isi_bool_n, isi_bool_b, isi_bool_i, isi_bool_s, isi_bool_l, isi_bool_t, isi_bool_d, isi_list_n, isi_list_b, isi_list_i, isi_list_s, isi_list_l, isi_list_t, isi_list_d, isi_tuple_n, isi_tuple_b, isi_tuple_i, isi_tuple_s, isi_tuple_l, isi_tuple_t, isi_tuple_d, isi_dict_n, isi_dict_b, isi_dict_i, isi_dict_s, isi_dict_l, isi_dict_t, isi_dict_d, decide_eq_true_eq, Bool.not_eq_true, Bool.not_true, Bool.not_false, if_true, if_false, Bool.false_eq_true, and_true, true_and, decide_true, decide_false, ite_true, ite_false, reduceCtorEq]
      refine ⟨_, rfl, _, rfl, law_fields_ok (by omega) ?_⟩
      simp only [ok_forNil, ok_forCons, forK_nx, forK_ct, forK_bk, forK_rt, ok_eOp, ok_eUn, ok_aNil, ok_aCons, ok_eFn, ok_aFn, ok_eApp, ok_eC, ok_eL, ok_eSt, ok_eM1, ok_aM1, ok_oNone, ok_oSome, ok_eSl, ok_tOf, ok_tTru, ok_tNot, ok_tAnd, ok_tOr, ok_eAnd, ok_eOr, ok_eIf, ok_eChain, ok_eVar, ok_eVarB, ok_sSeq, seqK_rt, seqK_bk, seqK_ct, ok_sSet, ok_sRet, ok_sIf, ok_sNext, ok_sDrop, ok_sApp, ok_sFreeze, ok_sUnp, ok_sAug, ok_sFor, ok_aLcE, ok_aItems, runK_rt, runK_nx, ok_runD, okO_some, okO_map, valD_d, valB_d, valB_o, valB_w, ownOf_o, asInt_i, asBl_b, start3, frz, sets, tgName, tgTup, tgsCons, tgsNil, wipe3, List.set_cons_zero, List.set_cons_succ, List.getElem?_cons_zero, List.getElem?_cons_succ, List.map_cons, List.map_nil, List.length_cons, List.length_nil, List.cons_append, List.nil_append, List.replicate_succ, List.replicate_zero, Nat.reduceSub, Nat.reduceAdd, Nat.reduceLT, okO_if, dAddA_ii, dAddA_ss, dAddA_ll, dAddA_tt, dAdd_ii, dAdd_ss, dSub_ii, dMul_ii, dMul_si, dMod_ii, dDiv_ii, dLt_ii, dLt_ss, dLe_ii, dLe_ss, dGt_ii, dGt_ss, dGe_ii, dGe_ss, dEq_ii, dEq_ss, dEq_bb, dEq_nn, dEq_ns, dEq_sn, dEq_ni, dEq_in, dNe_ii, dNe_ss, dNe_bb, dNe_nn, dNe_ns, dNe_sn, dNe_ni, dNe_in, dIs_n, dIsNot_n, dIs_b, dIsNot_b, dIs_i, dIsNot_i, dIs_s, dIsNot_s, dIs_l, dIsNot_l, dIs_t, dIsNot_t, dIs_d, dIsNot_d, dIs_o, dIsNot_o, dLen_s, dLen_l, dLen_t, dTup_d, dLst_d, truD_n, truD_b, truD_i, truD_s, truD_l, truD_t, dNot_b, dNeg_i, asInt_i, asBl_b, dSl_s, dSl_l, dSl_t, isStr_s, items_l, items_t, items_s, dInt_i, dInt_b, dIx_li, dIx_ti, dStarts_ss, dTuple_l, dTuple_t, aList_l, aList_t, dIn_cs, dNotIn_cs, valD_d, valB_d, valB_o, valB_w, ownOf_o, isi_int_n, isi_int_b, isi_int_i, isi_int_s, isi_int_l, isi_int_t, isi_int_d, isi_str_n, isi_str_b, isi_str_i, isi_str_s, isi_str_l, isi_str_t, isi_str_d, isi_bool_n, isi_bool_b, isi_bool_i, isi_bool_s, isi_bool_l, isi_bool_t, isi_bool_d, isi_list_n, isi_list_b, isi_list_i, isi_list_s, isi_list_l, isi_list_t, isi_list_d, isi_tuple_n, isi_tuple_b, isi_tuple_i, isi_tuple_s, isi_tuple_l, isi_tuple_t, isi_tuple_d, isi_dict_n, isi_dict_b, isi_dict_i, isi_dict_s, isi_dict_l, isi_dict_t, isi_dict_d, decide_eq_true_eq, Bool.not_eq_true, Bool.not_true, Bool.not_false, if_true, if_false, Bool.false_eq_true, and_true, true_and, decide_true, decide_false, ite_true, ite_false, reduceCtorEq]
      exact ⟨_, _, _, rfl, fun x hm => hr x (List.mem_cons_of_mem _ hm)⟩
    · rw [seqK_nx]
      simp only [ok_forNil, ok_forCons, forK_nx, forK_ct, forK_bk, forK_rt, ok_eOp, ok_eUn, ok_aNil, ok_aCons, ok_eFn, ok_aFn, ok_eApp, ok_eC, ok_eL, ok_eSt, ok_eM1, ok_aM1, ok_oNone, ok_oSome, ok_eSl, ok_tOf, ok_tTru, ok_tNot, ok_tAnd, ok_tOr, ok_eAnd, ok_eOr, ok_eIf, ok_eChain, ok_eVar, ok_eVarB, ok_sSeq, seqK_nx, seqK_rt, seqK_bk, seqK_ct, ok_sSet, ok_sRet, ok_sIf, ok_sNext, ok_sDrop, ok_sApp, ok_sFreeze, ok_sUnp, ok_sAug, ok_sFor, ok_aLcE, ok_aItems, runK_rt, runK_nx, ok_runD, okO_some, okO_map, valD_d, valB_d, valB_o, valB_w, ownOf_o, asInt_i, asBl_b, start3, frz, sets, tgName, tgTup, tgsCons, tgsNil, wipe3, List.set_cons_zero, List.set_cons_succ, List.getElem?_cons_zero, List.getElem?_cons_succ, List.map_cons, List.map_nil, List.length_cons, List.length_nil, List.cons_append, List.nil_append, List.replicate_succ, List.replicate_zero, Nat.reduceSub, Nat.reduceAdd, Nat.reduceLT, okO_if, dAddA_ii, dAddA_ss, dAddA_ll, dAddA_tt, dAdd_ii, dAdd_ss, dSub_ii, dMul_ii, dMul_si, dMod_ii, dDiv_ii, dLt_ii, dLt_ss, dLe_ii, dLe_ss, dGt_ii, dGt_ss, dGe_ii, dGe_ss, dEq_ii, dEq_ss, dEq_bb, dEq_nn, dEq_ns, dEq_sn, dEq_ni, dEq_in, dNe_ii, dNe_ss, dNe_bb, dNe_nn, dNe_ns, dNe_sn, dNe_ni, dNe_in, dIs_n, dIsNot_n, dIs_b, dIsNot_b, dIs_i, dIsNot_i, dIs_s, dIsNot_s, dIs_l, dIsNot_l, dIs_t, dIsNot_t, dIs_d, dIsNot_d, dIs_o, dIsNot_o, dLen_s, dLen_l, dLen_t, dTup_d, dLst_d, truD_n, truD_b, truD_i, truD_s, truD_l, truD_t, dNot_b, dNeg_i, asInt_i, asBl_b, dSl_s, dSl_l, dSl_t, isStr_s, items_l, items_t, items_s, dInt_i, dInt_b, dIx_li, dIx_ti, dStarts_ss, dTuple_l, dTuple_t, aList_l, aList_t, dIn_cs, dNotIn_cs, valD_d, valB_d, valB_o, valB_w, ownOf_o, isi_int_n, isi_int_b, isi_int_i, isi_int_s, isi_int_l, isi_int_t, isi_int_d, isi_str_n, isi_str_b, isi_str_i, isi_str_s, isi_str_l, isi_str_t, isi_str_d, isi_bool_n, isi_bool_b, isi_bool_i, isi_bool_s, isi_bool_l, isi_bool_t, isi_bool_d, isi_list_n, isi_list_b, isi_list_i, isi_list_s, isi_list_l, isi_list_t, isi_list_d, isi_tuple_n, isi_tuple_b, isi_tuple_i, isi_tuple_s, isi_tuple_l, isi_tuple_t, isi_tuple_d, isi_dict_n, isi_dict_b, isi_dict_i, isi_dict_s, isi_dict_l, isi_dict_t, isi_dict_d, decide_eq_true_eq, Bool.not_eq_true, Bool.not_true, Bool.not_false, if_true, if_false, Bool.false_eq_true, and_true, true_and, decide_true, decide_false, ite_true, ite_false, reduceCtorEq]
end W

namespace W
open PySem PySem.Spec PyProof.Rows L2 L3
def df__law_deck : He.DefD := ⟨("_law_deck", none), "_law_deck", "_law_deck", defArgs (topS 9), defBody (topS 9), defScope (topS 9), [], []⟩
def df__law_next : He.DefD := ⟨("_law_next", none), "_law_next", "_law_next", defArgs (topS 10), defBody (topS 10), defScope (topS 10), [], []⟩
def df__law_figures : He.DefD := ⟨("_law_figures", none), "_law_figures", "_law_figures", defArgs (topS 13), defBody (topS 13), defScope (topS 13), [], []⟩
def df__law_sign : He.DefD := ⟨("_law_sign", none), "_law_sign", "_law_sign", defArgs (topS 12), defBody (topS 12), defScope (topS 12), [], []⟩
def df__law_text : He.DefD := ⟨("_law_text", none), "_law_text", "_law_text", defArgs (topS 14), defBody (topS 14), defScope (topS 14), [], []⟩
def df__law_line : He.DefD := ⟨("_law_line", none), "_law_line", "_law_line", defArgs (topS 16), defBody (topS 16), defScope (topS 16), [], []⟩
def df__law_number : He.DefD := ⟨("_law_number", none), "_law_number", "_law_number", defArgs (topS 15), defBody (topS 15), defScope (topS 15), [], []⟩
def df_number_in : He.DefD := ⟨("number_in", none), "number_in", "number_in", defArgs (topS 5), defBody (topS 5), defScope (topS 5), [], []⟩
def df_shortened : He.DefD := ⟨("shortened", none), "shortened", "shortened", defArgs (topS 4), defBody (topS 4), defScope (topS 4), [], []⟩
def df__law_whole : He.DefD := ⟨("_law_whole", none), "_law_whole", "_law_whole", defArgs (topS 11), defBody (topS 11), defScope (topS 11), [], []⟩
def df__law_right : He.DefD := ⟨("_law_right", none), "_law_right", "_law_right", defArgs (topS 17), defBody (topS 17), defScope (topS 17), [], []⟩
def df_fields : He.DefD := ⟨("fields", none), "fields", "fields", defArgs (topS 6), defBody (topS 6), defScope (topS 6), [], []⟩
def df_field : He.DefD := ⟨("field", none), "field", "field", defArgs (topS 7), defBody (topS 7), defScope (topS 7), [], []⟩
def df__law_fields : He.DefD := ⟨("_law_fields", none), "_law_fields", "_law_fields", defArgs (topS 18), defBody (topS 18), defScope (topS 18), [], []⟩
def df_law : He.DefD := ⟨("law", none), "law", "law", defArgs (topS 19), defBody (topS 19), defScope (topS 19), [], []⟩
def fnL : List He.DefD := [df__law_deck, df__law_next, df__law_figures, df__law_sign, df__law_text, df__law_line, df__law_number, df_number_in, df_shortened, df__law_whole, df__law_right, df_fields, df_field, df__law_fields, df_law]
def faL : List He.Fa := [.glo "_law_deck", .glo "_law_next", .glo "_law_figures", .glo "_law_sign", .glo "_law_text", .glo "_law_line", .glo "_law_number", .glo "number_in", .glo "shortened", .glo "_law_whole", .glo "_law_right", .glo "fields", .glo "field", .glo "_law_fields", .glo "law", .free "list", .free "len", .free "int", .free "range", .free "str", .int "NUMBER" 18, .str "FIGURES" (S [48, 49, 50, 51, 52, 53, 54, 55, 56, 57]), .free "all", .int "SIGNS" 80, .free "isinstance", .free "bool"]
abbrev RR : PySem.W.OpenRow := PySem.W.OpenLaw.row PySem.Challenge.rw_rowshell_k01_numbers_and_fields
abbrev hkL : PySem.W.Hook := hookL 4 faL fnL
def obL (s : PySem.W.SharedT) : He.AlD := obsLG 4 faL fnL (HandSHeadRun.getT s)
theorem obL_eq (s : PySem.W.SharedT) : obL s = hkL.obs s.abs := obsLG_eq (HandSHeadRun.getT_eq s)
theorem runL (w : World) : HandSHeadRun.RunEq RR (PySem.W.view RR.prog [19]) hkL obL 4000 ["SIGNS", "FIGURES", "NUMBER", "shortened", "number_in", "fields", "field", "_law_deck", "_law_next", "_law_whole", "_law_sign", "_law_figures", "_law_text", "_law_number", "_law_line", "_law_right", "_law_fields"] w := by
  intro os
  kernel_rfl
theorem tx {K : PySem.W.Frag} {h : Heap} {mg : Str → Option Value} (X : K.In h) (G : h.Ns mainGlobals mg) (c : SaysL faL fnL K) : Tx K mg where
  z_list := He.free_ok X G (c.1.fact 15 (f := .free "list") rfl)
  z_len := He.free_ok X G (c.1.fact 16 (f := .free "len") rfl)
  z_int := He.free_ok X G (c.1.fact 17 (f := .free "int") rfl)
  z_range := He.free_ok X G (c.1.fact 18 (f := .free "range") rfl)
  z_str := He.free_ok X G (c.1.fact 19 (f := .free "str") rfl)
  c_NUMBER := He.int_ok X G (c.1.fact 20 (f := .int "NUMBER" 18) rfl)
  c_FIGURES := He.str_ok X G (c.1.fact 21 (f := .str "FIGURES" (S [48, 49, 50, 51, 52, 53, 54, 55, 56, 57])) rfl)
  z_all := He.free_ok X G (c.1.fact 22 (f := .free "all") rfl)
  c_SIGNS := He.int_ok X G (c.1.fact 23 (f := .int "SIGNS" 80) rfl)
  z_isinstance := He.free_ok X G (c.1.fact 24 (f := .free "isinstance") rfl)
  z_bool := He.free_ok X G (c.1.fact 25 (f := .free "bool") rfl)
  F__law_deck := by
    obtain ⟨fd, F⟩ := c.1.def_ 0 (d := df__law_deck) rfl
    exact ⟨⟨fd, F, F.bindsN fun _ _ _ _ _ _ us hl => match us, hl with | [_], _ => rfl⟩, He.glo_ok X G (c.1.fact 0 (f := .glo "_law_deck") rfl)⟩
  F__law_next := by
    obtain ⟨fd, F⟩ := c.1.def_ 1 (d := df__law_next) rfl
    exact ⟨⟨fd, F, F.bindsN fun _ _ _ _ _ _ us hl => match us, hl with | [_, _], _ => rfl⟩, He.glo_ok X G (c.1.fact 1 (f := .glo "_law_next") rfl)⟩
  F__law_figures := by
    obtain ⟨fd, F⟩ := c.1.def_ 2 (d := df__law_figures) rfl
    exact ⟨⟨fd, F, F.bindsN fun _ _ _ _ _ _ us hl => match us, hl with | [_, _], _ => rfl⟩, He.glo_ok X G (c.1.fact 2 (f := .glo "_law_figures") rfl)⟩
  F__law_sign := by
    obtain ⟨fd, F⟩ := c.1.def_ 3 (d := df__law_sign) rfl
    exact ⟨⟨fd, F, F.bindsN fun _ _ _ _ _ _ us hl => match us, hl with | [_], _ => rfl⟩, He.glo_ok X G (c.1.fact 3 (f := .glo "_law_sign") rfl)⟩
  F__law_text := by
    obtain ⟨fd, F⟩ := c.1.def_ 4 (d := df__law_text) rfl
    exact ⟨⟨fd, F, F.bindsN fun _ _ _ _ _ _ us hl => match us, hl with | [_], _ => rfl⟩, He.glo_ok X G (c.1.fact 4 (f := .glo "_law_text") rfl)⟩
  F__law_line := by
    obtain ⟨fd, F⟩ := c.1.def_ 5 (d := df__law_line) rfl
    exact ⟨⟨fd, F, F.bindsN fun _ _ _ _ _ _ us hl => match us, hl with | [_], _ => rfl⟩, He.glo_ok X G (c.1.fact 5 (f := .glo "_law_line") rfl)⟩
  F__law_number := by
    obtain ⟨fd, F⟩ := c.1.def_ 6 (d := df__law_number) rfl
    exact ⟨⟨fd, F, F.bindsN fun _ _ _ _ _ _ us hl => match us, hl with | [_], _ => rfl⟩, He.glo_ok X G (c.1.fact 6 (f := .glo "_law_number") rfl)⟩
  F_number_in := by
    obtain ⟨fd, F⟩ := c.1.def_ 7 (d := df_number_in) rfl
    exact ⟨⟨fd, F, F.bindsN fun _ _ _ _ _ _ us hl => match us, hl with | [_], _ => rfl⟩, He.glo_ok X G (c.1.fact 7 (f := .glo "number_in") rfl)⟩
  F_shortened := by
    obtain ⟨fd, F⟩ := c.1.def_ 8 (d := df_shortened) rfl
    exact ⟨⟨fd, F, F.bindsN fun _ _ _ _ _ _ us hl => match us, hl with | [_], _ => rfl⟩, He.glo_ok X G (c.1.fact 8 (f := .glo "shortened") rfl)⟩
  F__law_whole := by
    obtain ⟨fd, F⟩ := c.1.def_ 9 (d := df__law_whole) rfl
    exact ⟨⟨fd, F, F.bindsN fun _ _ _ _ _ _ us hl => match us, hl with | [_], _ => rfl⟩, He.glo_ok X G (c.1.fact 9 (f := .glo "_law_whole") rfl)⟩
  F__law_right := by
    obtain ⟨fd, F⟩ := c.1.def_ 10 (d := df__law_right) rfl
    exact ⟨⟨fd, F, F.bindsN fun _ _ _ _ _ _ us hl => match us, hl with | [_], _ => rfl⟩, He.glo_ok X G (c.1.fact 10 (f := .glo "_law_right") rfl)⟩
  F_fields := by
    obtain ⟨fd, F⟩ := c.1.def_ 11 (d := df_fields) rfl
    exact ⟨⟨fd, F, F.bindsN fun _ _ _ _ _ _ us hl => match us, hl with | [_], _ => rfl⟩, He.glo_ok X G (c.1.fact 11 (f := .glo "fields") rfl)⟩
  F_field := by
    obtain ⟨fd, F⟩ := c.1.def_ 12 (d := df_field) rfl
    exact ⟨⟨fd, F, F.bindsN fun _ _ _ _ _ _ us hl => match us, hl with | [_, _], _ => rfl⟩, He.glo_ok X G (c.1.fact 12 (f := .glo "field") rfl)⟩
  F__law_fields := by
    obtain ⟨fd, F⟩ := c.1.def_ 13 (d := df__law_fields) rfl
    exact ⟨⟨fd, F, F.bindsN fun _ _ _ _ _ _ us hl => match us, hl with | [_, _], _ => rfl⟩, He.glo_ok X G (c.1.fact 13 (f := .glo "_law_fields") rfl)⟩
  F_law := by
    obtain ⟨fd, F⟩ := c.1.def_ 14 (d := df_law) rfl
    exact ⟨⟨fd, F, F.bindsN fun _ _ _ _ _ _ us hl => match us, hl with | [_], _ => rfl⟩, He.glo_ok X G (c.1.fact 14 (f := .glo "law") rfl)⟩
theorem facts {P : Program} {w : World} {K : PySem.W.Frag} {h : Heap} {mg : Str → Option Value} {f : Addr} (X : K.In h) (G : h.Ns mainGlobals mg) (hfa : mg ("law" : Str) = some (.ref f)) (c : SaysL faL fnL K) :
    ∃ fd : FuncData, (∀ (s : Shared) (v : Value), BindsTo s fd ⟨[v], []⟩ [("_law_script", v)]) ∧ ∀ base : Heap, K.In base → base.Ns mainGlobals mg → FnOk P w K mg base CX0 4 f fd ["_law_script"] (spD K 1 f_law) := by
  have T := tx X G c
  obtain ⟨fd, F⟩ := c.1.def_ 14 (d := df_law) rfl
  have e := hfa.symm.trans T.F_law.g
  cases e
  have b := FunD.bindsA (ps := ["_law_script"]) F fun _ _ _ _ _ _ us hl => match us, hl with | [_], _ => rfl
  refine ⟨fd, fun s v => b s [v] rfl, fun base _ _ => ?_⟩
  exact lawFn F (ok_law T)
end W
open PySem PySem.W PySem.Calls PyProof.Rows
theorem PySem.Challenge.cw_rowshell_k01_numbers_and_fields_holds : PySem.Challenge.rw_rowshell_k01_numbers_and_fields.Holds := by
  w_on; o_law
  refine HandSHeadRun.head_any (r := OpenLaw.row PySem.Challenge.rw_rowshell_k01_numbers_and_fields) (q := view (OpenLaw.row PySem.Challenge.rw_rowshell_k01_numbers_and_fields).prog [19]) (H := W.hkL) (ob := W.obL) (M := 4000) (loose := ["SIGNS", "FIGURES", "NUMBER", "shortened", "number_in", "fields", "field", "_law_deck", "_law_next", "_law_whole", "_law_sign", "_law_figures", "_law_text", "_law_number", "_law_line", "_law_right", "_law_fields"]) (d := HandSHeadRun.topDef (OpenLaw.row PySem.Challenge.rw_rowshell_k01_numbers_and_fields).prog 19) (kwd := []) W.obL_eq
    (by kernel_rfl) (fun s => by kernel_rfl) W.runL (by kernel_rfl) (by kernel_rfl) (by kernel_rfl) (by rfl) (by first | assumption | decide +kernel) (by decide +kernel) ⟨rfl, rfl, rfl, rfl, rfl, by decide +kernel⟩ ?hw ?hc
  case hw => w_witness2
  case hc =>
    refine L2.walk_ofE (l := PySem.Challenge.rw_rowshell_k01_numbers_and_fields) (n := 63) (k := 4) (x := "_law_script") (CX := L2.CX0) rfl (by decide) (by kernel_rfl) ⟨rfl, by decide, by decide⟩ ?F (fun _ _ _ _ z => z)
    intro w mg fa h Y G hmg0
    obtain ⟨K, KX, c⟩ := Y
    have hmg : mg ("law" : PySem.Str) = some (.ref fa) := by
      have e : (HandSHeadRun.topDef (OpenLaw.row PySem.Challenge.rw_rowshell_k01_numbers_and_fields).prog 19).name = ("law" : PySem.Str) := by kernel_rfl
      rw [← e]
      exact hmg0
    obtain ⟨fd, hb, hF⟩ := W.facts (P := (PySem.Challenge.rw_rowshell_k01_numbers_and_fields).prog) (w := w) KX G hmg c
    exact ⟨K, fd, L3.spD K 1 W.f_law, KX, hb, fun H a ns hl _ hS => L3.endD c.2 W.law_ok hl hS, hF⟩
