import PyProof.Rows.All
import Wide.All
import OpenK.AllK
import Wide.FinOn
import KE.KStateDown
import Lean
import HandS.Base
import HandS.Call
import HandS.Ends
import HandS.Words
import HandS.ForMost
import HandS.Walk
import HandS.TupAny
import HandS.HeadHook1
import HandS.IsInst
import HandS.Replace
import HandS.ReplaceList
import HandS.ReplaceLit
import HandS.NoneIn
import HandS.Defaults
import HandS.Head0
import HandS.Head1
import HandS.Head2
import HandS.HeadEnd
import HandS.HeadHook2
import HandS.More
import HandS.WordsExc
import HandS.Set
import HandS.SetFor
import HandS.SortInts
import KE.KDictPairs
import HandS.StrMore
import HandS.SetTxt0
import HandS.Strs
import PyProof.Rows.SortShellAny
import HandS.CallLocal
import HandS.HeadHook3
import KE.KUnpack
import PyProof.CollectIter
import HandS.Zip
import HandS.Rev
import HandS.ClsMeth
import HandS.Wide
import HandS.Style
import Wide.Once
import KE.IntTextLaws
import HandS.DictComp
import KE.KxPart
import HandS.Flow
import PyProof.StrLawsLast
import HandS.Iter
import PyProof.ListStr
import KE.GoesZip
import KE.GoesMore
import HandS.TupMul
import PySem.Challenge.RW_rowshell_k31_first_single_count
set_option Elab.async false
set_option linter.all false
set_option maxRecDepth 100000
set_option maxHeartbeats 0
/-! L3z: tuples that are made, known to the object (so that it is known that they have no attributes of their own). -/
namespace L3
open PySem PySem.Spec PyProof.Rows L2
def TO (o : Obj) : Prop := o.cls = .type "tuple" ∧ o.dict = none ∧ o.slots = #[]
def NewT (H : Hp) (ys : List V) (Q : VK) : Prop := ∀ p o, H p = none → TO o → Q (.ref p) (upd H p (.frz o (.tup ys)))
section
variable {X : Cx} {pins : List (Addr × Obj)} {σ : L2.St} {H : Hp} {s : Shared}
theorem laidT {us : List Value} {ys : List V} {Q : VK} (I : Inv X pins σ H s) (r : Vals ys us) (hz : ys.length ≤ sizeLine) (q : NewT H ys Q) : EP X pins σ Q (.ref s.heap.objs.size) { s with heap := s.heap.push { cls := .type "tuple", data := .seq us.toArray } } := by
  have gp : (s.heap.push { cls := .type "tuple", data := .seq us.toArray }).get? s.heap.objs.size = some { cls := .type "tuple", data := .seq us.toArray } := Heap.get?_push_size _ rfl
  refine ⟨.ref s.heap.objs.size, _, I.laid (t' := s.toks) (o := .frz { cls := .type "tuple", data := .seq us.toArray } (.tup ys)) (fun b ob e => Heap.get?_push_of_some _ e) (Nat.le_refl _) ⟨gp, hz, us, r, IsTup.new _ _⟩, rfl, ?_⟩
  exact q _ _ (I.hok.fresh (Nat.le_refl _)) ⟨rfl, rfl, rfl⟩
end
section
variable {X : Cx} {es : List Expr} {t : TA} {pos : Pos}
def tTupZ (t : TA) : TE := fun σ H Q => t σ H fun vs H1 => vs.length ≤ sizeLine ∧ NewT H1 vs Q
theorem pe_tupZ {x1} (h : PA X es t) : PE X (.Tuple es x1 pos) (tTupZ t) :=
  ⟨fun pins s σ H Q I hq => wpAny_Tuple_spliced (thn (h.run pos pins s σ H _ I hq) fun us s1 ⟨xs, H1, I1, r, z, q⟩ => ⟨by rw [← r.length]; exact z, laidT I1 r z q⟩)⟩
theorem call_tupleZ : CallR X (.type "tuple") (fun xs H Q => ∃ p ys, xs = [.ref p] ∧ ((SqL X.K H p ys ∧ NewT H ys Q) ∨ (SqT X.K H p ys ∧ Q (.ref p) H))) := by
  intro pins s σ H xs us Q I r h
  obtain ⟨p, ys, rfl, h⟩ := h
  obtain ⟨u, rfl, rx⟩ := vals1 r; cases rx
  rcases h with ⟨hq, q⟩ | ⟨hq, q⟩
  · obtain ⟨its, r', pl, hz⟩ := I.list hq; have hlen := r'.length
    exact call_tuple_list pl.isList (fun h' kp => laidT (s := { s with heap := h' }) (I.kept (t' := s.toks) kp) r' hz q) (by simp only [List.size_toArray] <;> omega)
  · obtain ⟨its, r', pl, hz⟩ := I.tuple hq; exact call_tuple_same pl ⟨.ref p, H, I, rfl, q⟩
def rSlZ (K : PySem.W.Frag) : V → Option Int → Option Int → Hp → VK → Prop := fun x lo hi H Q => ∃ a xs, x = .ref a ∧ SqT K H a xs ∧
  ((HT.sIx xs.length 0 lo = 0 ∧ HT.sIx xs.length xs.length hi = xs.length → Q (.ref a) H) ∧ (¬ (HT.sIx xs.length 0 lo = 0 ∧ HT.sIx xs.length xs.length hi = xs.length) → NewT H (cutV xs lo hi) Q))
theorem sl_tupZ : SlR X (rSlZ X.K) := by
  intro pins s σ H x v vl vu lo hi sl Q I rx hs pl pu ⟨a, xs, ex, hx, q1, q2⟩
  by_cases hw : HT.sIx xs.length 0 lo = 0 ∧ HT.sIx xs.length xs.length hi = xs.length
  · exact sl_tupA pins s σ H x v vl vu lo hi sl Q I rx hs pl pu ⟨a, xs, ex, hx, q1, fun z => absurd hw z⟩
  · subst ex; cases rx; obtain ⟨its, r, ht, hz⟩ := I.tuple hx
    have ln : its.toArray.size = xs.length := by rw [List.size_toArray]; exact r.length.symm
    refine ⟨"tuple", _, PyProof.Rows.slot_tuple_getitem.lookup, ht.typeIs, HT.getItem_tuple_cut ht hs pl pu (by rw [ln]; exact hw) ?_ (by rw [ln]; exact hz)⟩
    rw [ln]; exact laidT I ((r.drop (HT.sIx xs.length 0 lo)).take (HT.sIx xs.length xs.length hi - HT.sIx xs.length 0 lo)) (Nat.le_trans (cutV_length xs lo hi) hz) (q2 hw)
def rCatZ (K : PySem.W.Frag) : R2 := fun x y H Q => ∃ a b xs ys, x = .ref a ∧ y = .ref b ∧ SqT K H a xs ∧ SqT K H b ys ∧ (xs.length + ys.length ≤ sizeLine ∧ (xs = [] → Q (.ref b) H) ∧ (xs ≠ [] → ys = [] → Q (.ref a) H) ∧ (xs ≠ [] → ys ≠ [] → NewT H (xs ++ ys) Q))
theorem op_catZ : OpR X (binaryOp .Add) (rCatZ X.K) := by
  intro pins s σ H x y v u Q I rx ry ⟨a, b, xs, ys, ex, ey, ha, hb, hz, q0, q1, q2⟩
  by_cases hx : xs = []
  · exact op_catA pins s σ H x y v u Q I rx ry ⟨a, b, xs, ys, ex, ey, ha, hb, hz, q0, q1, fun z => absurd hx z⟩
  · subst ex; subst ey; cases rx; cases ry; obtain ⟨its, r1, p1, _⟩ := I.tuple ha; obtain ⟨its2, r2, p2, _⟩ := I.tuple hb
    refine HT.cat_tup p1 p2 (fun z => hx (r1.nil_iff.mp z)) (fun z => ⟨.ref a, H, I, rfl, q1 hx (r2.nil_iff.mp z)⟩) (fun z => ?_) (by rw [← r1.length, ← r2.length]; exact hz)
    exact laidT I (r1.append r2) (by rw [List.length_append]; exact hz) (q2 hx fun w => z (r2.nil_iff.mpr w))
end
end L3

/-! L3a: data trees over the hand layer's heap: what stands for what, and what an expression, a statement, a def is worth as a function of data. -/
namespace L3
open PySem PySem.Spec PyProof.Rows L2

abbrev DKey := Sum Int (List Nat)
def S (s : List Nat) : Str := ⟨s.toArray⟩
def dkey : DKey → Key
  | .inl i => .inl i
  | .inr s => .inr (S s)

inductive D where
  | non | bl (b : Bool) | int (i : Int) | str (s : List Nat)
  | lst (xs : List D) | tup (xs : List D) | dic (kvs : List (DKey × D))
  | obj (n : Nat) | sta (x : Str)

inductive SV where
  | d (x : D) | own (xs : List D) | ownd (kvs : List (DKey × D))

def SV.isOwn : SV → Bool
  | .d _ => false
  | _ => true

/-- the classes and the attributes by number -/
def clsT : List Str := (("Stream" : Str) :: ("Pick" : Str) :: ("Gathering" : Str) :: ("Near" : Str) :: ("Count" : Str) :: ("Sort" : Str) :: ("Cut" : Str) :: ("First" : Str) :: ("Single" : Str) :: ("Tell" : Str) :: ("Edit" : Str) :: ("Machine" : Str) :: ("Streaming" : Str) :: ("Passing" : Str) :: ("Beside" : Str) :: ("Laying" : Str) :: ("Showing" : Str) :: ("Net" : Str) :: ("Reader" : Str) :: ("House" : Str) :: ("Book" : Str) :: ("Struck" : Str) :: ("Going" : Str) :: ("Shell" : Str) :: [])
def fldT : List Str := (("words" : Str) :: ("wanted" : Str) :: ("result" : Str) :: ("lines" : Str) :: ("left" : Str) :: ("last" : Str) :: ("rules" : Str) :: ("names" : Str) :: ("rows" : Str) :: ("ins" : Str) :: ("outs" : Str) :: ("got" : Str) :: ("shut" : Str) :: ("asked" : Str) :: ("waits" : Str) :: ("counts" : Str) :: ("has_ended" : Str) :: ("code" : Str) :: ("stream" : Str) :: ("hand" : Str) :: ("is_open" : Str) :: ("house" : Str) :: ("user" : Str) :: ("room" : Str) :: ("tools" : Str) :: ("pipes" : Str) :: ("writers" : Str) :: ("readers" : Str) :: ("told_lines" : Str) :: ("place" : Str) :: ("deep" : Str) :: ("nodes" : Str) :: ("marked" : Str) :: ("number" : Str) :: ("lines_kept" : Str) :: ("marks_kept" : Str) :: ("deeds_kept" : Str) :: ("stands" : Str) :: ("wholes" : Str) :: ("outcome" : Str) :: ("book" : Str) :: ("way" : Str) :: ("under_way" : Str) :: ("known" : Str) :: ("said" : Str) :: ("missed" : Str) :: ("rows_begun" : Str) :: ("lines_begun" : Str) :: ("began" : Str) :: ("held" : Str) :: ("size" : Str) :: ("past" : Str) :: ("noted" : Str) :: ("line" : Str) :: ("what" : Str) :: [])
def clsN (C : Nat) : Str := clsT.getD C ""
def fldN (f : Nat) : Str := fldT.getD f ""
inductive SO where
  | lst (xs : List D)
  | dic (kvs : List (DKey × D))
  | ins (C : Nat) (fs : List (Nat × D))
def soDs : SO → List D
  | .lst xs => xs
  | .dic kvs => kvs.map (·.2)
  | .ins _ fs => fs.map (·.2)

abbrev Env3 := List (Option SV)
abbrev Store := List SO

/-! ### what stands for what -/
def staT (K : PySem.W.Frag) (a : Addr) (xs : List V) : Prop :=
  ∃ (o : Obj) (its : Array Value) (n : Nat), K.lookup a = some o ∧ TO o ∧ o.data = .seq its n ∧ its.size ≤ sizeLine ∧ Vals xs its.toList
def ST (A : Addr → Prop) (K : PySem.W.Frag) (H : Hp) (a : Addr) (xs : List V) : Prop := (A a ∧ ∃ o, TO o ∧ H a = some (.frz o (.tup xs))) ∨ staT K a xs
theorem ST.sq {A : Addr → Prop} {K : PySem.W.Frag} {H : Hp} {a : Addr} {xs : List V} (h : ST A K H a xs) : SqT K H a xs := by
  rcases h with ⟨_, o, _, h⟩ | ⟨o, its, n, h1, h2, h3, h4, h5⟩
  · exact .inl (.inr ⟨o, h⟩)
  · exact .inr ⟨o, its, n, h1, h2.1, h3, h4, h5⟩

inductive Rep (A : Addr → Prop) (α : List Addr) (K : PySem.W.Frag) (H : Hp) : V → D → Prop
  | non : Rep A α K H .non .non
  | bl (b : Bool) : Rep A α K H (.bl b) (.bl b)
  | int (i : Int) : Rep A α K H (.int i) (.int i)
  | str (s : List Nat) : Rep A α K H (.str (S s)) (.str s)
  | lst {a : Addr} {xs : List V} {ds : List D} (hA : A a) (h : Rd H a (.lst xs)) (hl : xs.length = ds.length) (hi : ∀ (i : Nat) v d, xs[i]? = some v → ds[i]? = some d → Rep A α K H v d) : Rep A α K H (.ref a) (.lst ds)
  | tup {a : Addr} {xs : List V} {ds : List D} (h : ST A K H a xs) (hl : xs.length = ds.length) (hi : ∀ (i : Nat) v d, xs[i]? = some v → ds[i]? = some d → Rep A α K H v d) : Rep A α K H (.ref a) (.tup ds)
  | dic {a : Addr} {kvs : List (Key × V)} {ds : List (DKey × D)} (hA : A a) (h : Rd H a (.dK kvs)) (hk : kvs.map (·.1) = ds.map (fun p => dkey p.1)) (hi : ∀ (i : Nat) p q, kvs[i]? = some p → ds[i]? = some q → Rep A α K H p.2 q.2) : Rep A α K H (.ref a) (.dic ds)
  | obj {n : Nat} {a : Addr} (h : α[n]? = some a) : Rep A α K H (.ref a) (.obj n)
  | sta (x : Str) : Rep A α K H (.ref (He.ga K x)) (.sta x)

def RepAll (A : Addr → Prop) (α : List Addr) (K : PySem.W.Frag) (H : Hp) (vs : List V) (ds : List D) : Prop :=
  vs.length = ds.length ∧ ∀ (i : Nat) v d, vs[i]? = some v → ds[i]? = some d → Rep A α K H v d

section
variable {A A' : Addr → Prop} {α α' : List Addr} {K : PySem.W.Frag} {H H' : Hp}
theorem prefix_get {α α' : List Addr} {n : Nat} {a : Addr} (p : α <+: α') (h : α[n]? = some a) : α'[n]? = some a := by
  obtain ⟨t, rfl⟩ := p
  rw [List.getElem?_append_left (List.getElem?_eq_some_iff.mp h).1]
  exact h
theorem Rd.stay {a : Addr} {u : HO} (hh : ∀ o, H a = some o → H' a = some o) (h : Rd H a u) : Rd H' a u := by
  rcases h with h | ⟨o, h⟩
  · exact .inl (hh _ h)
  · exact .inr ⟨o, hh _ h⟩
/-- what stands for data stays: objects that are let in keep what they hold -/
theorem Rep.mono {v : V} {d : D} (h : Rep A α K H v d) (hA : ∀ a o, A a → H a = some o → A' a ∧ H' a = some o) (p : α <+: α') : Rep A' α' K H' v d := by
  have rd : ∀ {a : Addr} {u : HO}, A a → Rd H a u → A' a ∧ Rd H' a u := fun {a u} ha hr => by
    rcases hr with hr | ⟨o, hr⟩
    · exact ⟨(hA a _ ha hr).1, .inl (hA a _ ha hr).2⟩
    · exact ⟨(hA a _ ha hr).1, .inr ⟨o, (hA a _ ha hr).2⟩⟩
  induction h with
  | non => exact .non
  | bl b => exact .bl b
  | int i => exact .int i
  | str s => exact .str s
  | lst ha h hl _ ih => exact .lst (rd ha h).1 (rd ha h).2 hl ih
  | tup h hl _ ih =>
    refine .tup ?_ hl ih
    rcases h with ⟨ha, o, ho, h⟩ | h
    · exact .inl ⟨(hA _ _ ha h).1, o, ho, (hA _ _ ha h).2⟩
    · exact .inr h
  | dic ha h hk _ ih =>
    exact .dic (rd ha h).1 (rd ha h).2 hk ih
  | obj h => exact .obj (prefix_get p h)
  | sta x => exact .sta x
theorem RepAll.mono {vs : List V} {ds : List D} (h : RepAll A α K H vs ds) (hA : ∀ a o, A a → H a = some o → A' a ∧ H' a = some o) (p : α <+: α') : RepAll A' α' K H' vs ds :=
  ⟨h.1, fun i v d e1 e2 => (h.2 i v d e1 e2).mono hA p⟩
theorem RepAll.nil : RepAll A α K H [] [] := ⟨rfl, fun i v d e => by simp at e⟩
theorem RepAll.cons {v : V} {d : D} {vs : List V} {ds : List D} (h : Rep A α K H v d) (t : RepAll A α K H vs ds) : RepAll A α K H (v :: vs) (d :: ds) :=
  ⟨by rw [List.length_cons, List.length_cons, t.1], fun i x e h1 h2 => by
    cases i with
    | zero => simp at h1 h2; subst h1 h2; exact h
    | succ i => exact t.2 i x e (by simpa using h1) (by simpa using h2)⟩
theorem RepAll.uncons {vs : List V} {d : D} {ds : List D} (h : RepAll A α K H vs (d :: ds)) : ∃ v r, vs = v :: r ∧ Rep A α K H v d ∧ RepAll A α K H r ds := by
  obtain ⟨hl, hi⟩ := h
  cases vs with
  | nil => simp at hl
  | cons v r => exact ⟨v, r, rfl, hi 0 v d rfl rfl, ⟨by simpa using hl, fun i x e h1 h2 => hi (i + 1) x e (by simpa using h1) (by simpa using h2)⟩⟩
theorem RepAll.unnil {vs : List V} (h : RepAll A α K H vs []) : vs = [] := by
  have := h.1
  cases vs with
  | nil => rfl
  | cons v r => simp at this
theorem RepAll.append {vs ws : List V} {ds es : List D} (h : RepAll A α K H vs ds) (t : RepAll A α K H ws es) : RepAll A α K H (vs ++ ws) (ds ++ es) := by
  refine ⟨by rw [List.length_append, List.length_append, h.1, t.1], fun i v d h1 h2 => ?_⟩
  by_cases hi : i < vs.length
  · rw [List.getElem?_append_left hi] at h1
    rw [List.getElem?_append_left (by rw [← h.1]; exact hi)] at h2
    exact h.2 i v d h1 h2
  · rw [List.getElem?_append_right (by omega)] at h1
    rw [List.getElem?_append_right (by rw [← h.1]; omega), ← h.1] at h2
    exact t.2 _ v d h1 h2
theorem RepAll.get {vs : List V} {ds : List D} {i : Nat} {d : D} (h : RepAll A α K H vs ds) (e : ds[i]? = some d) : ∃ v, vs[i]? = some v ∧ Rep A α K H v d := by
  have hi := (List.getElem?_eq_some_iff.mp e).1
  refine ⟨vs[i]'(by rw [h.1]; exact hi), List.getElem?_eq_getElem _, h.2 i _ d (List.getElem?_eq_getElem _) e⟩
theorem RepAll.one {v : V} {d : D} (h : Rep A α K H v d) : RepAll A α K H [v] [d] := RepAll.cons h RepAll.nil
theorem RepAll.take {vs : List V} {ds : List D} (n : Nat) (h : RepAll A α K H vs ds) : RepAll A α K H (vs.take n) (ds.take n) :=
  ⟨by simp [h.1], fun i v d h1 h2 => by
    rw [List.getElem?_take] at h1 h2
    split at h1
    · rw [if_pos (by assumption)] at h2; exact h.2 i v d h1 h2
    · cases h1⟩
theorem RepAll.drop {vs : List V} {ds : List D} (n : Nat) (h : RepAll A α K H vs ds) : RepAll A α K H (vs.drop n) (ds.drop n) :=
  ⟨by simp [h.1], fun i v d h1 h2 => by
    rw [List.getElem?_drop] at h1 h2; exact h.2 _ v d h1 h2⟩
end

/-! ### the frame -/
def Al (B : Addr → Prop) (α : List Addr) (ow : Nat → Option Addr) (a : Addr) : Prop := a ∉ α ∧ ¬ B a ∧ ∀ i, ow i ≠ some a
def Ext (α : List Addr) (H : Hp) (α' : List Addr) (H' : Hp) : Prop := (∀ a o, H a = some o → a ∉ α → H' a = some o) ∧ α <+: α' ∧ ∀ a ∈ α', a ∈ α ∨ H a = none
def no : Nat → Option Addr := fun _ => none
def SOk (A : Addr → Prop) (α : List Addr) (K : PySem.W.Frag) (H : Hp) (a : Addr) : SO → Prop
  | .lst xs => ∃ vs, H a = some (.lst vs) ∧ RepAll A α K H vs xs
  | .dic ds => ∃ kvs, H a = some (.dK kvs) ∧ kvs.map (·.1) = ds.map (fun p => dkey p.1) ∧ RepAll A α K H (kvs.map (·.2)) (ds.map (·.2))
  | .ins C fs => ∃ dx vs, H a = some (.ins (He.ga K (clsN C)) dx vs) ∧ (vs.map (·.1) = fs.map (fun p => fldN p.1) ∧ ∀ p ∈ fs, p.1 < fldT.length) ∧ RepAll A α K H (vs.map (·.2)) (fs.map (·.2))
structure GOk (A : Addr → Prop) (α : List Addr) (g : Store) (K : PySem.W.Frag) (H : Hp) : Prop where
  len : α.length = g.length
  nd : α.Nodup
  so : ∀ (n : Nat) a o, α[n]? = some a → g[n]? = some o → SOk A α K H a o
structure Gh where
  B : Addr → Prop
  H0 : Hp
  α0 : List Addr
def SlotOk (A : Addr → Prop) (α : List Addr) (K : PySem.W.Frag) (H : Hp) (ow : Option Addr) (v : Option (Option V)) : SV → Prop
  | .d x => ∃ y, v = some (some y) ∧ Rep A α K H y x
  | .own xs => ∃ a vs, ow = some a ∧ v = some (some (.ref a)) ∧ H a = some (.lst vs) ∧ RepAll A α K H vs xs
  | .ownd ds => ∃ a kvs, ow = some a ∧ v = some (some (.ref a)) ∧ H a = some (.dK kvs) ∧ kvs.map (·.1) = ds.map (fun p => dkey p.1) ∧ RepAll A α K H (kvs.map (·.2)) (ds.map (·.2))
structure Sat (K : PySem.W.Frag) (G : Gh) (α : List Addr) (ow : Nat → Option Addr) (σ : L2.St) (H : Hp) (ρ : Env3) (g : Store) : Prop where
  ext : Ext G.α0 G.H0 α H
  blk : ∀ a, G.B a → (∃ o, H a = some o) ∧ a ∉ α
  len : σ.length = ρ.length
  gok : GOk (Al G.B α ow) α g K H
  own : ∀ i a, ow i = some a → G.H0 a = none ∧ a ∉ α ∧ ¬ G.B a ∧ (∃ o, H a = some o) ∧ ∃ x, ρ[i]? = some (some x) ∧ x.isOwn = true
  oinj : ∀ i j a, ow i = some a → ow j = some a → i = j
  slot : ∀ (i : Nat) x, ρ[i]? = some (some x) → SlotOk (Al G.B α ow) α K H (ow i) σ[i]? x

section
variable {α α1 α2 : List Addr} {H H1 H2 : Hp}
theorem Ext.refl : Ext α H α H := ⟨fun _ _ h _ => h, List.prefix_refl _, fun _ h => .inl h⟩
theorem Ext.trans (a : Ext α H α1 H1) (b : Ext α1 H1 α2 H2) : Ext α H α2 H2 := by
  refine ⟨fun x o h hn => b.1 x o (a.1 x o h hn) fun hx => ?_, a.2.1.trans b.2.1, fun x hx => ?_⟩
  · rcases a.2.2 x hx with z | z
    · exact hn z
    · rw [h] at z; cases z
  · rcases b.2.2 x hx with z | z
    · exact a.2.2 x z
    · by_cases hn : x ∈ α
      · exact .inl hn
      · cases q : H x with
        | none => exact .inr rfl
        | some o => rw [a.1 x o q hn] at z; cases z
theorem Ext.new {p : Addr} {o : HO} (h : H p = none) : Ext α H α (upd H p o) :=
  ⟨fun a u e _ => by rw [upd_ne (ne_of_none e h)]; exact e, List.prefix_refl _, fun _ h => .inl h⟩
theorem Ext.fresh {p : Addr} (e : Ext α H α1 H1) (hp : H1 p = none) (hn : p ∉ α1) : H p = none := by
  cases q : H p with
  | none => rfl
  | some o => rw [e.1 p o q fun z => hn (by obtain ⟨t, rfl⟩ := e.2.1; exact List.mem_append_left _ z)] at hp; cases hp
end
section
variable {K : PySem.W.Frag} {G : Gh} {α α' : List Addr} {ow : Nat → Option Addr} {σ : L2.St} {H H' : Hp} {ρ : Env3} {g g' : Store} {v : V} {d : D} {vs : List V} {ds : List D}
theorem Ext.al {B : Addr → Prop} (e : Ext α H α' H') : ∀ a o, Al B α ow a → H a = some o → Al B α' ow a ∧ H' a = some o := fun a o ha ho =>
  ⟨⟨fun hx => (e.2.2 a hx).elim ha.1 (fun z => by rw [ho] at z; cases z), ha.2.1, ha.2.2⟩, e.1 a o ho ha.1⟩
theorem Rep.ext {B : Addr → Prop} (h : Rep (Al B α ow) α K H v d) (e : Ext α H α' H') : Rep (Al B α' ow) α' K H' v d := h.mono e.al e.2.1
theorem RepAll.ext {B : Addr → Prop} (h : RepAll (Al B α ow) α K H vs ds) (e : Ext α H α' H') : RepAll (Al B α' ow) α' K H' vs ds := h.mono e.al e.2.1
/-- the state behind an expression -/
theorem Sat.step (s : Sat K G α ow σ H ρ g) (e : Ext α H α' H') (gk : GOk (Al G.B α' ow) α' g' K H') : Sat K G α' ow σ H' ρ g' := by
  have nn : ∀ {a : Addr} {o : HO}, H a = some o → a ∉ α → a ∉ α' := fun {a o} ho hn z => by
    rcases e.2.2 a z with z | z
    · exact hn z
    · rw [ho] at z; cases z
  refine ⟨s.ext.trans e, fun a h => ?_, s.len, gk, fun i a h => ?_, s.oinj, fun i x hx => ?_⟩
  · obtain ⟨⟨o, h1⟩, h2⟩ := s.blk a h
    exact ⟨⟨o, e.1 a o h1 h2⟩, nn h1 h2⟩
  · obtain ⟨h1, h2, h4, ⟨o, h3⟩, h5⟩ := s.own i a h
    exact ⟨h1, nn h3 h2, h4, ⟨o, e.1 a o h3 h2⟩, h5⟩
  · have q := s.slot i x hx
    cases x with
    | d x => obtain ⟨y, h1, h2⟩ := q; exact ⟨y, h1, h2.ext e⟩
    | own xs =>
      obtain ⟨a, vs, h1, h2, h3, h4⟩ := q
      exact ⟨a, vs, h1, h2, e.1 a _ h3 (s.own i a h1).2.1, h4.ext e⟩
    | ownd ds =>
      obtain ⟨a, vs, h1, h2, h3, h4, h5⟩ := q
      exact ⟨a, vs, h1, h2, e.1 a _ h3 (s.own i a h1).2.1, h4, h5.ext e⟩
theorem SOk.map {A A' : Addr → Prop} {a : Addr} {o : SO} (h : SOk A α K H a o) (hh : ∀ u, H a = some u → H' a = some u) (hr : ∀ v d, d ∈ soDs o → Rep A α K H v d → Rep A' α' K H' v d) : SOk A' α' K H' a o := by
  have go : ∀ {vs : List V} {ds : List D}, ds = soDs o → RepAll A α K H vs ds → RepAll A' α' K H' vs ds := fun {vs ds} e q => ⟨q.1, fun i v d e1 e2 => hr v d (e ▸ List.mem_of_getElem? e2) (q.2 i v d e1 e2)⟩
  cases o with
  | lst xs => obtain ⟨vs, h1, h2⟩ := h; exact ⟨vs, hh _ h1, go rfl h2⟩
  | dic ds => obtain ⟨vs, h1, h2, h3⟩ := h; exact ⟨vs, hh _ h1, h2, go rfl h3⟩
  | ins C fs => obtain ⟨dx, vs, h1, h2, h3⟩ := h; exact ⟨dx, vs, hh _ h1, h2, go rfl h3⟩
theorem SOk.ext {B : Addr → Prop} {a : Addr} {o : SO} (h : SOk (Al B α ow) α K H a o) (e : Ext α H α' H') (he : ∀ o, H a = some o → H' a = some o) : SOk (Al B α' ow) α' K H' a o := h.map he fun _ _ _ r => r.ext e
theorem SOk.there {A : Addr → Prop} {a : Addr} {o : SO} (h : SOk A α K H a o) : ∃ u, H a = some u := by
  cases o with
  | lst xs => obtain ⟨vs, h1, h2⟩ := h; exact ⟨_, h1⟩
  | dic xs => obtain ⟨vs, h1, h2⟩ := h; exact ⟨_, h1⟩
  | ins C fs => obtain ⟨dx, vs, h1, h2⟩ := h; exact ⟨_, h1⟩
theorem GOk.tracked {A : Addr → Prop} (s : GOk A α g K H) {a : Addr} (h : a ∈ α) : ∃ o, H a = some o := by
  obtain ⟨n, hn, e⟩ := List.getElem_of_mem h
  have h2 : α[n]? = some a := by rw [List.getElem?_eq_getElem hn, e]
  exact (s.so n a _ h2 (List.getElem?_eq_getElem (by rw [← s.len]; exact hn))).there
theorem GOk.new {B : Addr → Prop} (s : GOk (Al B α ow) α g K H) {p : Addr} {o : HO} (h : H p = none) : GOk (Al B α ow) α g K (upd H p o) :=
  ⟨s.len, s.nd, fun n a u h1 h2 => (s.so n a u h1 h2).ext (Ext.new h) fun o e => by rw [upd_ne (ne_of_none e h)]; exact e⟩
/-- a new object -/
theorem Sat.new (s : Sat K G α ow σ H ρ g) {p : Addr} {o : HO} (h : H p = none) : Sat K G α ow σ (upd H p o) ρ g := s.step (Ext.new h) (s.gok.new h)
/-- a new object may stand for data -/
theorem Sat.al (s : Sat K G α ow σ H ρ g) {p : Addr} (h : H p = none) : Al G.B α ow p := by
  refine ⟨fun hp => ?_, fun hb => ?_, fun i hi => ?_⟩
  · obtain ⟨o, e⟩ := s.gok.tracked hp
    rw [h] at e; cases e
  · obtain ⟨⟨o, h1⟩, h2⟩ := s.blk p hb
    rw [h1] at h; cases h
  · obtain ⟨_, _, _, ⟨o, h3⟩, _⟩ := s.own i p hi
    rw [h] at h3; cases h3
/-- a new list, a new tuple -/
theorem Sat.newL (s : Sat K G α ow σ H ρ g) {p : Addr} (h : H p = none) (r : RepAll (Al G.B α ow) α K H vs ds) : Rep (Al G.B α ow) α K (upd H p (.lst vs)) (.ref p) (.lst ds) := by
  have r' := r.ext (Ext.new (α := α) (o := .lst vs) h)
  exact .lst (s.al h) (.inl upd_same) r'.1 r'.2
theorem Sat.newT (s : Sat K G α ow σ H ρ g) {p : Addr} {o : Obj} (h : H p = none) (ho : TO o) (r : RepAll (Al G.B α ow) α K H vs ds) : Rep (Al G.B α ow) α K (upd H p (.frz o (.tup vs))) (.ref p) (.tup ds) := by
  have r' := r.ext (Ext.new (α := α) (o := .frz o (.tup vs)) h)
  exact .tup (.inl ⟨s.al h, o, ho, upd_same⟩) r'.1 r'.2

end
/-! ### borrowed: data, or a list or dict that a slot owns -/
inductive BRep (B : Addr → Prop) (α : List Addr) (ow : Nat → Option Addr) (K : PySem.W.Frag) (H : Hp) : V → D → Prop
  | of {v : V} {d : D} (h : Rep (Al B α ow) α K H v d) : BRep B α ow K H v d
  | own {i : Nat} {a : Addr} {vs : List V} {xs : List D} (h : ow i = some a) (hn : a ∉ α) (ho : H a = some (.lst vs)) (r : RepAll (Al B α ow) α K H vs xs) : BRep B α ow K H (.ref a) (.lst xs)
  | ownd {i : Nat} {a : Addr} {kvs : List (Key × V)} {ds : List (DKey × D)} (h : ow i = some a) (hn : a ∉ α) (ho : H a = some (.dK kvs)) (hk : kvs.map (·.1) = ds.map (fun p => dkey p.1)) (r : RepAll (Al B α ow) α K H (kvs.map (·.2)) (ds.map (·.2))) : BRep B α ow K H (.ref a) (.dic ds)
section
variable {K : PySem.W.Frag} {G : Gh} {α α' : List Addr} {ow : Nat → Option Addr} {σ : L2.St} {H H' : Hp} {ρ : Env3} {g g' : Store} {v : V} {d : D} {vs : List V} {ds : List D}
theorem BRep.ext {B : Addr → Prop} (h : BRep B α ow K H v d) (e : Ext α H α' H') : BRep B α' ow K H' v d := by
  have nn : ∀ {a : Addr} {o : HO}, H a = some o → a ∉ α → a ∉ α' := fun {a o} ho hn z => by
    rcases e.2.2 a z with z | z
    · exact hn z
    · rw [ho] at z; cases z
  cases h with
  | of h => exact .of (h.ext e)
  | own h hn ho r => exact .own h (nn ho hn) (e.1 _ _ ho hn) (r.ext e)
  | ownd h hn ho hk r => exact .ownd h (nn ho hn) (e.1 _ _ ho hn) hk (r.ext e)
def BRepAll (B : Addr → Prop) (α : List Addr) (ow : Nat → Option Addr) (K : PySem.W.Frag) (H : Hp) (vs : List V) (ds : List D) : Prop :=
  vs.length = ds.length ∧ ∀ (i : Nat) v d, vs[i]? = some v → ds[i]? = some d → BRep B α ow K H v d
section
variable {B : Addr → Prop}
theorem BRepAll.ext (h : BRepAll B α ow K H vs ds) (e : Ext α H α' H') : BRepAll B α' ow K H' vs ds := ⟨h.1, fun i v d h1 h2 => (h.2 i v d h1 h2).ext e⟩
theorem BRepAll.nil : BRepAll B α ow K H [] [] := ⟨rfl, fun i v d e => by simp at e⟩
theorem BRepAll.cons (h : BRep B α ow K H v d) (t : BRepAll B α ow K H vs ds) : BRepAll B α ow K H (v :: vs) (d :: ds) :=
  ⟨by rw [List.length_cons, List.length_cons, t.1], fun i x e h1 h2 => by
    cases i with
    | zero => simp at h1 h2; subst h1 h2; exact h
    | succ i => exact t.2 i x e (by simpa using h1) (by simpa using h2)⟩
theorem BRepAll.uncons (h : BRepAll B α ow K H vs (d :: ds)) : ∃ v r, vs = v :: r ∧ BRep B α ow K H v d ∧ BRepAll B α ow K H r ds := by
  obtain ⟨hl, hi⟩ := h
  cases vs with
  | nil => simp at hl
  | cons v r => exact ⟨v, r, rfl, hi 0 v d rfl rfl, ⟨by simpa using hl, fun i x e h1 h2 => hi (i + 1) x e (by simpa using h1) (by simpa using h2)⟩⟩
theorem BRepAll.unnil (h : BRepAll B α ow K H vs []) : vs = [] := by
  have := h.1
  cases vs with
  | nil => rfl
  | cons v r => simp at this
theorem BRepAll.of (h : RepAll (Al B α ow) α K H vs ds) : BRepAll B α ow K H vs ds := ⟨h.1, fun i v d h1 h2 => .of (h.2 i v d h1 h2)⟩
/-- reading it -/
theorem BRep.lst {xs : List D} (h : BRep B α ow K H v (.lst xs)) : ∃ a vs, v = .ref a ∧ Rd H a (.lst vs) ∧ RepAll (Al B α ow) α K H vs xs := by
  cases h with
  | of h => cases h with | lst hA h hl hi => exact ⟨_, _, rfl, h, hl, hi⟩
  | own h hn ho r => exact ⟨_, _, rfl, .inl ho, r⟩
theorem BRep.tup {xs : List D} (h : BRep B α ow K H v (.tup xs)) : ∃ a vs, v = .ref a ∧ SqT K H a vs ∧ RepAll (Al B α ow) α K H vs xs := by
  cases h with
  | of h => cases h with | tup h hl hi => exact ⟨_, _, rfl, h.sq, hl, hi⟩
theorem BRep.dic {ds : List (DKey × D)} (h : BRep B α ow K H v (.dic ds)) : ∃ a kvs, v = .ref a ∧ Rd H a (.dK kvs) ∧ kvs.map (·.1) = ds.map (fun p => dkey p.1) ∧ RepAll (Al B α ow) α K H (kvs.map (·.2)) (ds.map (·.2)) := by
  cases h with
  | of h =>
    cases h with
    | dic hA h hk hi =>
      refine ⟨_, _, rfl, h, hk, by rw [List.length_map, List.length_map]; simpa using congrArg List.length hk, fun i v d h1 h2 => ?_⟩
      rw [List.getElem?_map, Option.map_eq_some_iff] at h1 h2
      obtain ⟨p, h1, rfl⟩ := h1
      obtain ⟨q, h2, rfl⟩ := h2
      exact hi i p q h1 h2
  | ownd h hn ho hk r => exact ⟨_, _, rfl, .inl ho, hk, r⟩
theorem BRep.int {i : Int} (h : BRep B α ow K H v (.int i)) : v = .int i := by cases h with | of h => cases h; rfl
theorem BRep.bl {b : Bool} (h : BRep B α ow K H v (.bl b)) : v = .bl b := by cases h with | of h => cases h; rfl
theorem BRep.str {s : List Nat} (h : BRep B α ow K H v (.str s)) : v = .str (S s) := by cases h with | of h => cases h; rfl
theorem BRep.non (h : BRep B α ow K H v .non) : v = .non := by cases h with | of h => cases h; rfl
end
end
end L3

/-! L3b: what an expression, a test, a list of arguments is worth. -/
namespace L3
open PySem PySem.Spec PyProof.Rows L2

abbrev M (β : Type) := Env3 → Store → Option (β × Store)
abbrev DE := M D
abbrev DA := M (List D)
abbrev DT := M Bool
def BIG : Nat := 100000
theorem big_line : BIG ≤ sizeLine := by decide

/-- what is wanted of a value that needs no new store -/
def Wants (K : PySem.W.Frag) (G : Gh) (α : List Addr) (ow : Nat → Option Addr) (σ : L2.St) (H : Hp) (ρ : Env3) (g : Store) (d : D) (Q : VK) : Prop :=
  ∀ v H', Ext α H α H' → Sat K G α ow σ H' ρ g → Rep (Al G.B α ow) α K H' v d → Q v H'
/-- .. of one that may change the store -/
def WantsG (K : PySem.W.Frag) (G : Gh) (α : List Addr) (ow : Nat → Option Addr) (σ : L2.St) (H : Hp) (ρ : Env3) (g' : Store) (d : D) (Q : VK) : Prop :=
  ∀ v H' α', Ext α H α' H' → Sat K G α' ow σ H' ρ g' → Rep (Al G.B α' ow) α' K H' v d → Q v H'
def WantsB (K : PySem.W.Frag) (G : Gh) (α : List Addr) (ow : Nat → Option Addr) (σ : L2.St) (H : Hp) (ρ : Env3) (g' : Store) (d : D) (Q : VK) : Prop :=
  ∀ v H' α', Ext α H α' H' → Sat K G α' ow σ H' ρ g' → BRep G.B α' ow K H' v d → Q v H'
def WantsT (K : PySem.W.Frag) (G : Gh) (α : List Addr) (ow : Nat → Option Addr) (σ : L2.St) (H : Hp) (ρ : Env3) (g' : Store) (b : Bool) (Q : Bool → Hp → Prop) : Prop :=
  ∀ H' α', Ext α H α' H' → Sat K G α' ow σ H' ρ g' → Q b H'
def WantsA (K : PySem.W.Frag) (G : Gh) (α : List Addr) (ow : Nat → Option Addr) (σ : L2.St) (H : Hp) (ρ : Env3) (g' : Store) (ds : List D) (Q : List V → Hp → Prop) : Prop :=
  ∀ vs H' α', Ext α H α' H' → Sat K G α' ow σ H' ρ g' → BRepAll G.B α' ow K H' vs ds → Q vs H'
def WantsR (K : PySem.W.Frag) (G : Gh) (α : List Addr) (ow : Nat → Option Addr) (σ : L2.St) (H : Hp) (ρ : Env3) (g' : Store) (ds : List D) (Q : List V → Hp → Prop) : Prop :=
  ∀ vs H' α', Ext α H α' H' → Sat K G α' ow σ H' ρ g' → RepAll (Al G.B α' ow) α' K H' vs ds → Q vs H'

def EC (X : Cx) (e : Expr) (f : DE) : Prop := ∃ t, PE X e t ∧ ∀ G α ow σ H ρ g d g' Q, Sat X.K G α ow σ H ρ g → f ρ g = some (d, g') → WantsG X.K G α ow σ H ρ g' d Q → t σ H Q
def EB (X : Cx) (e : Expr) (f : DE) : Prop := ∃ t, PE X e t ∧ ∀ G α ow σ H ρ g d g' Q, Sat X.K G α ow σ H ρ g → f ρ g = some (d, g') → WantsB X.K G α ow σ H ρ g' d Q → t σ H Q
def TC (X : Cx) (e : Expr) (f : DT) : Prop := ∃ t, PT X e t ∧ ∀ G α ow σ H ρ g b g' Q, Sat X.K G α ow σ H ρ g → f ρ g = some (b, g') → WantsT X.K G α ow σ H ρ g' b Q → t σ H Q
def TW (X : Cx) (e : Expr) (f : DT) : Prop := ∃ t, PW X e t ∧ ∀ G α ow σ H ρ g b g' Q, Sat X.K G α ow σ H ρ g → f ρ g = some (b, g') → WantsT X.K G α ow σ H ρ g' b Q → t σ H Q
def AB (X : Cx) (es : List Expr) (f : DA) : Prop := ∃ t, PA X es t ∧ ∀ G α ow σ H ρ g ds g' Q, Sat X.K G α ow σ H ρ g → f ρ g = some (ds, g') → WantsA X.K G α ow σ H ρ g' ds Q → t σ H Q
def AC (X : Cx) (es : List Expr) (f : DA) : Prop := (∀ ρ g ds g', f ρ g = some (ds, g') → ds.length = es.length) ∧ ∃ t, PA X es t ∧ ∀ G α ow σ H ρ g ds g' Q, Sat X.K G α ow σ H ρ g → f ρ g = some (ds, g') → WantsR X.K G α ow σ H ρ g' ds Q → t σ H Q

/-! ### the functions -/
def eVar (i : Nat) : DE := fun ρ g => match ρ[i]? with
  | some (some (.d x)) => some (x, g)
  | _ => none
def eVarB (i : Nat) : DE := fun ρ g => match ρ[i]? with
  | some (some (.d x)) => some (x, g)
  | some (some (.own xs)) => some (.lst xs, g)
  | some (some (.ownd ds)) => some (.dic ds, g)
  | _ => none
def eC (d : D) : DE := fun _ g => some (d, g)
def bindM {β γ : Type} (m : M β) (k : β → M γ) : M γ := fun ρ g => match m ρ g with
  | some (x, g1) => k x ρ g1
  | none => none
def liftM {β : Type} (o : Option β) : M β := fun _ g => match o with
  | some x => some (x, g)
  | none => none
def eOp (op : D → D → Option D) (a b : DE) : DE := bindM a fun x => bindM b fun y => liftM (op x y)
def eUn (op : D → Option D) (a : DE) : DE := bindM a fun x => liftM (op x)
def aNil : DA := fun _ g => some ([], g)
def aCons (a : DE) (r : DA) : DA := bindM a fun x => bindM r fun xs => liftM (some (x :: xs))
def eFn (φ : List D → Option D) (a : DA) : DE := bindM a fun xs => liftM (φ xs)
def eApp (φ : List D → Store → Option (D × Store)) (a : DA) : DE := bindM a fun xs => fun _ g => φ xs g
def tOf (a : DE) : DT := bindM a fun x => liftM (match x with | .bl b => some b | _ => none)
def tAndD (a b : DT) : DT := bindM a fun c => if c then b else fun _ g => some (false, g)
def tOrD (a b : DT) : DT := bindM a fun c => if c then (fun _ g => some (true, g)) else b
def tNotD (a : DT) : DT := bindM a fun c => liftM (some (!c))
def eAndD (a b : DE) : DE := bindM a fun x => match x with
  | .bl true => b
  | .bl false => eC (.bl false)
  | _ => fun _ _ => none
def eOrD (a b : DE) : DE := bindM a fun x => match x with
  | .bl false => b
  | .bl true => eC (.bl true)
  | _ => fun _ _ => none
def eIfD (c : DT) (a b : DE) : DE := bindM c fun k => if k then a else b
def flat : D → Bool
  | .non => true | .bl _ => true | .int _ => true | .str _ => true | .sta _ => true | _ => false
def eFlat (a : DE) : DE := bindM a fun x => liftM (if flat x then some x else none)

theorem bindM_some {β γ : Type} {m : M β} {k : β → M γ} {ρ : Env3} {g : Store} {z : γ} {g' : Store} (h : bindM m k ρ g = some (z, g')) : ∃ x g1, m ρ g = some (x, g1) ∧ k x ρ g1 = some (z, g') := by
  unfold bindM at h
  split at h
  · rename_i x g1 e; exact ⟨x, g1, e, h⟩
  · cases h
theorem liftM_some {β : Type} {o : Option β} {ρ : Env3} {g : Store} {z : β} {g' : Store} (h : liftM o ρ g = some (z, g')) : o = some z ∧ g = g' := by
  unfold liftM at h
  split at h
  · cases h; exact ⟨rfl, rfl⟩
  · cases h

section
variable {X : Cx} {e a b c : Expr} {f fa fb fc : DE}
theorem EC.bo (h : EC X e f) : EB X e f := by
  obtain ⟨t, ht, hq⟩ := h
  exact ⟨t, ht, fun G α ow σ H ρ g d g' Q s e w => hq G α ow σ H ρ g d g' Q s e fun v H' α' x s' r => w v H' α' x s' (.of r)⟩
theorem EB.flat (h : EB X e f) : EC X e (eFlat f) := by
  obtain ⟨t, ht, hq⟩ := h
  refine ⟨t, ht, fun G α ow σ H ρ g d g' Q s e w => ?_⟩
  obtain ⟨x, g1, e1, e2⟩ := bindM_some e
  obtain ⟨e3, rfl⟩ := liftM_some e2
  split at e3
  · rename_i hf
    cases e3
    refine hq G α ow σ H ρ g _ g1 Q s e1 fun v H' α' x s' r => w v H' α' x s' ?_
    cases r with
    | of r => exact r
    | own => cases hf
    | ownd => cases hf
  · cases e3

/-! ### names, constants -/
theorem Sat.var {K : PySem.W.Frag} {G : Gh} {α : List Addr} {ow : Nat → Option Addr} {σ : L2.St} {H : Hp} {ρ : Env3} {g : Store} (s : Sat K G α ow σ H ρ g) {i : Nat} {x : SV} (h : ρ[i]? = some (some x)) : SlotOk (Al G.B α ow) α K H (ow i) σ[i]? x := s.slot i x h
theorem ec_var (i : Nat) {x : Str} {pos : Pos} (hN : X.N[i]? = some x := by rfl) (hv : Vis X.env.scope x := by first | exact Or.inl rfl | exact Or.inr (Or.inl rfl) | exact Or.inr (Or.inr rfl)) (hd : (x == ("__debug__" : Str)) = false := by decide) (hcd : (x == ("__classdict__" : Str)) = false := by decide) :
    EC X (.Name x pos) (eVar i) := by
  refine ⟨tVar i, pe_var hN hv hd hcd, fun G α ow σ H ρ g d g' Q s e w => ?_⟩
  unfold eVar at e
  split at e
  · rename_i y hy
    cases e
    obtain ⟨v, h1, h2⟩ := s.slot i _ hy
    exact ⟨v, h1, w v H α Ext.refl s h2⟩
  · cases e
theorem eb_var (i : Nat) {x : Str} {pos : Pos} (hN : X.N[i]? = some x := by rfl) (hv : Vis X.env.scope x := by first | exact Or.inl rfl | exact Or.inr (Or.inl rfl) | exact Or.inr (Or.inr rfl)) (hd : (x == ("__debug__" : Str)) = false := by decide) (hcd : (x == ("__classdict__" : Str)) = false := by decide) :
    EB X (.Name x pos) (eVarB i) := by
  refine ⟨tVar i, pe_var hN hv hd hcd, fun G α ow σ H ρ g d g' Q s e w => ?_⟩
  unfold eVarB at e
  split at e
  · rename_i y hy
    cases e
    obtain ⟨v, h1, h2⟩ := s.slot i _ hy
    exact ⟨v, h1, w v H α Ext.refl s (.of h2)⟩
  · rename_i xs hy
    cases e
    obtain ⟨a, vs, h1, h2, h3, h4⟩ := s.slot i _ hy
    exact ⟨_, h2, w _ H α Ext.refl s (.own h1 (s.own i a h1).2.1 h3 h4)⟩
  · rename_i xs hy
    cases e
    obtain ⟨a, vs, h1, h2, h3, h4, h5⟩ := s.slot i _ hy
    exact ⟨_, h2, w _ H α Ext.refl s (.ownd h1 (s.own i a h1).2.1 h3 h4 h5)⟩
  · cases e
theorem ec_imm {v : V} {d : D} (h : PE X e (tC v)) (r : ∀ A α K H, Rep A α K H v d) : EC X e (eC d) :=
  ⟨_, h, fun G α ow σ H ρ g d' g' Q s e w => by cases e; exact w v H α Ext.refl s (r _ _ _ _)⟩
theorem ec_int {i : Int} {j pos} : EC X (.Constant (.int i) j pos) (eC (.int i)) := ec_imm pe_int fun _ _ _ _ => .int i
theorem ec_bl {i : Bool} {j pos} : EC X (.Constant (.bool i) j pos) (eC (.bl i)) := ec_imm pe_bl fun _ _ _ _ => .bl i
theorem ec_non {j pos} : EC X (.Constant .none j pos) (eC .non) := ec_imm pe_non fun _ _ _ _ => .non
theorem ec_str {x : Str} {s : List Nat} {j pos} (h : x = S s := by rfl) : EC X (.Constant (.str x) j pos) (eC (.str s)) := by
  subst h
  exact ec_imm pe_str fun _ _ _ _ => .str s
/-- a module's constant -/
theorem ec_gint {x : Str} {i : Int} {t : Tok} {pos : Pos} (hm : X.mg x = some (.int i t)) (hg : Gl X x := by rfl) (hd : (x == ("__debug__" : Str)) = false := by decide) : EC X (.Name x pos) (eC (.int i)) :=
  ec_imm (pe_glob (v := .int i) hg hm ⟨t, rfl⟩ hd) fun _ _ _ _ => .int i
theorem ec_gstr {x : Str} {z : List Nat} {t : Tok} {pos : Pos} (hm : X.mg x = some (.str (S z) t)) (hg : Gl X x := by rfl) (hd : (x == ("__debug__" : Str)) = false := by decide) : EC X (.Name x pos) (eC (.str z)) :=
  ec_imm (pe_glob (v := .str (S z)) hg hm ⟨t, rfl⟩ hd) fun _ _ _ _ => .str z

/-! ### operators -/
def OpD (X : Cx) (f : Value → Value → Sem Value) (op : D → D → Option D) : Prop := ∃ r, OpR X f r ∧ ∀ G α ow σ H ρ g x y dx dy d Q, Sat X.K G α ow σ H ρ g → BRep G.B α ow X.K H x dx → BRep G.B α ow X.K H y dy →
  op dx dy = some d → Wants X.K G α ow σ H ρ g d Q → r x y H Q
theorem eb_bin {ta tb : TE} (ha : ∀ G α ow σ H ρ g d g' Q, Sat X.K G α ow σ H ρ g → fa ρ g = some (d, g') → WantsB X.K G α ow σ H ρ g' d Q → ta σ H Q) (hb : ∀ G α ow σ H ρ g d g' Q, Sat X.K G α ow σ H ρ g → fb ρ g = some (d, g') → WantsB X.K G α ow σ H ρ g' d Q → tb σ H Q)
    {G α ow σ H ρ g op d g'} (s : Sat X.K G α ow σ H ρ g) (he : eOp op fa fb ρ g = some (d, g')) {R : V → V → Hp → Prop}
    (w : ∀ x y dx dy H' α', Ext α H α' H' → Sat X.K G α' ow σ H' ρ g' → BRep G.B α' ow X.K H' x dx → BRep G.B α' ow X.K H' y dy → op dx dy = some d → R x y H') : ta σ H fun x H1 => tb σ H1 fun y H2 => R x y H2 := by
  obtain ⟨dx, g1, e1, he⟩ := bindM_some he
  obtain ⟨dy, g2, e2, he⟩ := bindM_some he
  obtain ⟨e3, rfl⟩ := liftM_some he
  refine ha G α ow σ H ρ g dx g1 _ s e1 fun x H1 α1 x1 s1 r1 => ?_
  refine hb G α1 ow σ H1 ρ g1 dy g2 _ s1 e2 fun y H2 α2 x2 s2 r2 => ?_
  exact w x y dx dy H2 α2 (x1.trans x2) s2 (r1.ext x2) r2 e3
theorem ec_op {op : Operator} {o : D → D → Option D} {pos : Pos} (ho : OpD X (binaryOp op) o) (ha : EB X a fa) (hb : EB X b fb) : EC X (.BinOp a op b pos) (eOp o fa fb) := by
  obtain ⟨r, hr, hq⟩ := ho
  obtain ⟨ta, pa, ha⟩ := ha
  obtain ⟨tb, pb, hb⟩ := hb
  refine ⟨_, pe_op hr pa pb, fun G α ow σ H ρ g d g' Q s e w => ?_⟩
  exact eb_bin ha hb s e fun x y dx dy H' α' x1 s1 r1 r2 e2 => hq G α' ow σ H' ρ g' x y dx dy d Q s1 r1 r2 e2 fun v H2 x2 s2 r => w v H2 α' (x1.trans x2) s2 r
theorem ec_cmp {op : CmpOp} {o : D → D → Option D} {pos : Pos} (ho : OpD X (compareOp op) o) (ha : EB X a fa) (hb : EB X b fb) (hm : behindInMarks op b = false := by first | exact nomark _ | rfl) : EC X (.Compare a [op] [b] pos) (eOp o fa fb) := by
  obtain ⟨r, hr, hq⟩ := ho
  obtain ⟨ta, pa, ha⟩ := ha
  obtain ⟨tb, pb, hb⟩ := hb
  refine ⟨_, pe_cmpR hr pa pb hm, fun G α ow σ H ρ g d g' Q s e w => ?_⟩
  exact eb_bin ha hb s e fun x y dx dy H' α' x1 s1 r1 r2 e2 => hq G α' ow σ H' ρ g' x y dx dy d Q s1 r1 r2 e2 fun v H2 x2 s2 r => w v H2 α' (x1.trans x2) s2 r
theorem tc_cmp {op : CmpOp} {o : D → D → Option D} {pos : Pos} (ho : OpD X (compareOp op) o) (ha : EB X a fa) (hb : EB X b fb) (hm : behindInMarks op b = false := by first | exact nomark _ | rfl) : TC X (.Compare a [op] [b] pos) (tOf (eOp o fa fb)) := by
  obtain ⟨r, hr, hq⟩ := ho
  obtain ⟨ta, pa, ha⟩ := ha
  obtain ⟨tb, pb, hb⟩ := hb
  refine ⟨_, pt_cmpR hr pa pb hm, fun G α ow σ H ρ g k g' Q s e w => ?_⟩
  obtain ⟨d, g1, e1, e2⟩ := bindM_some e
  obtain ⟨e3, rfl⟩ := liftM_some e2
  split at e3
  · cases e3
    exact eb_bin ha hb s e1 fun x y dx dy H' α' x1 s1 r1 r2 e2 => hq G α' ow σ H' ρ g1 x y dx dy _ _ s1 r1 r2 e2 fun v H2 x2 s2 r => by
      cases r
      exact ⟨_, rfl, w H2 α' (x1.trans x2) s2⟩
  · cases e3
/-- an expression whose value is a bool, as a test -/
theorem tc_val (h : EC X e f) (he : ∀ whole, isTrue e X.env whole = (do let v ← whole; standAt e.pos; holding [v] (truthy v)) := by intro _; rfl) : TC X e (tOf f) := by
  obtain ⟨t, pt, hq⟩ := h
  refine ⟨_, pt_val pt he, fun G α ow σ H ρ g k g' Q s e w => ?_⟩
  obtain ⟨d, g1, e1, e2⟩ := bindM_some e
  obtain ⟨e3, rfl⟩ := liftM_some e2
  split at e3
  · cases e3
    exact hq G α ow σ H ρ g _ g1 _ s e1 fun v H2 α2 x2 s2 r => by
      cases r
      exact ⟨_, rfl, w H2 α2 x2 s2⟩
  · cases e3
/-! ### and, or, not -/
section
variable {ta tb : DT} {rest : List Expr} {pos : Pos}
theorem TW.tc (h : TW X e ta) : TC X e ta := by
  obtain ⟨t, pt, hq⟩ := h
  exact ⟨t, pt.pt, hq⟩
theorem tw_and1 (ha : TC X a ta) : TW X (.BoolOp .And [a] pos) ta := by
  obtain ⟨t, pt, hq⟩ := ha
  exact ⟨t, pw_and1 pt, hq⟩
theorem tw_or1 (ha : TC X a ta) : TW X (.BoolOp .Or [a] pos) ta := by
  obtain ⟨t, pt, hq⟩ := ha
  exact ⟨t, pw_or1 pt, hq⟩
theorem tw_and (ha : TC X a ta) (hb : TW X (.BoolOp .And (b :: rest) pos) tb) : TW X (.BoolOp .And (a :: b :: rest) pos) (tAndD ta tb) := by
  obtain ⟨t, pt, hq⟩ := ha
  obtain ⟨t2, pt2, hq2⟩ := hb
  refine ⟨_, pw_and pt pt2, fun G α ow σ H ρ g k g' Q s e w => ?_⟩
  obtain ⟨c, g1, e1, e2⟩ := bindM_some e
  refine hq G α ow σ H ρ g c g1 _ s e1 fun H1 α1 x1 s1 => ?_
  cases c with
  | true => rw [if_pos rfl] at e2 ⊢; exact hq2 G α1 ow σ H1 ρ g1 k g' Q s1 e2 fun H2 α2 x2 s2 => w H2 α2 (x1.trans x2) s2
  | false => rw [if_neg (by decide)] at e2 ⊢; cases e2; exact w H1 α1 x1 s1
theorem tw_or (ha : TC X a ta) (hb : TW X (.BoolOp .Or (b :: rest) pos) tb) : TW X (.BoolOp .Or (a :: b :: rest) pos) (tOrD ta tb) := by
  obtain ⟨t, pt, hq⟩ := ha
  obtain ⟨t2, pt2, hq2⟩ := hb
  refine ⟨_, pw_or pt pt2, fun G α ow σ H ρ g k g' Q s e w => ?_⟩
  obtain ⟨c, g1, e1, e2⟩ := bindM_some e
  refine hq G α ow σ H ρ g c g1 _ s e1 fun H1 α1 x1 s1 => ?_
  cases c with
  | false => rw [if_neg (by decide)] at e2 ⊢; exact hq2 G α1 ow σ H1 ρ g1 k g' Q s1 e2 fun H2 α2 x2 s2 => w H2 α2 (x1.trans x2) s2
  | true => rw [if_pos rfl] at e2 ⊢; cases e2; exact w H1 α1 x1 s1
theorem tc_not (ha : TC X a ta) : TC X (.UnaryOp .Not a pos) (tNotD ta) := by
  obtain ⟨t, pt, hq⟩ := ha
  refine ⟨_, pt_not pt, fun G α ow σ H ρ g k g' Q s e w => ?_⟩
  obtain ⟨c, g1, e1, e2⟩ := bindM_some e
  obtain ⟨e3, rfl⟩ := liftM_some e2
  cases e3
  exact hq G α ow σ H ρ g c g1 _ s e1 w
theorem ec_one {op} (h : EC X a f) : EC X (.BoolOp op [a] pos) f := by
  obtain ⟨t, pt, hq⟩ := h
  exact ⟨t, pe_one pt, hq⟩
theorem ec_and (ha : EC X a fa) (hb : EC X (.BoolOp .And (b :: rest) pos) fb) : EC X (.BoolOp .And (a :: b :: rest) pos) (eAndD fa fb) := by
  obtain ⟨t, pt, hq⟩ := ha
  obtain ⟨t2, pt2, hq2⟩ := hb
  refine ⟨_, pe_and pt pt2, fun G α ow σ H ρ g k g' Q s e w => ?_⟩
  obtain ⟨c, g1, e1, e2⟩ := bindM_some e
  refine hq G α ow σ H ρ g c g1 _ s e1 fun v H1 α1 x1 s1 r => ?_
  split at e2
  · cases r; exact ⟨_, rfl, by rw [if_pos rfl]; exact hq2 G α1 ow σ H1 ρ g1 k g' Q s1 e2 fun v H2 α2 x2 s2 => w v H2 α2 (x1.trans x2) s2⟩
  · cases r; cases e2; exact ⟨_, rfl, by rw [if_neg (by decide)]; exact w _ H1 α1 x1 s1 (.bl _)⟩
  · cases e2
theorem ec_or (ha : EC X a fa) (hb : EC X (.BoolOp .Or (b :: rest) pos) fb) : EC X (.BoolOp .Or (a :: b :: rest) pos) (eOrD fa fb) := by
  obtain ⟨t, pt, hq⟩ := ha
  obtain ⟨t2, pt2, hq2⟩ := hb
  refine ⟨_, pe_or pt pt2, fun G α ow σ H ρ g k g' Q s e w => ?_⟩
  obtain ⟨c, g1, e1, e2⟩ := bindM_some e
  refine hq G α ow σ H ρ g c g1 _ s e1 fun v H1 α1 x1 s1 r => ?_
  split at e2
  · cases r; exact ⟨_, rfl, by rw [if_neg (by decide)]; exact hq2 G α1 ow σ H1 ρ g1 k g' Q s1 e2 fun v H2 α2 x2 s2 => w v H2 α2 (x1.trans x2) s2⟩
  · cases r; cases e2; exact ⟨_, rfl, by rw [if_pos rfl]; exact w _ H1 α1 x1 s1 (.bl _)⟩
  · cases e2
def dNot : D → Option D
  | .bl b => some (.bl (!b))
  | _ => none
theorem ec_not (ha : EC X a fa) : EC X (.UnaryOp .Not a pos) (eUn dNot fa) := by
  obtain ⟨t, pt, hq⟩ := ha
  refine ⟨_, pe_not pt, fun G α ow σ H ρ g k g' Q s e w => ?_⟩
  obtain ⟨c, g1, e1, e2⟩ := bindM_some e
  obtain ⟨e3, rfl⟩ := liftM_some e2
  refine hq G α ow σ H ρ g c g1 _ s e1 fun v H1 α1 x1 s1 r => ?_
  unfold dNot at e3
  split at e3
  · cases r; cases e3; exact ⟨_, rfl, w _ H1 α1 x1 s1 (.bl _)⟩
  · cases e3
theorem ec_if (hc : TC X c ta) (ha : EC X a fa) (hb : EC X b fb) : EC X (.IfExp c a b pos) (eIfD ta fa fb) := by
  obtain ⟨t, pt, hq⟩ := hc
  obtain ⟨t1, pt1, hq1⟩ := ha
  obtain ⟨t2, pt2, hq2⟩ := hb
  refine ⟨_, pe_ifExp pt pt1 pt2, fun G α ow σ H ρ g k g' Q s e w => ?_⟩
  obtain ⟨c, g1, e1, e2⟩ := bindM_some e
  refine hq G α ow σ H ρ g c g1 _ s e1 fun H1 α1 x1 s1 => ?_
  cases c with
  | true => rw [if_pos rfl] at e2 ⊢; exact hq1 G α1 ow σ H1 ρ g1 k g' Q s1 e2 fun v H2 α2 x2 s2 => w v H2 α2 (x1.trans x2) s2
  | false => rw [if_neg (by decide)] at e2 ⊢; exact hq2 G α1 ow σ H1 ρ g1 k g' Q s1 e2 fun v H2 α2 x2 s2 => w v H2 α2 (x1.trans x2) s2
end

/-! ### arguments, displays -/
section
variable {es : List Expr} {fs : DA} {pos : Pos}
theorem ab_nil : AB X [] aNil := ⟨_, pa_nil, fun G α ow σ H ρ g ds g' Q s e w => by cases e; exact w [] H α Ext.refl s BRepAll.nil⟩
theorem ac_nil : AC X [] aNil := ⟨fun ρ g ds g' e => by cases e; rfl, _, pa_nil, fun G α ow σ H ρ g ds g' Q s e w => by cases e; exact w [] H α Ext.refl s RepAll.nil⟩
theorem ab_cons (ha : EB X e f) (hr : AB X es fs) (hs : starEach (e :: es) X.env = (false, eval e X.env) :: starEach es X.env := by rfl) : AB X (e :: es) (aCons f fs) := by
  obtain ⟨t, pt, hq⟩ := ha
  obtain ⟨t1, pt1, hq1⟩ := hr
  refine ⟨_, pa_cons pt pt1 hs, fun G α ow σ H ρ g ds g' Q s e w => ?_⟩
  obtain ⟨x, g1, e1, e2⟩ := bindM_some e
  obtain ⟨xs, g2, e4, e3⟩ := bindM_some e2
  obtain ⟨e3, rfl⟩ := liftM_some e3
  cases e3
  refine hq G α ow σ H ρ g x g1 _ s e1 fun v H1 α1 x1 s1 r1 => ?_
  refine hq1 G α1 ow σ H1 ρ g1 xs g2 _ s1 e4 fun vs H2 α2 x2 s2 r2 => ?_
  exact w _ H2 α2 (x1.trans x2) s2 (.cons (r1.ext x2) r2)
theorem ac_cons (ha : EC X e f) (hr : AC X es fs) (hs : starEach (e :: es) X.env = (false, eval e X.env) :: starEach es X.env := by rfl) : AC X (e :: es) (aCons f fs) := by
  obtain ⟨t, pt, hq⟩ := ha
  obtain ⟨l1, t1, pt1, hq1⟩ := hr
  refine ⟨fun ρ g ds g' e => ?_, _, pa_cons pt pt1 hs, fun G α ow σ H ρ g ds g' Q s e w => ?_⟩
  · obtain ⟨x, g1, e1, e2⟩ := bindM_some e
    obtain ⟨xs, g2, e4, e3⟩ := bindM_some e2
    obtain ⟨e3, rfl⟩ := liftM_some e3
    cases e3
    rw [List.length_cons, List.length_cons, l1 _ _ _ _ e4]
  obtain ⟨x, g1, e1, e2⟩ := bindM_some e
  obtain ⟨xs, g2, e4, e3⟩ := bindM_some e2
  obtain ⟨e3, rfl⟩ := liftM_some e3
  cases e3
  refine hq G α ow σ H ρ g x g1 _ s e1 fun v H1 α1 x1 s1 r1 => ?_
  refine hq1 G α1 ow σ H1 ρ g1 xs g2 _ s1 e4 fun vs H2 α2 x2 s2 r2 => ?_
  exact w _ H2 α2 (x1.trans x2) s2 (.cons (r1.ext x2) r2)
def dTup (xs : List D) : Option D := if xs.length ≤ BIG then some (.tup xs) else none
def dLst (xs : List D) : Option (List D) := if xs.length ≤ BIG then some xs else none
theorem ec_tup {x1} (h : AC X es fs) : EC X (.Tuple es x1 pos) (eFn dTup fs) := by
  obtain ⟨_, t, pt, hq⟩ := h
  refine ⟨_, pe_tupZ pt, fun G α ow σ H ρ g ds g' Q s e w => ?_⟩
  obtain ⟨xs, g1, e1, e2⟩ := bindM_some e
  obtain ⟨e3, rfl⟩ := liftM_some e2
  unfold dTup at e3
  split at e3
  · rename_i hl
    cases e3
    refine hq G α ow σ H ρ g xs g1 _ s e1 fun vs H1 α1 x1 s1 r1 => ⟨by rw [r1.1]; exact Nat.le_trans hl big_line, fun p o hp ho => ?_⟩
    exact w _ _ α1 (x1.trans (Ext.new hp)) (s1.new hp) (s1.newT hp ho r1)
  · cases e3

/-! ### new lists: values that a slot may own -/
def WantsF (K : PySem.W.Frag) (G : Gh) (α : List Addr) (ow : Nat → Option Addr) (σ : L2.St) (H : Hp) (ρ : Env3) (g' : Store) (ds : List D) (Q : VK) : Prop :=
  ∀ p vs H' α', Ext α H α' H' → Sat K G α' ow σ H' ρ g' → H' p = none → RepAll (Al G.B α' ow) α' K H' vs ds → ∀ H2, H2 = upd H' p (.lst vs) → Q (.ref p) H2
/-- a new list -/
def EF (X : Cx) (e : Expr) (f : DA) : Prop := ∃ t, PE X e t ∧ ∀ G α ow σ H ρ g ds g' Q, Sat X.K G α ow σ H ρ g → f ρ g = some (ds, g') → WantsF X.K G α ow σ H ρ g' ds Q → t σ H Q
def eL (f : DA) : DE := bindM f fun xs => liftM (some (.lst xs))
theorem EF.ec {fs : DA} (h : EF X e fs) : EC X e (eL fs) := by
  obtain ⟨t, pt, hq⟩ := h
  refine ⟨t, pt, fun G α ow σ H ρ g d g' Q s e w => ?_⟩
  obtain ⟨xs, g1, e1, e2⟩ := bindM_some e
  obtain ⟨e3, rfl⟩ := liftM_some e2
  cases e3
  refine hq G α ow σ H ρ g xs g1 _ s e1 fun p vs H1 α1 x1 s1 hp r H2 e => ?_
  subst e
  exact w _ _ α1 (x1.trans (Ext.new hp)) (s1.new hp) (s1.newL hp r)
def aFn (φ : List D → Option (List D)) (a : DA) : DA := bindM a fun xs => liftM (φ xs)
theorem ef_lst (h : AC X es fs) : EF X (.List es pos) (aFn dLst fs) := by
  obtain ⟨_, t, pt, hq⟩ := h
  refine ⟨_, pe_lst pt, fun G α ow σ H ρ g ds g' Q s e w => ?_⟩
  obtain ⟨xs, g1, e1, e2⟩ := bindM_some e
  obtain ⟨e3, rfl⟩ := liftM_some e2
  unfold dLst at e3
  split at e3
  · rename_i hl
    cases e3
    refine hq G α ow σ H ρ g ds g1 _ s e1 fun vs H1 α1 x1 s1 r1 => ⟨by rw [r1.1]; exact Nat.le_trans hl big_line, fun p hp => ?_⟩
    exact w p vs H1 α1 x1 s1 hp r1 _ rfl
  · cases e3
end
end
end L3

/-! L3c: statements, blocks, loops, comprehensions, defs. -/
namespace L3
open PySem PySem.Spec PyProof.Rows L2

inductive Out where
  | nx (ρ : Env3) | rt (d : D) | bk (ρ : Env3) | ct (ρ : Env3)
abbrev DS := Env3 → Store → Option (Out × Store)

/-- what is let in stays -/
def Fz (B : Addr → Prop) (α : List Addr) (ow : Nat → Option Addr) (H : Hp) (α' : List Addr) (ow' : Nat → Option Addr) (H' : Hp) : Prop :=
  (∀ a o, Al B α ow a → H a = some o → Al B α' ow' a ∧ H' a = some o) ∧ α <+: α'
theorem Fz.refl {B : Addr → Prop} {α : List Addr} {ow : Nat → Option Addr} {H : Hp} : Fz B α ow H α ow H := ⟨fun _ _ h e => ⟨h, e⟩, List.prefix_refl _⟩
theorem Fz.trans {B : Addr → Prop} {α α1 α2 : List Addr} {ow ow1 ow2 : Nat → Option Addr} {H H1 H2 : Hp} (a : Fz B α ow H α1 ow1 H1) (b : Fz B α1 ow1 H1 α2 ow2 H2) : Fz B α ow H α2 ow2 H2 :=
  ⟨fun x o h e => b.1 x o (a.1 x o h e).1 (a.1 x o h e).2, a.2.trans b.2⟩
theorem Ext.fz {B : Addr → Prop} {α α1 : List Addr} {ow : Nat → Option Addr} {H H1 : Hp} (e : Ext α H α1 H1) : Fz B α ow H α1 ow H1 := ⟨e.al, e.2.1⟩
theorem Rep.fz {B : Addr → Prop} {α α1 : List Addr} {ow ow1 : Nat → Option Addr} {H H1 : Hp} {K : PySem.W.Frag} {v : V} {d : D} (h : Rep (Al B α ow) α K H v d) (e : Fz B α ow H α1 ow1 H1) : Rep (Al B α1 ow1) α1 K H1 v d := h.mono e.1 e.2
theorem RepAll.fz {B : Addr → Prop} {α α1 : List Addr} {ow ow1 : Nat → Option Addr} {H H1 : Hp} {K : PySem.W.Frag} {v : List V} {d : List D} (h : RepAll (Al B α ow) α K H v d) (e : Fz B α ow H α1 ow1 H1) : RepAll (Al B α1 ow1) α1 K H1 v d := h.mono e.1 e.2

def WantsN (K : PySem.W.Frag) (G : Gh) (α : List Addr) (ow : Nat → Option Addr) (H : Hp) (ρ' : Env3) (g' : Store) (R : L2.St → Hp → Prop) : Prop :=
  ∀ σ' H' α' ow', Sat K G α' ow' σ' H' ρ' g' → Fz G.B α ow H α' ow' H' → R σ' H'
def Post (K : PySem.W.Frag) (G : Gh) (α : List Addr) (ow : Nat → Option Addr) (H : Hp) (out : Out) (g' : Store) (Dn : Ends) : Prop := match out with
  | .nx ρ' => WantsN K G α ow H ρ' g' Dn.nx
  | .bk ρ' => WantsN K G α ow H ρ' g' Dn.bk
  | .ct ρ' => WantsN K G α ow H ρ' g' Dn.ct
  | .rt d => ∀ v H' α', Ext G.α0 G.H0 α' H' → (∀ a, G.B a → (∃ o, H' a = some o) ∧ a ∉ α') → GOk (Al G.B α' no) α' g' K H' → Rep (Al G.B α' no) α' K H' v d → Dn.rt v H'
def SC (X : Cx) (st : Stmt) (f : DS) : Prop := ∃ t, PS X st t ∧ ∀ G α ow σ H ρ g out g' Dn, Sat X.K G α ow σ H ρ g → f ρ g = some (out, g') → Post X.K G α ow H out g' Dn → t Dn σ H
def BC (X : Cx) (sts : List Stmt) (f : DS) : Prop := ∃ t, PSs X sts t ∧ ∀ G α ow σ H ρ g out g' Dn, Sat X.K G α ow σ H ρ g → f ρ g = some (out, g') → Post X.K G α ow H out g' Dn → t Dn σ H
theorem Post.fz {K : PySem.W.Frag} {G : Gh} {α α1 : List Addr} {ow ow1 : Nat → Option Addr} {H H1 : Hp} {out : Out} {g' : Store} {Dn : Ends} (e : Fz G.B α ow H α1 ow1 H1) (p : Post K G α ow H out g' Dn) : Post K G α1 ow1 H1 out g' Dn := by
  cases out with
  | nx ρ' => exact fun σ' H' α' ow' s f => p σ' H' α' ow' s (e.trans f)
  | bk ρ' => exact fun σ' H' α' ow' s f => p σ' H' α' ow' s (e.trans f)
  | ct ρ' => exact fun σ' H' α' ow' s f => p σ' H' α' ow' s (e.trans f)
  | rt d => exact p

/-! ### the functions -/
def sNext : DS := fun ρ g => some (.nx ρ, g)
def sSeq (a b : DS) : DS := fun ρ g => match a ρ g with
  | some (.nx ρ1, g1) => b ρ1 g1
  | r => r
def sSet (i : Nat) (f : DE) : DS := fun ρ g => match f ρ g with
  | some (d, g1) => some (.nx (ρ.set i (some (.d d))), g1)
  | none => none
def sOwn (i : Nat) (f : DA) : DS := fun ρ g => match f ρ g with
  | some (ds, g1) => if i < ρ.length then some (.nx (ρ.set i (some (.own ds))), g1) else none
  | none => none
def sRet (f : DE) : DS := fun ρ g => match f ρ g with
  | some (d, g1) => some (.rt d, g1)
  | none => none
def sIf (c : DT) (a b : DS) : DS := fun ρ g => match c ρ g with
  | some (true, g1) => a ρ g1
  | some (false, g1) => b ρ g1
  | none => none
def sDrop (f : DE) : DS := fun ρ g => match f ρ g with
  | some (_, g1) => some (.nx ρ, g1)
  | none => none
def sFreeze (i : Nat) (f : DS) : DS := fun ρ g => match ρ[i]? with
  | some (some (.own xs)) => f (ρ.set i (some (.d (.lst xs)))) g
  | some (some (.ownd ds)) => f (ρ.set i (some (.d (.dic ds)))) g
  | _ => f ρ g
def sApp (i : Nat) (f : DE) : DS := fun ρ g => match ρ[i]? with
  | some (some (.own xs)) => match f ρ g with
    | some (d, g1) => if xs.length < BIG then some (.nx (ρ.set i (some (.own (xs ++ [d])))), g1) else none
    | none => none
  | _ => none
def sets (ρ : Env3) : List (Nat × D) → Env3
  | [] => ρ
  | (i, d) :: r => sets (ρ.set i (some (.d d))) r
def setsV (σ : L2.St) : List (Nat × V) → L2.St
  | [] => σ
  | (i, d) :: r => setsV (σ.set i (some d)) r
def forD (tg : D → Option (List (Nat × D))) (body : DS) : List D → DS
  | [], ρ, g => some (.nx ρ, g)
  | d :: ds, ρ, g => match tg d with
    | none => none
    | some as => match body (sets ρ as) g with
      | some (.nx ρ1, g1) => forD tg body ds ρ1 g1
      | some (.ct ρ1, g1) => forD tg body ds ρ1 g1
      | some (.bk ρ1, g1) => some (.nx ρ1, g1)
      | some (.rt d, g1) => some (.rt d, g1)
      | none => none
def sFor (it : DA) (tg : D → Option (List (Nat × D))) (body : DS) : DS := fun ρ g => match it ρ g with
  | some (ds, g1) => forD tg body ds ρ g1
  | none => none
def whileD (c : DT) (body : DS) : Nat → DS
  | 0, _, _ => none
  | n + 1, ρ, g => match c ρ g with
    | some (true, g1) => match body ρ g1 with
      | some (.nx ρ1, g2) => whileD c body n ρ1 g2
      | some (.ct ρ1, g2) => whileD c body n ρ1 g2
      | some (.bk ρ1, g2) => some (.nx ρ1, g2)
      | some (.rt d, g2) => some (.rt d, g2)
      | none => none
    | some (false, g1) => some (.nx ρ, g1)
    | none => none
def tgName (i : Nat) : D → Option (List (Nat × D)) := fun d => some [(i, d)]
def tgTup (ts : List D → Option (List (Nat × D))) : D → Option (List (Nat × D))
  | .tup xs => ts xs
  | _ => none
def tgsNil : List D → Option (List (Nat × D))
  | [] => some []
  | _ => none
def tgsCons (t : D → Option (List (Nat × D))) (ts : List D → Option (List (Nat × D))) : List D → Option (List (Nat × D))
  | x :: xs => match t x, ts xs with
    | some a, some b => some (a ++ b)
    | _, _ => none
  | [] => none
def sUnp (f : DE) (tg : D → Option (List (Nat × D))) : DS := fun ρ g => match f ρ g with
  | some (d, g1) => match tg d with
    | some as => some (.nx (sets ρ as), g1)
    | none => none
  | none => none

/-! ### what a store into a slot does -/
def off (ow : Nat → Option Addr) (i : Nat) : Nat → Option Addr := fun j => if j = i then none else ow j
def put (ow : Nat → Option Addr) (i : Nat) (p : Addr) : Nat → Option Addr := fun j => if j = i then some p else ow j
section
variable {K : PySem.W.Frag} {G : Gh} {α α' : List Addr} {ow : Nat → Option Addr} {σ : L2.St} {H H' : Hp} {ρ : Env3} {g g' : Store} {v : V} {d : D} {vs : List V} {ds : List D} {i : Nat}
theorem al_off {B : Addr → Prop} {a : Addr} (h : Al B α ow a) : Al B α (off ow i) a := ⟨h.1, h.2.1, fun j => by
  unfold off
  split
  · exact fun z => by cases z
  · exact h.2.2 j⟩
theorem al_no {B : Addr → Prop} {a : Addr} (h : Al B α ow a) : Al B α no a := ⟨h.1, h.2.1, fun j z => by cases z⟩
theorem Fz.off {B : Addr → Prop} : Fz B α ow H α (off ow i) H := ⟨fun a o h e => ⟨al_off h, e⟩, List.prefix_refl _⟩
theorem GOk.mono {A A' : Addr → Prop} (s : GOk A α g K H) (hA : ∀ a o, A a → H a = some o → A' a ∧ H' a = some o) (hs : ∀ a o, a ∈ α → H a = some o → H' a = some o) : GOk A' α g K H' :=
  ⟨s.len, s.nd, fun n a u h1 h2 => by
    exact (s.so n a u h1 h2).map (fun o e => hs a o (List.mem_of_getElem? h1) e) fun _ _ _ r => r.mono hA (List.prefix_refl _)⟩
theorem SlotOk.mono {A A' : Addr → Prop} {o : Option Addr} {w : Option (Option V)} {x : SV} (h : SlotOk A α K H o w x) (hA : ∀ a u, A a → H a = some u → A' a ∧ H' a = some u) (ho : ∀ a u, o = some a → H a = some u → H' a = some u) : SlotOk A' α K H' o w x := by
  cases x with
  | d x => obtain ⟨y, h1, h2⟩ := h; exact ⟨y, h1, h2.mono hA (List.prefix_refl _)⟩
  | own xs => obtain ⟨a, vs, h1, h2, h3, h4⟩ := h; exact ⟨a, vs, h1, h2, ho a _ h1 h3, h4.mono hA (List.prefix_refl _)⟩
  | ownd xs => obtain ⟨a, vs, h1, h2, h3, h4, h5⟩ := h; exact ⟨a, vs, h1, h2, ho a _ h1 h3, h4, h5.mono hA (List.prefix_refl _)⟩
theorem Sat.set (s : Sat K G α ow σ H ρ g) (r : Rep (Al G.B α ow) α K H v d) : Sat K G α (off ow i) (σ.set i (some v)) H (ρ.set i (some (.d d))) g := by
  have hA : ∀ a (o : HO), Al G.B α ow a → H a = some o → Al G.B α (off ow i) a ∧ H a = some o := fun a o h e => ⟨al_off h, e⟩
  have ho : ∀ {j a}, off ow i j = some a → ow j = some a ∧ j ≠ i := fun {j a} h => by
    unfold off at h
    split at h
    · cases h
    · exact ⟨h, by assumption⟩
  refine ⟨s.ext, s.blk, by rw [List.length_set, List.length_set, s.len], s.gok.mono hA fun _ _ _ e => e, fun j a h => (by
    obtain ⟨q1, q2, q3, q4, q5⟩ := s.own j a (ho h).1
    exact ⟨q1, q2, q3, q4, by rw [List.getElem?_set_ne (Ne.symm (ho h).2)]; exact q5⟩), fun j k a h1 h2 => s.oinj j k a (ho h1).1 (ho h2).1, fun j x hx => ?_⟩
  by_cases hj : j = i
  · subst hj
    by_cases hl : j < ρ.length
    · rw [List.getElem?_set_self hl] at hx
      cases hx
      exact ⟨v, by rw [List.getElem?_set_self (by rw [s.len]; exact hl)], r.mono hA (List.prefix_refl _)⟩
    · rw [List.getElem?_eq_none (by rw [List.length_set]; omega)] at hx
      cases hx
  · rw [List.getElem?_set_ne (Ne.symm hj)] at hx
    rw [List.getElem?_set_ne (Ne.symm hj)]
    have q := s.slot j x hx
    have e : off ow i j = ow j := by unfold off; rw [if_neg hj]
    rw [e]
    exact q.mono hA fun _ _ _ e => e
theorem Sat.ret (s : Sat K G α ow σ H ρ g) : GOk (Al G.B α no) α g K H := s.gok.mono (fun a o h e => ⟨al_no h, e⟩) fun _ _ _ e => e
theorem Sat.brep (s : Sat K G α ow σ H ρ g) (r : BRep G.B α ow K H v d) : Rep (Al G.B α no) α K H v d := by
  have hA : ∀ a (o : HO), Al G.B α ow a → H a = some o → Al G.B α no a ∧ H a = some o := fun a o h e => ⟨al_no h, e⟩
  cases r with
  | of r => exact r.mono hA (List.prefix_refl _)
  | own h hn ho r =>
    have r' := r.mono hA (List.prefix_refl _)
    exact .lst ⟨hn, (s.own _ _ h).2.2.1, fun j z => by cases z⟩ (.inl ho) r'.1 r'.2
  | ownd h hn ho hk r =>
    have r' := r.mono hA (List.prefix_refl _)
    refine .dic ⟨hn, (s.own _ _ h).2.2.1, fun j z => by cases z⟩ (.inl ho) hk fun i p q h1 h2 => r'.2 i _ _ (by rw [List.getElem?_map, h1]; rfl) (by rw [List.getElem?_map, h2]; rfl)
/-- a slot owns a new list -/
theorem Sat.own1 (s : Sat K G α ow σ H ρ g) {p : Addr} (hi : i < ρ.length) (hp : H p = none) (r : RepAll (Al G.B α ow) α K H vs ds) :
    Sat K G α (put ow i p) (σ.set i (some (.ref p))) (upd H p (.lst vs)) (ρ.set i (some (.own ds))) g ∧ Fz G.B α ow H α (put ow i p) (upd H p (.lst vs)) := by
  have ne : ∀ {a : Addr} {o : HO}, H a = some o → a ≠ p := fun e => ne_of_none e hp
  have hA : ∀ a (o : HO), Al G.B α ow a → H a = some o → Al G.B α (put ow i p) a ∧ upd H p (.lst vs) a = some o := fun a o h e => by
    refine ⟨⟨h.1, h.2.1, fun j => ?_⟩, by rw [upd_ne (ne e)]; exact e⟩
    unfold put
    split
    · exact fun z => ne e (Option.some.inj z).symm
    · exact h.2.2 j
  have al := s.al hp
  refine ⟨⟨s.ext.trans (Ext.new hp), fun a h => ?_, by rw [List.length_set, List.length_set, s.len], s.gok.mono hA fun a o _ e => by rw [upd_ne (ne e)]; exact e, fun j a h => ?_, fun j k a h1 h2 => ?_, fun j x hx => ?_⟩, hA, List.prefix_refl _⟩
  · obtain ⟨⟨o, h1⟩, h2⟩ := s.blk a h
    exact ⟨⟨o, by rw [upd_ne (ne h1)]; exact h1⟩, h2⟩
  · unfold put at h
    split at h
    · cases h
      rename_i hj
      exact ⟨s.ext.fresh hp al.1, al.1, al.2.1, ⟨_, upd_same⟩, .own ds, by rw [hj, List.getElem?_set_self hi], rfl⟩
    · rename_i hj
      obtain ⟨h1, h2, h3, ⟨o, h4⟩, h5⟩ := s.own j a h
      exact ⟨h1, h2, h3, ⟨o, by rw [upd_ne (ne h4)]; exact h4⟩, by rw [List.getElem?_set_ne (Ne.symm hj)]; exact h5⟩
  · unfold put at h1 h2
    split at h1
    · split at h2
      · omega
      · cases h1
        exact absurd h2 (al.2.2 k)
    · split at h2
      · cases h2
        exact absurd h1 (al.2.2 j)
      · exact s.oinj j k a h1 h2
  · by_cases hj : j = i
    · subst hj
      by_cases hl : j < ρ.length
      · rw [List.getElem?_set_self hl] at hx
        cases hx
        exact ⟨p, vs, by unfold put; rw [if_pos rfl], by rw [List.getElem?_set_self (by rw [s.len]; exact hl)], upd_same, r.mono hA (List.prefix_refl _)⟩
      · rw [List.getElem?_eq_none (by rw [List.length_set]; omega)] at hx
        cases hx
    · rw [List.getElem?_set_ne (Ne.symm hj)] at hx
      rw [List.getElem?_set_ne (Ne.symm hj)]
      have q := s.slot j x hx
      have e : put ow i p j = ow j := by unfold put; rw [if_neg hj]
      rw [e]
      exact q.mono hA fun a u _ e => by rw [upd_ne (ne e)]; exact e
/-- the list that a slot owns is changed -/
theorem Sat.mut (s : Sat K G α ow σ H ρ g) {a : Addr} {xs : List D} (ho : ow i = some a) (hi : i < ρ.length) (hv : σ[i]? = some (some (.ref a))) (r : RepAll (Al G.B α ow) α K H vs ds) :
    Sat K G α ow σ (upd H a (.lst vs)) (ρ.set i (some (.own ds))) g ∧ Fz G.B α ow H α ow (upd H a (.lst vs)) := by
  obtain ⟨o1, o2, o3, ⟨o, o4⟩, o5⟩ := s.own i a ho
  have hA : ∀ b (o : HO), Al G.B α ow b → H b = some o → Al G.B α ow b ∧ upd H a (.lst vs) b = some o := fun b o h e => ⟨h, by
    rw [upd_ne fun z => h.2.2 i (by rw [z]; exact ho)]; exact e⟩
  have tr : ∀ {b : Addr}, (∃ o, H b = some o) → ∃ o, upd H a (.lst vs) b = some o := fun {b} ⟨o, h⟩ => by
    by_cases e : b = a
    · rw [e]; exact ⟨_, upd_same⟩
    · exact ⟨o, by rw [upd_ne e]; exact h⟩
  refine ⟨⟨⟨fun b o h hn => ?_, s.ext.2.1, s.ext.2.2⟩, fun b h => ⟨tr (s.blk b h).1, (s.blk b h).2⟩, by rw [List.length_set, s.len], s.gok.mono hA fun b o hb e => by rw [upd_ne fun z => o2 (by rw [← z]; exact hb)]; exact e, fun j b h => ?_, s.oinj, fun j x hx => ?_⟩, hA, List.prefix_refl _⟩
  · rw [upd_ne fun z => by rw [z, o1] at h; cases h]
    exact s.ext.1 b o h hn
  · obtain ⟨h1, h2, h3, h4, h5⟩ := s.own j b h
    refine ⟨h1, h2, h3, tr h4, ?_⟩
    by_cases hj : j = i
    · subst hj
      exact ⟨.own ds, by rw [List.getElem?_set_self hi], rfl⟩
    · rw [List.getElem?_set_ne (Ne.symm hj)]
      exact h5
  · by_cases hj : j = i
    · subst hj
      rw [List.getElem?_set_self hi] at hx
      cases hx
      exact ⟨a, vs, ho, hv, upd_same, r.mono hA (List.prefix_refl _)⟩
    · rw [List.getElem?_set_ne (Ne.symm hj)] at hx
      have q := s.slot j x hx
      exact q.mono hA fun b u hb e => by
        rw [upd_ne fun z => hj (s.oinj j i a (by rw [← z]; exact hb) ho)]
        exact e
/-- a slot's list becomes data -/
theorem Sat.freeze (s : Sat K G α ow σ H ρ g) {xs : List D} (h : ρ[i]? = some (some (.own xs))) : Sat K G α (off ow i) σ H (ρ.set i (some (.d (.lst xs)))) g := by
  obtain ⟨a, vs, h1, h2, h3, h4⟩ := s.slot i _ h
  obtain ⟨o1, o2, o3, o4⟩ := s.own i a h1
  have hA : ∀ a (o : HO), Al G.B α ow a → H a = some o → Al G.B α (off ow i) a ∧ H a = some o := fun a o h e => ⟨al_off h, e⟩
  have ho : ∀ {j a}, off ow i j = some a → ow j = some a ∧ j ≠ i := fun {j a} h => by
    unfold off at h
    split at h
    · cases h
    · exact ⟨h, by assumption⟩
  have hi : i < ρ.length := (List.getElem?_eq_some_iff.mp h).1
  refine ⟨s.ext, s.blk, by rw [List.length_set, s.len], s.gok.mono hA fun _ _ _ e => e, fun j a h => (by
    obtain ⟨q1, q2, q3, q4, q5⟩ := s.own j a (ho h).1
    exact ⟨q1, q2, q3, q4, by rw [List.getElem?_set_ne (Ne.symm (ho h).2)]; exact q5⟩), fun j k a h1 h2 => s.oinj j k a (ho h1).1 (ho h2).1, fun j x hx => ?_⟩
  by_cases hj : j = i
  · subst hj
    rw [List.getElem?_set_self hi] at hx
    cases hx
    have r' := h4.mono hA (List.prefix_refl _)
    refine ⟨_, h2, .lst ⟨o2, o3, fun k z => ?_⟩ (.inl h3) r'.1 r'.2⟩
    exact (ho z).2 (s.oinj k j a (ho z).1 h1)
  · rw [List.getElem?_set_ne (Ne.symm hj)] at hx
    have q := s.slot j x hx
    have e : off ow i j = ow j := by unfold off; rw [if_neg hj]
    rw [e]
    exact q.mono hA fun _ _ _ e => e
theorem Sat.freezed (s : Sat K G α ow σ H ρ g) {xs : List (DKey × D)} (h : ρ[i]? = some (some (.ownd xs))) : Sat K G α (off ow i) σ H (ρ.set i (some (.d (.dic xs)))) g := by
  obtain ⟨a, kvs, h1, h2, h3, hk, h4⟩ := s.slot i _ h
  obtain ⟨o1, o2, o3, o4⟩ := s.own i a h1
  have hA : ∀ a (o : HO), Al G.B α ow a → H a = some o → Al G.B α (off ow i) a ∧ H a = some o := fun a o h e => ⟨al_off h, e⟩
  have ho : ∀ {j a}, off ow i j = some a → ow j = some a ∧ j ≠ i := fun {j a} h => by
    unfold off at h
    split at h
    · cases h
    · exact ⟨h, by assumption⟩
  have hi : i < ρ.length := (List.getElem?_eq_some_iff.mp h).1
  refine ⟨s.ext, s.blk, by rw [List.length_set, s.len], s.gok.mono hA fun _ _ _ e => e, fun j a h => (by
    obtain ⟨q1, q2, q3, q4, q5⟩ := s.own j a (ho h).1
    exact ⟨q1, q2, q3, q4, by rw [List.getElem?_set_ne (Ne.symm (ho h).2)]; exact q5⟩), fun j k a h1 h2 => s.oinj j k a (ho h1).1 (ho h2).1, fun j x hx => ?_⟩
  by_cases hj : j = i
  · subst hj
    rw [List.getElem?_set_self hi] at hx
    cases hx
    have r' := h4.mono hA (List.prefix_refl _)
    refine ⟨_, h2, .dic ⟨o2, o3, fun k z => ?_⟩ (.inl h3) hk fun i p q h1 h2 => r'.2 i _ _ (by rw [List.getElem?_map, h1]; rfl) (by rw [List.getElem?_map, h2]; rfl)⟩
    exact (ho z).2 (s.oinj k j a (ho z).1 h1)
  · rw [List.getElem?_set_ne (Ne.symm hj)] at hx
    have q := s.slot j x hx
    have e : off ow i j = ow j := by unfold off; rw [if_neg hj]
    rw [e]
    exact q.mono hA fun _ _ _ e => e
end

/-! ### statements -/
section
variable {X : Cx} {st : Stmt} {sts : List Stmt} {e c : Expr} {fe : DE} {fa : DA} {fc : DT} {f f1 f2 : DS} {pos : Pos}
theorem bc_nil : BC X [] sNext := ⟨_, pss_nil, fun G α ow σ H ρ g out g' Dn s e p => by cases e; exact p σ H α ow s Fz.refl⟩
theorem bc_cons (h1 : SC X st f1) (h2 : BC X sts f2) : BC X (st :: sts) (sSeq f1 f2) := by
  obtain ⟨t1, p1, q1⟩ := h1
  obtain ⟨t2, p2, q2⟩ := h2
  refine ⟨_, pss_cons p1 p2, fun G α ow σ H ρ g out g' Dn s e p => ?_⟩
  unfold sSeq at e
  split at e
  · rename_i ρ1 g1 e1
    exact q1 G α ow σ H ρ g _ g1 { Dn with nx := t2 Dn } s e1 fun σ' H' α' ow' s' z => q2 G α' ow' σ' H' ρ1 g1 out g' Dn s' e (p.fz z)
  · rename_i hn
    refine q1 G α ow σ H ρ g out g' { Dn with nx := t2 Dn } s e ?_
    cases out with
    | nx ρ' => exact absurd e (hn ρ' g')
    | bk ρ' => exact p
    | ct ρ' => exact p
    | rt d => exact p
theorem bc_one (h1 : SC X st f1) : BC X [st] f1 := by
  obtain ⟨t1, p1, q1⟩ := h1
  exact ⟨_, pss_one p1, q1⟩
theorem bc_freeze (i : Nat) (h : BC X sts f) : BC X sts (sFreeze i f) := by
  obtain ⟨t, p, q⟩ := h
  refine ⟨t, p, fun G α ow σ H ρ g out g' Dn s e w => ?_⟩
  unfold sFreeze at e
  split at e
  · rename_i xs hx
    exact q G α (off ow i) σ H _ g out g' Dn (s.freeze hx) e (w.fz Fz.off)
  · rename_i xs hx
    exact q G α (off ow i) σ H _ g out g' Dn (s.freezed hx) e (w.fz Fz.off)
  · exact q G α ow σ H ρ g out g' Dn s e w
theorem sc_pass : SC X (.Pass pos) sNext := ⟨_, ps_pass, fun G α ow σ H ρ g out g' Dn s e p => by cases e; exact p σ H α ow s Fz.refl⟩
theorem sc_break : SC X (.Break pos) (fun ρ g => some (.bk ρ, g)) := ⟨_, ps_break, fun G α ow σ H ρ g out g' Dn s e p => by cases e; exact p σ H α ow s Fz.refl⟩
theorem sc_continue : SC X (.Continue pos) (fun ρ g => some (.ct ρ, g)) := ⟨_, ps_continue, fun G α ow σ H ρ g out g' Dn s e p => by cases e; exact p σ H α ow s Fz.refl⟩
theorem sc_ret (h : EB X e fe) : SC X (.Return (some e) pos) (sRet fe) := by
  obtain ⟨t, pt, hq⟩ := h
  refine ⟨_, ps_ret pt, fun G α ow σ H ρ g out g' Dn s e p => ?_⟩
  unfold sRet at e
  split at e
  · rename_i d g1 e1
    cases e
    exact hq G α ow σ H ρ g d g' _ s e1 fun v H' α' x s' r => p v H' α' s'.ext s'.blk s'.ret (s'.brep r)
  · cases e
theorem sc_retN : SC X (.Return none pos) (sRet (eC .non)) := by
  refine ⟨_, ps_retN, fun G α ow σ H ρ g out g' Dn s e p => ?_⟩
  cases e
  exact p .non H α s.ext s.blk s.ret .non
theorem sc_set {i : Nat} {x : Str} {pos' : Pos} (hN : X.N.Nodup) (he : EC X e fe) (hi : X.N[i]? = some x := by rfl) (hx : Loc X.env.scope x := by first | exact Or.inl rfl | exact Or.inr rfl) (hs : swapsWith e (some (.Name x pos')) pos.line X.env = pure false := by rfl)
    (hf : X.fn x = true ∨ X.env.scope.names.lookup x = some .local := by first | exact .inl rfl | exact .inr rfl | assumption) : SC X (.Assign [.Name x pos'] e pos) (sSet i fe) := by
  obtain ⟨t, pt, hq⟩ := he
  refine ⟨_, ps_set hN hi hx pt hs hf, fun G α ow σ H ρ g out g' Dn s e p => ?_⟩
  unfold sSet at e
  split at e
  · rename_i d g1 e1
    cases e
    exact hq G α ow σ H ρ g d g' _ s e1 fun v H' α' x s' r => p _ _ _ _ (s'.set r) (x.fz.trans Fz.off)
  · cases e
theorem sc_own {i : Nat} {x : Str} {pos' : Pos} (hN : X.N.Nodup) (he : EF X e fa) (hi : X.N[i]? = some x := by rfl) (hx : Loc X.env.scope x := by first | exact Or.inl rfl | exact Or.inr rfl) (hs : swapsWith e (some (.Name x pos')) pos.line X.env = pure false := by rfl)
    (hf : X.fn x = true ∨ X.env.scope.names.lookup x = some .local := by first | exact .inl rfl | exact .inr rfl | assumption) : SC X (.Assign [.Name x pos'] e pos) (sOwn i fa) := by
  obtain ⟨t, pt, hq⟩ := he
  refine ⟨_, ps_set hN hi hx pt hs hf, fun G α ow σ H ρ g out g' Dn s e p => ?_⟩
  unfold sOwn at e
  split at e
  · rename_i ds g1 e1
    split at e
    · rename_i hi
      cases e
      refine hq G α ow σ H ρ g ds g' _ s e1 fun q vs H' α' x s' hp r H2 e2 => ?_
      subst e2
      exact p _ _ _ _ (s'.own1 hi hp r).1 (x.fz.trans (s'.own1 hi hp r).2)
    · cases e
  · cases e
theorem sc_if {a b : List Stmt} (hc : TC X c fc) (ha : BC X a f1) (hb : BC X b f2) : SC X (.If c a b pos) (sIf fc f1 f2) := by
  obtain ⟨t, pt, hq⟩ := hc
  obtain ⟨t1, p1, q1⟩ := ha
  obtain ⟨t2, p2, q2⟩ := hb
  refine ⟨_, ps_if pt p1 p2, fun G α ow σ H ρ g out g' Dn s e p => ?_⟩
  unfold sIf at e
  split at e
  · rename_i g1 e1
    exact hq G α ow σ H ρ g true g1 _ s e1 fun H1 α1 x1 s1 => by
      rw [if_pos rfl]
      exact q1 G α1 ow σ H1 ρ g1 out g' Dn s1 e (p.fz x1.fz)
  · rename_i g1 e1
    exact hq G α ow σ H ρ g false g1 _ s e1 fun H1 α1 x1 s1 => by
      rw [if_neg (by decide)]
      exact q2 G α1 ow σ H1 ρ g1 out g' Dn s1 e (p.fz x1.fz)
  · cases e
theorem sc_drop (he : EB X e fe) (hs : swapsWith e none pos.line X.env = pure false := by rfl) : SC X (.Expr e pos) (sDrop fe) := by
  obtain ⟨t, pt, hq⟩ := he
  refine ⟨_, ps_expr pt hs, fun G α ow σ H ρ g out g' Dn s e p => ?_⟩
  unfold sDrop at e
  split at e
  · rename_i d g1 e1
    cases e
    exact hq G α ow σ H ρ g d g' _ s e1 fun v H' α' x s' r => p _ _ _ _ s' x.fz
  · cases e
/-- xs.append(e), xs a slot's own list -/
theorem sc_app {i : Nat} {x : Str} {p1 p2 p3 : Pos} (he : EC X e fe) (hN : X.N[i]? = some x := by rfl) (hv : Vis X.env.scope x := by first | exact Or.inl rfl | exact Or.inr (Or.inl rfl) | exact Or.inr (Or.inr rfl)) (hd : (x == ("__debug__" : Str)) = false := by decide) (hcd : (x == ("__classdict__" : Str)) = false := by decide)
    (hs1 : starEach [e] X.env = (false, eval e X.env) :: starEach [] X.env := by rfl)
    (hbase : attributeBase (.Name x p1) "append" X.env (eval (.Name x p1) X.env) = eval (.Name x p1) X.env := by rfl)
    (hfew : ((backTo p3 (starEach [e] X.env)).all (fun x => !x.1) && (backToKw p3 (keywordEach [] X.env)).all (fun x => x.1.isSome)
      && decide ([e].length + ([] : List Keyword).length + (if ([] : List Keyword).isEmpty then 0 else 1) < 30)) = true := by rfl)
    (hline : (p2.endLine == p3.line) = true := by rfl) (hplain : (backTo p3 (starEach [] X.env)).any (·.1) = false := by rfl)
    (hs : swapsWith (.Call (.Attribute (.Name x p1) "append" p2) [e] [] p3) none pos.line X.env = pure false := by rfl) :
    SC X (.Expr (.Call (.Attribute (.Name x p1) "append" p2) [e] [] p3) pos) (sApp i fe) := by
  obtain ⟨t, pt, hq⟩ := he
  refine ⟨_, ps_expr (pe_bm PySem.F.plainAttrs_list PySem.F.slot_list_append PySem.F.type_list_append mt_append (pe_var hN hv hd hcd) (pa_cons pt pa_nil hs1) hbase hfew hline hs1 hplain) hs, fun G α ow σ H ρ g out g' Dn s e p => ?_⟩
  unfold sApp at e
  split at e
  · rename_i xs hx
    split at e
    · rename_i d g1 e1
      split at e
      · rename_i hl
        cases e
        obtain ⟨a, vs, h1, h2, h3, h4⟩ := s.slot i _ hx
        refine ⟨_, h2, .inl ⟨rfl, vs, .inl (.inl h3)⟩, ?_⟩
        refine hq G α ow σ H ρ g d g' _ s e1 fun v H1 α1 x1 s1 r1 => ?_
        have h3' := x1.1 a _ h3 (s.own i a h1).2.1
        have r2 := (h4.ext x1).append (RepAll.one r1)
        refine ⟨a, vs, v, rfl, rfl, h3', by rw [h4.1]; exact Nat.lt_of_lt_of_le hl big_line, ?_⟩
        have m := s1.mut (xs := xs) h1 (List.getElem?_eq_some_iff.mp hx).1 h2 r2
        exact p _ _ _ _ m.1 (x1.fz.trans m.2)
      · cases e
    · cases e
  · cases e
end
end L3

/-! L3d: targets, what is walked, loops, comprehensions, defs. -/
namespace L3
open PySem PySem.Spec PyProof.Rows L2

/-! ### targets -/
def RepSets (A : Addr → Prop) (α : List Addr) (K : PySem.W.Frag) (H : Hp) (ws : List (Nat × V)) (as : List (Nat × D)) : Prop :=
  ws.map (·.1) = as.map (·.1) ∧ RepAll A α K H (ws.map (·.2)) (as.map (·.2))
theorem RepSets.append {A : Addr → Prop} {α : List Addr} {K : PySem.W.Frag} {H : Hp} {w1 w2 : List (Nat × V)} {a1 a2 : List (Nat × D)} (h1 : RepSets A α K H w1 a1) (h2 : RepSets A α K H w2 a2) : RepSets A α K H (w1 ++ w2) (a1 ++ a2) :=
  ⟨by rw [List.map_append, List.map_append, h1.1, h2.1], by rw [List.map_append, List.map_append]; exact h1.2.append h2.2⟩
theorem setsV_append (σ : L2.St) : ∀ w1 w2 : List (Nat × V), setsV σ (w1 ++ w2) = setsV (setsV σ w1) w2 := by
  intro w1
  induction w1 generalizing σ with
  | nil => intro w2; rfl
  | cons p r ih => intro w2; exact ih _ w2
def GC (X : Cx) (tg : Expr) (p : D → Option (List (Nat × D))) : Prop := ∃ t, PG X tg t ∧ ∀ A α σ H v d as Q, Rep A α X.K H v d → p d = some as → (∀ ws, RepSets A α X.K H ws as → Q (setsV σ ws) H) → t v σ H Q
def GCs (X : Cx) (es : List Expr) (p : List D → Option (List (Nat × D))) : Prop := (∀ ds as, p ds = some as → ds.length = (assignEach es X.env).length) ∧ ∃ t, PGs X es t ∧ ∀ A α σ H vs ds as Q, RepAll A α X.K H vs ds → p ds = some as → (∀ ws, RepSets A α X.K H ws as → Q (setsV σ ws) H) → t vs σ H Q
section
variable {X : Cx} {e : Expr} {es : List Expr} {pos : Pos}
theorem gc_name (i : Nat) {x : Str} (hN : X.N.Nodup) (hi : X.N[i]? = some x := by rfl) (hx : Loc X.env.scope x := by first | exact Or.inl rfl | exact Or.inr rfl) (hf : X.fn x = true ∨ X.env.scope.names.lookup x = some .local := by first | exact .inl rfl | exact .inr rfl | assumption) : GC X (.Name x pos) (tgName i) :=
  ⟨_, pg_name hN hi hx hf, fun A α σ H v d as Q r e w => by
    cases e
    exact w [(i, v)] ⟨rfl, RepAll.one r⟩⟩
theorem gcs_nil : GCs X [] tgsNil := by
  refine ⟨fun ds as e => ?_, _, pgs_nil, fun A α σ H vs ds as Q r e w => ?_⟩
  · cases ds with
    | nil => rfl
    | cons x r => cases e
  · cases ds with
    | nil => cases e; exact ⟨r.unnil, w [] ⟨rfl, RepAll.nil⟩⟩
    | cons x r => cases e
theorem tgsCons_some {t : D → Option (List (Nat × D))} {ts : List D → Option (List (Nat × D))} {ds : List D} {as : List (Nat × D)} (h : tgsCons t ts ds = some as) : ∃ x xs a b, ds = x :: xs ∧ t x = some a ∧ ts xs = some b ∧ as = a ++ b := by
  unfold tgsCons at h
  split at h
  · rename_i x xs
    split at h
    · rename_i a b h1 h2
      cases h
      exact ⟨x, xs, a, b, rfl, h1, h2, rfl⟩
    · cases h
  · cases h
theorem gcs_cons {p : D → Option (List (Nat × D))} {ps : List D → Option (List (Nat × D))} (h1 : GC X e p) (h2 : GCs X es ps) (hs : (assignEach (e :: es) X.env).map (·.2) = assign e X.env :: (assignEach es X.env).map (·.2) := by rfl)
    (hl : (assignEach (e :: es) X.env).length = (assignEach es X.env).length + 1 := by rfl) : GCs X (e :: es) (tgsCons p ps) := by
  obtain ⟨t1, p1, q1⟩ := h1
  obtain ⟨l2, t2, p2, q2⟩ := h2
  refine ⟨fun ds as e => ?_, _, pgs_cons p1 p2 hs, fun A α σ H vs ds as Q r e w => ?_⟩
  · obtain ⟨x, xs, a, b, rfl, e1, e2, rfl⟩ := tgsCons_some e
    rw [hl, List.length_cons, l2 _ _ e2]
  · obtain ⟨x, xs, a, b, rfl, e1, e2, rfl⟩ := tgsCons_some e
    obtain ⟨v, vr, rfl, r1, r2⟩ := r.uncons
    refine ⟨v, vr, rfl, q1 A α σ H v x a _ r1 e1 fun w1 s1 => q2 A α _ H vr xs b _ r2 e2 fun w2 s2 => ?_⟩
    rw [← setsV_append]
    exact w _ (s1.append s2)
theorem gc_tup {k : Nat} {ps : List D → Option (List (Nat × D))} (hc : X.calm = true) (h : GCs X es ps) (hst : (assignEach es X.env).findIdx? (·.1) = none := by rfl) : GC X (.Tuple es k pos) (tgTup ps) := by
  obtain ⟨l, t, pt, q⟩ := h
  refine ⟨_, pg_tup hc pt rfl hst, fun A α σ H v d as Q r e w => ?_⟩
  unfold tgTup at e
  split at e
  · cases r with
    | tup hs hl hi => exact ⟨_, _, rfl, hs.sq, by rw [hl]; exact l _ _ e, q A α σ H _ _ as Q ⟨hl, hi⟩ e w⟩
  · cases e
end
section
variable {K : PySem.W.Frag} {G : Gh} {α : List Addr} {H : Hp} {g : Store}
theorem Sat.sets : ∀ {as : List (Nat × D)} {ws : List (Nat × V)} {ow : Nat → Option Addr} {σ : L2.St} {ρ : Env3}, Sat K G α ow σ H ρ g → RepSets (Al G.B α ow) α K H ws as →
    ∃ ow', Sat K G α ow' (setsV σ ws) H (L3.sets ρ as) g ∧ Fz G.B α ow H α ow' H
  | [], ws, ow, σ, ρ, s, r => by
    have e : ws = [] := by
      cases ws with
      | nil => rfl
      | cons x r => exact absurd r.1 (by simp)
    subst e
    exact ⟨ow, s, Fz.refl⟩
  | (i, d) :: as, ws, ow, σ, ρ, s, r => by
    cases ws with
    | nil => exact absurd r.1 (by simp)
    | cons w ws =>
      obtain ⟨j, v⟩ := w
      obtain ⟨r1, r2⟩ := r
      rw [List.map_cons, List.map_cons] at r1 r2
      obtain ⟨v', vr, ev, r3, r4⟩ := r2.uncons
      have ej : j = i := (List.cons.inj r1).1
      have e1 := (List.cons.inj ev).1
      have e2 := (List.cons.inj ev).2
      subst ej e1 e2
      obtain ⟨ow', s', f'⟩ := Sat.sets (s.set (i := j) r3) ⟨(List.cons.inj r1).2, r4.fz Fz.off⟩
      exact ⟨ow', s', Fz.off.trans f'⟩
end

/-! ### what is walked -/
def FzB (B : Addr → Prop) (α : List Addr) (ow : Nat → Option Addr) (H : Hp) (B' : Addr → Prop) (α' : List Addr) (ow' : Nat → Option Addr) (H' : Hp) : Prop :=
  (∀ a o, Al B α ow a → H a = some o → Al B' α' ow' a ∧ H' a = some o) ∧ α <+: α'
def WalkD (K : PySem.W.Frag) (B : Addr → Prop) (α : List Addr) (ow : Nat → Option Addr) (H : Hp) (J : It) (ds : List D) : Prop :=
  ∀ G2 α2 ow2 σ2 H2 ρ2 g2 (i : Nat), Sat K G2 α2 ow2 σ2 H2 ρ2 g2 → FzB B α ow H G2.B α2 ow2 H2 → (ds.length ≤ i → J.stop i H2) ∧
    ∀ d, ds[i]? = some d → J.go i H2 ∧ ∀ x H3, J.yld i H2 x H3 → Ext α2 H2 α2 H3 ∧ Sat K G2 α2 ow2 σ2 H3 ρ2 g2 ∧ Rep (Al G2.B α2 ow2) α2 K H3 x d
def IC (X : Cx) (tg iter : Expr) (f : DA) : Prop := ∃ wi, PI X tg iter wi ∧ ∀ G α ow σ H ρ g ds g' (R : It → Hp → Prop), Sat X.K G α ow σ H ρ g → f ρ g = some (ds, g') →
  (∀ J H' α', Ext α H α' H' → Sat X.K G α' ow σ H' ρ g' → WalkD X.K G.B α' ow H' J ds → R J H') → wi σ H R
theorem PI.or {X : Cx} {tg iter : Expr} {w1 w2 : TI} (h1 : PI X tg iter w1) (h2 : PI X tg iter w2) : PI X tg iter (fun σ H R => w1 σ H R ∨ w2 σ H R) :=
  ⟨fun pins s σ H R I h => h.elim (h1.run pins s σ H R I) (h2.run pins s σ H R I)⟩
def items : D → Option (List D)
  | .lst xs => some xs
  | .tup xs => some xs
  | .str s => some (s.map fun c => .str [c])
  | _ => none
def aItems (f : DE) : DA := bindM f fun x => liftM (items x)
section
variable {X : Cx} {tg e : Expr} {f : DE} {fs : DA}
theorem Rd.fzb {B B' : Addr → Prop} {α α' : List Addr} {ow ow' : Nat → Option Addr} {H H' : Hp} {a : Addr} {u : HO} (z : FzB B α ow H B' α' ow' H') (hA : Al B α ow a) (h : Rd H a u) : Rd H' a u := by
  rcases h with h | ⟨o, h⟩
  · exact .inl (z.1 a _ hA h).2
  · exact .inr ⟨o, (z.1 a _ hA h).2⟩
theorem ic_seq (he : EC X e f) : IC X tg e (aItems f) := by
  obtain ⟨t, pt, q⟩ := he
  refine ⟨_, (PI.or (pi_list pt) (PI.or (pi_tup pt) (pi_str pt))), fun G α ow σ H ρ g ds g' R s e w => ?_⟩
  obtain ⟨x, g1, e1, e2⟩ := bindM_some e
  obtain ⟨e3, rfl⟩ := liftM_some e2
  unfold items at e3
  split at e3
  · cases e3
    refine .inl (q G α ow σ H ρ g _ g1 _ s e1 fun v H' α' x s' r => ?_)
    cases r with
    | lst hA h hl hi =>
      rename_i a xs
      refine ⟨a, rfl, ⟨xs, .inl h⟩, w _ H' α' x s' fun G2 α2 ow2 σ2 H2 ρ2 g2 i s2 z => ⟨fun hi => ⟨xs, .inl (Rd.fzb z hA h), by rw [hl]; exact hi⟩, fun d hd => ?_⟩⟩
      obtain ⟨v, hv, rv⟩ := RepAll.get (show RepAll _ _ _ _ xs _ from ⟨hl, hi⟩) hd
      refine ⟨⟨xs, v, .inl (Rd.fzb z hA h), hv⟩, fun y H3 hy => ?_⟩
      obtain ⟨rfl, hy⟩ := hy
      have ey : y = v := Option.some.inj ((hy xs (.inl (Rd.fzb z hA h))).symm.trans hv)
      subst ey
      exact ⟨Ext.refl, s2, rv.mono z.1 z.2⟩
  · cases e3
    refine .inr (.inl (q G α ow σ H ρ g _ g1 _ s e1 fun v H' α' x s' r => ?_))
    cases r with
    | tup h hl hi =>
      rename_i a xs
      have st : ∀ {G2 : Gh} {α2 : List Addr} {ow2 : Nat → Option Addr} {H2 : Hp}, FzB G.B α' ow H' G2.B α2 ow2 H2 → SqT X.K H2 a xs := fun {G2 α2 ow2 H2} z => by
        rcases h with ⟨ha, o, ho, h⟩ | h
        · exact .inl (Rd.fzb z ha (.inr ⟨o, h⟩))
        · exact ST.sq (A := fun _ => True) (.inr h)
      refine ⟨a, rfl, ⟨xs, h.sq⟩, w _ H' α' x s' fun G2 α2 ow2 σ2 H2 ρ2 g2 i s2 z => ⟨fun hi => ⟨xs, st z, by rw [hl]; exact hi⟩, fun d hd => ?_⟩⟩
      obtain ⟨v, hv, rv⟩ := RepAll.get (show RepAll _ _ _ _ xs _ from ⟨hl, hi⟩) hd
      refine ⟨⟨xs, v, st z, hv⟩, fun y H3 hy => ?_⟩
      obtain ⟨rfl, hy⟩ := hy
      have ey : y = v := Option.some.inj ((hy xs (st z)).symm.trans hv)
      subst ey
      exact ⟨Ext.refl, s2, rv.mono z.1 z.2⟩
  · rename_i z
    cases e3
    refine .inr (.inr (q G α ow σ H ρ g _ g1 _ s e1 fun v H' α' x s' r => ?_))
    cases r
    refine ⟨_, rfl, w _ H' α' x s' fun G2 α2 ow2 σ2 H2 ρ2 g2 i s2 zz => ⟨fun hi => ?_, fun d hd => ?_⟩⟩
    · rw [List.length_map] at hi
      show (S z).cps.size ≤ i
      simpa [S] using hi
    · rw [List.getElem?_map, Option.map_eq_some_iff] at hd
      obtain ⟨c, hc, rfl⟩ := hd
      have hi := (List.getElem?_eq_some_iff.mp hc).1
      refine ⟨by show i < (S z).cps.size; simpa [S] using hi, fun y H3 hy => ?_⟩
      obtain ⟨rfl, c', hc', rfl⟩ := hy
      have ec : c' = c := by
        have q : (S z).cps[i]? = some c := by simpa [S] using hc
        exact Option.some.inj (hc'.symm.trans q)
      subst ec
      exact ⟨Ext.refl, s2, .str [c']⟩
  · cases e3
def rangeD (lo : Int) (n : Nat) : List D := (List.range n).map fun (i : Nat) => .int (lo + (i : Int))
theorem walk_rangeD {K : PySem.W.Frag} {B : Addr → Prop} {α : List Addr} {ow : Nat → Option Addr} {H : Hp} (lo : Int) (n : Nat) : WalkD K B α ow H (Itr lo n) (rangeD lo n) := fun G2 α2 ow2 σ2 H2 ρ2 g2 i s2 z => by
  refine ⟨fun hi => ?_, fun d hd => ?_⟩
  · unfold rangeD at hi
    rw [List.length_map, List.length_range] at hi
    exact hi
  · unfold rangeD at hd
    rw [List.getElem?_map, Option.map_eq_some_iff] at hd
    obtain ⟨c, hc, rfl⟩ := hd
    obtain ⟨hi, ec⟩ := List.getElem?_eq_some_iff.mp hc
    rw [List.length_range] at hi
    rw [List.getElem_range] at ec
    subst ec
    refine ⟨hi, fun y H3 hy => ?_⟩
    obtain ⟨rfl, rfl⟩ := hy
    exact ⟨Ext.refl, s2, .int _⟩
def dRange1 : List D → Option (List D)
  | [.int j] => if -1000000 ≤ j ∧ j ≤ 1000000 then some (rangeD 0 j.toNat) else none
  | _ => none
def dRange2 : List D → Option (List D)
  | [.int i, .int j] => if -1000000 ≤ i ∧ i ≤ 1000000 ∧ -1000000 ≤ j ∧ j ≤ 1000000 then some (rangeD i (j - i).toNat) else none
  | _ => none
theorem BRepAll.one1 {B : Addr → Prop} {α : List Addr} {ow : Nat → Option Addr} {K : PySem.W.Frag} {H : Hp} {vs : List V} {d : D} (h : BRepAll B α ow K H vs [d]) : ∃ v, vs = [v] ∧ BRep B α ow K H v d := by
  obtain ⟨v, r, rfl, h1, h2⟩ := h.uncons
  rw [h2.unnil]
  exact ⟨v, rfl, h1⟩
theorem BRepAll.two {B : Addr → Prop} {α : List Addr} {ow : Nat → Option Addr} {K : PySem.W.Frag} {H : Hp} {vs : List V} {d d2 : D} (h : BRepAll B α ow K H vs [d, d2]) : ∃ v w, vs = [v, w] ∧ BRep B α ow K H v d ∧ BRep B α ow K H w d2 := by
  obtain ⟨v, r, rfl, h1, h2⟩ := h.uncons
  obtain ⟨w, rfl, h3⟩ := h2.one1
  exact ⟨v, w, rfl, h1, h3⟩
theorem ic_range1 {a : Expr} {p pos : Pos} (hm : X.mg "range" = none) (ha : AB X [a] fs) (hg : Gl X "range" := by rfl) (hs : starEach [a] X.env = [(false, eval a X.env)] := by rfl) : IC X tg (.Call (.Name "range" p) [a] [] pos) (aFn dRange1 fs) := by
  obtain ⟨t, pt, q⟩ := ha
  refine ⟨_, pi_range1 hg hm pt hs, fun G α ow σ H ρ g ds g' R s e w => ?_⟩
  obtain ⟨xs, g1, e1, e2⟩ := bindM_some e
  obtain ⟨e3, rfl⟩ := liftM_some e2
  refine q G α ow σ H ρ g xs g1 _ s e1 fun vs H' α' x s' r => ?_
  unfold dRange1 at e3
  split at e3
  · split at e3
    · rename_i hj
      cases e3
      obtain ⟨v, rfl, r1⟩ := BRepAll.one1 r
      rw [r1.int]
      refine ⟨_, rfl, ?_, ?_, w _ H' α' x s' (walk_rangeD 0 _)⟩
      · exact Int.le_trans (by decide) hj.1
      · exact Int.lt_of_le_of_lt hj.2 (by decide)
    · cases e3
  · cases e3
theorem ic_range2 {a b : Expr} {p pos : Pos} (hm : X.mg "range" = none) (ha : AB X [a, b] fs) (hg : Gl X "range" := by rfl) (hs : starEach [a, b] X.env = [(false, eval a X.env), (false, eval b X.env)] := by rfl) (hs2 : starEach [b] X.env = [(false, eval b X.env)] := by rfl) : IC X tg (.Call (.Name "range" p) [a, b] [] pos) (aFn dRange2 fs) := by
  obtain ⟨t, pt, q⟩ := ha
  refine ⟨_, pi_range2 hg hm pt hs hs2, fun G α ow σ H ρ g ds g' R s e w => ?_⟩
  obtain ⟨xs, g1, e1, e2⟩ := bindM_some e
  obtain ⟨e3, rfl⟩ := liftM_some e2
  refine q G α ow σ H ρ g xs g1 _ s e1 fun vs H' α' x s' r => ?_
  unfold dRange2 at e3
  split at e3
  · split at e3
    · rename_i hj
      cases e3
      obtain ⟨v, v2, rfl, r1, r2⟩ := BRepAll.two r
      rw [r1.int, r2.int]
      refine ⟨_, _, rfl, ⟨Int.le_trans (by decide) hj.1, Int.lt_of_le_of_lt hj.2.1 (by decide), Int.le_trans (by decide) hj.2.2.1, Int.lt_of_le_of_lt hj.2.2.2 (by decide)⟩, w _ H' α' x s' (walk_rangeD _ _)⟩
    · cases e3
  · cases e3
end

/-! ### loops -/
section
variable {X : Cx} {tg iter c : Expr} {body : List Stmt} {it : DA} {p : D → Option (List (Nat × D))} {fb : DS} {fc : DT} {pos : Pos}
theorem sc_for (hi : IC X tg iter it) (hg : GC X tg p) (hb : BC X body fb) (hp : PassesOwn (model X.prog X.w) X.A X.env X.xe := by exact PassesOwn.never) (hc : X.calm = true := by rfl) (hs : ∀ x, foldedSetIterable iter X.env x = pure x := by intro _; rfl) :
    SC X (.For tg iter body [] pos) (sFor it p fb) := by
  obtain ⟨wi, pwi, qi⟩ := hi
  obtain ⟨tg', pg, qg⟩ := hg
  obtain ⟨tb, pb, qb⟩ := hb
  refine ⟨_, ps_for hp hc pwi pg pb hs, fun G α ow σ H ρ g out g' Dn s e w => ?_⟩
  unfold sFor at e
  split at e
  · rename_i ds g1 e1
    refine qi G α ow σ H ρ g ds g1 _ s e1 fun J H1 α1 x1 s1 wk => ?_
    have w1 : Post X.K G α1 ow H1 out g' Dn := w.fz x1.fz
    refine ⟨fun i m σ2 H2 => m = ds.length - i ∧ i ≤ ds.length ∧ ∃ α2 ow2 ρ2 g2, Sat X.K G α2 ow2 σ2 H2 ρ2 g2 ∧ Fz G.B α1 ow H1 α2 ow2 H2 ∧ forD p fb (ds.drop i) ρ2 g2 = some (out, g'),
      ⟨_, rfl, Nat.zero_le _, α1, ow, ρ, g1, s1, Fz.refl, e⟩, ?_⟩
    rintro i m σ2 H2 ⟨rfl, hi, α2, ow2, ρ2, g2, s2, z2, e2⟩
    have wk2 := wk G α2 ow2 σ2 H2 ρ2 g2 i s2 z2
    by_cases hlt : i < ds.length
    · have ed : ds[i]? = some ds[i] := List.getElem?_eq_getElem hlt
      obtain ⟨go, yl⟩ := wk2.2 _ ed
      rw [List.drop_eq_getElem_cons hlt] at e2
      refine .inr ⟨go, fun σ3 H3 => ∃ α3 ow3 ρ3 g3, Sat X.K G α3 ow3 σ3 H3 ρ3 g3 ∧ Fz G.B α1 ow H1 α3 ow3 H3 ∧ forD p fb (ds.drop (i + 1)) ρ3 g3 = some (out, g'), fun σ3 H3 ⟨α3, ow3, ρ3, g3, s3, z3, e3⟩ => ⟨ds.length - (i + 1), by omega, rfl, hlt, α3, ow3, ρ3, g3, s3, z3, e3⟩, fun x H3 hy => ?_⟩
      obtain ⟨x3, s3, r3⟩ := yl x H3 hy
      unfold forD at e2
      split at e2
      · cases e2
      · rename_i as has
        refine qg _ _ σ2 H3 x _ as _ r3 has fun ws rs => ?_
        obtain ⟨ow4, s4, z4⟩ := s3.sets rs
        have z34 : Fz G.B α1 ow H1 α2 ow4 H3 := (z2.trans x3.fz).trans z4
        split at e2
        · rename_i ρ5 g5 e5
          exact qb G α2 ow4 _ H3 _ g2 _ g5 _ s4 e5 fun σ' H' α' ow' s' z' => ⟨α', ow', ρ5, g5, s', z34.trans z', e2⟩
        · rename_i ρ5 g5 e5
          exact qb G α2 ow4 _ H3 _ g2 _ g5 _ s4 e5 fun σ' H' α' ow' s' z' => ⟨α', ow', ρ5, g5, s', z34.trans z', e2⟩
        · rename_i ρ5 g5 e5
          cases e2
          exact qb G α2 ow4 _ H3 _ g2 _ _ _ s4 e5 fun σ' H' α' ow' s' z' => w1 σ' H' α' ow' s' (z34.trans z')
        · rename_i d5 g5 e5
          cases e2
          exact qb G α2 ow4 _ H3 _ g2 _ _ _ s4 e5 w1
        · cases e2
    · have ei : i = ds.length := by omega
      subst ei
      rw [List.drop_length] at e2
      cases e2
      exact .inl ⟨wk2.1 (Nat.le_refl _), w1 σ2 H2 α2 ow2 s2 z2⟩
  · cases e
theorem sc_while (n : Nat) (hc : TC X c fc) (hb : BC X body fb) (hp : PassesOwn (model X.prog X.w) X.A X.env X.xe := by exact PassesOwn.never) : SC X (.While c body [] pos) (whileD fc fb n) := by
  obtain ⟨tc, pc, qc⟩ := hc
  obtain ⟨tb, pb, qb⟩ := hb
  refine ⟨_, ps_while hp pc pb, fun G α ow σ H ρ g out g' Dn s e w => ?_⟩
  refine ⟨fun m σ2 H2 => ∃ α2 ow2 ρ2 g2, Sat X.K G α2 ow2 σ2 H2 ρ2 g2 ∧ Fz G.B α ow H α2 ow2 H2 ∧ whileD fc fb m ρ2 g2 = some (out, g'), ⟨n, α, ow, ρ, g, s, Fz.refl, e⟩, ?_⟩
  rintro m σ2 H2 ⟨α2, ow2, ρ2, g2, s2, z2, e2⟩
  cases m with
  | zero => cases e2
  | succ m =>
    unfold whileD at e2
    split at e2
    · rename_i g3 e3
      refine qc G α2 ow2 σ2 H2 ρ2 g2 true g3 _ s2 e3 fun H3 α3 x3 s3 => ?_
      rw [if_pos rfl]
      have z3 : Fz G.B α ow H α3 ow2 H3 := z2.trans x3.fz
      refine ⟨fun σ4 H4 => ∃ α4 ow4 ρ4 g4, Sat X.K G α4 ow4 σ4 H4 ρ4 g4 ∧ Fz G.B α ow H α4 ow4 H4 ∧ whileD fc fb m ρ4 g4 = some (out, g'), fun σ4 H4 ⟨α4, ow4, ρ4, g4, s4, z4, e4⟩ => ⟨m, Nat.lt_succ_self m, α4, ow4, ρ4, g4, s4, z4, e4⟩, ?_⟩
      split at e2
      · rename_i ρ5 g5 e5
        exact qb G α3 ow2 σ2 H3 ρ2 g3 _ g5 _ s3 e5 fun σ' H' α' ow' s' z' => ⟨α', ow', ρ5, g5, s', z3.trans z', e2⟩
      · rename_i ρ5 g5 e5
        exact qb G α3 ow2 σ2 H3 ρ2 g3 _ g5 _ s3 e5 fun σ' H' α' ow' s' z' => ⟨α', ow', ρ5, g5, s', z3.trans z', e2⟩
      · rename_i ρ5 g5 e5
        cases e2
        exact qb G α3 ow2 σ2 H3 ρ2 g3 _ _ _ s3 e5 fun σ' H' α' ow' s' z' => w σ' H' α' ow' s' (z3.trans z')
      · rename_i d5 g5 e5
        cases e2
        exact qb G α3 ow2 σ2 H3 ρ2 g3 _ _ _ s3 e5 w
      · cases e2
    · rename_i g3 e3
      cases e2
      refine qc G α2 ow2 σ2 H2 ρ2 g2 false _ _ s2 e3 fun H3 α3 x3 s3 => ?_
      rw [if_neg (by decide)]
      exact w σ2 H3 α3 ow2 s3 (z2.trans x3.fz)
    · cases e2
theorem sc_unp {e : Expr} {fe : DE} (he : EC X e fe) (hg : GC X tg p) (hs : swapsWithSole [tg] e pos.line X.env = pure false := by rfl) (hw : swappedStores [tg] e X.env = pure none := by rfl)
    (h1 : (assignEach [tg] X.env).map (·.2) = [assign tg X.env] := by rfl) : SC X (.Assign [tg] e pos) (sUnp fe p) := by
  obtain ⟨t, pt, hq⟩ := he
  obtain ⟨tg', pg, qg⟩ := hg
  refine ⟨_, ps_asg pt pg hs hw h1, fun G α ow σ H ρ g out g' Dn s e w => ?_⟩
  unfold sUnp at e
  split at e
  · rename_i d g1 e1
    split at e
    · rename_i as has
      cases e
      refine hq G α ow σ H ρ g d g' _ s e1 fun v H1 α1 x1 s1 r1 => ?_
      refine qg _ _ σ H1 v d as _ r1 has fun ws rs => ?_
      obtain ⟨ow2, s2, z2⟩ := s1.sets rs
      exact w _ _ _ _ s2 (x1.fz.trans z2)
    · cases e
  · cases e
end

/-! ### a def -/
def spD (K : PySem.W.Frag) (n : Nat) (φ : List D → Store → Option (D × Store)) : Sp := fun vs H Q _ => ∃ (B : Addr → Prop) (α : List Addr) (g : Store) (ds : List D) (d : D) (g' : Store), vs.length = n ∧ (∀ a, B a → (∃ o, H a = some o) ∧ a ∉ α) ∧
  GOk (Al B α no) α g K H ∧ RepAll (Al B α no) α K H vs ds ∧ φ ds g = some (d, g') ∧ ∀ v H' α', Ext α H α' H' → GOk (Al B α' no) α' g' K H' → Rep (Al B α' no) α' K H' v d → Q v H'
def start3 (n : Nat) (ds : List D) : Env3 := ds.map (fun d => some (.d d)) ++ List.replicate (n - ds.length) none
def runD (n : Nat) (f : DS) (ds : List D) (g : Store) : Option (D × Store) := match f (start3 n ds) g with
  | some (.rt d, g') => some (d, g')
  | some (.nx _, g') => some (.non, g')
  | _ => none
theorem start_sat {K : PySem.W.Frag} {N : List Str} {B : Addr → Prop} {α : List Addr} {g : Store} {H : Hp} {vs : List V} {ds : List D} (hb : ∀ a, B a → (∃ o, H a = some o) ∧ a ∉ α) (gk : GOk (Al B α no) α g K H) (r : RepAll (Al B α no) α K H vs ds) :
    Sat K ⟨B, H, α⟩ α no (L2.start N vs) H (start3 N.length ds) g := by
  refine ⟨Ext.refl, hb, ?_, gk, fun i a z => (by cases z), fun i j a z => (by cases z), fun i x hx => ?_⟩
  · unfold L2.start start3
    rw [List.length_append, List.length_append, List.length_map, List.length_map, List.length_replicate, List.length_replicate, r.1]
  · unfold start3 at hx
    unfold L2.start
    by_cases hi : i < ds.length
    · rw [List.getElem?_append_left (by simpa using hi), List.getElem?_map, Option.map_eq_some_iff] at hx
      obtain ⟨d, hd, e⟩ := hx
      cases e
      obtain ⟨v, hv, rv⟩ := r.get hd
      refine ⟨v, ?_, rv⟩
      rw [List.getElem?_append_left (by rw [List.length_map, r.1]; exact hi), List.getElem?_map, hv]
      rfl
    · rw [List.getElem?_append_right (by simpa using hi), List.getElem?_replicate] at hx
      split at hx <;> cases hx
theorem fn_ok {P : Program} {w : World} {K : PySem.W.Frag} {mg : Str → Option Value} {base : Heap} {x qual : Str} {st : Stmt} {f : Addr} {fd : FuncData} {N ps : List Str} {k : Nat} {fB : DS} (F : Fun K x qual st f fd) (Sc : FnScope N ps (defScope st))
    (hb : ∀ (cdv : Value) (A : Around) (outer : List Env) (s : Shared) (H : Hp) (E : XK), Room k (A.deeper (envOfC qual (defScope st) s.heap.objs.size f cdv)) → BC (cxOf CX0 P w K mg base N qual (defScope st) f cdv A outer s H E).nox (defBody st) fB) :
    FnOk P w K mg base CX0 (k + 1) f fd ps (spD K ps.length (runD N.length fB)) := by
  refine F.ok Sc (fun vs H Q E h => ?_) (fun cdv A outer s H vs Q E hr h => ?_)
  · obtain ⟨_, _, _, _, _, _, h, _⟩ := h
    exact h
  · obtain ⟨B, α, g, ds, d, g', hl, hB, gk, r, e, q⟩ := h
    obtain ⟨t, pt, qt⟩ := hb cdv A outer s H E hr
    refine ⟨t, pt, ?_⟩
    have s0 := start_sat (N := N) hB gk r
    unfold runD at e
    split at e
    · rename_i d' g1 e1
      cases e
      exact qt _ α no _ H _ g _ _ _ s0 e1 fun v H' α' x _ gk' r' => q v H' α' x gk' r'
    · rename_i ρ1 g1 e1
      cases e
      exact qt _ α no _ H _ g _ _ _ s0 e1 fun σ' H' α' ow' s' z => q .non H' α' s'.ext s'.ret .non
    · cases e
theorem ec_call {X : Cx} {k : Nat} {f : Addr} {fd : FuncData} {ps : List Str} {n : Nat} {φ : List D → Store → Option (D × Store)} {x : Str} {e : Expr} {es : List Expr} {fs : DA} {p pos : Pos}
    (F : FnOk X.prog X.w X.K X.mg X.base CX0 k f fd ps (spD X.K n φ)) (hr : Room k X.A) (hm : X.mg x = some (.ref f)) (hk : PySem.W.keepIn X.K (.ref f) = true) (hb : Binds X.K fd ps []) (ha : AC X (e :: es) fs)
    (hg : Gl X x := by rfl) (hdb : (x == ("__debug__" : Str)) = false := by decide) (he : starEach (e :: es) X.env = (false, eval e X.env) :: starEach es X.env := by rfl) (hpl : (backTo pos (starEach es X.env)).any (·.1) = false := by rfl) (hl : (e :: es).length = n := by rfl) :
    EC X (.Call (.Name x p) (e :: es) [] pos) (eApp φ fs) := by
  obtain ⟨hal, t, pt, q⟩ := ha
  refine ⟨_, pe_call F hr hg hm hk hb .nil pass0 pt hdb he hpl, fun G α ow σ H ρ g d g' Q s e w => ?_⟩
  obtain ⟨xs, g1, e1, e2⟩ := bindM_some e
  refine q G α ow σ H ρ g xs g1 _ s e1 fun vs H1 α1 x1 s1 r1 => ?_
  have hA : ∀ a (o : HO), Al G.B α1 ow a → H1 a = some o → Al (fun a => G.B a ∨ ∃ i, ow i = some a) α1 no a ∧ H1 a = some o := fun a o h e => ⟨⟨h.1, fun z => z.elim h.2.1 fun ⟨i, hi⟩ => h.2.2 i hi, fun i z => by cases z⟩, e⟩
  rw [List.append_nil]
  refine ⟨fun a => G.B a ∨ ∃ i, ow i = some a, α1, g1, xs, d, g', by rw [r1.1, hal _ _ _ _ e1]; exact hl, fun a h => ?_, s1.gok.mono hA fun _ _ _ e => e, r1.mono hA (List.prefix_refl _), e2, fun v H2 α2 x2 gk2 r2 => ?_⟩
  · rcases h with h | ⟨i, h⟩
    · exact s1.blk a h
    · obtain ⟨_, h2, _, h4, _⟩ := s1.own i a h
      exact ⟨h4, h2⟩
  · have hA2 : ∀ a (o : HO), Al (fun a => G.B a ∨ ∃ i, ow i = some a) α2 no a → H2 a = some o → Al G.B α2 ow a ∧ H2 a = some o := fun a o h e => ⟨⟨h.1, fun z => h.2.1 (.inl z), fun i z => h.2.1 (.inr ⟨i, z⟩)⟩, e⟩
    exact w v H2 α2 (x1.trans x2) (s1.step x2 (gk2.mono hA2 fun _ _ _ e => e)) (r2.mono hA2 (List.prefix_refl _))
end L3

/-! L3e: list comprehensions. -/
namespace L3
open PySem PySem.Spec PyProof.Rows L2

def wipe3 (ρ : Env3) : List Nat → Env3
  | [] => ρ
  | v :: vs => (wipe3 ρ vs).set v none
def noOwn (ρ : Env3) (vs : List Nat) : Bool := vs.all fun i => match ρ[i]? with
  | some (some x) => !x.isOwn
  | _ => true
def lcD (tg : D → Option (List (Nat × D))) (c : DT) (e : DE) : List D → DA
  | [], _, g => some ([], g)
  | d :: ds, ρ, g => match tg d with
    | none => none
    | some as => match c (sets ρ as) g with
      | some (true, g1) => match e (sets ρ as) g1 with
        | some (y, g2) => match lcD tg c e ds ρ g2 with
          | some (ys, g3) => some (y :: ys, g3)
          | none => none
        | none => none
      | some (false, g1) => lcD tg c e ds ρ g1
      | none => none
def aLc (it : DA) (vs : List Nat) (tg : D → Option (List (Nat × D))) (c : DT) (e : DE) : DA := fun ρ g => match it ρ g with
  | some (ds, g1) => if ds.length ≤ BIG ∧ noOwn ρ vs = true then lcD tg c e ds (wipe3 ρ vs) g1 else none
  | none => none
def tYesD : DT := fun _ g => some (true, g)
def TgIn (p : D → Option (List (Nat × D))) (vs : List Nat) : Prop := ∀ d as, p d = some as → ∀ i ∈ as.map (·.1), i ∈ vs
def TgsIn (p : List D → Option (List (Nat × D))) (vs : List Nat) : Prop := ∀ d as, p d = some as → ∀ i ∈ as.map (·.1), i ∈ vs
theorem tgin_name {i : Nat} {vs : List Nat} (h : vs.contains i = true := by rfl) : TgIn (tgName i) vs := fun d as e j hj => by
  cases e
  have : j = i := by simpa using hj
  subst this
  simpa using h
theorem tgin_tup {ps : List D → Option (List (Nat × D))} {vs : List Nat} (h : TgsIn ps vs) : TgIn (tgTup ps) vs := fun d as e => by
  unfold tgTup at e
  split at e
  · exact h _ _ e
  · cases e
theorem tgsin_nil {vs : List Nat} : TgsIn tgsNil vs := fun d as e j hj => by
  cases d with
  | nil => cases e; simp at hj
  | cons x r => cases e
theorem tgsin_cons {p : D → Option (List (Nat × D))} {ps : List D → Option (List (Nat × D))} {vs : List Nat} (h1 : TgIn p vs) (h2 : TgsIn ps vs) : TgsIn (tgsCons p ps) vs := fun d as e j hj => by
  obtain ⟨x, xs, a, b, rfl, e1, e2, rfl⟩ := tgsCons_some e
  rw [List.map_append, List.mem_append] at hj
  exact hj.elim (h1 _ _ e1 j) (h2 _ _ e2 j)
def TCs (X : Cx) (ifs : List Expr) (f : DT) : Prop := ∃ t, PTs X ifs t ∧ ∀ G α ow σ H ρ g b g' Q, Sat X.K G α ow σ H ρ g → f ρ g = some (b, g') → WantsT X.K G α ow σ H ρ g' b Q → t σ H Q
theorem tcs_nil {X : Cx} : TCs X [] tYesD := ⟨_, pts_nil, fun G α ow σ H ρ g b g' Q s e w => by cases e; exact w H α Ext.refl s⟩
theorem tcs_one {X : Cx} {c : Expr} {f : DT} (h : TC X c f) : TCs X [c] f := by
  obtain ⟨t, p, q⟩ := h
  exact ⟨t, pts_one p, q⟩

theorem wipe_set_in {σ : L2.St} {i : Nat} {v : Option V} : ∀ {vs : List Nat}, i ∈ vs → wipe (σ.set i v) vs = wipe σ vs := by
  intro vs
  induction vs with
  | nil => intro h; cases h
  | cons u r ih =>
    intro h
    show (wipe (σ.set i v) r).set u none = (wipe σ r).set u none
    by_cases hr : i ∈ r
    · rw [ih hr]
    · have e : i = u := by
        rcases List.mem_cons.mp h with z | z
        · exact z
        · exact absurd z hr
      subst e
      have key : ∀ (r : List Nat) (σ : L2.St), i ∉ r → wipe (σ.set i v) r = (wipe σ r).set i v := by
        intro r
        induction r with
        | nil => intro σ _; rfl
        | cons u r ih2 =>
          intro σ hn
          show (wipe (σ.set i v) r).set u none = ((wipe σ r).set u none).set i v
          rw [ih2 σ fun z => hn (List.mem_cons_of_mem _ z), List.set_comm _ _ (fun e => hn (by rw [e]; exact List.mem_cons_self))]
      rw [key r σ hr, List.set_set]
theorem wipe_wipe (σ : L2.St) : ∀ vs : List Nat, wipe (wipe σ vs) vs = wipe σ vs := by
  have gen : ∀ (us vs : List Nat), (∀ i ∈ us, i ∈ vs) → wipe (wipe σ us) vs = wipe σ vs := by
    intro us
    induction us with
    | nil => intro vs _; rfl
    | cons u r ih =>
      intro vs h
      show wipe ((wipe σ r).set u none) vs = wipe σ vs
      rw [wipe_set_in (h u List.mem_cons_self), ih vs fun i hi => h i (List.mem_cons_of_mem _ hi)]
  intro vs
  exact gen vs vs fun _ h => h
theorem wipe_sets {vs : List Nat} : ∀ {ws : List (Nat × V)} {σ : L2.St}, (∀ i ∈ ws.map (·.1), i ∈ vs) → wipe (setsV σ ws) vs = wipe σ vs := by
  intro ws
  induction ws with
  | nil => intro σ _; rfl
  | cons w r ih =>
    intro σ h
    obtain ⟨i, v⟩ := w
    show wipe (setsV (σ.set i (some v)) r) vs = _
    rw [ih fun j hj => h j (by rw [List.map_cons]; exact List.mem_cons_of_mem _ hj), wipe_set_in (h i (by simp))]
theorem wipe3_len (ρ : Env3) : ∀ vs : List Nat, (wipe3 ρ vs).length = ρ.length
  | [] => rfl
  | v :: vs => by
    show ((wipe3 ρ vs).set v none).length = _
    rw [List.length_set, wipe3_len ρ vs]
theorem wipe3_some {ρ : Env3} {i : Nat} {x : SV} : ∀ {vs : List Nat}, (wipe3 ρ vs)[i]? = some (some x) → ρ[i]? = some (some x) ∧ i ∉ vs
  | [], h => ⟨h, by simp⟩
  | v :: vs, h => by
    have h : ((wipe3 ρ vs).set v none)[i]? = some (some x) := h
    by_cases hi : v = i
    · subst hi
      by_cases hv : v < (wipe3 ρ vs).length
      · rw [List.getElem?_set_self hv] at h; cases h
      · rw [List.getElem?_eq_none (by simpa using hv)] at h; cases h
    · rw [List.getElem?_set_ne hi] at h
      obtain ⟨h1, h2⟩ := wipe3_some h
      exact ⟨h1, by simp only [List.mem_cons, not_or]; exact ⟨fun e => hi e.symm, h2⟩⟩
theorem wipe3_out {ρ : Env3} {i : Nat} : ∀ {vs : List Nat}, i ∉ vs → (wipe3 ρ vs)[i]? = ρ[i]?
  | [], _ => rfl
  | v :: vs, h => by
    show ((wipe3 ρ vs).set v none)[i]? = _
    rw [List.getElem?_set_ne (fun e => h (by rw [e]; exact List.mem_cons_self)), wipe3_out fun z => h (List.mem_cons_of_mem _ z)]
section
variable {K : PySem.W.Frag} {G : Gh} {α : List Addr} {ow : Nat → Option Addr} {σ : L2.St} {H : Hp} {ρ : Env3} {g : Store}
theorem noOwn_ow (s : Sat K G α ow σ H ρ g) {vs : List Nat} (h : noOwn ρ vs = true) {i : Nat} (hi : i ∈ vs) : ow i = none := by
  cases e : ow i with
  | none => rfl
  | some a =>
    obtain ⟨_, _, _, _, x, hx, ho⟩ := s.own i a e
    have q := List.all_eq_true.mp h i hi
    rw [hx] at q
    simp [ho] at q
theorem Sat.wipe (s : Sat K G α ow σ H ρ g) {vs : List Nat} (h : noOwn ρ vs = true) : Sat K G α ow (L2.wipe σ vs) H (wipe3 ρ vs) g := by
  refine ⟨s.ext, s.blk, by rw [wipe_length, wipe3_len, s.len], s.gok, fun i a hi => ?_, s.oinj, fun i x hx => ?_⟩
  · obtain ⟨q1, q2, q3, q4, q5⟩ := s.own i a hi
    refine ⟨q1, q2, q3, q4, ?_⟩
    rw [wipe3_out fun z => by rw [noOwn_ow s h z] at hi; cases hi]
    exact q5
  · obtain ⟨h1, h2⟩ := wipe3_some hx
    rw [wipe_out h2]
    exact s.slot i x h1
/-- inside a comprehension: the growing list is shut out -/
theorem Sat.shut (s : Sat K G α ow σ H ρ g) {p : Addr} (hp : H p = none) (vs : List V) : Sat K ⟨fun a => G.B a ∨ a = p, G.H0, G.α0⟩ α ow σ (upd H p (.lst vs)) ρ g := by
  have ne : ∀ {a : Addr} {o : HO}, H a = some o → a ≠ p := fun e => ne_of_none e hp
  have hA : ∀ a (o : HO), Al G.B α ow a → H a = some o → Al (fun a => G.B a ∨ a = p) α ow a ∧ upd H p (.lst vs) a = some o := fun a o h e => ⟨⟨h.1, fun z => z.elim h.2.1 (ne e), h.2.2⟩, by rw [upd_ne (ne e)]; exact e⟩
  have al := s.al hp
  refine ⟨s.ext.trans (Ext.new hp), fun a h => ?_, s.len, s.gok.mono hA fun a o _ e => by rw [upd_ne (ne e)]; exact e, fun j a h => ?_, s.oinj, fun j x hx => ?_⟩
  · rcases h with h | h
    · obtain ⟨⟨o, h1⟩, h2⟩ := s.blk a h
      exact ⟨⟨o, by rw [upd_ne (ne h1)]; exact h1⟩, h2⟩
    · rw [h]
      exact ⟨⟨_, upd_same⟩, al.1⟩
  · obtain ⟨h1, h2, h3, ⟨o, h4⟩, h5⟩ := s.own j a h
    exact ⟨h1, h2, fun z => z.elim h3 (ne h4), ⟨o, by rw [upd_ne (ne h4)]; exact h4⟩, h5⟩
  · exact (s.slot j x hx).mono hA fun a u _ e => by rw [upd_ne (ne e)]; exact e
/-- the growing list changes -/
theorem Sat.shutMut {p : Addr} (s : Sat K ⟨fun a => G.B a ∨ a = p, G.H0, G.α0⟩ α ow σ H ρ g) (h0 : G.H0 p = none) (vs : List V) : Sat K ⟨fun a => G.B a ∨ a = p, G.H0, G.α0⟩ α ow σ (upd H p (.lst vs)) ρ g := by
  have hA : ∀ a (o : HO), Al (fun a => G.B a ∨ a = p) α ow a → H a = some o → Al (fun a => G.B a ∨ a = p) α ow a ∧ upd H p (.lst vs) a = some o := fun a o h e => ⟨h, by rw [upd_ne fun z => h.2.1 (.inr z)]; exact e⟩
  have tr : ∀ {b : Addr}, (∃ o, H b = some o) → ∃ o, upd H p (.lst vs) b = some o := fun {b} ⟨o, h⟩ => by
    by_cases e : b = p
    · rw [e]; exact ⟨_, upd_same⟩
    · exact ⟨o, by rw [upd_ne e]; exact h⟩
  have pn : p ∉ α := (s.blk p (.inr rfl)).2
  refine ⟨⟨fun b o h hn => ?_, s.ext.2.1, s.ext.2.2⟩, fun a h => ⟨tr (s.blk a h).1, (s.blk a h).2⟩, s.len, s.gok.mono hA fun a o ha e => by rw [upd_ne fun z => pn (by rw [← z]; exact ha)]; exact e, fun j a h => ?_, s.oinj, fun j x hx => ?_⟩
  · rw [upd_ne fun z => by rw [z] at h; rw [show (Gh.mk (fun a => G.B a ∨ a = p) G.H0 G.α0).H0 p = none from h0] at h; cases h]
    exact s.ext.1 b o h hn
  · obtain ⟨h1, h2, h3, h4, h5⟩ := s.own j a h
    exact ⟨h1, h2, h3, tr h4, h5⟩
  · exact (s.slot j x hx).mono hA fun a u ha e => by
      rw [upd_ne fun z => (s.own j a ha).2.2.1 (.inr z)]
      exact e
/-- .. and is let in: the heap without it -/
def cutH (H : Hp) (p : Addr) : Hp := fun a => if a = p then none else H a
theorem cutH_upd {p : Addr} {o : HO} (h : H p = some o) : H = upd (cutH H p) p o := by
  funext a
  unfold upd cutH
  by_cases e : a = p
  · rw [if_pos e, e, h]
  · rw [if_neg e, if_neg e]
theorem Sat.open {p : Addr} (s : Sat K ⟨fun a => G.B a ∨ a = p, G.H0, G.α0⟩ α ow σ H ρ g) (h0 : G.H0 p = none) (hb : ¬ G.B p) : Sat K G α ow σ (cutH H p) ρ g := by
  have hA : ∀ a (o : HO), Al (fun a => G.B a ∨ a = p) α ow a → H a = some o → Al G.B α ow a ∧ cutH H p a = some o := fun a o h e => ⟨⟨h.1, fun z => h.2.1 (.inl z), h.2.2⟩, by unfold cutH; rw [if_neg fun z => h.2.1 (.inr z)]; exact e⟩
  have pn : p ∉ α := (s.blk p (.inr rfl)).2
  have ke : ∀ {a : Addr} {o : HO}, a ≠ p → H a = some o → cutH H p a = some o := fun {a o} n e => by unfold cutH; rw [if_neg n]; exact e
  refine ⟨⟨fun b o h hn => ?_, s.ext.2.1, s.ext.2.2⟩, fun a h => ?_, s.len, s.gok.mono hA fun a o ha e => ke (fun z => pn (by rw [← z]; exact ha)) e, fun j a h => ?_, s.oinj, fun j x hx => ?_⟩
  · exact ke (fun z => by rw [z, h0] at h; cases h) (s.ext.1 b o h hn)
  · obtain ⟨⟨o, h1⟩, h2⟩ := s.blk a (.inl h)
    exact ⟨⟨o, ke (fun z => hb (by rw [← z]; exact h)) h1⟩, h2⟩
  · obtain ⟨h1, h2, h3, ⟨o, h4⟩, h5⟩ := s.own j a h
    exact ⟨h1, h2, fun z => h3 (.inl z), ⟨o, ke (fun z => h3 (.inr z)) h4⟩, h5⟩
  · exact (s.slot j x hx).mono hA fun a u ha e => ke (fun z => (s.own j a ha).2.2.1 (.inr z)) e
theorem Sat.setsN : ∀ {as : List (Nat × D)} {ws : List (Nat × V)} {σ : L2.St} {ρ : Env3}, Sat K G α ow σ H ρ g → RepSets (Al G.B α ow) α K H ws as → (∀ i ∈ as.map (·.1), ow i = none) →
    Sat K G α ow (setsV σ ws) H (L3.sets ρ as) g
  | [], ws, σ, ρ, s, r, _ => by
    have e : ws = [] := by
      cases ws with
      | nil => rfl
      | cons x r => exact absurd r.1 (by simp)
    subst e
    exact s
  | (i, d) :: as, ws, σ, ρ, s, r, hn => by
    cases ws with
    | nil => exact absurd r.1 (by simp)
    | cons w ws =>
      obtain ⟨j, v⟩ := w
      obtain ⟨r1, r2⟩ := r
      rw [List.map_cons, List.map_cons] at r1 r2
      obtain ⟨v', vr, ev, r3, r4⟩ := r2.uncons
      have ej : j = i := (List.cons.inj r1).1
      have e1 := (List.cons.inj ev).1
      have e2 := (List.cons.inj ev).2
      subst ej e1 e2
      have eo : off ow j = ow := by
        funext k
        unfold off
        split
        · rename_i hk
          rw [hk, hn j (by simp)]
        · rfl
      have s' := s.set (i := j) r3
      rw [eo] at s'
      show Sat K G α ow (setsV (σ.set j (some v)) ws) H (L3.sets (ρ.set j (some (.d d))) as) g
      exact Sat.setsN (as := as) (ws := ws) s' ⟨(List.cons.inj r1).2, r4⟩ fun k hk => hn k (by rw [List.map_cons]; exact List.mem_cons_of_mem _ hk)
end

theorem lcD_len {tg : D → Option (List (Nat × D))} {c : DT} {e : DE} : ∀ {ds : List D} {ρ : Env3} {g : Store} {ys : List D} {g' : Store}, lcD tg c e ds ρ g = some (ys, g') → ys.length ≤ ds.length := by
  intro ds
  induction ds with
  | nil => intro ρ g ys g' h; cases h; exact Nat.le_refl _
  | cons d ds ih =>
    intro ρ g ys g' h
    unfold lcD at h
    split at h
    · cases h
    · split at h
      · split at h
        · split at h
          · rename_i ys' g3 e3
            cases h
            rw [List.length_cons, List.length_cons]
            exact Nat.succ_le_succ (ih e3)
          · cases h
        · cases h
      · exact Nat.le_succ_of_le (ih h)
      · cases h
section
variable {X : Cx} {elt tg iter : Expr} {ifs : List Expr} {it : DA} {p : D → Option (List (Nat × D))} {fc : DT} {fe : DE} {pos : Pos} {scope : Scope} {own : List (Str × Nat)}
theorem lc_read {wi : TI} {g1 : TG} {tt : TT} {te : TE} {vs : List Nat}
    (qi : ∀ G α ow σ H ρ g ds g' (R : It → Hp → Prop), Sat X.K G α ow σ H ρ g → it ρ g = some (ds, g') → (∀ J H' α', Ext α H α' H' → Sat X.K G α' ow σ H' ρ g' → WalkD X.K G.B α' ow H' J ds → R J H') → wi σ H R)
    (qg : ∀ A α σ H v d as Q, Rep A α X.K H v d → p d = some as → (∀ ws, RepSets A α X.K H ws as → Q (setsV σ ws) H) → g1 v σ H Q)
    (qt : ∀ G α ow σ H ρ g b g' Q, Sat X.K G α ow σ H ρ g → fc ρ g = some (b, g') → WantsT X.K G α ow σ H ρ g' b Q → tt σ H Q)
    (qe : ∀ G α ow σ H ρ g d g' Q, Sat X.K G α ow σ H ρ g → fe ρ g = some (d, g') → WantsG X.K G α ow σ H ρ g' d Q → te σ H Q) (hv : TgIn p vs)
    {G α ow σ H ρ g ds g' Q} (s : Sat X.K G α ow σ H ρ g) (e : aLc it vs p fc fe ρ g = some (ds, g')) (w : WantsF X.K G α ow σ H ρ g' ds Q) : tLc wi g1 tt te vs σ H Q := by
  unfold aLc at e
  split at e
  · rename_i xs g1' e1
    split at e
    · rename_i hh
      obtain ⟨hbig, hno⟩ := hh
      refine qi G α ow σ H ρ g xs g1' _ s e1 fun J H1 α1 x1 s1 wk => fun Dp hD => ?_
      have hD0 : G.H0 Dp = none := s1.ext.fresh hD (s1.al hD).1
      have hDb : ¬ G.B Dp := (s1.al hD).2.1
      have s2 := (s1.shut hD []).wipe (vs := vs) hno
      have fz0 : ∀ a (o : HO), Al G.B α1 ow a → H1 a = some o → Al (fun a => G.B a ∨ a = Dp) α1 ow a ∧ upd H1 Dp (.lst []) a = some o := fun a o h e => ⟨⟨h.1, fun z => z.elim h.2.1 (ne_of_none e hD), h.2.2⟩, by rw [upd_ne (ne_of_none e hD)]; exact e⟩
      refine ⟨fun i m H2 => m = xs.length - i ∧ i ≤ xs.length ∧ ∃ α2 g2 acc done rest, Sat X.K ⟨fun a => G.B a ∨ a = Dp, G.H0, G.α0⟩ α2 ow (L2.wipe σ vs) H2 (wipe3 ρ vs) g2 ∧
          FzB G.B α1 ow H1 (fun a => G.B a ∨ a = Dp) α2 ow H2 ∧ Ext α1 H1 α2 H2 ∧ H2 Dp = some (.lst acc) ∧ RepAll (Al (fun a => G.B a ∨ a = Dp) α2 ow) α2 X.K H2 acc done ∧ acc.length ≤ i ∧ lcD p fc fe (xs.drop i) (wipe3 ρ vs) g2 = some (rest, g') ∧ ds = done ++ rest,
        ⟨xs.length, by simp, Nat.zero_le _, α1, g1', [], [], ds, s2, ⟨fz0, List.prefix_refl _⟩, Ext.new hD, upd_same, RepAll.nil, Nat.le_refl _, e, rfl⟩, ?_⟩
      rintro i m H2 ⟨rfl, hi, α2, g2, acc, done, rest, s2, z2, x2, hacc, racc, hal, e2, eds⟩
      have wk2 := wk _ α2 ow _ H2 _ g2 i s2 z2
      by_cases hlt : i < xs.length
      · have ed : xs[i]? = some xs[i] := List.getElem?_eq_getElem hlt
        obtain ⟨go, yl⟩ := wk2.2 _ ed
        rw [List.drop_eq_getElem_cons hlt] at e2
        refine .inr ⟨go, fun H3 => ∃ α3 g3 acc done rest, Sat X.K ⟨fun a => G.B a ∨ a = Dp, G.H0, G.α0⟩ α3 ow (L2.wipe σ vs) H3 (wipe3 ρ vs) g3 ∧
          FzB G.B α1 ow H1 (fun a => G.B a ∨ a = Dp) α3 ow H3 ∧ Ext α1 H1 α3 H3 ∧ H3 Dp = some (.lst acc) ∧ RepAll (Al (fun a => G.B a ∨ a = Dp) α3 ow) α3 X.K H3 acc done ∧ acc.length ≤ i + 1 ∧ lcD p fc fe (xs.drop (i + 1)) (wipe3 ρ vs) g3 = some (rest, g') ∧ ds = done ++ rest,
          fun H3 h3 => ⟨xs.length - (i + 1), by omega, rfl, hlt, h3⟩, fun x H3 hy => ?_⟩
        obtain ⟨x3, s3, r3⟩ := yl x H3 hy
        have nD : ∀ {α' : List Addr} {H' : Hp}, Ext α2 H3 α' H' → H' Dp = some (.lst acc) := fun {α' H'} xx => xx.1 _ _ (x3.1 _ _ hacc (s2.blk Dp (.inr rfl)).2) (s3.blk Dp (.inr rfl)).2
        unfold lcD at e2
        split at e2
        · cases e2
        · rename_i as has
          refine qg _ _ (L2.wipe σ vs) H3 x _ as _ r3 has fun ws rs => ⟨?_, ?_⟩
          · rw [wipe_sets fun j hj => hv _ _ has j (by rw [← rs.1]; exact hj), wipe_wipe]
          · have s4 := s3.setsN rs fun j hj => noOwn_ow s1 hno (hv _ _ has j hj)
            have fzx : ∀ {α' : List Addr} {H' : Hp}, Ext α2 H3 α' H' → FzB G.B α1 ow H1 (fun a => G.B a ∨ a = Dp) α' ow H' := fun {α' H'} xx => ⟨fun a o h e => by
                have q := z2.1 a o h e
                have q2 := x3.al a o q.1 q.2
                exact xx.al a o q2.1 q2.2, z2.2.trans xx.2.1⟩
            split at e2
            · rename_i g5 e5
              split at e2
              · rename_i y g6 e6
                split at e2
                · rename_i ys g7 e7
                  cases e2
                  refine qt _ α2 ow _ H3 _ g2 true g5 _ s4 e5 fun H5 α5 x5 s5 => ?_
                  rw [if_pos rfl]
                  refine qe _ α5 ow _ H5 _ g5 y g6 _ s5 e6 fun v H6 α6 x6 s6 r6 => ?_
                  have xx := x5.trans x6
                  have hD6 := nD xx
                  refine ⟨acc, hD6, Nat.lt_of_lt_of_le (Nat.lt_of_lt_of_le (Nat.lt_of_le_of_lt hal hlt) hbig) big_line, ?_⟩
                  have g6k : GOk (Al (fun a => G.B a ∨ a = Dp) α6 ow) α6 g6 X.K H6 := s6.gok
                  have s7 : Sat X.K ⟨fun a => G.B a ∨ a = Dp, G.H0, G.α0⟩ α6 ow (L2.wipe σ vs) H6 (wipe3 ρ vs) g6 := s2.step (x3.trans xx) g6k
                  have s8 := s7.shutMut hD0 (acc ++ [v])
                  have hA8 : ∀ a (o : HO), Al (fun a => G.B a ∨ a = Dp) α6 ow a → H6 a = some o → Al (fun a => G.B a ∨ a = Dp) α6 ow a ∧ upd H6 Dp (.lst (acc ++ [v])) a = some o := fun a o h e => ⟨h, by rw [upd_ne fun z => h.2.1 (.inr z)]; exact e⟩
                  refine ⟨α6, g6, acc ++ [v], done ++ [y], ys, s8, ⟨fun a o h e => hA8 a o ((fzx xx).1 a o h e).1 ((fzx xx).1 a o h e).2, (fzx xx).2⟩, ?_, upd_same, (((racc.ext x3).ext xx).append (RepAll.one r6)).mono hA8 (List.prefix_refl _), by rw [List.length_append]; exact Nat.succ_le_succ hal, e7, by rw [eds, List.append_assoc]; rfl⟩
                  have xa := (x2.trans x3).trans xx
                  exact ⟨fun a o h hn => by rw [upd_ne (ne_of_none h hD)]; exact xa.1 a o h hn, xa.2.1, xa.2.2⟩
                · cases e2
              · cases e2
            · rename_i g5 e5
              refine qt _ α2 ow _ H3 _ g2 false g5 _ s4 e5 fun H5 α5 x5 s5 => ?_
              rw [if_neg (by decide)]
              exact ⟨α5, g5, acc, done, rest, s2.step (x3.trans x5) s5.gok, fzx x5, (x2.trans x3).trans x5, nD x5, (racc.ext x3).ext x5, Nat.le_succ_of_le hal, e2, eds⟩
            · cases e2
      · have ei : i = xs.length := by omega
        subst ei
        rw [List.drop_length] at e2
        cases e2
        rw [List.append_nil] at eds
        subst eds
        refine .inl ⟨wk2.1 (Nat.le_refl _), ?_⟩
        have so := s2.open hD0 hDb
        have xc : Ext α1 H1 α2 (cutH H2 Dp) := ⟨fun a o h hn => by
          unfold cutH
          rw [if_neg (ne_of_none h hD)]
          exact x2.1 a o h hn, x2.2.1, x2.2.2⟩
        have hA : ∀ a (o : HO), Al (fun a => G.B a ∨ a = Dp) α2 ow a → H2 a = some o → Al G.B α2 ow a ∧ cutH H2 Dp a = some o := fun a o h e => ⟨⟨h.1, fun z => h.2.1 (.inl z), h.2.2⟩, by unfold cutH; rw [if_neg fun z => h.2.1 (.inr z)]; exact e⟩
        exact w Dp acc (cutH H2 Dp) α2 (x1.trans xc) (s1.step xc so.gok) (by unfold cutH; rw [if_pos rfl]) (racc.mono hA (List.prefix_refl _)) H2 (cutH_upd hacc)
    · cases e
  · cases e
def tE (K : PySem.W.Frag) (f : DE) : TE := fun σ H Q => ∃ G α ow ρ g d g', Sat K G α ow σ H ρ g ∧ f ρ g = some (d, g') ∧ WantsG K G α ow σ H ρ g' d Q
def tTs (K : PySem.W.Frag) (f : DT) : TT := fun σ H Q => ∃ G α ow ρ g d g', Sat K G α ow σ H ρ g ∧ f ρ g = some (d, g') ∧ WantsT K G α ow σ H ρ g' d Q
def tGs (K : PySem.W.Frag) (p : D → Option (List (Nat × D))) : TG := fun v σ H Q => ∃ A α d as, Rep A α K H v d ∧ p d = some as ∧ ∀ ws, RepSets A α K H ws as → Q (setsV σ ws) H
theorem EC.canon {Y : Cx} {e : Expr} {f : DE} (h : EC Y e f) : PE Y e (tE Y.K f) := by
  obtain ⟨t, p, q⟩ := h
  exact ⟨fun pins s σ H Q I ⟨G, α, ow, ρ, g, d, g', h1, h2, h3⟩ => p.run pins s σ H Q I (q G α ow σ H ρ g d g' Q h1 h2 h3)⟩
theorem TCs.canon {Y : Cx} {e : List Expr} {f : DT} (h : TCs Y e f) : PTs Y e (tTs Y.K f) := by
  obtain ⟨t, p, q⟩ := h
  exact ⟨fun pins s σ H Q I ⟨G, α, ow, ρ, g, d, g', h1, h2, h3⟩ => p.run pins s σ H Q I (q G α ow σ H ρ g d g' Q h1 h2 h3)⟩
theorem GC.canon {Y : Cx} {e : Expr} (h : GC Y e p) : PG Y e (tGs Y.K p) := by
  obtain ⟨t, pt, q⟩ := h
  exact ⟨fun pins s σ H v u Q I r ⟨A, α, d, as, h1, h2, h3⟩ => pt.run pins s σ H v u Q I r (q A α σ H v d as Q h1 h2 h3)⟩
theorem ef_lc (hN : X.N.Nodup) (own : List (Str × Nat)) (hi : IC X tg iter it) (hv : TgIn p (own.map (·.2)))
    (hg : ∀ (s : Shared) (H : Hp) (C : Addr) (cl : List (Str × Addr)) (fp : List Addr), GC (X.blk s H scope (compEnvC scope cl C X.env) fp) tg p)
    (ht : ∀ (s : Shared) (H : Hp) (C : Addr) (cl : List (Str × Addr)) (fp : List Addr), TCs (X.blk s H scope (compEnvC scope cl C X.env) fp) ifs fc)
    (he : ∀ (s : Shared) (H : Hp) (C : Addr) (cl : List (Str × Addr)) (fp : List Addr), EC (X.blk s H scope (compEnvC scope cl C X.env) fp) elt fe)
    (ok : BlkOk X.N X.env.scope scope own) (hc : X.calm = true := by rfl) (hs : ∀ x, foldedSetIterable iter X.env x = pure x := by intro _; rfl) : EF X (.ListComp elt [⟨tg, iter, ifs, 0⟩] scope pos) (aLc it (own.map (·.2)) p fc fe) := by
  obtain ⟨wi, pwi, qi⟩ := hi
  exact ⟨_, pe_lc (g := tGs X.K p) (tt := tTs X.K fc) (te := tE X.K fe) hc hN pwi ok (fun s H C cl fp => (hg s H C cl fp).canon) (fun s H C cl fp => (ht s H C cl fp).canon) (fun s H C cl fp => (he s H C cl fp).canon) hs, fun G α ow σ H ρ g ds g' Q s e w =>
    lc_read (X := X) (g1 := tGs X.K p) (tt := tTs X.K fc) (te := tE X.K fe) qi (fun A α σ H v d as Q h1 h2 h3 => ⟨A, α, d, as, h1, h2, h3⟩) (fun G α ow σ H ρ g b g' Q h1 h2 h3 => ⟨G, α, ow, ρ, g, b, g', h1, h2, h3⟩) (fun G α ow σ H ρ g b g' Q h1 h2 h3 => ⟨G, α, ow, ρ, g, b, g', h1, h2, h3⟩) hv s e w⟩
/-- y = [..] on one line -/
theorem sc_setLc {i : Nat} {y : Str} {py spos : Pos} (hN : X.N.Nodup) (own : List (Str × Nat)) (hi : IC X tg iter it) (hv : TgIn p (own.map (·.2)))
    (hg : ∀ (s : Shared) (H : Hp) (C : Addr) (cl : List (Str × Addr)) (fp : List Addr), GC (X.blk s H scope (compEnvC scope cl C X.env) fp) tg p)
    (ht : ∀ (s : Shared) (H : Hp) (C : Addr) (cl : List (Str × Addr)) (fp : List Addr), TCs (X.blk s H scope (compEnvC scope cl C X.env) fp) ifs fc)
    (he : ∀ (s : Shared) (H : Hp) (C : Addr) (cl : List (Str × Addr)) (fp : List Addr), EC (X.blk s H scope (compEnvC scope cl C X.env) fp) elt fe)
    (ok : BlkOk X.N X.env.scope scope own) (hsw : swapsWith (.ListComp elt [⟨tg, iter, ifs, 0⟩] scope pos) (some (.Name y py)) spos.line X.env = pure true)
    (hy : X.N[i]? = some y := by rfl) (hyl : X.env.scope.names.lookup y = some .local := by rfl) (hc : X.calm = true := by rfl) (hs : ∀ x, foldedSetIterable iter X.env x = pure x := by intro _; rfl) :
    SC X (.Assign [.Name y py] (.ListComp elt [⟨tg, iter, ifs, 0⟩] scope pos) spos) (sSet i (eL (aLc it (own.map (·.2)) p fc fe))) := by
  obtain ⟨wi, pwi, qi⟩ := hi
  refine ⟨_, ps_setLc (g := tGs X.K p) (tt := tTs X.K fc) (te := tE X.K fe) hc hN hy hyl hsw pwi ok (fun s H C cl fp => (hg s H C cl fp).canon) (fun s H C cl fp => (ht s H C cl fp).canon) (fun s H C cl fp => (he s H C cl fp).canon) hs, fun G α ow σ H ρ g out g' Dn s e w => ?_⟩
  unfold sSet at e
  split at e
  · rename_i d g1 e1
    cases e
    obtain ⟨xs, g2, e2, e3⟩ := bindM_some e1
    obtain ⟨e4, rfl⟩ := liftM_some e3
    cases e4
    refine lc_read (X := X) (g1 := tGs X.K p) (tt := tTs X.K fc) (te := tE X.K fe) qi (fun A α σ H v d as Q h1 h2 h3 => ⟨A, α, d, as, h1, h2, h3⟩) (fun G α ow σ H ρ g b g' Q h1 h2 h3 => ⟨G, α, ow, ρ, g, b, g', h1, h2, h3⟩) (fun G α ow σ H ρ g b g' Q h1 h2 h3 => ⟨G, α, ow, ρ, g, b, g', h1, h2, h3⟩) hv s e2 fun q vs H1 α1 x1 s1 hp r H2 eH => ?_
    subst eH
    exact w _ _ _ _ ((s1.new hp).set (s1.newL hp r)) ((x1.trans (Ext.new hp)).fz.trans Fz.off)
  · cases e
theorem sc_ownLc {i : Nat} {y : Str} {py spos : Pos} (hN : X.N.Nodup) (own : List (Str × Nat)) (hi : IC X tg iter it) (hv : TgIn p (own.map (·.2)))
    (hg : ∀ (s : Shared) (H : Hp) (C : Addr) (cl : List (Str × Addr)) (fp : List Addr), GC (X.blk s H scope (compEnvC scope cl C X.env) fp) tg p)
    (ht : ∀ (s : Shared) (H : Hp) (C : Addr) (cl : List (Str × Addr)) (fp : List Addr), TCs (X.blk s H scope (compEnvC scope cl C X.env) fp) ifs fc)
    (he : ∀ (s : Shared) (H : Hp) (C : Addr) (cl : List (Str × Addr)) (fp : List Addr), EC (X.blk s H scope (compEnvC scope cl C X.env) fp) elt fe)
    (ok : BlkOk X.N X.env.scope scope own) (hsw : swapsWith (.ListComp elt [⟨tg, iter, ifs, 0⟩] scope pos) (some (.Name y py)) spos.line X.env = pure true)
    (hy : X.N[i]? = some y := by rfl) (hyl : X.env.scope.names.lookup y = some .local := by rfl) (hc : X.calm = true := by rfl) (hs : ∀ x, foldedSetIterable iter X.env x = pure x := by intro _; rfl) :
    SC X (.Assign [.Name y py] (.ListComp elt [⟨tg, iter, ifs, 0⟩] scope pos) spos) (sOwn i (aLc it (own.map (·.2)) p fc fe)) := by
  obtain ⟨wi, pwi, qi⟩ := hi
  refine ⟨_, ps_setLc (g := tGs X.K p) (tt := tTs X.K fc) (te := tE X.K fe) hc hN hy hyl hsw pwi ok (fun s H C cl fp => (hg s H C cl fp).canon) (fun s H C cl fp => (ht s H C cl fp).canon) (fun s H C cl fp => (he s H C cl fp).canon) hs, fun G α ow σ H ρ g out g' Dn s e w => ?_⟩
  unfold sOwn at e
  split at e
  · rename_i xs g1 e1
    split at e
    · rename_i hi
      cases e
      refine lc_read (X := X) (g1 := tGs X.K p) (tt := tTs X.K fc) (te := tE X.K fe) qi (fun A α σ H v d as Q h1 h2 h3 => ⟨A, α, d, as, h1, h2, h3⟩) (fun G α ow σ H ρ g b g' Q h1 h2 h3 => ⟨G, α, ow, ρ, g, b, g', h1, h2, h3⟩) (fun G α ow σ H ρ g b g' Q h1 h2 h3 => ⟨G, α, ow, ρ, g, b, g', h1, h2, h3⟩) hv s e1 fun q vs H1 α1 x1 s1 hp r H2 eH => ?_
      subst eH
      exact w _ _ _ _ (s1.own1 hi hp r).1 (x1.fz.trans (s1.own1 hi hp r).2)
    · cases e
  · cases e
end
end L3

/-! L3f: operators, built-ins, methods. -/
namespace L3
open PySem PySem.Spec PyProof.Rows L2

/-! ### texts -/
theorem S_len (s : List Nat) : (S s).length = s.length := by simp [S, Str.length]
theorem S_list (s : List Nat) : (S s).cps.toList = s := by simp [S]
theorem S_app (s t : List Nat) : S s ++ S t = S (s ++ t) := by
  show Str.mk (s.toArray ++ t.toArray) = Str.mk (s ++ t).toArray
  simp
theorem S_inj {s t : List Nat} (h : S s = S t) : s = t := by
  have := congrArg (fun z : Str => z.cps.toList) h
  simpa [S] using this
theorem S_of (z : Str) : z = S z.cps.toList := by cases z; simp [S]

/-! ### numbers, texts, lists: + - * % // ** -/
def dAdd : D → D → Option D
  | .int a, .int b => some (.int (a + b))
  | .str a, .str b => if a.length + b.length ≤ BIG then some (.str (a ++ b)) else none
  | _, _ => none
def dSub : D → D → Option D
  | .int a, .int b => some (.int (a - b))
  | _, _ => none
def dMul : D → D → Option D
  | .int a, .int b => if (-(2 ^ 64) < a ∧ a < 2 ^ 64) ∨ (-(2 ^ 64) < b ∧ b < 2 ^ 64) then some (.int (a * b)) else none
  | .str a, .int n => if 0 ≤ n ∧ n ≤ 100000 ∧ a.length * n.toNat ≤ BIG then some (.str (List.replicate n.toNat a).flatten) else none
  | _, _ => none
def dMod : D → D → Option D
  | .int a, .int b => if 0 < b then some (.int (a % b)) else none
  | _, _ => none
def dDiv : D → D → Option D
  | .int a, .int b => if 0 < b ∧ b < 1073741824 then some (.int (a / b)) else none
  | _, _ => none
def dPow : D → D → Option D
  | .int a, .int b => if 0 ≤ b ∧ b ≤ 100 ∧ a.natAbs < 2 ^ 64 then some (.int (a ^ b.toNat)) else none
  | _, _ => none
section
variable {X : Cx}
theorem opd_add : OpD X (binaryOp .Add) dAdd := by
  refine ⟨_, op_add.or op_add_str, fun G α ow σ H ρ g x y dx dy d Q s rx ry e w => ?_⟩
  unfold dAdd at e
  split at e
  · cases e
    rw [rx.int, ry.int]
    exact .inl ⟨_, _, rfl, rfl, w _ H Ext.refl s (.int _)⟩
  · split at e
    · rename_i hl
      cases e
      rw [rx.str, ry.str]
      refine .inr ⟨_, _, rfl, rfl, by rw [S_len, S_len]; exact Nat.le_trans hl big_line, ?_⟩
      rw [S_app]
      exact w _ H Ext.refl s (.str _)
    · cases e
  · cases e
theorem opd_sub : OpD X (binaryOp .Sub) dSub := by
  refine ⟨_, op_sub, fun G α ow σ H ρ g x y dx dy d Q s rx ry e w => ?_⟩
  unfold dSub at e
  split at e
  · cases e
    rw [rx.int, ry.int]
    exact ⟨_, _, rfl, rfl, w _ H Ext.refl s (.int _)⟩
  · cases e
theorem foldl_rep (a : List Nat) : ∀ (n : Nat) (b : Array Nat), ((List.replicate n a.toArray).foldl (· ++ ·) b) = b ++ (List.replicate n a).flatten.toArray := by
  intro n
  induction n with
  | zero => intro b; simp
  | succ n ih => intro b; rw [List.replicate_succ, List.foldl_cons, ih, List.replicate_succ, List.flatten_cons]; simp
theorem mul_S (a : List Nat) (n : Int) (hn : 0 ≤ n) : Txt.mul (S a) n = S (List.replicate n.toNat a).flatten := by
  unfold Txt.mul
  split
  · have e : n.toNat = 0 := by omega
    rw [e]; rfl
  · split
    · rename_i h
      rcases (by simpa using h : n = 1 ∨ (S a).length = 0) with h | h
      · rw [h]; simp
      · rw [S_len] at h
        have e : a = [] := List.eq_nil_of_length_eq_zero h
        subst e
        simp
    · have := foldl_rep a n.toNat #[]
      show Str.mk _ = _
      unfold S
      rw [this]; simp
theorem op_mul_str : OpR X (binaryOp .Mult) (fun x y H Q => ∃ (z : Str) (n : Int), x = .str z ∧ y = .int n ∧ MulOk z n ∧ Q (.str (Txt.mul z n)) H) := by
  intro pins s σ H x y v u Q I rx ry h
  obtain ⟨z, n, rfl, rfl, hm, q⟩ := h
  obtain ⟨t, rfl⟩ := rx
  obtain ⟨t', rfl⟩ := ry
  exact SB.mul hm fun t' k => ⟨.str _, H, I.tok _, ⟨_, rfl⟩, q⟩
theorem opd_mul : OpD X (binaryOp .Mult) dMul := by
  refine ⟨_, op_mul.or op_mul_str, fun G α ow σ H ρ g x y dx dy d Q s rx ry e w => ?_⟩
  unfold dMul at e
  split at e
  · split at e
    · rename_i hc
      cases e
      rw [rx.int, ry.int]
      exact .inl ⟨_, _, rfl, rfl, hc, w _ H Ext.refl s (.int _)⟩
    · cases e
  · split at e
    · rename_i a n hc
      cases e
      rw [rx.str, ry.int]
      refine .inr ⟨_, _, rfl, rfl, ⟨?_, fun h1 h2 => ?_, fun h1 h2 => ?_⟩, ?_⟩
      · have h1 : ¬ n < -(2 ^ 63 : Int) := by omega
        have h2 : ¬ n ≥ 2 ^ 63 := by omega
        rw [decide_eq_false h1, decide_eq_false h2]; rfl
      · rw [S_len]
        have h3 : 1 ≤ n := by omega
        have h4 : a.length ≤ 100000 := by
          have h5 : 1 ≤ n.toNat := by omega
          have h6 : a.length * 1 ≤ a.length * n.toNat := Nat.mul_le_mul_left _ h5
          have h7 := hc.2.2
          unfold BIG at h7
          omega
        have h5 : (100000 : Int) ≤ (2 ^ 63 - 1) / n := by
          apply Int.le_ediv_of_mul_le (by omega)
          omega
        omega
      · rw [S_len]
        have h7 := hc.2.2
        unfold BIG at h7
        have : ¬ a.length * n.toNat > 2 ^ 24 := by omega
        simpa [Builtin.Str.tooLong, sizeLine] using this
      · rw [mul_S a n hc.1]
        exact w _ H Ext.refl s (.str _)
    · cases e
  · cases e
theorem opd_mod : OpD X (binaryOp .Mod) dMod := by
  refine ⟨_, op_mod, fun G α ow σ H ρ g x y dx dy d Q s rx ry e w => ?_⟩
  unfold dMod at e
  split at e
  · split at e
    · rename_i hc
      cases e
      rw [rx.int, ry.int]
      exact ⟨_, _, rfl, rfl, hc, w _ H Ext.refl s (.int _)⟩
    · cases e
  · cases e
theorem opd_div : OpD X (binaryOp .FloorDiv) dDiv := by
  refine ⟨_, op_fdiv, fun G α ow σ H ρ g x y dx dy d Q s rx ry e w => ?_⟩
  unfold dDiv at e
  split at e
  · split at e
    · rename_i hc
      cases e
      rw [rx.int, ry.int]
      exact ⟨_, _, rfl, rfl, hc, w _ H Ext.refl s (.int _)⟩
    · cases e
  · cases e
theorem opd_pow : OpD X (binaryOp .Pow) dPow := by
  refine ⟨_, op_pow, fun G α ow σ H ρ g x y dx dy d Q s rx ry e w => ?_⟩
  unfold dPow at e
  split at e
  · split at e
    · rename_i hc
      cases e
      rw [rx.int, ry.int]
      exact ⟨_, _, rfl, rfl, ⟨hc.1, by have := hc.2.1; omega, hc.2.2⟩, w _ H Ext.refl s (.int _)⟩
    · cases e
  · cases e
/-! ### comparisons -/
def dLt : D → D → Option D
  | .int a, .int b => some (.bl (decide (a < b)))
  | .str a, .str b => some (.bl (decide (a < b)))
  | _, _ => none
def dLe : D → D → Option D
  | .int a, .int b => some (.bl (decide (a ≤ b)))
  | .str a, .str b => some (.bl (!decide (b < a)))
  | _, _ => none
def dGt : D → D → Option D
  | .int a, .int b => some (.bl (decide (b < a)))
  | .str a, .str b => some (.bl (decide (b < a)))
  | _, _ => none
def dGe : D → D → Option D
  | .int a, .int b => some (.bl (decide (b ≤ a)))
  | .str a, .str b => some (.bl (!decide (a < b)))
  | _, _ => none
theorem opd_lt : OpD X (compareOp .Lt) dLt := by
  refine ⟨_, op_lt.or op_lt_str, fun G α ow σ H ρ g x y dx dy d Q s rx ry e w => ?_⟩
  unfold dLt at e
  split at e
  · cases e
    rw [rx.int, ry.int]
    exact .inl ⟨_, _, rfl, rfl, w _ H Ext.refl s (.bl _)⟩
  · cases e
    rw [rx.str, ry.str]
    refine .inr ⟨_, _, rfl, rfl, ?_⟩
    rw [S_list, S_list]
    exact w _ H Ext.refl s (.bl _)
  · cases e
theorem opd_le : OpD X (compareOp .LtE) dLe := by
  refine ⟨_, op_le.or op_le_str, fun G α ow σ H ρ g x y dx dy d Q s rx ry e w => ?_⟩
  unfold dLe at e
  split at e
  · cases e
    rw [rx.int, ry.int]
    exact .inl ⟨_, _, rfl, rfl, w _ H Ext.refl s (.bl _)⟩
  · cases e
    rw [rx.str, ry.str]
    refine .inr ⟨_, _, rfl, rfl, ?_⟩
    rw [S_list, S_list]
    exact w _ H Ext.refl s (.bl _)
  · cases e
theorem opd_gt : OpD X (compareOp .Gt) dGt := by
  refine ⟨_, op_gt.or op_gt_str, fun G α ow σ H ρ g x y dx dy d Q s rx ry e w => ?_⟩
  unfold dGt at e
  split at e
  · cases e
    rw [rx.int, ry.int]
    exact .inl ⟨_, _, rfl, rfl, w _ H Ext.refl s (.bl _)⟩
  · cases e
    rw [rx.str, ry.str]
    refine .inr ⟨_, _, rfl, rfl, ?_⟩
    rw [S_list, S_list]
    exact w _ H Ext.refl s (.bl _)
  · cases e
theorem opd_ge : OpD X (compareOp .GtE) dGe := by
  refine ⟨_, op_ge.or op_ge_str, fun G α ow σ H ρ g x y dx dy d Q s rx ry e w => ?_⟩
  unfold dGe at e
  split at e
  · cases e
    rw [rx.int, ry.int]
    exact .inl ⟨_, _, rfl, rfl, w _ H Ext.refl s (.bl _)⟩
  · cases e
    rw [rx.str, ry.str]
    refine .inr ⟨_, _, rfl, rfl, ?_⟩
    rw [S_list, S_list]
    exact w _ H Ext.refl s (.bl _)
  · cases e
end
end L3

/-! L3g: ==, in, is, subscripts, slices. -/
namespace L3
open PySem PySem.Spec PyProof.Rows L2

mutual
def toPy : D → Option PyData
  | .non => some .none
  | .bl b => some (.bool b)
  | .int i => some (.int i)
  | .str s => some (.str (S s))
  | .lst xs => (toPys xs).map .list
  | .tup xs => (toPys xs).map .tuple
  | .dic _ => none
  | .obj _ => none
  | .sta _ => none
def toPys : List D → Option (List PyData)
  | [] => some []
  | x :: xs => match toPy x, toPys xs with
    | some a, some b => some (a :: b)
    | _, _ => none
end
theorem toPys_len : ∀ {ds : List D} {ps : List PyData}, toPys ds = some ps → ps.length = ds.length := by
  intro ds
  induction ds with
  | nil => intro ps h; simp only [toPys, Option.some.injEq] at h; subst h; rfl
  | cons x r ih =>
    intro ps h
    simp only [toPys] at h
    split at h
    · rename_i a b h1 h2
      cases h
      simp [ih h2]
    · cases h
theorem dpAll_of {K : PySem.W.Frag} {H : Hp} : ∀ {ds : List D} {xs : List V} {ps : List PyData}, toPys ds = some ps → xs.length = ds.length → (∀ (i : Nat) v d, xs[i]? = some v → ds[i]? = some d → ∀ p, toPy d = some p → Dp K H v p) → DpAll K H xs ps := by
  intro ds
  induction ds with
  | nil =>
    intro xs ps h hl _
    simp only [toPys, Option.some.injEq] at h
    subst h
    cases xs with
    | nil => exact .nil
    | cons x r => simp at hl
  | cons d r ih =>
    intro xs ps h hl hi
    simp only [toPys] at h
    split at h
    · rename_i a b h1 h2
      cases h
      cases xs with
      | nil => simp at hl
      | cons x xr => exact .cons (hi 0 x d rfl rfl a h1) (ih h2 (by simpa using hl) fun i v d' e1 e2 => hi (i + 1) v d' (by simpa using e1) (by simpa using e2))
    · cases h
theorem Rep.dp {A : Addr → Prop} {α : List Addr} {K : PySem.W.Frag} {H : Hp} {v : V} {d : D} (h : Rep A α K H v d) : ∀ p, toPy d = some p → Dp K H v p := by
  induction h with
  | non => intro p e; simp only [toPy, Option.some.injEq] at e; subst e; exact .non
  | bl b => intro p e; simp only [toPy, Option.some.injEq] at e; subst e; exact .bl b
  | int i => intro p e; simp only [toPy, Option.some.injEq] at e; subst e; exact .int i
  | str s => intro p e; simp only [toPy, Option.some.injEq] at e; subst e; exact .str _
  | lst hA h hl _ ih =>
    intro p e
    simp only [toPy, Option.map_eq_some_iff] at e
    obtain ⟨ps, e1, rfl⟩ := e
    exact .lst (.inl h) (dpAll_of e1 hl ih)
  | tup h hl _ ih =>
    intro p e
    simp only [toPy, Option.map_eq_some_iff] at e
    obtain ⟨ps, e1, rfl⟩ := e
    exact .tup h.sq (dpAll_of e1 hl ih)
  | dic => intro p e; simp only [toPy] at e; cases e
  | obj => intro p e; simp only [toPy] at e; cases e
  | sta => intro p e; simp only [toPy] at e; cases e
theorem BRep.dp {B : Addr → Prop} {α : List Addr} {ow : Nat → Option Addr} {K : PySem.W.Frag} {H : Hp} {v : V} {d : D} (h : BRep B α ow K H v d) : ∀ p, toPy d = some p → Dp K H v p := by
  cases h with
  | of h => exact h.dp
  | own h hn ho r =>
    intro p e
    simp only [toPy, Option.map_eq_some_iff] at e
    obtain ⟨ps, e1, rfl⟩ := e
    exact .lst (.inl (.inl ho)) (dpAll_of e1 r.1 fun i v d e1 e2 => (r.2 i v d e1 e2).dp)
  | ownd => intro p e; simp only [toPy] at e; cases e

def dEqP (x y : D) : Option Bool := match toPy x, toPy y with
  | some p, some q => if SeqAt.shaped p = true ∧ SeqAt.shaped q = true then some (PyData.eqv p q) else none
  | _, _ => none
def dEqB : D → D → Option Bool
  | .int a, .int b => some (decide (a = b))
  | .str a, .str b => some (decide (a = b))
  | .bl a, .bl b => some (decide (a = b))
  | .non, .non => some true
  | .non, .str _ => some false
  | .str _, .non => some false
  | .non, .int _ => some false
  | .int _, .non => some false
  | x, y => dEqP x y
def dEq (x y : D) : Option D := (dEqB x y).map .bl
def dNe (x y : D) : Option D := (dEqB x y).map fun b => .bl (!b)
section
variable {X : Cx}
theorem dEqB_read {B : Addr → Prop} {α : List Addr} {ow : Nat → Option Addr} {K : PySem.W.Frag} {H : Hp} {x y : V} {dx dy : D} {b : Bool} (rx : BRep B α ow K H x dx) (ry : BRep B α ow K H y dy) (e : dEqB dx dy = some b) :
    (scal x y = true ∧ decide (x = y) = b) ∨ ∃ p q, Dp K H x p ∧ Dp K H y q ∧ SeqAt.shaped p = true ∧ SeqAt.shaped q = true ∧ PyData.eqv p q = b := by
  unfold dEqB at e
  split at e
  · cases e; rw [rx.int, ry.int]; exact .inl ⟨rfl, by simp⟩
  · cases e; rw [rx.str, ry.str]; exact .inl ⟨rfl, by rw [decide_eq_decide]; exact ⟨fun h => S_inj (V.str.inj h), fun h => by rw [h]⟩⟩
  · cases e; rw [rx.bl, ry.bl]; exact .inl ⟨rfl, by simp⟩
  · cases e; rw [rx.non, ry.non]; exact .inl ⟨rfl, by simp⟩
  · cases e; rw [rx.non, ry.str]; exact .inl ⟨rfl, by simp⟩
  · cases e; rw [rx.str, ry.non]; exact .inl ⟨rfl, by simp⟩
  · cases e; rw [rx.non, ry.int]; exact .inl ⟨rfl, by simp⟩
  · cases e; rw [rx.int, ry.non]; exact .inl ⟨rfl, by simp⟩
  · unfold dEqP at e
    split at e
    · rename_i p q h1 h2
      split at e
      · rename_i hs
        cases e
        exact .inr ⟨p, q, rx.dp p h1, ry.dp q h2, hs.1, hs.2, rfl⟩
      · cases e
    · cases e
theorem opd_eq (hu : X.A.units + 64 < cLine) : OpD X (compareOp .Eq) dEq := by
  refine ⟨_, op_eq.or (op_eqD hu), fun G α ow σ H ρ g x y dx dy d Q s rx ry e w => ?_⟩
  unfold dEq at e
  rw [Option.map_eq_some_iff] at e
  obtain ⟨b, e, rfl⟩ := e
  rcases dEqB_read rx ry e with ⟨h1, h2⟩ | ⟨p, q, h1, h2, h3, h4, h5⟩
  · exact .inl ⟨h1, by rw [h2]; exact w _ H Ext.refl s (.bl _)⟩
  · exact .inr ⟨p, q, h1, h2, h3, h4, by rw [h5]; exact w _ H Ext.refl s (.bl _)⟩
theorem opd_ne (hu : X.A.units + 64 < cLine) : OpD X (compareOp .NotEq) dNe := by
  refine ⟨_, op_ne.or (op_neD hu), fun G α ow σ H ρ g x y dx dy d Q s rx ry e w => ?_⟩
  unfold dNe at e
  rw [Option.map_eq_some_iff] at e
  obtain ⟨b, e, rfl⟩ := e
  rcases dEqB_read rx ry e with ⟨h1, h2⟩ | ⟨p, q, h1, h2, h3, h4, h5⟩
  · exact .inl ⟨h1, by rw [h2]; exact w _ H Ext.refl s (.bl _)⟩
  · exact .inr ⟨p, q, h1, h2, h3, h4, by rw [h5]; exact w _ H Ext.refl s (.bl _)⟩
/-! is None -/
def isNon : D → Bool
  | .non => true
  | _ => false
def dIs : D → D → Option D
  | x, .non => some (.bl (isNon x))
  | _, _ => none
def dIsNot : D → D → Option D
  | x, .non => some (.bl (!isNon x))
  | _, _ => none
theorem BRep.isNon {B : Addr → Prop} {α : List Addr} {ow : Nat → Option Addr} {K : PySem.W.Frag} {H : Hp} {x : V} {d : D} (h : BRep B α ow K H x d) : decide (x = .non) = isNon d := by
  cases h with
  | of h => cases h <;> simp [L3.isNon]
  | own => simp [L3.isNon]
  | ownd => simp [L3.isNon]
theorem opd_is : OpD X (compareOp .Is) dIs := by
  refine ⟨_, op_isN, fun G α ow σ H ρ g x y dx dy d Q s rx ry e w => ?_⟩
  unfold dIs at e
  split at e
  · cases e
    refine ⟨ry.non, ?_⟩
    rw [rx.isNon]
    exact w _ H Ext.refl s (.bl _)
  · cases e
theorem opd_isnot : OpD X (compareOp .IsNot) dIsNot := by
  refine ⟨_, op_notN, fun G α ow σ H ρ g x y dx dy d Q s rx ry e w => ?_⟩
  unfold dIsNot at e
  split at e
  · cases e
    refine ⟨ry.non, ?_⟩
    rw [rx.isNon]
    exact w _ H Ext.refl s (.bl _)
  · cases e
/-! in -/
def flatD : D → Bool
  | .non => true | .bl _ => true | .int _ => true | .str _ => true | _ => false
def eqFl : D → D → Bool
  | .non, .non => true
  | .bl a, .bl b => a == b
  | .bl a, .int b => (if a then 1 else 0) == b
  | .int a, .bl b => a == (if b then 1 else 0)
  | .int a, .int b => a == b
  | .str a, .str b => a == b
  | _, _ => false
def inD (x : D) (xs : List D) : Bool := xs.any fun y => eqFl y x
def dInB : D → D → Option Bool
  | .str [c], .str z => some (decide (c ∈ z))
  | x, .lst xs => if flatD x = true ∧ xs.all flatD = true then some (inD x xs) else none
  | x, .tup xs => if flatD x = true ∧ xs.all flatD = true then some (inD x xs) else none
  | _, _ => none
def dIn (x y : D) : Option D := (dInB x y).map .bl
def dNotIn (x y : D) : Option D := (dInB x y).map fun b => .bl (!b)
theorem Rep.flat {A : Addr → Prop} {α : List Addr} {K : PySem.W.Frag} {H : Hp} {v : V} {d : D} (h : Rep A α K H v d) (hf : flatD d = true) : flatV v = true := by
  cases h <;> first | rfl | cases hf
theorem Rep.eqFl {A A' : Addr → Prop} {α α' : List Addr} {K : PySem.W.Frag} {H : Hp} {v w : V} {d e : D} (h : Rep A α K H v d) (h2 : Rep A' α' K H w e) (hf : flatD d = true) (hg : flatD e = true) : eqV v w = L3.eqFl d e := by
  cases h <;> first | (exfalso; exact Bool.false_ne_true hf) | (cases h2 <;> first | (exfalso; exact Bool.false_ne_true hg) | rfl | (simp only [eqV, L3.eqFl]; rw [Bool.eq_iff_iff, beq_iff_eq, beq_iff_eq]; exact ⟨S_inj, fun h => by rw [h]⟩))
theorem RepAll.inV {A A' : Addr → Prop} {α α' : List Addr} {K : PySem.W.Frag} {H : Hp} {x : V} {d : D} (hx : Rep A' α' K H x d) (hf : flatD d = true) : ∀ {vs : List V} {ds : List D}, RepAll A α K H vs ds → ds.all flatD = true → vs.all flatV = true ∧ inV x vs = inD d ds
  | [], ds, r, _ => by
    have : ds = [] := List.eq_nil_of_length_eq_zero r.1.symm
    subst this
    exact ⟨rfl, rfl⟩
  | v :: vs, [], r, _ => absurd r.1 (by simp)
  | v :: vs, e :: ds, r, hg => by
    obtain ⟨v', r', ev, h1, h2⟩ := r.uncons
    cases ev
    simp only [List.all_cons, Bool.and_eq_true] at hg
    obtain ⟨i1, i2⟩ := RepAll.inV hx hf h2 hg.2
    refine ⟨by simp [h1.flat hg.1, i1], ?_⟩
    unfold L2.inV inD at *
    rw [List.any_cons, List.any_cons, i2, h1.eqFl hx hg.1 hf]
theorem flat_rep {B : Addr → Prop} {α : List Addr} {ow : Nat → Option Addr} {K : PySem.W.Frag} {H : Hp} {x : V} {d : D} (h : BRep B α ow K H x d) (hf : flatD d = true) : Rep (Al B α ow) α K H x d := by
  cases h with
  | of h => exact h
  | own => cases hf
  | ownd => cases hf
theorem dInB_read {B : Addr → Prop} {α : List Addr} {ow : Nat → Option Addr} {K : PySem.W.Frag} {H : Hp} {x y : V} {dx dy : D} {b : Bool} (rx : BRep B α ow K H x dx) (ry : BRep B α ow K H y dy) (e : dInB dx dy = some b) :
    (∃ (c : Nat) (z : Str), x = .str ⟨#[c]⟩ ∧ y = .str z ∧ decide (c ∈ z.cps.toList) = b) ∨ ∃ p xs, y = .ref p ∧ (SqL K H p xs ∨ SqT K H p xs) ∧ flatV x = true ∧ xs.all flatV = true ∧ inV x xs = b := by
  unfold dInB at e
  split at e
  · cases e
    rw [rx.str, ry.str]
    exact .inl ⟨_, _, rfl, rfl, by rw [S_list]⟩
  · split at e
    · rename_i hf
      cases e
      obtain ⟨a, vs, rfl, h1, h2⟩ := ry.lst
      have hx := flat_rep rx hf.1
      obtain ⟨i1, i2⟩ := RepAll.inV hx hf.1 h2 hf.2
      exact .inr ⟨a, vs, rfl, .inl (.inl h1), hx.flat hf.1, i1, i2⟩
    · cases e
  · split at e
    · rename_i hf
      cases e
      obtain ⟨a, vs, rfl, h1, h2⟩ := ry.tup
      have hx := flat_rep rx hf.1
      obtain ⟨i1, i2⟩ := RepAll.inV hx hf.1 h2 hf.2
      exact .inr ⟨a, vs, rfl, .inr h1, hx.flat hf.1, i1, i2⟩
    · cases e
  · cases e
theorem opd_in : OpD X (compareOp .In) dIn := by
  refine ⟨_, op_in_sign.or op_in_seq, fun G α ow σ H ρ g x y dx dy d Q s rx ry e w => ?_⟩
  unfold dIn at e
  rw [Option.map_eq_some_iff] at e
  obtain ⟨b, e, rfl⟩ := e
  rcases dInB_read rx ry e with ⟨c, z, h1, h2, h3⟩ | ⟨p, xs, h1, h2, h3, h4, h5⟩
  · exact .inl ⟨c, z, h1, h2, by rw [h3]; exact w _ H Ext.refl s (.bl _)⟩
  · exact .inr ⟨p, xs, h1, h2, h3, h4, by rw [if_neg (by decide), h5]; exact w _ H Ext.refl s (.bl _)⟩
theorem opd_notin : OpD X (compareOp .NotIn) dNotIn := by
  refine ⟨_, op_notIn_sign.or op_notIn_seq, fun G α ow σ H ρ g x y dx dy d Q s rx ry e w => ?_⟩
  unfold dNotIn at e
  rw [Option.map_eq_some_iff] at e
  obtain ⟨b, e, rfl⟩ := e
  rcases dInB_read rx ry e with ⟨c, z, h1, h2, h3⟩ | ⟨p, xs, h1, h2, h3, h4, h5⟩
  · exact .inl ⟨c, z, h1, h2, by rw [h3]; exact w _ H Ext.refl s (.bl _)⟩
  · exact .inr ⟨p, xs, h1, h2, h3, h4, by rw [if_pos rfl, h5]; exact w _ H Ext.refl s (.bl _)⟩
end
end L3

/-! L3h: subscripts, slices, chains, truth, built-in calls. -/
namespace L3
open PySem PySem.Spec PyProof.Rows L2

theorem RepAll.atI {A : Addr → Prop} {α : List Addr} {K : PySem.W.Frag} {H : Hp} {vs : List V} {ds : List D} {i : Int} {d : D} (h : RepAll A α K H vs ds) (e : atI ds i = some d) : ∃ v, atI vs i = some v ∧ Rep A α K H v d := by
  unfold L2.atI at e ⊢
  rw [h.1]
  cases q : ixN ds.length i with
  | none => rw [q] at e; cases e
  | some j =>
    rw [q] at e
    exact h.get e
def cutL {β : Type} (xs : List β) (lo hi : Option Int) : List β := (xs.drop (HT.sIx xs.length 0 lo)).take (HT.sIx xs.length xs.length hi - HT.sIx xs.length 0 lo)
theorem RepAll.cut {A : Addr → Prop} {α : List Addr} {K : PySem.W.Frag} {H : Hp} {vs : List V} {ds : List D} (lo hi : Option Int) (h : RepAll A α K H vs ds) : RepAll A α K H (cutV vs lo hi) (cutL ds lo hi) := by
  unfold cutV cutL
  rw [h.1]
  exact (h.drop _).take _
theorem cutS_S (s : List Nat) (lo hi : Option Int) : cutS (S s) lo hi = S (cutL s lo hi) := by
  unfold cutS cutL
  rw [S_list, S_len]
  rfl
def dIx : D → D → Option D
  | .lst xs, .int i => atI xs i
  | .tup xs, .int i => atI xs i
  | .str s, .int i => if s.length ≤ BIG then (atI s i).map fun c => .str [c] else none
  | _, _ => none
section
variable {X : Cx} {a b c : Expr} {fa fb fc : DE} {pos : Pos}
def IxD (X : Cx) (op : D → D → Option D) : Prop := ∃ r, IxR X r ∧ ∀ G α ow σ H ρ g x y dx dy d Q, Sat X.K G α ow σ H ρ g → BRep G.B α ow X.K H x dx → BRep G.B α ow X.K H y dy →
  op dx dy = some d → Wants X.K G α ow σ H ρ g d Q → r x y H Q
theorem ixd : IxD X dIx := by
  refine ⟨_, ix_list.or (ix_tup.or ix_str), fun G α ow σ H ρ g x y dx dy d Q s rx ry e w => ?_⟩
  unfold dIx at e
  split at e
  · obtain ⟨p, vs, rfl, h1, h2⟩ := rx.lst
    obtain ⟨v, e2, r2⟩ := h2.atI e
    rw [ry.int]
    exact .inl ⟨p, vs, _, v, rfl, rfl, .inl h1, e2, w _ H Ext.refl s r2⟩
  · obtain ⟨p, vs, rfl, h1, h2⟩ := rx.tup
    obtain ⟨v, e2, r2⟩ := h2.atI e
    rw [ry.int]
    exact .inr (.inl ⟨p, vs, _, v, rfl, rfl, h1, e2, w _ H Ext.refl s r2⟩)
  · split at e
    · rename_i hl
      rw [Option.map_eq_some_iff] at e
      obtain ⟨k, e, rfl⟩ := e
      rw [rx.str, ry.int]
      refine .inr (.inr ⟨_, _, k, rfl, rfl, by rw [S_len]; exact Nat.le_trans hl big_line, by rw [S_list]; exact e, w _ H Ext.refl s (.str [k])⟩)
    · cases e
  · cases e
theorem ec_ix {op : D → D → Option D} (ho : IxD X op) (ha : EB X a fa) (hb : EB X b fb) (hs : PlainIx b := by exact fun _ _ => rfl) : EC X (.Subscript a b pos) (eOp op fa fb) := by
  obtain ⟨r, hr, hq⟩ := ho
  obtain ⟨ta, pa, ha⟩ := ha
  obtain ⟨tb, pb, hb⟩ := hb
  refine ⟨_, pe_ix hr pa pb hs, fun G α ow σ H ρ g d g' Q s e w => ?_⟩
  exact eb_bin ha hb s e fun x y dx dy H' α' x1 s1 r1 r2 e2 => hq G α' ow σ H' ρ g' x y dx dy d Q s1 r1 r2 e2 fun v H2 x2 s2 r => w v H2 α' (x1.trans x2) s2 r

/-! ### slices -/
abbrev DO := M (Option Int)
def oNone : DO := fun _ g => some (none, g)
def oSome (f : DE) : DO := bindM f fun x => liftM (match x with | .int i => some (some i) | _ => none)
def OC (X : Cx) (e : Option Expr) (f : DO) : Prop := ∃ t, PO X e t ∧ ∀ G α ow σ H ρ g o g' Q, Sat X.K G α ow σ H ρ g → f ρ g = some (o, g') → (∀ H' α', Ext α H α' H' → Sat X.K G α' ow σ H' ρ g' → Q o H') → t σ H Q
theorem oc_none : OC X none oNone := ⟨_, po_none, fun G α ow σ H ρ g o g' Q s e w => by cases e; exact w H α Ext.refl s⟩
theorem oc_some (h : EC X a fa) : OC X (some a) (oSome fa) := by
  obtain ⟨t, pt, hq⟩ := h
  refine ⟨_, po_some pt, fun G α ow σ H ρ g o g' Q s e w => ?_⟩
  obtain ⟨x, g1, e1, e2⟩ := bindM_some e
  obtain ⟨e3, rfl⟩ := liftM_some e2
  split at e3
  · cases e3
    refine hq G α ow σ H ρ g _ g1 _ s e1 fun v H' α' x s' r => ?_
    cases r
    exact ⟨_, rfl, w H' α' x s'⟩
  · cases e3
def eSl (φ : D → Option Int → Option Int → Option D) (f : DE) (lo hi : DO) : DE := bindM f fun x => bindM lo fun l => bindM hi fun h => liftM (φ x l h)
def aSl (f : DE) (lo hi : DO) : DA := bindM f fun x => bindM lo fun l => bindM hi fun h => liftM (match x with | .lst xs => some (cutL xs l h) | _ => none)
def dSl : D → Option Int → Option Int → Option D
  | .str s, l, h => if s.length ≤ BIG then some (.str (cutL s l h)) else none
  | .lst xs, l, h => some (.lst (cutL xs l h))
  | .tup xs, l, h => some (.tup (cutL xs l h))
  | _, _, _ => none
theorem cut_whole {β : Type} {xs : List β} {lo hi : Option Int} (h : HT.sIx xs.length 0 lo = 0 ∧ HT.sIx xs.length xs.length hi = xs.length) : cutL xs lo hi = xs := by
  unfold cutL
  rw [h.1, h.2]
  simp
theorem ec_slice {lo hi : Option Expr} {fl fh : DO} {p2 : Pos} (ha : EB X a fa) (hl : OC X lo fl) (hh : OC X hi fh) : EC X (.Subscript a (.Slice lo hi none p2) pos) (eSl dSl fa fl fh) := by
  obtain ⟨t, pt, hq⟩ := ha
  obtain ⟨tl, pl, ql⟩ := hl
  obtain ⟨th, ph, qh⟩ := hh
  refine ⟨_, pe_slice (sl_str.or (sl_list.or sl_tupZ)) pt pl ph, fun G α ow σ H ρ g d g' Q s e w => ?_⟩
  obtain ⟨x, g1, e1, e2⟩ := bindM_some e
  obtain ⟨l, g2, e3, e4⟩ := bindM_some e2
  obtain ⟨h, g3, e5, e6⟩ := bindM_some e4
  obtain ⟨e7, rfl⟩ := liftM_some e6
  refine hq G α ow σ H ρ g x g1 _ s e1 fun v H1 α1 x1 s1 r1 => ?_
  refine ql G α1 ow σ H1 ρ g1 l g2 _ s1 e3 fun H2 α2 x2 s2 => ?_
  refine qh G α2 ow σ H2 ρ g2 h g3 _ s2 e5 fun H3 α3 x3 s3 => ?_
  have r3 := (r1.ext x2).ext x3
  have xx := (x1.trans x2).trans x3
  unfold dSl at e7
  split at e7
  · split at e7
    · rename_i hb
      cases e7
      rw [r3.str]
      exact .inl ⟨_, rfl, by rw [S_len]; exact Nat.le_trans hb big_line, by rw [cutS_S]; exact w _ H3 α3 xx s3 (.str _)⟩
    · cases e7
  · cases e7
    obtain ⟨p, vs, rfl, h1, h2⟩ := r3.lst
    exact .inr (.inl ⟨p, vs, rfl, .inl h1, fun q hq => w _ _ α3 (xx.trans (Ext.new hq)) (s3.new hq) (s3.newL hq (h2.cut l h))⟩)
  · cases e7
    obtain ⟨p, vs, rfl, h1, h2⟩ := r3.tup
    refine .inr (.inr ⟨p, vs, rfl, h1, fun hw => ?_, fun hw q o hq ho => w _ _ α3 (xx.trans (Ext.new hq)) (s3.new hq) (s3.newT hq ho (h2.cut l h))⟩)
    rw [h2.1] at hw
    rw [cut_whole hw] at w
    cases r3 with
    | of r3 => exact w _ H3 α3 xx s3 r3
  · cases e7
theorem ef_slice {lo hi : Option Expr} {fl fh : DO} {p2 : Pos} (ha : EB X a fa) (hl : OC X lo fl) (hh : OC X hi fh) : EF X (.Subscript a (.Slice lo hi none p2) pos) (aSl fa fl fh) := by
  obtain ⟨t, pt, hq⟩ := ha
  obtain ⟨tl, pl, ql⟩ := hl
  obtain ⟨th, ph, qh⟩ := hh
  refine ⟨_, pe_slice sl_list pt pl ph, fun G α ow σ H ρ g d g' Q s e w => ?_⟩
  obtain ⟨x, g1, e1, e2⟩ := bindM_some e
  obtain ⟨l, g2, e3, e4⟩ := bindM_some e2
  obtain ⟨h, g3, e5, e6⟩ := bindM_some e4
  obtain ⟨e7, rfl⟩ := liftM_some e6
  refine hq G α ow σ H ρ g x g1 _ s e1 fun v H1 α1 x1 s1 r1 => ?_
  refine ql G α1 ow σ H1 ρ g1 l g2 _ s1 e3 fun H2 α2 x2 s2 => ?_
  refine qh G α2 ow σ H2 ρ g2 h g3 _ s2 e5 fun H3 α3 x3 s3 => ?_
  have r3 := (r1.ext x2).ext x3
  have xx := (x1.trans x2).trans x3
  split at e7
  · cases e7
    obtain ⟨p, vs, rfl, h1, h2⟩ := r3.lst
    exact ⟨p, vs, rfl, .inl h1, fun q hq => w q _ H3 α3 xx s3 hq (h2.cut l h) _ rfl⟩
  · cases e7
/-! ### a < b < c -/
def eChain (o o' : D → D → Option D) (a b c : DE) : DE := bindM a fun x => bindM b fun y => bindM (liftM (o x y)) fun z => match z with
  | .bl true => bindM c fun u => liftM (o' y u)
  | .bl false => eC (.bl false)
  | _ => fun _ _ => none
theorem ec_chain {op op' : CmpOp} {o o' : D → D → Option D} (ho : OpD X (compareOp op) o) (ho' : OpD X (compareOp op') o') (ha : EB X a fa) (hb : EB X b fb) (hc : EB X c fc)
    (hm : lastMarks [op, op'] [b, c] = false := by with_unfolding_all rfl) : EC X (.Compare a [op, op'] [b, c] pos) (eChain o o' fa fb fc) := by
  obtain ⟨r, hr, hq⟩ := ho
  obtain ⟨r', hr', hq'⟩ := ho'
  obtain ⟨ta, pa, ha⟩ := ha
  obtain ⟨tb, pb, hb⟩ := hb
  obtain ⟨tc, pc, hc⟩ := hc
  refine ⟨_, pe_chain hr hr' pa pb pc hm, fun G α ow σ H ρ g d g' Q s e w => ?_⟩
  obtain ⟨x, g1, e1, e2⟩ := bindM_some e
  obtain ⟨y, g2, e3, e4⟩ := bindM_some e2
  obtain ⟨z, g3, e5, e6⟩ := bindM_some e4
  obtain ⟨e7, rfl⟩ := liftM_some e5
  refine ha G α ow σ H ρ g x g1 _ s e1 fun v H1 α1 x1 s1 r1 => ?_
  refine hb G α1 ow σ H1 ρ g1 y g2 _ s1 e3 fun u H2 α2 x2 s2 r2 => ?_
  refine hq G α2 ow σ H2 ρ g2 v u x y z _ s2 (r1.ext x2) r2 e7 fun k H3 x3 s3 r3 => ?_
  split at e6
  · cases r3
    refine ⟨_, rfl, ?_⟩
    rw [if_pos rfl]
    obtain ⟨u', g4, e8, e9⟩ := bindM_some e6
    obtain ⟨e10, rfl⟩ := liftM_some e9
    refine hc G α2 ow σ H3 ρ g2 u' g4 _ s3 e8 fun q H4 α4 x4 s4 r4 => ?_
    exact hq' G α4 ow σ H4 ρ g4 u q y u' d Q s4 ((r2.ext x3).ext x4) r4 e10 fun v5 H5 x5 s5 r5 => w v5 H5 α4 ((((x1.trans x2).trans x3).trans x4).trans x5) s5 r5
  · cases r3
    cases e6
    refine ⟨_, rfl, ?_⟩
    rw [if_neg (by decide)]
    exact w _ H3 α2 ((x1.trans x2).trans x3) s3 (.bl _)
  · cases e6
/-! ### truth of any value -/
def truD : D → Option Bool
  | .non => some false
  | .bl b => some b
  | .int i => some (i != 0)
  | .str s => if s.length ≤ BIG then some (!s.isEmpty) else none
  | .lst xs => some (!xs.isEmpty)
  | .tup xs => some (!xs.isEmpty)
  | _ => none
def tTru (f : DE) : DT := bindM f fun x => liftM (truD x)
theorem isEmpty_len {A : Addr → Prop} {α : List Addr} {K : PySem.W.Frag} {H : Hp} {vs : List V} {ds : List D} (h : RepAll A α K H vs ds) : (!ds.isEmpty) = !vs.isEmpty := by
  have := h.1
  cases vs <;> cases ds <;> simp_all
theorem truD_read {B : Addr → Prop} {α : List Addr} {ow : Nat → Option Addr} {K : PySem.W.Frag} {H : Hp} {x : V} {d : D} {k : Bool} (r : BRep B α ow K H x d) (e : truD d = some k) : TruV K x H k := by
  unfold truD at e
  split at e
  · cases e; rw [r.non]; rfl
  · cases e; rw [r.bl]; rfl
  · cases e; rw [r.int]; rfl
  · split at e
    · rename_i z hl
      cases e
      rw [r.str]
      refine ⟨by rw [S_len]; exact Nat.le_trans hl big_line, ?_⟩
      rw [S_len]
      cases z with
      | nil => rfl
      | cons c t =>
        rw [List.length_cons]
        simp only [List.isEmpty_cons, Bool.not_false]
        symm
        rw [bne_iff_ne]
        omega
    · cases e
  · cases e
    obtain ⟨p, vs, rfl, h1, h2⟩ := r.lst
    exact .inl ⟨vs, .inl h1, isEmpty_len h2⟩
  · cases e
    obtain ⟨p, vs, rfl, h1, h2⟩ := r.tup
    exact .inr (.inl ⟨vs, h1, isEmpty_len h2⟩)
  · cases e
theorem tc_tru (h : EB X a fa) (he : ∀ whole, isTrue a X.env whole = (do let v ← whole; standAt a.pos; holding [v] (truthy v)) := by intro _; rfl) : TC X a (tTru fa) := by
  obtain ⟨t, pt, hq⟩ := h
  refine ⟨_, pt_truth pt he, fun G α ow σ H ρ g k g' Q s e w => ?_⟩
  obtain ⟨d, g1, e1, e2⟩ := bindM_some e
  obtain ⟨e3, rfl⟩ := liftM_some e2
  exact hq G α ow σ H ρ g d g1 _ s e1 fun v H2 α2 x2 s2 r => ⟨k, truD_read r e3, w H2 α2 x2 s2⟩
end

/-! ### calls of built-ins -/
def CallD (X : Cx) (f : Value) (φ : List D → Option D) : Prop := ∃ r, CallR X f r ∧ ∀ G α ow σ H ρ g vs ds d Q, Sat X.K G α ow σ H ρ g → BRepAll G.B α ow X.K H vs ds → φ ds = some d → Wants X.K G α ow σ H ρ g d Q → r vs H Q
def CallF (X : Cx) (f : Value) (φ : List D → Option (List D)) : Prop := ∃ r, CallR X f r ∧ ∀ G α ow σ H ρ g vs ds d (Q : VK), Sat X.K G α ow σ H ρ g → BRepAll G.B α ow X.K H vs ds → φ ds = some d →
  (∀ p us, H p = none → RepAll (Al G.B α ow) α X.K H us d → Q (.ref p) (upd H p (.lst us))) → r vs H Q
section
variable {X : Cx} {x : Str} {p pos : Pos} {e : Expr} {es : List Expr} {fs : DA} {id T : String}
theorem ec_callB {φ : List D → Option D} (hc : CallD X (.builtin id) φ) (hm : X.mg x = none) (hv : bootBuiltins x = some (.builtin id)) (ha : AB X (e :: es) fs) (hg : Gl X x := by rfl) (hn : x ≠ "__name__" := by decide) (hdb : (x == ("__debug__" : Str)) = false := by decide)
    (he : starEach (e :: es) X.env = (false, eval e X.env) :: starEach es X.env := by rfl) (hpl : (backTo pos (starEach es X.env)).any (·.1) = false := by rfl) : EC X (.Call (.Name x p) (e :: es) [] pos) (eFn φ fs) := by
  obtain ⟨r, hr, hq⟩ := hc
  obtain ⟨t, pt, qa⟩ := ha
  refine ⟨_, pe_callB hr hg hm hv pt hn hdb he hpl, fun G α ow σ H ρ g d g' Q s e w => ?_⟩
  obtain ⟨xs, g1, e1, e2⟩ := bindM_some e
  obtain ⟨e3, rfl⟩ := liftM_some e2
  exact qa G α ow σ H ρ g xs g1 _ s e1 fun vs H1 α1 x1 s1 r1 => hq G α1 ow σ H1 ρ g1 vs xs d Q s1 r1 e3 fun v H2 x2 s2 r2 => w v H2 α1 (x1.trans x2) s2 r2
theorem ec_callT {φ : List D → Option D} (hc : CallD X (.type T) φ) (hm : X.mg x = none) (hv : bootBuiltins x = some (.type T)) (ha : AB X (e :: es) fs) (hg : Gl X x := by rfl) (hn : x ≠ "__name__" := by decide) (hdb : (x == ("__debug__" : Str)) = false := by decide)
    (he : starEach (e :: es) X.env = (false, eval e X.env) :: starEach es X.env := by rfl) (hpl : (backTo pos (starEach es X.env)).any (·.1) = false := by rfl) : EC X (.Call (.Name x p) (e :: es) [] pos) (eFn φ fs) := by
  obtain ⟨r, hr, hq⟩ := hc
  obtain ⟨t, pt, qa⟩ := ha
  refine ⟨_, pe_callTy hr hg hm hv pt hn hdb he hpl, fun G α ow σ H ρ g d g' Q s e w => ?_⟩
  obtain ⟨xs, g1, e1, e2⟩ := bindM_some e
  obtain ⟨e3, rfl⟩ := liftM_some e2
  exact qa G α ow σ H ρ g xs g1 _ s e1 fun vs H1 α1 x1 s1 r1 => hq G α1 ow σ H1 ρ g1 vs xs d Q s1 r1 e3 fun v H2 x2 s2 r2 => w v H2 α1 (x1.trans x2) s2 r2
theorem ef_callB {φ : List D → Option (List D)} (hc : CallF X (.builtin id) φ) (hm : X.mg x = none) (hv : bootBuiltins x = some (.builtin id)) (ha : AB X (e :: es) fs) (hg : Gl X x := by rfl) (hn : x ≠ "__name__" := by decide) (hdb : (x == ("__debug__" : Str)) = false := by decide)
    (he : starEach (e :: es) X.env = (false, eval e X.env) :: starEach es X.env := by rfl) (hpl : (backTo pos (starEach es X.env)).any (·.1) = false := by rfl) : EF X (.Call (.Name x p) (e :: es) [] pos) (aFn φ fs) := by
  obtain ⟨r, hr, hq⟩ := hc
  obtain ⟨t, pt, qa⟩ := ha
  refine ⟨_, pe_callB hr hg hm hv pt hn hdb he hpl, fun G α ow σ H ρ g d g' Q s e w => ?_⟩
  obtain ⟨xs, g1, e1, e2⟩ := bindM_some e
  obtain ⟨e3, rfl⟩ := liftM_some e2
  exact qa G α ow σ H ρ g xs g1 _ s e1 fun vs H1 α1 x1 s1 r1 => hq G α1 ow σ H1 ρ g1 vs xs d Q s1 r1 e3 fun q us hq r2 => w q us H1 α1 x1 s1 hq r2 _ rfl
theorem ef_callT {φ : List D → Option (List D)} (hc : CallF X (.type T) φ) (hm : X.mg x = none) (hv : bootBuiltins x = some (.type T)) (ha : AB X (e :: es) fs) (hg : Gl X x := by rfl) (hn : x ≠ "__name__" := by decide) (hdb : (x == ("__debug__" : Str)) = false := by decide)
    (he : starEach (e :: es) X.env = (false, eval e X.env) :: starEach es X.env := by rfl) (hpl : (backTo pos (starEach es X.env)).any (·.1) = false := by rfl) : EF X (.Call (.Name x p) (e :: es) [] pos) (aFn φ fs) := by
  obtain ⟨r, hr, hq⟩ := hc
  obtain ⟨t, pt, qa⟩ := ha
  refine ⟨_, pe_callTy hr hg hm hv pt hn hdb he hpl, fun G α ow σ H ρ g d g' Q s e w => ?_⟩
  obtain ⟨xs, g1, e1, e2⟩ := bindM_some e
  obtain ⟨e3, rfl⟩ := liftM_some e2
  exact qa G α ow σ H ρ g xs g1 _ s e1 fun vs H1 α1 x1 s1 r1 => hq G α1 ow σ H1 ρ g1 vs xs d Q s1 r1 e3 fun q us hq r2 => w q us H1 α1 x1 s1 hq r2 _ rfl
def dLen : List D → Option D
  | [.str s] => if s.length ≤ BIG then some (.int s.length) else none
  | [.lst xs] => some (.int xs.length)
  | [.tup xs] => some (.int xs.length)
  | _ => none
theorem OrR {f : Value} {r r' : List V → Hp → VK → Prop} (h : CallR X f r) (h' : CallR X f r') : CallR X f (fun xs H Q => r xs H Q ∨ r' xs H Q) := fun pins s σ H xs us Q I rv q => q.elim (h pins s σ H xs us Q I rv) (h' pins s σ H xs us Q I rv)
theorem cd_len : CallD X (.builtin "len") dLen := by
  refine ⟨_, call_len, fun G α ow σ H ρ g vs ds d Q s r e w => ?_⟩
  unfold dLen at e
  split at e
  · split at e
    · rename_i hl
      cases e
      obtain ⟨v, rfl, r1⟩ := BRepAll.one1 r
      rw [r1.str]
      exact ⟨_, _, rfl, ⟨by rw [S_len]; exact Nat.le_trans hl big_line, (S_len _).symm⟩, w _ H Ext.refl s (.int _)⟩
    · cases e
  · cases e
    obtain ⟨v, rfl, r1⟩ := BRepAll.one1 r
    obtain ⟨p, vs, rfl, h1, h2⟩ := r1.lst
    exact ⟨_, _, rfl, .inl ⟨vs, .inl h1, h2.1.symm⟩, w _ H Ext.refl s (.int _)⟩
  · cases e
    obtain ⟨v, rfl, r1⟩ := BRepAll.one1 r
    obtain ⟨p, vs, rfl, h1, h2⟩ := r1.tup
    exact ⟨_, _, rfl, .inr ⟨vs, h1, h2.1.symm⟩, w _ H Ext.refl s (.int _)⟩
  · cases e
/-- a list of bools -/
def bools : List D → Option (List Bool)
  | [] => some []
  | .bl b :: r => (bools r).map (b :: ·)
  | _ => none
theorem bools_rep {A : Addr → Prop} {α : List Addr} {K : PySem.W.Frag} {H : Hp} : ∀ {vs : List V} {ds : List D} {bs : List Bool}, RepAll A α K H vs ds → bools ds = some bs → vs = bs.map V.bl
  | vs, [], bs, r, e => by cases e; exact r.unnil
  | vs, d :: ds, bs, r, e => by
    obtain ⟨v, vr, rfl, h1, h2⟩ := r.uncons
    unfold bools at e
    split at e
    · cases ‹d :: ds = []›
    · rename_i b r' hd
      cases hd
      rw [Option.map_eq_some_iff] at e
      obtain ⟨bs', e, rfl⟩ := e
      cases h1
      rw [List.map_cons, ← bools_rep h2 e]
    · cases e
def dAll : List D → Option D
  | [.lst xs] => (bools xs).map fun bs => .bl (bs.all _root_.id)
  | _ => none
def dAny : List D → Option D
  | [.lst xs] => (bools xs).map fun bs => .bl (bs.any _root_.id)
  | _ => none
theorem cd_all (hc : X.calm = true) : CallD X (.builtin "all") dAll := by
  refine ⟨_, cr_all hc, fun G α ow σ H ρ g vs ds d Q s r e w => ?_⟩
  unfold dAll at e
  split at e
  · rw [Option.map_eq_some_iff] at e
    obtain ⟨bs, e, rfl⟩ := e
    obtain ⟨v, rfl, r1⟩ := BRepAll.one1 r
    obtain ⟨p, vs, rfl, h1, h2⟩ := r1.lst
    rw [bools_rep h2 e] at h1
    exact ⟨p, bs, rfl, .inl h1, w _ H Ext.refl s (.bl _)⟩
  · cases e
theorem cd_any (hc : X.calm = true) : CallD X (.builtin "any") dAny := by
  refine ⟨_, cr_any hc, fun G α ow σ H ρ g vs ds d Q s r e w => ?_⟩
  unfold dAny at e
  split at e
  · rw [Option.map_eq_some_iff] at e
    obtain ⟨bs, e, rfl⟩ := e
    obtain ⟨v, rfl, r1⟩ := BRepAll.one1 r
    obtain ⟨p, vs, rfl, h1, h2⟩ := r1.lst
    rw [bools_rep h2 e] at h1
    exact ⟨p, bs, rfl, .inl h1, w _ H Ext.refl s (.bl _)⟩
  · cases e
def dInt : List D → Option D
  | [.int i] => some (.int i)
  | [.bl b] => some (.int (if b then 1 else 0))
  | [.str s] => if s.length ≤ 640 then (PySem.intText? (S s)).map .int else none
  | _ => none
theorem cd_int : CallD X (.type "int") dInt := by
  refine ⟨_, OrR call_int1 call_int_str, fun G α ow σ H ρ g vs ds d Q s r e w => ?_⟩
  unfold dInt at e
  split at e
  · cases e
    obtain ⟨v, rfl, r1⟩ := BRepAll.one1 r
    rw [r1.int]
    exact .inl (.inl ⟨_, rfl, w _ H Ext.refl s (.int _)⟩)
  · cases e
    obtain ⟨v, rfl, r1⟩ := BRepAll.one1 r
    rw [r1.bl]
    exact .inl (.inr ⟨_, rfl, w _ H Ext.refl s (.int _)⟩)
  · split at e
    · rename_i hl
      rw [Option.map_eq_some_iff] at e
      obtain ⟨n, e, rfl⟩ := e
      obtain ⟨v, rfl, r1⟩ := BRepAll.one1 r
      rw [r1.str]
      exact .inr ⟨_, n, rfl, e, by rw [S_len]; exact hl, w _ H Ext.refl s (.int _)⟩
    · cases e
  · cases e
def strI (n : Int) : List Nat := (toString n : Str).cps.toList
def dStr : List D → Option D
  | [.int n] => if n.natAbs < 10 ^ 60 then some (.str (strI n)) else none
  | _ => none
theorem cd_str : CallD X (.type "str") dStr := by
  refine ⟨_, call_str_int, fun G α ow σ H ρ g vs ds d Q s r e w => ?_⟩
  unfold dStr at e
  split at e
  · split at e
    · rename_i n hl
      cases e
      obtain ⟨v, rfl, r1⟩ := BRepAll.one1 r
      rw [r1.int]
      refine ⟨n, rfl, ?_, ?_⟩
      · by_cases h0 : n.natAbs = 0
        · rw [h0]; decide
        · exact (Nat.log2_lt h0).mpr (Nat.lt_trans hl (Nat.lt_of_lt_of_le (show 10 ^ 60 < 2 ^ 200 by decide) (Nat.pow_le_pow_right (by decide) (by decide))))
      · have := w (.str (S (strI n))) H Ext.refl s (.str _)
        unfold strI at this
        rw [← S_of] at this
        exact this
    · cases e
  · cases e
def aList : List D → Option (List D)
  | [.lst xs] => some xs
  | [.tup xs] => some xs
  | _ => none
theorem cf_list : CallF X (.type "list") aList := by
  refine ⟨_, call_list_of, fun G α ow σ H ρ g vs ds d Q s r e w => ?_⟩
  unfold aList at e
  split at e
  · cases e
    obtain ⟨v, rfl, r1⟩ := BRepAll.one1 r
    obtain ⟨p, vs, rfl, h1, h2⟩ := r1.lst
    exact ⟨p, vs, rfl, .inl (.inl h1), fun l hl => w l vs hl h2⟩
  · cases e
    obtain ⟨v, rfl, r1⟩ := BRepAll.one1 r
    obtain ⟨p, vs, rfl, h1, h2⟩ := r1.tup
    exact ⟨p, vs, rfl, .inr h1, fun l hl => w l vs hl h2⟩
  · cases e
def dTuple : List D → Option D
  | [.lst xs] => some (.tup xs)
  | [.tup xs] => some (.tup xs)
  | _ => none
theorem cd_tuple : CallD X (.type "tuple") dTuple := by
  refine ⟨_, call_tupleZ, fun G α ow σ H ρ g vs ds d Q s r e w => ?_⟩
  unfold dTuple at e
  split at e
  · cases e
    obtain ⟨v, rfl, r1⟩ := BRepAll.one1 r
    obtain ⟨p, vs, rfl, h1, h2⟩ := r1.lst
    exact ⟨p, vs, rfl, .inl ⟨.inl h1, fun l o hl ho => w _ _ (Ext.new hl) (s.new hl) (s.newT hl ho h2)⟩⟩
  · cases e
    obtain ⟨v, rfl, r1⟩ := BRepAll.one1 r
    obtain ⟨p, vs, rfl, h1, h2⟩ := r1.tup
    refine ⟨p, vs, rfl, .inr ⟨h1, ?_⟩⟩
    cases r1 with
    | of r1 => exact w _ H Ext.refl s r1
  · cases e
end
end L3

/-! L3i: methods of texts, lists joined and repeated, isinstance. -/
namespace L3
open PySem PySem.Spec PyProof.Rows L2 TL

def MtD (X : Cx) (id : String) (φ : D → List D → Option D) : Prop := ∃ r, MtR X id r ∧ ∀ G α ow σ H ρ g x vs dx ds d Q, Sat X.K G α ow σ H ρ g → BRep G.B α ow X.K H x dx → BRepAll G.B α ow X.K H vs ds → φ dx ds = some d → Wants X.K G α ow σ H ρ g d Q → r x vs H Q
def MtF (X : Cx) (id : String) (φ : D → List D → Option (List D)) : Prop := ∃ r, MtR X id r ∧ ∀ G α ow σ H ρ g x vs dx ds d (Q : VK), Sat X.K G α ow σ H ρ g → BRep G.B α ow X.K H x dx → BRepAll G.B α ow X.K H vs ds → φ dx ds = some d →
  (∀ p us, H p = none → RepAll (Al G.B α ow) α X.K H us d → Q (.ref p) (upd H p (.lst us))) → r x vs H Q
def isStr : D → Bool
  | .str _ => true
  | _ => false
def eM1 (φ : D → List D → Option D) (o a : DE) : DE := bindM o fun x => bindM a fun y => liftM (if isStr x then φ x [y] else none)
def aM1 (φ : D → List D → Option (List D)) (o a : DE) : DA := bindM o fun x => bindM a fun y => liftM (if isStr x then φ x [y] else none)
section
variable {X : Cx} {o e : Expr} {fo fe : DE} {id : String} {name : Str} {apos pos : Pos}
theorem isStr_eq {d : D} (h : isStr d = true) : ∃ s, d = .str s := by
  cases d <;> first | exact ⟨_, rfl⟩ | cases h
theorem ec_m1 {φ : D → List D → Option D} (slot : Slot "str" name id) (ty : typeOf (.builtin id) = pure (.type "method_descriptor")) (hm : MtD X id φ) (ho : EB X o fo) (he : EB X e fe)
    (hs : starEach [e] X.env = [(false, eval e X.env)] := by rfl) (hbase : attributeBase o name X.env (eval o X.env) = eval o X.env := by rfl) (hline : (apos.endLine == pos.line) = true := by rfl) :
    EC X (.Call (.Attribute o name apos) [e] [] pos) (eM1 φ fo fe) := by
  obtain ⟨r, hr, hq⟩ := hm
  obtain ⟨t, pt, qo⟩ := ho
  obtain ⟨t2, pt2, qe⟩ := he
  refine ⟨_, pe_m1 slot ty hr pt pt2 hs hbase hline, fun G α ow σ H ρ g d g' Q s e w => ?_⟩
  obtain ⟨x, g1, e1, e2⟩ := bindM_some e
  obtain ⟨y, g2, e3, e4⟩ := bindM_some e2
  obtain ⟨e5, rfl⟩ := liftM_some e4
  split at e5
  · rename_i hi
    obtain ⟨z, rfl⟩ := isStr_eq hi
    refine qo G α ow σ H ρ g _ g1 _ s e1 fun v H1 α1 x1 s1 r1 => ⟨⟨_, r1.str⟩, ?_⟩
    refine qe G α1 ow σ H1 ρ g1 y g2 _ s1 e3 fun u H2 α2 x2 s2 r2 => ?_
    exact hq G α2 ow σ H2 ρ g2 v [u] _ [y] d Q s2 (r1.ext x2) (.cons r2 .nil) e5 fun v3 H3 x3 s3 r3 => w v3 H3 α2 ((x1.trans x2).trans x3) s3 r3
  · cases e5
theorem ef_m1 {φ : D → List D → Option (List D)} (slot : Slot "str" name id) (ty : typeOf (.builtin id) = pure (.type "method_descriptor")) (hm : MtF X id φ) (ho : EB X o fo) (he : EB X e fe)
    (hs : starEach [e] X.env = [(false, eval e X.env)] := by rfl) (hbase : attributeBase o name X.env (eval o X.env) = eval o X.env := by rfl) (hline : (apos.endLine == pos.line) = true := by rfl) :
    EF X (.Call (.Attribute o name apos) [e] [] pos) (aM1 φ fo fe) := by
  obtain ⟨r, hr, hq⟩ := hm
  obtain ⟨t, pt, qo⟩ := ho
  obtain ⟨t2, pt2, qe⟩ := he
  refine ⟨_, pe_m1 slot ty hr pt pt2 hs hbase hline, fun G α ow σ H ρ g d g' Q s e w => ?_⟩
  obtain ⟨x, g1, e1, e2⟩ := bindM_some e
  obtain ⟨y, g2, e3, e4⟩ := bindM_some e2
  obtain ⟨e5, rfl⟩ := liftM_some e4
  split at e5
  · rename_i hi
    obtain ⟨z, rfl⟩ := isStr_eq hi
    refine qo G α ow σ H ρ g _ g1 _ s e1 fun v H1 α1 x1 s1 r1 => ⟨⟨_, r1.str⟩, ?_⟩
    refine qe G α1 ow σ H1 ρ g1 y g2 _ s1 e3 fun u H2 α2 x2 s2 r2 => ?_
    exact hq G α2 ow σ H2 ρ g2 v [u] _ [y] d Q s2 (r1.ext x2) (.cons r2 .nil) e5 fun p us hp r3 => w p us H2 α2 (x1.trans x2) s2 hp r3 _ rfl
  · cases e5
/-! startswith -/
def dStarts : D → List D → Option D
  | .str a, [.str b] => some (.bl (a.take b.length == b))
  | _, _ => none
theorem starts_S (a b : List Nat) : Txt.startswith (S a) (S b) = (a.take b.length == b) := by
  unfold Txt.startswith Builtin.Str.subAt
  rw [S_len, S_len]
  simp only [Nat.zero_add, S]
  rw [Bool.eq_iff_iff]
  simp only [Bool.and_eq_true, decide_eq_true_eq, beq_iff_eq]
  constructor
  · rintro ⟨h1, h2⟩
    have := congrArg Array.toList h2
    simpa using this
  · intro h
    refine ⟨?_, ?_⟩
    · have := congrArg List.length h
      rw [List.length_take] at this
      omega
    · apply Array.ext'
      simpa using h
theorem md_starts : MtD X "str.startswith" dStarts := by
  refine ⟨_, mt_startswith, fun G α ow σ H ρ g x vs dx ds d Q s rx r e w => ?_⟩
  unfold dStarts at e
  split at e
  · cases e
    obtain ⟨v, rfl, r1⟩ := BRepAll.one1 r
    rw [rx.str, r1.str]
    exact ⟨_, _, rfl, rfl, by rw [starts_S]; exact w _ H Ext.refl s (.bl _)⟩
  · cases e
/-! split by one sign -/
def splitC (c : Nat) : List Nat → List (List Nat)
  | [] => [[]]
  | x :: r => if x = c then [] :: splitC c r else match splitC c r with
    | [] => [[x]]
    | p :: ps => (x :: p) :: ps
theorem splitC_ne (c : Nat) : ∀ l, splitC c l ≠ []
  | [] => by simp [splitC]
  | x :: r => by
    unfold splitC
    split
    · simp
    · split <;> simp
theorem spl_one (c : Nat) : ∀ (l acc : List Nat), spl [c] 0 acc l = match splitC c l with
    | [] => [acc]
    | p :: ps => (acc ++ p) :: ps
  | [], acc => by simp [spl, splitC]
  | x :: r, acc => by
    unfold spl splitC TL.pre
    simp only [List.length_singleton, List.take_succ_cons, List.take_zero, beq_iff_eq, List.cons.injEq, and_true]
    by_cases h : x = c
    · rw [if_pos h, if_pos h]
      simp only [Nat.sub_self, List.append_nil]
      rw [spl_one c r []]
      cases q : splitC c r with
      | nil => exact absurd q (splitC_ne c r)
      | cons p ps => simp
    · rw [if_neg h, if_neg h, spl_one c r]
      cases q : splitC c r with
      | nil => exact absurd q (splitC_ne c r)
      | cons p ps => simp
theorem map_tl {l : List Str} {m : List (List Nat)} (h : l.map tl = m) : l = m.map S := by
  subst h
  rw [List.map_map]
  have : ∀ z : Str, (S ∘ tl) z = z := fun z => (S_of z).symm
  rw [List.map_congr_left (fun z _ => this z)]
  simp
theorem split_S (a : List Nat) (c : Nat) (hc : c < 256) : Txt.split (S a) (S [c]) = (splitC c a).map S := by
  apply map_tl
  rw [split_spl (S a) (S [c]) (by simp [tl, S]) ?_]
  · show spl [c] 0 [] (tl (S a)) = _
    rw [show tl (S a) = a from S_list a, spl_one]
    cases q : splitC c a with
    | nil => exact absurd q (splitC_ne c a)
    | cons p ps => simp
  · have : Builtin.Str.strKind (S [c]) = 1 := by
      unfold Builtin.Str.strKind
      rw [if_pos]
      simp [S, hc]
    rw [this]
    unfold Builtin.Str.strKind
    split
    · decide
    · split <;> decide
def aSplit : D → List D → Option (List D)
  | .str a, [.str [c]] => if c < 256 ∧ a.length + 2 ≤ BIG then some ((splitC c a).map .str) else none
  | _, _ => none
theorem repAll_strs {A : Addr → Prop} {α : List Addr} {K : PySem.W.Frag} {H : Hp} : ∀ l : List (List Nat), RepAll A α K H ((l.map S).map V.str) (l.map D.str)
  | [] => RepAll.nil
  | x :: r => RepAll.cons (.str x) (repAll_strs r)
theorem mf_split : MtF X "str.split" aSplit := by
  refine ⟨_, mt_split, fun G α ow σ H ρ g x vs dx ds d Q s rx r e w => ?_⟩
  unfold aSplit at e
  split at e
  · split at e
    · rename_i hc
      cases e
      obtain ⟨v, rfl, r1⟩ := BRepAll.one1 r
      rw [rx.str, r1.str]
      refine ⟨_, _, rfl, rfl, rfl, by rw [S_len]; exact Nat.le_trans hc.2 big_line, fun p hp => ?_⟩
      rw [split_S _ _ hc.1]
      exact w p _ hp (repAll_strs _)
    · cases e
  · cases e
/-! join -/
def txts : List D → Option (List (List Nat))
  | [] => some []
  | .str s :: r => (txts r).map (s :: ·)
  | _ => none
theorem txts_rep {A : Addr → Prop} {α : List Addr} {K : PySem.W.Frag} {H : Hp} : ∀ {vs : List V} {ds : List D} {bs : List (List Nat)}, RepAll A α K H vs ds → txts ds = some bs → vs = (bs.map S).map V.str
  | vs, [], bs, r, e => by cases e; exact r.unnil
  | vs, d :: ds, bs, r, e => by
    obtain ⟨v, vr, rfl, h1, h2⟩ := r.uncons
    unfold txts at e
    split at e
    · cases ‹d :: ds = []›
    · rename_i b r' hd
      cases hd
      rw [Option.map_eq_some_iff] at e
      obtain ⟨bs', e, rfl⟩ := e
      cases h1
      rw [List.map_cons, List.map_cons, ← txts_rep h2 e]
    · cases e
theorem join_S (a : List Nat) (l : List (List Nat)) : Txt.join (S a) (l.map S) = S (joinL a l) := by
  rw [join_eq, S_of (Str.join _ _)]
  congr 1
  have := tl_join (S a) (l.map S)
  rw [show tl (S a) = a from S_list a, List.map_map] at this
  rw [show (Str.join (S a) (l.map S)).cps.toList = tl (Str.join (S a) (l.map S)) from rfl, this]
  congr 1
  rw [show (tl ∘ S) = fun z => z from funext fun z => S_list z]
  simp
def joinN (a : List Nat) (l : List (List Nat)) : Nat := (l.map (·.length)).sum + l.length * a.length
def dJoinL (a : List Nat) (xs : List D) : Option D := match txts xs with
  | some l => if joinN a l ≤ BIG then some (.str (joinL a l)) else none
  | none => none
def dJoin : D → List D → Option D
  | .str a, [.lst xs] => dJoinL a xs
  | .str a, [.tup xs] => dJoinL a xs
  | _, _ => none
theorem joinN_S (a : List Nat) (l : List (List Nat)) : ((l.map S).map (·.length)).sum + (l.map S).length * (S a).length = joinN a l := by
  unfold joinN
  rw [List.map_map, List.length_map, S_len]
  rw [show ((fun x : Str => x.length) ∘ S) = fun z => z.length from funext fun z => S_len z]
theorem md_join : MtD X "str.join" dJoin := by
  refine ⟨_, mt_join, fun G α ow σ H ρ g x vs dx ds d Q s rx r e w => ?_⟩
  have main : ∀ {a : List Nat} {xs : List D} {p : Addr} {us : List V}, dJoinL a xs = some d → RepAll (Al G.B α ow) α X.K H us xs → (SqL X.K H p us ∨ SqT X.K H p us) → ∃ a' p', ∃ ys : List Str, V.str (S a) = .str a' ∧ [V.ref p] = [V.ref p'] ∧ (SqL X.K H p' (ys.map V.str) ∨ SqT X.K H p' (ys.map V.str)) ∧
      (ys.map (·.length)).sum + ys.length * a'.length ≤ 16777216 ∧ Q (.str (Txt.join a' ys)) H := fun {a xs p us} e hr hs => by
    unfold dJoinL at e
    split at e
    · rename_i l hl
      split at e
      · rename_i hb
        cases e
        rw [txts_rep hr hl] at hs
        refine ⟨S a, p, l.map S, rfl, rfl, hs, by rw [joinN_S]; unfold BIG at hb; omega, ?_⟩
        rw [join_S]
        exact w _ H Ext.refl s (.str _)
      · cases e
    · cases e
  unfold dJoin at e
  split at e
  · obtain ⟨v, rfl, r1⟩ := BRepAll.one1 r
    obtain ⟨p, us, rfl, h1, h2⟩ := r1.lst
    rw [rx.str]
    exact main e h2 (.inl (.inl h1))
  · obtain ⟨v, rfl, r1⟩ := BRepAll.one1 r
    obtain ⟨p, us, rfl, h1, h2⟩ := r1.tup
    rw [rx.str]
    exact main e h2 (.inr h1)
  · cases e
/-! index, found -/
def dIndexS : D → List D → Option D
  | .str a, [.str b] => match Builtin.Str.occurrences (S a) (S b) 0 (S a).length 1 with
    | i :: _ => some (.int (i : Nat))
    | [] => none
  | _, _ => none
theorem md_indexS : MtD X "str.index" dIndexS := by
  refine ⟨_, mt_sindex, fun G α ow σ H ρ g x vs dx ds d Q s rx r e w => ?_⟩
  unfold dIndexS at e
  split at e
  · split at e
    · rename_i i rest ho
      cases e
      obtain ⟨v, rfl, r1⟩ := BRepAll.one1 r
      rw [rx.str, r1.str]
      exact ⟨_, _, i, rest, rfl, rfl, ho, w _ H Ext.refl s (.int _)⟩
    · cases e
  · cases e
end

/-! ### list + list, list * n -/
section
variable {X : Cx} {a b : Expr} {fa fb : DE} {pos : Pos}
theorem op_catR : OpR X (binaryOp .Add) (fun x y H Q => ∃ l b xs zs, x = .ref l ∧ y = .ref b ∧ Rd H l (.lst xs) ∧ Rd H b (.lst zs) ∧ xs.length + zs.length ≤ sizeLine ∧ ∀ p, H p = none → Q (.ref p) (upd H p (.lst (xs ++ zs)))) := by
  intro pins s σ H x y v u Q I rx ry h
  obtain ⟨l, b, xs, zs, rfl, rfl, hH, hB, hz, q⟩ := h
  cases rx
  cases ry
  obtain ⟨z, its, n, r, e⟩ := hH.ok I.hok
  obtain ⟨z2, its2, n2, r2, e2⟩ := hB.ok I.hok
  have hl := r.length
  have hl2 := r2.length
  refine PySem.P.add_list e e2 ?_ (by rw [List.size_toArray, List.size_toArray]; omega)
  have ea : its.toArray ++ its2.toArray = (its ++ its2).toArray := by simp
  rw [ea]
  exact ⟨.ref _, _, I.lnew (t' := s.toks) (r.append r2) (by rw [List.length_append]; omega), rfl, q _ I.fresh⟩
def aCat (fa fb : DE) : DA := bindM fa fun x => bindM fb fun y => liftM (match x, y with
  | .lst xs, .lst ys => if xs.length + ys.length ≤ BIG then some (xs ++ ys) else none
  | _, _ => none)
theorem ef_cat (ha : EB X a fa) (hb : EB X b fb) : EF X (.BinOp a .Add b pos) (aCat fa fb) := by
  obtain ⟨ta, pa, ha⟩ := ha
  obtain ⟨tb, pb, hb⟩ := hb
  refine ⟨_, pe_op op_catR pa pb, fun G α ow σ H ρ g d g' Q s e w => ?_⟩
  obtain ⟨dx, g1, e1, he⟩ := bindM_some e
  obtain ⟨dy, g2, e2, he⟩ := bindM_some he
  obtain ⟨e3, rfl⟩ := liftM_some he
  refine ha G α ow σ H ρ g dx g1 _ s e1 fun x H1 α1 x1 s1 r1 => ?_
  refine hb G α1 ow σ H1 ρ g1 dy g2 _ s1 e2 fun y H2 α2 x2 s2 r2 => ?_
  split at e3
  · split at e3
    · rename_i hl
      cases e3
      obtain ⟨p, vs, rfl, h1, h2⟩ := (r1.ext x2).lst
      obtain ⟨q, us, rfl, h3, h4⟩ := r2.lst
      exact ⟨p, q, vs, us, rfl, rfl, h1, h3, by rw [h2.1, h4.1]; exact Nat.le_trans hl big_line, fun l hl => w l _ H2 α2 (x1.trans x2) s2 hl (h2.append h4) _ rfl⟩
    · cases e3
  · cases e3
/-! isinstance(e, T), T a built-in type's name -/
def tyName : D → Option String
  | .non => some "NoneType"
  | .bl _ => some "bool"
  | .int _ => some "int"
  | .str _ => some "str"
  | .lst _ => some "list"
  | .tup _ => some "tuple"
  | .dic _ => some "dict"
  | _ => none
def dIsi (T : String) (x : D) : Option D := match tyName x with
  | some n => (kitB n T).map .bl
  | none => none
theorem BRep.ty {B : Addr → Prop} {α : List Addr} {ow : Nat → Option Addr} {K : PySem.W.Frag} {H : Hp} {x : V} {d : D} {n : String} (h : BRep B α ow K H x d) (e : tyName d = some n) : TyX K H x (.type n) := by
  cases h with
  | of h =>
    cases h with
    | non => cases e; exact .base .non
    | bl b => cases e; exact .base (.bl b)
    | int b => cases e; exact .base (.int b)
    | str b => cases e; exact .base (.str _)
    | lst hA h hl hi =>
      cases e
      rcases h with h | ⟨o, h⟩
      · exact .base (.lst h)
      · exact .base (.frz h)
    | tup h hl hi =>
      cases e
      rcases h with ⟨_, o, _, h⟩ | ⟨o, its, n, h1, h2, _⟩
      · exact .fTuple h
      · exact .kTuple h1 h2.1
    | dic hA h hk hi =>
      cases e
      rcases h with h | ⟨o, h⟩
      · exact .base (.dK h)
      · exact .fDict h
    | obj h => cases e
    | sta a => cases e
  | own h hn ho r => cases e; exact .base (.lst ho)
  | ownd h hn ho hk r => cases e; exact .base (.dK ho)
theorem ec_isi {T : String} {x : Str} {p p2 : Pos} (hm : X.mg "isinstance" = none) (hmT : X.mg x = none) (hv : bootBuiltins x = some (.type T)) (ha : EB X a fa) (hg : Gl X "isinstance" := by rfl) (hgT : Gl X x := by rfl) (hn : x ≠ "__name__" := by decide) (hdb : (x == ("__debug__" : Str)) = false := by decide)
    (he : starEach [a, .Name x p2] X.env = (false, eval a X.env) :: starEach [.Name x p2] X.env := by rfl) (he2 : starEach [.Name x p2] X.env = (false, eval (.Name x p2) X.env) :: starEach [] X.env := by rfl) (hpl : (backTo pos (starEach [.Name x p2] X.env)).any (·.1) = false := by rfl) :
    EC X (.Call (.Name "isinstance" p) [a, .Name x p2] [] pos) (eUn (dIsi T) fa) := by
  obtain ⟨t, pt, hq⟩ := ha
  refine ⟨_, pe_callB call_isi hg hm (by decide +kernel) (pa_cons pt (pa_cons (pe_bltn (v := .ty T) hgT hmT hv rfl hn hdb) pa_nil he2) he) (by decide) (by decide) he hpl, fun G α ow σ H ρ g d g' Q s e w => ?_⟩
  obtain ⟨dx, g1, e1, e2⟩ := bindM_some e
  obtain ⟨e3, rfl⟩ := liftM_some e2
  refine hq G α ow σ H ρ g dx g1 _ s e1 fun v H1 α1 x1 s1 r1 => ?_
  unfold dIsi at e3
  split at e3
  · rename_i n hn'
    rw [Option.map_eq_some_iff] at e3
    obtain ⟨k, e3, rfl⟩ := e3
    exact ⟨v, .ty T, .type n, .type T, k, rfl, .ty T, r1.ty hn', kit_ty e3, w _ H1 α1 x1 s1 (.bl _)⟩
  · cases e3
end
/-! sep.join(e).replace(y, z) of written texts -/
section
variable {X : Cx} {e : Expr} {fe : DE} {c y z : List Nat}
def dReplC (y z : List Nat) : D → Option D
  | .str x => if x.length + (x.length + 1) * z.length ≤ 1000000 then some (.str (StrLaws.replL y z x)) else none
  | _ => none
theorem repl_S (x y z : List Nat) (hy : 1 ≤ y.length) : Txt.replace (S x) (S y) (S z) = S (StrLaws.replL y z x) := by
  rw [S_of (Txt.replace _ _ _)]
  congr 1
  rw [StrLaws.replace_list (by rw [S_len]; exact hy), S_list, S_list, S_list]
theorem ec_joinRepl {j0 j k : Nat} {p0 c0 c1 a1 q1 apos pos : Pos} {sc sy sz : Str} (hc : sc = S c) (hy : sy = S y) (hz : sz = S z) (hyl : 1 ≤ y.length) (he : EB X e fe) (hyz : (sy == sz) = false := by decide)
    (hs : starEach [e] X.env = [(false, eval e X.env)] := by rfl) (hbase1 : attributeBase (.Constant (.str sc) j0 p0) "join" X.env (eval (.Constant (.str sc) j0 p0) X.env) = eval (.Constant (.str sc) j0 p0) X.env := by rfl) (hline1 : (a1.endLine == q1.line) = true := by rfl)
    (hst : starEach [.Constant (.str sy) j c0, .Constant (.str sz) k c1] X.env = [(false, eval (.Constant (.str sy) j c0) X.env), (false, eval (.Constant (.str sz) k c1) X.env)] := by rfl)
    (hbase : attributeBase (.Call (.Attribute (.Constant (.str sc) j0 p0) "join" a1) [e] [] q1) "replace" X.env (eval (.Call (.Attribute (.Constant (.str sc) j0 p0) "join" a1) [e] [] q1) X.env) = eval (.Call (.Attribute (.Constant (.str sc) j0 p0) "join" a1) [e] [] q1) X.env := by rfl) (hline : (apos.endLine == pos.line) = true := by rfl) :
    EC X (.Call (.Attribute (.Call (.Attribute (.Constant (.str sc) j0 p0) "join" a1) [e] [] q1) "replace" apos) [.Constant (.str sy) j c0, .Constant (.str sz) k c1] [] pos) (eUn (dReplC y z) (eM1 dJoin (eC (.str c)) fe)) := by
  subst hc hy hz
  obtain ⟨te, pe, qe⟩ := he
  obtain ⟨r, hr, hq⟩ := md_join (X := X)
  refine ⟨CwR.tReplC (tM1 r (tC (.str (S c))) te) (S y) (S z), ⟨fun pins s σ H Q I h => ?_⟩, fun G α ow σ H ρ g d g' Q s e w => ?_⟩
  · refine PySem.Call_method2 hbase hst hline ?_
    refine PySem.Call_method1 hbase1 hs hline1 (Calls.Constant_str ?_)
    obtain ⟨⟨a, ea⟩, h⟩ := h
    refine ⟨"str", _, PySem.F.plainAttrs_str, PySem.F.slot_str_join, PySem.F.type_str_join, typeIs_str _ _ _, (fun _ e => nomatch e), ?_⟩
    refine wpAny_mono (PySem.wpAny_toks (Q := fun v s1 => EP X pins σ (fun v H1 => ∃ x, v = .str x ∧ x.length + (x.length + 1) * (S z).length ≤ 16777216 ∧ Q (.str (Txt.replace x (S y) (S z))) H1) v s1) ?_) (fun v s1 q => ?_) fun _ _ z => z.2
    · refine Calls.callWith_builtin rfl (Calls.evalArgs_plain (Calls.spliced_cons ?_))
      have I1 : Inv X pins σ H { s with toks := s.toks + 1 } := I.tok _
      exact thn (pe.run pins _ σ H _ I1 h) fun u s2 ⟨y', H2, I2, r2, q2⟩ => Calls.spliced_nil (hr pins s2 σ H2 (.str (S c)) [y'] _ [u] _ I2 ⟨_, rfl⟩ (.cons r2 .nil) q2)
    · obtain ⟨hk, v', H1, I1, r1, x, e1, hb, q⟩ := q
      subst e1
      obtain ⟨tx, e2⟩ := r1
      subst e2
      have hk : s.toks + 1 ≤ s1.toks := hk
      refine ⟨"str", _, PySem.F.plainAttrs_str, PySem.F.slot_str_replace, PySem.F.type_str_replace, typeIs_str _ _ _, (fun _ e => nomatch e), Calls.callWith_builtin rfl (Calls.evalArgs_plain (Calls.spliced_cons ?_))⟩
      refine Calls.Constant_str (Calls.spliced_cons (Calls.Constant_str (Calls.spliced_nil ?_)))
      exact PySem.SC.replace (by show s1.toks ≠ 0; omega) (by show s1.toks + 1 ≠ 0; omega) (by show s1.toks ≠ s1.toks + 1; omega) hyz hb fun t' k => ⟨.str (Txt.replace x (S y) (S z)), H1, I1.tok k, ⟨t', rfl⟩, q⟩
  · obtain ⟨dx, g1, e1, e2⟩ := bindM_some e
    obtain ⟨e3, rfl⟩ := liftM_some e2
    obtain ⟨x0, g2, f1, f2⟩ := bindM_some e1
    obtain ⟨y0, g3, f3, f4⟩ := bindM_some f2
    obtain ⟨f5, rfl⟩ := liftM_some f4
    cases f1
    rw [if_pos (show isStr (D.str c) = true from rfl)] at f5
    refine ⟨⟨_, rfl⟩, qe G α ow σ H ρ g y0 g3 _ s f3 fun u H2 α2 x2 s2 r2 => ?_⟩
    refine hq G α2 ow σ H2 ρ g3 _ [u] _ [y0] dx _ s2 (.of (.str c)) (.cons r2 .nil) f5 fun v3 H3 x3 s3 r3 => ?_
    unfold dReplC at e3
    split at e3
    · split at e3
      · rename_i hb
        cases e3
        cases r3
        refine ⟨_, rfl, by rw [S_len, S_len]; omega, ?_⟩
        rw [repl_S _ _ _ hyl]
        exact w _ H3 α2 (x2.trans x3) s3 (.str _)
      · cases e3
    · cases e3
end
end L3

/-! L3j: lists that are kept in the store and changed by place. -/
namespace L3
open PySem PySem.Spec PyProof.Rows L2 TL

section
variable {K : PySem.W.Frag} {G : Gh} {α : List Addr} {ow : Nat → Option Addr} {σ : L2.St} {H : Hp} {ρ : Env3} {g : Store}
/-- a new list becomes an object of the store -/
theorem Sat.stored (s : Sat K G α ow σ H ρ g) {p : Addr} {vs : List V} {ds : List D} (hp : H p = none) (r : RepAll (Al G.B α ow) α K H vs ds) :
    Ext α H (α ++ [p]) (upd H p (.lst vs)) ∧ GOk (Al G.B (α ++ [p]) ow) (α ++ [p]) (g ++ [.lst ds]) K (upd H p (.lst vs)) ∧ (α ++ [p])[g.length]? = some p := by
  have al := s.al hp
  have x : Ext α H (α ++ [p]) (upd H p (.lst vs)) := ⟨fun a o h hn => by rw [upd_ne (ne_of_none h hp)]; exact h, List.prefix_append _ _, fun a ha => by
    rcases List.mem_append.mp ha with h | h
    · exact .inl h
    · rw [List.mem_singleton.mp h]; exact .inr hp⟩
  refine ⟨x, ⟨by rw [List.length_append, List.length_append, s.gok.len]; rfl, ?_, fun n a o h1 h2 => ?_⟩, ?_⟩
  · rw [List.nodup_append]
    exact ⟨s.gok.nd, by simp, fun a ha b hb => by rw [List.mem_singleton.mp hb]; exact fun z => al.1 (by rw [← z]; exact ha)⟩
  · by_cases hn : n < α.length
    · rw [List.getElem?_append_left hn] at h1
      rw [List.getElem?_append_left (by rw [← s.gok.len]; exact hn)] at h2
      exact (s.gok.so n a o h1 h2).ext x fun o e => by rw [upd_ne (ne_of_none e hp)]; exact e
    · have hl : n < (α ++ [p]).length := (List.getElem?_eq_some_iff.mp h1).1
      rw [List.length_append, List.length_singleton] at hl
      have en : n = α.length := by omega
      subst en
      rw [List.getElem?_append_right (Nat.le_refl _), Nat.sub_self] at h1
      rw [s.gok.len, List.getElem?_append_right (Nat.le_refl _), Nat.sub_self] at h2
      cases h1
      cases h2
      exact ⟨vs, upd_same, r.ext x⟩
  · rw [← s.gok.len, List.getElem?_append_right (Nat.le_refl _), Nat.sub_self]
    rfl
/-- an object of the store is changed -/
theorem Sat.store (s : Sat K G α ow σ H ρ g) {n : Nat} {p : Addr} {vs : List V} {ds : List D} (hn : α[n]? = some p) (r : RepAll (Al G.B α ow) α K H vs ds) :
    Ext α H α (upd H p (.lst vs)) ∧ GOk (Al G.B α ow) α (g.set n (.lst ds)) K (upd H p (.lst vs)) := by
  have hm : p ∈ α := List.mem_of_getElem? hn
  have x : Ext α H α (upd H p (.lst vs)) := ⟨fun a o h hn => by rw [upd_ne fun z => hn (by rw [z]; exact hm)]; exact h, List.prefix_refl _, fun a ha => .inl ha⟩
  refine ⟨x, ⟨by rw [List.length_set]; exact s.gok.len, s.gok.nd, fun m a o h1 h2 => ?_⟩⟩
  have hl : n < g.length := by rw [← s.gok.len]; exact (List.getElem?_eq_some_iff.mp hn).1
  by_cases hm' : m = n
  · subst hm'
    rw [List.getElem?_set_self hl] at h2
    rw [hn] at h1
    cases h1
    cases h2
    exact ⟨vs, upd_same, r.ext x⟩
  · rw [List.getElem?_set_ne (Ne.symm hm')] at h2
    refine (s.gok.so m a o h1 h2).ext x fun o e => ?_
    rw [upd_ne fun z => hm' ?_]
    · exact e
    · obtain ⟨i1, j1⟩ := List.getElem?_eq_some_iff.mp h1
      obtain ⟨i2, j2⟩ := List.getElem?_eq_some_iff.mp hn
      exact (List.getElem_inj s.gok.nd).mp (j1.trans (z.trans j2.symm))
end
def eSt (f : DA) : DE := bindM f fun xs => fun _ g => some (.obj g.length, g ++ [.lst xs])
section
variable {X : Cx} {e a b : Expr} {fe fa fb : DE} {fs : DA} {pos : Pos}
theorem EF.st (h : EF X e fs) : EC X e (eSt fs) := by
  obtain ⟨t, pt, hq⟩ := h
  refine ⟨t, pt, fun G α ow σ H ρ g d g' Q s e w => ?_⟩
  obtain ⟨xs, g1, e1, e2⟩ := bindM_some e
  cases e2
  refine hq G α ow σ H ρ g xs g1 _ s e1 fun p vs H1 α1 x1 s1 hp r H2 eH => ?_
  subst eH
  obtain ⟨x2, gk, hg⟩ := s1.stored hp r
  exact w _ _ _ (x1.trans x2) (s1.step x2 gk) (.obj hg)
def eIxO (fo fi : DE) : DE := bindM fo fun x => bindM fi fun y => fun _ g => match x, y with
  | .obj n, .int i => match g[n]? with
    | some (.lst xs) => (atI xs i).map fun d => (d, g)
    | _ => none
  | _, _ => none
theorem BRep.obj {B : Addr → Prop} {α : List Addr} {ow : Nat → Option Addr} {K : PySem.W.Frag} {H : Hp} {x : V} {n : Nat} (h : BRep B α ow K H x (.obj n)) : ∃ a, x = .ref a ∧ α[n]? = some a := by
  cases h with
  | of h => cases h with | obj h => exact ⟨_, rfl, h⟩
theorem ec_ixO (ha : EB X a fa) (hb : EB X b fb) (hs : PlainIx b := by exact fun _ _ => rfl) : EC X (.Subscript a b pos) (eIxO fa fb) := by
  obtain ⟨ta, pa, ha⟩ := ha
  obtain ⟨tb, pb, hb⟩ := hb
  refine ⟨_, pe_ix ix_list pa pb hs, fun G α ow σ H ρ g d g' Q s e w => ?_⟩
  obtain ⟨x, g1, e1, e2⟩ := bindM_some e
  obtain ⟨y, g2, e3, e4⟩ := bindM_some e2
  refine ha G α ow σ H ρ g x g1 _ s e1 fun v H1 α1 x1 s1 r1 => ?_
  refine hb G α1 ow σ H1 ρ g1 y g2 _ s1 e3 fun u H2 α2 x2 s2 r2 => ?_
  split at e4
  · split at e4
    · rename_i hg
      rw [Option.map_eq_some_iff] at e4
      obtain ⟨z, e4, e5⟩ := e4
      cases e5
      obtain ⟨p, rfl, hp⟩ := (r1.ext x2).obj
      obtain ⟨vs, h1, h2⟩ := s2.gok.so _ p _ hp hg
      obtain ⟨k, e6, r6⟩ := h2.atI e4
      rw [r2.int]
      exact ⟨p, vs, _, k, rfl, rfl, .inl (.inl h1), e6, w _ H2 α2 (x1.trans x2) s2 r6⟩
    · cases e4
  · cases e4
def sSetO (fo fi fe : DE) : DS := fun ρ g => match fe ρ g with
  | some (d, g1) => match fo ρ g1 with
    | some (.obj n, g2) => match fi ρ g2 with
      | some (.int i, g3) => match g3[n]? with
        | some (.lst xs) => match ixN xs.length i with
          | some j => some (.nx ρ, g3.set n (.lst (xs.set j d)))
          | none => none
        | _ => none
      | _ => none
    | _ => none
  | none => none
theorem RepAll.set {A : Addr → Prop} {α : List Addr} {K : PySem.W.Frag} {H : Hp} {vs : List V} {ds : List D} {v : V} {d : D} (j : Nat) (h : RepAll A α K H vs ds) (r : Rep A α K H v d) : RepAll A α K H (vs.set j v) (ds.set j d) := by
  refine ⟨by rw [List.length_set, List.length_set, h.1], fun i x y h1 h2 => ?_⟩
  by_cases hj : i = j
  · subst hj
    have hl : i < vs.length := by simpa using (List.getElem?_eq_some_iff.mp h1).1
    rw [List.getElem?_set_self hl] at h1
    rw [List.getElem?_set_self (by rw [← h.1]; exact hl)] at h2
    cases h1
    cases h2
    exact r
  · rw [List.getElem?_set_ne (Ne.symm hj)] at h1 h2
    exact h.2 i x y h1 h2
theorem sc_setO {p2 : Pos} (he : EC X e fe) (ha : EB X a fa) (hb : EB X b fb)
    (has : ∀ v, assign (.Subscript a b p2) X.env v = (do
      let ov ← holding [v] (eval a X.env)
      let iv ← holding [v, ov] (eval b X.env)
      standAt p2
      holding [v, ov, iv] (setItem ov iv v)
      release [v, ov, iv] []) := by intro _; rfl)
    (hs : swapsWithSole [.Subscript a b p2] e pos.line X.env = pure false := by rfl) (hw : swappedStores [.Subscript a b p2] e X.env = pure none := by rfl)
    (h1 : (assignEach [.Subscript a b p2] X.env).map (·.2) = [assign (.Subscript a b p2) X.env] := by rfl) : SC X (.Assign [.Subscript a b p2] e pos) (sSetO fa fb fe) := by
  obtain ⟨te, pe, qe⟩ := he
  obtain ⟨ta, pa, qa⟩ := ha
  obtain ⟨tb, pb, qb⟩ := hb
  refine ⟨_, ps_asg pe (pg_sub pa pb set_list has) hs hw h1, fun G α ow σ H ρ g out g' Dn s e w => ?_⟩
  unfold sSetO at e
  split at e
  · rename_i d g1 e1
    split at e
    · rename_i n g2 e2
      split at e
      · rename_i i g3 e3
        split at e
        · rename_i xs hg
          split at e
          · rename_i j hj
            cases e
            refine qe G α ow σ H ρ g d g1 _ s e1 fun v H1 α1 x1 s1 r1 => ?_
            refine qa G α1 ow σ H1 ρ g1 _ g2 _ s1 e2 fun o H2 α2 x2 s2 r2 => ?_
            refine qb G α2 ow σ H2 ρ g2 _ g3 _ s2 e3 fun k H3 α3 x3 s3 r3 => ?_
            obtain ⟨p, rfl, hp⟩ := (r2.ext x3).obj
            obtain ⟨vs, q1, q2⟩ := s3.gok.so n p _ hp hg
            have r4 := (r1.ext x2).ext x3
            have q3 := q2.set j r4
            obtain ⟨x4, gk⟩ := s3.store hp q3
            rw [r3.int]
            refine ⟨p, vs, i, j, rfl, rfl, q1, by rw [q2.1]; exact hj, ?_⟩
            exact w _ _ _ _ (s3.step x4 gk) (((x1.trans x2).trans x3).trans x4).fz
          · cases e
        · cases e
      · cases e
    · cases e
  · cases e
def sUnpO (fo : DE) (ts : List D → Option (List (Nat × D))) : DS := fun ρ g => match fo ρ g with
  | some (.obj n, g1) => match g1[n]? with
    | some (.lst xs) => match ts xs with
      | some as => some (.nx (sets ρ as), g1)
      | none => none
    | _ => none
  | _ => none
theorem sc_unpO {es : List Expr} {k : Nat} {p2 : Pos} {ps : List D → Option (List (Nat × D))} (ha : EB X a fa) (hg : GCs X es ps) (hst : (assignEach es X.env).findIdx? (·.1) = none := by rfl) (hc : X.calm = true := by rfl)
    (hs : swapsWithSole [.Tuple es k p2] a pos.line X.env = pure false := by rfl) (hw : swappedStores [.Tuple es k p2] a X.env = pure none := by rfl)
    (h1 : (assignEach [.Tuple es k p2] X.env).map (·.2) = [assign (.Tuple es k p2) X.env] := by rfl) : SC X (.Assign [.Tuple es k p2] a pos) (sUnpO fa ps) := by
  obtain ⟨ta, pa, qa⟩ := ha
  obtain ⟨l, t, pt, q⟩ := hg
  refine ⟨_, ps_asg pa (pg_unl hc pt rfl hst) hs hw h1, fun G α ow σ H ρ g out g' Dn s e w => ?_⟩
  unfold sUnpO at e
  split at e
  · rename_i n g1 e1
    split at e
    · rename_i xs hg'
      split at e
      · rename_i as has
        cases e
        refine qa G α ow σ H ρ g _ g' _ s e1 fun v H1 α1 x1 s1 r1 => ?_
        obtain ⟨p, rfl, hp⟩ := r1.obj
        obtain ⟨vs, q1, q2⟩ := s1.gok.so n p _ hp hg'
        refine ⟨p, vs, rfl, .inl (.inl q1), by rw [q2.1]; exact l _ _ has, q _ _ σ H1 vs xs as _ q2 has fun ws rs => ?_⟩
        obtain ⟨ow2, s2, z2⟩ := s1.sets rs
        exact w _ _ _ _ s2 (x1.fz.trans z2)
      · cases e
    · cases e
  · cases e
def aRep (fa : DA) (fb : DE) : DA := bindM fa fun xs => bindM fb fun y => liftM (match y with
  | .int k => if 0 ≤ k ∧ k ≤ 1000000 ∧ xs.length * k.toNat ≤ BIG then some (List.replicate k.toNat xs).flatten else none
  | _ => none)
theorem RepAll.rep {A : Addr → Prop} {α : List Addr} {K : PySem.W.Frag} {H : Hp} {vs : List V} {ds : List D} (h : RepAll A α K H vs ds) : ∀ n : Nat, RepAll A α K H (List.replicate n vs).flatten (List.replicate n ds).flatten
  | 0 => RepAll.nil
  | n + 1 => by
    rw [List.replicate_succ, List.replicate_succ, List.flatten_cons, List.flatten_cons]
    exact h.append (RepAll.rep h n)
theorem ef_rep (ha : EF X a fs) (hb : EC X b fb) : EF X (.BinOp a .Mult b pos) (aRep fs fb) := by
  obtain ⟨ta, pa, ha⟩ := ha
  obtain ⟨tb, pb, hb⟩ := hb
  refine ⟨_, pe_op op_rep pa pb, fun G α ow σ H ρ g d g' Q s e w => ?_⟩
  obtain ⟨xs, g1, e1, he⟩ := bindM_some e
  obtain ⟨y, g2, e2, he⟩ := bindM_some he
  obtain ⟨e3, rfl⟩ := liftM_some he
  refine ha G α ow σ H ρ g xs g1 _ s e1 fun p vs H1 α1 x1 s1 hp r1 H2 eH => ?_
  subst eH
  have s2 := s1.new (o := .lst vs) hp
  have pn := (s1.al hp).1
  have x2 : Ext α1 H1 α1 (upd H1 p (.lst vs)) := Ext.new hp
  refine hb G α1 ow σ _ ρ g1 y g2 _ s2 e2 fun u H3 α3 x3 s3 r3 => ?_
  split at e3
  · split at e3
    · rename_i hk
      cases e3
      cases r3
      refine ⟨p, _, vs, rfl, rfl, x3.1 p _ upd_same pn, by omega, by omega, by rw [r1.1]; exact Nat.le_trans hk.2.2 big_line, fun q hq => ?_⟩
      exact w q _ H3 α3 ((x1.trans x2).trans x3) s3 hq (((r1.ext x2).ext x3).rep _) _ rfl
    · cases e3
  · cases e3
end
end L3

/-! L3k: defs by name, further rules. -/
namespace L3
open PySem PySem.Spec PyProof.Rows L2 TL

/-- a def of the text stands at its name -/
structure FunAt (K : PySem.W.Frag) (mg : Str → Option Value) (x : Str) (st : Stmt) (ps : List Str) : Prop where
  ex : ∃ fd, FunD K x x (defArgs st) (defBody st) (defScope st) [] [] (He.ga K x) fd ∧ Binds K fd ps []
  g : mg x = some (.ref (He.ga K x))
/-- a def keeps a promise -/
structure FnAt (P : Program) (w : World) (K : PySem.W.Frag) (mg : Str → Option Value) (base : Heap) (k : Nat) (x : Str) (ps : List Str) (sp : Sp) : Prop where
  ex : ∃ fd, FnOk P w K mg base CX0 k (He.ga K x) fd ps sp ∧ Binds K fd ps [] ∧ ∃ oc od osl, K.lookup (He.ga K x) = some ⟨oc, od, .func fd, osl⟩
  g : mg x = some (.ref (He.ga K x))
  kp : PySem.W.keepIn K (.ref (He.ga K x)) = true
theorem fnat {P : Program} {w : World} {K : PySem.W.Frag} {mg : Str → Option Value} {base : Heap} {x : Str} {st : Stmt} {N ps : List Str} {k : Nat} {fB : DS} (F : FunAt K mg x st ps) (Sc : FnScope N ps (defScope st))
    (hb : ∀ (cdv : Value) (A : Around) (outer : List Env) (s : Shared) (H : Hp) (E : XK), Room k (A.deeper (envOfC x (defScope st) s.heap.objs.size (He.ga K x) cdv)) → BC (cxOf CX0 P w K mg base N x (defScope st) (He.ga K x) cdv A outer s H E).nox (defBody st) fB) :
    FnAt P w K mg base (k + 1) x ps (spD K ps.length (runD N.length fB)) := by
  obtain ⟨⟨fd, Fd, b⟩, g⟩ := F
  have lk : ∃ oc od osl, K.lookup (He.ga K x) = some ⟨oc, od, .func fd, osl⟩ := by
    obtain ⟨oc, od, _, _, _, _, _, _, _, osl, _, lk, _⟩ := Fd.ex
    exact ⟨oc, od, osl, lk⟩
  refine ⟨⟨fd, ?_, b, lk⟩, g, Fd.kp⟩
  refine Fd.ok Sc (fun vs H Q E h => ?_) (fun cdv A outer s H vs Q E hr h => ?_)
  · obtain ⟨_, _, _, _, _, _, h, _⟩ := h
    exact h
  · obtain ⟨B, α, g, ds, d, g', hl, hB, gk, r, e, q⟩ := h
    obtain ⟨t, pt, qt⟩ := hb cdv A outer s H E hr
    refine ⟨t, pt.nox, ?_⟩
    have s0 := start_sat (N := N) hB gk r
    unfold runD at e
    split at e
    · rename_i d' g1 e1
      cases e
      exact qt _ α no _ H _ g _ _ _ s0 e1 fun v H' α' x _ gk' r' => q v H' α' x gk' r'
    · rename_i ρ1 g1 e1
      cases e
      exact qt _ α no _ H _ g _ _ _ s0 e1 fun σ' H' α' ow' s' z => q .non H' α' s'.ext s'.ret .non
    · cases e
section
variable {X : Cx} {a b c e : Expr} {fa fb fc fe : DE} {pos : Pos}
theorem ec_callA {k j : Nat} {ps : List Str} {n : Nat} {φ : List D → Store → Option (D × Store)} {x : Str} {es : List Expr} {fs : DA} {p : Pos}
    (F : FnAt X.prog X.w X.K X.mg X.base k x ps (spD X.K n φ)) (hr : Room j X.A) (ha : AC X (e :: es) fs) (hk : k ≤ j := by decide)
    (hg : Gl X x := by rfl) (hdb : (x == ("__debug__" : Str)) = false := by decide) (he : starEach (e :: es) X.env = (false, eval e X.env) :: starEach es X.env := by rfl) (hpl : (backTo pos (starEach es X.env)).any (·.1) = false := by rfl) (hl : (e :: es).length = n := by rfl) :
    EC X (.Call (.Name x p) (e :: es) [] pos) (eApp φ fs) := by
  obtain ⟨⟨fd, G, b, _⟩, g, kp⟩ := F
  exact ec_call G (hr.mono hk) g kp b ha hg hdb he hpl hl
def dNeg : D → Option D
  | .int i => some (.int (-i))
  | _ => none
theorem ec_neg (ha : EB X a fa) : EC X (.UnaryOp .USub a pos) (eUn dNeg fa) := by
  obtain ⟨t, pt, hq⟩ := ha
  refine ⟨_, pe_un un_neg pt, fun G α ow σ H ρ g d g' Q s e w => ?_⟩
  obtain ⟨x, g1, e1, e2⟩ := bindM_some e
  obtain ⟨e3, rfl⟩ := liftM_some e2
  refine hq G α ow σ H ρ g x g1 _ s e1 fun v H1 α1 x1 s1 r1 => ?_
  unfold dNeg at e3
  split at e3
  · cases e3
    rw [r1.int]
    exact ⟨_, rfl, w _ H1 α1 x1 s1 (.int _)⟩
  · cases e3
theorem ec_gintE {x : Str} {i : Int} (hm : ∃ t, X.mg x = some (.int i t)) (hg : Gl X x := by rfl) (hd : (x == ("__debug__" : Str)) = false := by decide) : EC X (.Name x pos) (eC (.int i)) := by
  obtain ⟨t, hm⟩ := hm
  exact ec_gint hm hg hd
theorem ec_gstrE {x : Str} {z : List Nat} (hm : ∃ t, X.mg x = some (.str (S z) t)) (hg : Gl X x := by rfl) (hd : (x == ("__debug__" : Str)) = false := by decide) : EC X (.Name x pos) (eC (.str z)) := by
  obtain ⟨t, hm⟩ := hm
  exact ec_gstr hm hg hd
theorem tc_chain {op op' : CmpOp} {o o' : D → D → Option D} (ho : OpD X (compareOp op) o) (ho' : OpD X (compareOp op') o') (ha : EB X a fa) (hb : EB X b fb) (hc : EB X c fc)
    (hm : lastMarks [op, op'] [b, c] = false := by with_unfolding_all rfl) : TC X (.Compare a [op, op'] [b, c] pos) (tOf (eChain o o' fa fb fc)) := by
  obtain ⟨r, hr, hq⟩ := ho
  obtain ⟨r', hr', hq'⟩ := ho'
  obtain ⟨ta, pa, ha⟩ := ha
  obtain ⟨tb, pb, hb⟩ := hb
  obtain ⟨tc, pc, hc⟩ := hc
  refine ⟨_, pt_chain hr hr' pa pb pc hm, fun G α ow σ H ρ g k0 g' Q s e w => ?_⟩
  obtain ⟨d, g0, e0, ek⟩ := bindM_some e
  obtain ⟨ek, rfl⟩ := liftM_some ek
  split at ek
  · cases ek
    obtain ⟨x, g1, e1, e2⟩ := bindM_some e0
    obtain ⟨y, g2, e3, e4⟩ := bindM_some e2
    obtain ⟨z, g3, e5, e6⟩ := bindM_some e4
    obtain ⟨e7, rfl⟩ := liftM_some e5
    refine ha G α ow σ H ρ g x g1 _ s e1 fun v H1 α1 x1 s1 r1 => ?_
    refine hb G α1 ow σ H1 ρ g1 y g2 _ s1 e3 fun u H2 α2 x2 s2 r2 => ?_
    refine hq G α2 ow σ H2 ρ g2 v u x y z _ s2 (r1.ext x2) r2 e7 fun k H3 x3 s3 r3 => ?_
    split at e6
    · cases r3
      refine ⟨_, rfl, ?_⟩
      rw [if_pos rfl]
      obtain ⟨u', g4, e8, e9⟩ := bindM_some e6
      obtain ⟨e10, rfl⟩ := liftM_some e9
      refine hc G α2 ow σ H3 ρ g2 u' g4 _ s3 e8 fun q H4 α4 x4 s4 r4 => ?_
      refine hq' G α4 ow σ H4 ρ g4 u q y u' _ _ s4 ((r2.ext x3).ext x4) r4 e10 fun v5 H5 x5 s5 r5 => ?_
      cases r5
      exact ⟨_, rfl, w H5 α4 ((((x1.trans x2).trans x3).trans x4).trans x5) s5⟩
    · cases r3
      cases e6
      refine ⟨_, rfl, ?_⟩
      rw [if_neg (by decide)]
      exact ⟨_, rfl, w H3 α2 ((x1.trans x2).trans x3) s3⟩
    · cases e6
  · cases ek
/-- + of ints, texts, lists, tuples -/
def dAddA : D → D → Option D
  | .lst a, .lst b => if a.length + b.length ≤ BIG then some (.lst (a ++ b)) else none
  | .tup a, .tup b => if a.length + b.length ≤ BIG then some (.tup (a ++ b)) else none
  | a, b => dAdd a b
theorem opd_addA : OpD X (binaryOp .Add) dAddA := by
  obtain ⟨r0, h0, q0⟩ := opd_add (X := X)
  refine ⟨_, h0.or (op_catR.or op_catZ), fun G α ow σ H ρ g x y dx dy d Q s rx ry e w => ?_⟩
  unfold dAddA at e
  split at e
  · split at e
    · rename_i hl
      cases e
      obtain ⟨p, vs, rfl, h1, h2⟩ := rx.lst
      obtain ⟨q, us, rfl, h3, h4⟩ := ry.lst
      exact .inr (.inl ⟨p, q, vs, us, rfl, rfl, h1, h3, by rw [h2.1, h4.1]; exact Nat.le_trans hl big_line, fun l hl => w _ _ (Ext.new hl) (s.new hl) (s.newL hl (h2.append h4))⟩)
    · cases e
  · split at e
    · rename_i xs ys hl
      cases e
      obtain ⟨p, vs, rfl, h1, h2⟩ := rx.tup
      obtain ⟨q, us, rfl, h3, h4⟩ := ry.tup
      have cx : ∀ {v : V} {xs : List D}, BRep G.B α ow X.K H v (.tup xs) → Rep (Al G.B α ow) α X.K H v (.tup xs) := fun h => by cases h with | of h => exact h
      refine .inr (.inr ⟨p, q, vs, us, rfl, rfl, h1, h3, by rw [h2.1, h4.1]; exact Nat.le_trans hl big_line, fun hn => ?_, fun _ hn => ?_, fun _ _ l o hl ho => w _ _ (Ext.new hl) (s.new hl) (s.newT hl ho (h2.append h4))⟩)
      · have : xs = [] := List.eq_nil_of_length_eq_zero (by rw [← h2.1, hn]; rfl)
        subst this
        exact w _ H Ext.refl s (cx ry)
      · have : ys = [] := List.eq_nil_of_length_eq_zero (by rw [← h4.1, hn]; rfl)
        subst this
        rw [List.append_nil] at w
        exact w _ H Ext.refl s (cx rx)
    · cases e
  · exact .inl (q0 G α ow σ H ρ g x y _ _ d Q s rx ry e w)
/-- x += e, x a slot -/
def sAug (i : Nat) (op : D → D → Option D) (f : DE) : DS := fun ρ g => match ρ[i]? with
  | some (some (.d x)) => match f ρ g with
    | some (y, g1) => match op x y with
      | some z => some (.nx (ρ.set i (some (.d z))), g1)
      | none => none
    | none => none
  | _ => none
theorem sc_aug {i : Nat} {x : Str} {op : Operator} {o : D → D → Option D} {pos' : Pos} (hN : X.N.Nodup) (ho : OpD X (inplaceOp op) o) (he : EB X e fe) (hi : X.N[i]? = some x := by rfl) (hx : Loc X.env.scope x := by first | exact Or.inl rfl | exact Or.inr rfl)
    (hf : X.fn x = true ∨ X.env.scope.names.lookup x = some .local := by first | exact .inl rfl | exact .inr rfl | assumption) : SC X (.AugAssign (.Name x pos') op e pos) (sAug i o fe) := by
  obtain ⟨r, hr, hq⟩ := ho
  obtain ⟨t, pt, qe⟩ := he
  refine ⟨_, ps_aug hN hi hx pt (ti := r) hr hf, fun G α ow σ H ρ g out g' Dn s e w => ?_⟩
  unfold sAug at e
  split at e
  · rename_i x0 hx0
    split at e
    · rename_i y g1 e1
      split at e
      · rename_i z hz
        cases e
        obtain ⟨v, h1, h2⟩ := s.slot i _ hx0
        refine ⟨v, h1, qe G α ow σ H ρ g y g' _ s e1 fun u H1 α1 x1 s1 r1 => ?_⟩
        exact hq G α1 ow σ H1 ρ g' v u x0 y z _ s1 (.of (h2.ext x1)) r1 hz fun v2 H2 x2 s2 r2 => w _ _ _ _ (s2.set r2) ((x1.trans x2).fz.trans Fz.off)
      · cases e
    · cases e
  · cases e
theorem opd_iadd : OpD X (inplaceOp .Add) dAdd := by
  refine ⟨_, iop_add.or iop_add_str, fun G α ow σ H ρ g x y dx dy d Q s rx ry e w => ?_⟩
  unfold dAdd at e
  split at e
  · cases e
    rw [rx.int, ry.int]
    exact .inl ⟨_, _, rfl, rfl, w _ H Ext.refl s (.int _)⟩
  · split at e
    · rename_i hl
      cases e
      rw [rx.str, ry.str]
      refine .inr ⟨_, _, rfl, rfl, by rw [S_len, S_len]; exact Nat.le_trans hl big_line, ?_⟩
      rw [S_app]
      exact w _ H Ext.refl s (.str _)
    · cases e
  · cases e
end
theorem b_len : bootBuiltins "len" = some (.builtin "len") := by decide +kernel
theorem b_all : bootBuiltins "all" = some (.builtin "all") := by decide +kernel
theorem b_any : bootBuiltins "any" = some (.builtin "any") := by decide +kernel
theorem b_int : bootBuiltins "int" = some (.type "int") := by decide +kernel
theorem b_str : bootBuiltins "str" = some (.type "str") := by decide +kernel
theorem b_bool : bootBuiltins "bool" = some (.type "bool") := by decide +kernel
theorem b_list : bootBuiltins "list" = some (.type "list") := by decide +kernel
theorem b_tuple : bootBuiltins "tuple" = some (.type "tuple") := by decide +kernel
theorem b_dict : bootBuiltins "dict" = some (.type "dict") := by decide +kernel
end L3

/-! L3m: reckoning with what defs are worth. -/
namespace L3

def Ok {β : Type} (r : Option (β × Store)) (Q : β → Store → Prop) : Prop := ∃ x g, r = some (x, g) ∧ Q x g
theorem Ok.of {β : Type} {r : Option (β × Store)} {x : β} {g : Store} {Q : β → Store → Prop} (e : r = some (x, g)) (h : Q x g) : Ok r Q := ⟨x, g, e, h⟩
theorem Ok.mono {β : Type} {r : Option (β × Store)} {Q R : β → Store → Prop} (h : Ok r Q) (f : ∀ x g, Q x g → R x g) : Ok r R := by
  obtain ⟨x, g, e, q⟩ := h
  exact ⟨x, g, e, f x g q⟩
section
variable {ρ : Env3} {g : Store}
theorem ok_bind {β γ : Type} {m : M β} {k : β → M γ} {Q : γ → Store → Prop} (h : Ok (m ρ g) fun x g1 => Ok (k x ρ g1) Q) : Ok (L3.bindM m k ρ g) Q := by
  obtain ⟨x, g1, e, y, g2, e2, q⟩ := h
  exact ⟨y, g2, by unfold L3.bindM; rw [e]; exact e2, q⟩
theorem ok_lift {β : Type} {o : Option β} {x : β} {Q : β → Store → Prop} (e : o = some x) (h : Q x g) : Ok (L3.liftM o ρ g) Q := ⟨x, g, by unfold L3.liftM; rw [e], h⟩
theorem ok_seq {a b : DS} {Q : Out → Store → Prop} (h : Ok (a ρ g) fun o g1 => match o with | .nx ρ1 => Ok (b ρ1 g1) Q | o => Q o g1) : Ok (sSeq a b ρ g) Q := by
  obtain ⟨o, g1, e, q⟩ := h
  unfold sSeq
  rw [e]
  cases o with
  | nx ρ1 => exact q
  | rt d => exact ⟨_, _, rfl, q⟩
  | bk ρ1 => exact ⟨_, _, rfl, q⟩
  | ct ρ1 => exact ⟨_, _, rfl, q⟩
theorem ok_set {i : Nat} {f : DE} {Q : Out → Store → Prop} (h : Ok (f ρ g) fun d g1 => Q (.nx (ρ.set i (some (.d d)))) g1) : Ok (sSet i f ρ g) Q := by
  obtain ⟨d, g1, e, q⟩ := h
  exact ⟨_, g1, by unfold sSet; rw [e], q⟩
theorem ok_own {i : Nat} {f : DA} {Q : Out → Store → Prop} (hi : i < ρ.length) (h : Ok (f ρ g) fun d g1 => Q (.nx (ρ.set i (some (.own d)))) g1) : Ok (sOwn i f ρ g) Q := by
  obtain ⟨d, g1, e, q⟩ := h
  exact ⟨_, g1, by unfold sOwn; rw [e]; simp [hi], q⟩
theorem ok_ret {f : DE} {Q : Out → Store → Prop} (h : Ok (f ρ g) fun d g1 => Q (.rt d) g1) : Ok (sRet f ρ g) Q := by
  obtain ⟨d, g1, e, q⟩ := h
  exact ⟨_, g1, by unfold sRet; rw [e], q⟩
theorem ok_if {c : DT} {a b : DS} {Q : Out → Store → Prop} (h : Ok (c ρ g) fun k g1 => (k = true → Ok (a ρ g1) Q) ∧ (k = false → Ok (b ρ g1) Q)) : Ok (sIf c a b ρ g) Q := by
  obtain ⟨k, g1, e, q1, q2⟩ := h
  unfold sIf
  rw [e]
  cases k with
  | true => exact q1 rfl
  | false => exact q2 rfl
theorem ok_app {i : Nat} {f : DE} {xs : List D} {Q : Out → Store → Prop} (hx : ρ[i]? = some (some (.own xs))) (h : Ok (f ρ g) fun d g1 => xs.length < BIG ∧ Q (.nx (ρ.set i (some (.own (xs ++ [d]))))) g1) : Ok (sApp i f ρ g) Q := by
  obtain ⟨d, g1, e, hl, q⟩ := h
  exact ⟨_, g1, by unfold sApp; rw [hx, e]; simp [hl], q⟩
theorem ok_run {n : Nat} {f : DS} {ds : List D} {Q : D → Store → Prop} (h : Ok (f (start3 n ds) g) fun o g1 => match o with | .rt d => Q d g1 | .nx _ => Q .non g1 | _ => False) : Ok (runD n f ds g) Q := by
  obtain ⟨o, g1, e, q⟩ := h
  unfold runD
  rw [e]
  cases o with
  | nx ρ1 => exact ⟨_, _, rfl, q⟩
  | rt d => exact ⟨_, _, rfl, q⟩
  | bk ρ1 => exact q.elim
  | ct ρ1 => exact q.elim
/-- a comprehension, by what each turn brings -/
theorem ok_lc {tg : D → Option (List (Nat × D))} {e : DE} (I : Store → Prop) (P : D → D → Prop) : ∀ {ds : List D} {g : Store}, I g → (∀ d ∈ ds, ∀ g, I g → ∃ as, tg d = some as ∧ Ok (e (sets ρ as) g) fun y g1 => P d y ∧ I g1) →
    Ok (lcD tg tYesD e ds ρ g) fun ys g1 => I g1 ∧ ys.length = ds.length ∧ ∀ (i : Nat) d y, ds[i]? = some d → ys[i]? = some y → P d y
  | [], g, hI, _ => ⟨[], g, rfl, hI, rfl, fun i d y h => by simp at h⟩
  | d :: ds, g, hI, h => by
    obtain ⟨as, ea, y, g1, ey, hp, hI1⟩ := h d List.mem_cons_self g hI
    obtain ⟨ys, g2, e2, hI2, hl, hall⟩ := ok_lc I P (ds := ds) hI1 fun d' hd' => h d' (List.mem_cons_of_mem _ hd')
    refine ⟨y :: ys, g2, ?_, hI2, by simp [hl], fun i d' y' h1 h2 => ?_⟩
    · unfold lcD
      rw [ea]
      simp only [tYesD, ey, e2]
    · cases i with
      | zero => simp at h1 h2; subst h1 h2; exact hp
      | succ i => exact hall i d' y' (by simpa using h1) (by simpa using h2)
/-- .. where nothing is drawn: the list itself -/
theorem lc_map {tg : D → Option (List (Nat × D))} {e : DE} {f : D → D} : ∀ {ds : List D}, (∀ d ∈ ds, ∃ as, tg d = some as ∧ e (sets ρ as) g = some (f d, g)) → lcD tg tYesD e ds ρ g = some (ds.map f, g)
  | [], _ => rfl
  | d :: ds, h => by
    obtain ⟨as, ea, ey⟩ := h d List.mem_cons_self
    unfold lcD
    rw [ea]
    simp only [tYesD, ey, lc_map (ds := ds) fun d' hd' => h d' (List.mem_cons_of_mem _ hd'), List.map_cons]
theorem lc_filter {tg : D → Option (List (Nat × D))} {c : DT} {e : DE} {f : D → D} {p : D → Bool} : ∀ {ds : List D}, (∀ d ∈ ds, ∃ as, tg d = some as ∧ c (sets ρ as) g = some (p d, g) ∧ (p d = true → e (sets ρ as) g = some (f d, g))) → lcD tg c e ds ρ g = some ((ds.filter p).map f, g)
  | [], _ => rfl
  | d :: ds, h => by
    obtain ⟨as, ea, ec, ey⟩ := h d List.mem_cons_self
    have ih := lc_filter (ds := ds) fun d' hd' => h d' (List.mem_cons_of_mem _ hd')
    unfold lcD
    rw [ea]
    simp only [ec]
    cases hp : p d with
    | true => simp only [ey hp, ih, List.filter_cons_of_pos hp, List.map_cons]
    | false => simp only [ih]; rw [List.filter_cons_of_neg (by simp [hp])]
/-- a for by its invariant -/
theorem ok_for {tg : D → Option (List (Nat × D))} {body : DS} {Q : Out → Store → Prop} (J : List D → Env3 → Store → Prop) : ∀ {ds : List D} {ρ : Env3} {g : Store}, J ds ρ g →
    (∀ d r ρ g, J (d :: r) ρ g → ∃ as, tg d = some as ∧ Ok (body (sets ρ as) g) fun o g1 => match o with | .nx ρ1 => J r ρ1 g1 | .ct ρ1 => J r ρ1 g1 | .bk ρ1 => Q (.nx ρ1) g1 | .rt d => Q (.rt d) g1) → (∀ ρ g, J [] ρ g → Q (.nx ρ) g) → Ok (forD tg body ds ρ g) Q
  | [], ρ, g, hJ, _, hd => ⟨_, _, rfl, hd ρ g hJ⟩
  | d :: ds, ρ, g, hJ, hs, hd => by
    obtain ⟨as, ea, o, g1, eo, q⟩ := hs d ds ρ g hJ
    unfold forD
    rw [ea]
    simp only [eo]
    cases o with
    | nx ρ1 => exact ok_for J q hs hd
    | ct ρ1 => exact ok_for J q hs hd
    | bk ρ1 => exact ⟨_, _, rfl, q⟩
    | rt d => exact ⟨_, _, rfl, q⟩
theorem ok_sfor {it : DA} {tg : D → Option (List (Nat × D))} {body : DS} {Q : Out → Store → Prop} (h : Ok (it ρ g) fun ds g1 => Ok (forD tg body ds ρ g1) Q) : Ok (sFor it tg body ρ g) Q := by
  obtain ⟨ds, g1, e, q⟩ := h
  unfold sFor
  rw [e]
  exact q
theorem ok_aLc {it : DA} {vs : List Nat} {tg : D → Option (List (Nat × D))} {c : DT} {e : DE} {Q : List D → Store → Prop} (h : Ok (it ρ g) fun ds g1 => (ds.length ≤ BIG ∧ noOwn ρ vs = true) ∧ Ok (lcD tg c e ds (wipe3 ρ vs) g1) Q) : Ok (aLc it vs tg c e ρ g) Q := by
  obtain ⟨ds, g1, e, h1, q⟩ := h
  unfold aLc
  rw [e]
  simp only [h1, and_self, if_true]
  exact q
end
theorem rangeD_len (lo : Int) (n : Nat) : (rangeD lo n).length = n := by simp [rangeD]
end L3

/-! L3n: the same as equations, for simp. -/
namespace L3
def OkO {β : Type} (o : Option β) (Q : β → Prop) : Prop := ∃ x, o = some x ∧ Q x
theorem okO_some {β : Type} (x : β) (Q : β → Prop) : OkO (some x) Q ↔ Q x := ⟨fun ⟨y, e, q⟩ => by cases e; exact q, fun q => ⟨x, rfl, q⟩⟩
theorem okO_ite {β : Type} {c : Prop} [Decidable c] (a b : Option β) (Q : β → Prop) : OkO (if c then a else b) Q ↔ if c then OkO a Q else OkO b Q := by split <;> exact Iff.rfl
theorem okO_guard {β : Type} {c : Prop} [Decidable c] (h : c) (a : Option β) (Q : β → Prop) : OkO (if c then a else none) Q ↔ OkO a Q := by rw [if_pos h]
theorem okO_map {β γ : Type} (f : β → γ) (o : Option β) (Q : γ → Prop) : OkO (o.map f) Q ↔ OkO o fun x => Q (f x) := by
  constructor
  · rintro ⟨y, e, q⟩
    obtain ⟨x, e1, rfl⟩ := Option.map_eq_some_iff.mp e
    exact ⟨x, e1, q⟩
  · rintro ⟨x, e, q⟩
    exact ⟨f x, by rw [e]; rfl, q⟩
section
variable {ρ : Env3} {g : Store}
theorem okv {β : Type} (x : β) (Q : β → Store → Prop) : Ok (some (x, g)) Q ↔ Q x g := ⟨fun ⟨y, g', e, q⟩ => by cases e; exact q, fun q => ⟨x, g, rfl, q⟩⟩
theorem okb {β γ : Type} (m : M β) (k : β → M γ) (Q : γ → Store → Prop) : Ok (L3.bindM m k ρ g) Q ↔ Ok (m ρ g) fun x g1 => Ok (k x ρ g1) Q := by
  constructor
  · rintro ⟨y, g', e, q⟩
    obtain ⟨x, g1, e1, e2⟩ := bindM_some e
    exact ⟨x, g1, e1, y, g', e2, q⟩
  · exact ok_bind
theorem okl {β : Type} (o : Option β) (Q : β → Store → Prop) : Ok (L3.liftM o ρ g) Q ↔ OkO o fun x => Q x g := by
  constructor
  · rintro ⟨y, g', e, q⟩
    obtain ⟨e1, rfl⟩ := liftM_some e
    exact ⟨y, e1, q⟩
  · rintro ⟨x, e, q⟩
    exact ok_lift e q
theorem ok_eOp (op : D → D → Option D) (a b : DE) (Q : D → Store → Prop) : Ok (eOp op a b ρ g) Q ↔ Ok (a ρ g) fun x g1 => Ok (b ρ g1) fun y g2 => OkO (op x y) fun z => Q z g2 := by
  unfold eOp; simp only [okb, okl]
theorem ok_eUn (op : D → Option D) (a : DE) (Q : D → Store → Prop) : Ok (eUn op a ρ g) Q ↔ Ok (a ρ g) fun x g1 => OkO (op x) fun z => Q z g1 := by
  unfold eUn; simp only [okb, okl]
theorem ok_aNil (Q : List D → Store → Prop) : Ok (aNil ρ g) Q ↔ Q [] g := okv _ _
theorem ok_aCons (a : DE) (r : DA) (Q : List D → Store → Prop) : Ok (aCons a r ρ g) Q ↔ Ok (a ρ g) fun x g1 => Ok (r ρ g1) fun xs g2 => Q (x :: xs) g2 := by
  unfold aCons; simp only [okb, okl, okO_some]
theorem ok_eFn (φ : List D → Option D) (a : DA) (Q : D → Store → Prop) : Ok (eFn φ a ρ g) Q ↔ Ok (a ρ g) fun xs g1 => OkO (φ xs) fun z => Q z g1 := by
  unfold eFn; simp only [okb, okl]
theorem ok_aFn (φ : List D → Option (List D)) (a : DA) (Q : List D → Store → Prop) : Ok (aFn φ a ρ g) Q ↔ Ok (a ρ g) fun xs g1 => OkO (φ xs) fun z => Q z g1 := by
  unfold aFn; simp only [okb, okl]
theorem ok_eApp (φ : List D → Store → Option (D × Store)) (a : DA) (Q : D → Store → Prop) : Ok (eApp φ a ρ g) Q ↔ Ok (a ρ g) fun xs g1 => Ok (φ xs g1) Q := by
  unfold eApp; simp only [okb]
theorem ok_eC (d : D) (Q : D → Store → Prop) : Ok (eC d ρ g) Q ↔ Q d g := okv _ _
theorem ok_eL (f : DA) (Q : D → Store → Prop) : Ok (eL f ρ g) Q ↔ Ok (f ρ g) fun xs g1 => Q (.lst xs) g1 := by
  unfold eL; simp only [okb, okl, okO_some]
theorem ok_eSt (f : DA) (Q : D → Store → Prop) : Ok (eSt f ρ g) Q ↔ Ok (f ρ g) fun xs g1 => Q (.obj g1.length) (g1 ++ [.lst xs]) := by
  unfold eSt; simp only [okb, okv]
theorem ok_eM1 (φ : D → List D → Option D) (o a : DE) (Q : D → Store → Prop) : Ok (eM1 φ o a ρ g) Q ↔ Ok (o ρ g) fun x g1 => Ok (a ρ g1) fun y g2 => OkO (if isStr x then φ x [y] else none) fun z => Q z g2 := by
  unfold eM1; simp only [okb, okl]
theorem ok_aM1 (φ : D → List D → Option (List D)) (o a : DE) (Q : List D → Store → Prop) : Ok (aM1 φ o a ρ g) Q ↔ Ok (o ρ g) fun x g1 => Ok (a ρ g1) fun y g2 => OkO (if isStr x then φ x [y] else none) fun z => Q z g2 := by
  unfold aM1; simp only [okb, okl]
theorem ok_oNone (Q : Option Int → Store → Prop) : Ok (oNone ρ g) Q ↔ Q none g := okv _ _
def asInt : D → Option (Option Int)
  | .int i => some (some i)
  | _ => none
theorem ok_oSome (f : DE) (Q : Option Int → Store → Prop) : Ok (oSome f ρ g) Q ↔ Ok (f ρ g) fun x g1 => OkO (asInt x) fun z => Q z g1 := by
  unfold oSome; simp only [okb, okl]; rfl
theorem ok_eSl (φ : D → Option Int → Option Int → Option D) (f : DE) (lo hi : DO) (Q : D → Store → Prop) : Ok (eSl φ f lo hi ρ g) Q ↔ Ok (f ρ g) fun x g1 => Ok (lo ρ g1) fun l g2 => Ok (hi ρ g2) fun h g3 => OkO (φ x l h) fun z => Q z g3 := by
  unfold eSl; simp only [okb, okl]
def asBl : D → Option Bool
  | .bl b => some b
  | _ => none
theorem ok_tOf (a : DE) (Q : Bool → Store → Prop) : Ok (tOf a ρ g) Q ↔ Ok (a ρ g) fun x g1 => OkO (asBl x) fun b => Q b g1 := by
  unfold tOf; simp only [okb, okl]; rfl
theorem ok_tTru (a : DE) (Q : Bool → Store → Prop) : Ok (tTru a ρ g) Q ↔ Ok (a ρ g) fun x g1 => OkO (truD x) fun b => Q b g1 := by
  unfold tTru; simp only [okb, okl]
theorem ok_tNot (a : DT) (Q : Bool → Store → Prop) : Ok (tNotD a ρ g) Q ↔ Ok (a ρ g) fun c g1 => Q (!c) g1 := by
  unfold tNotD; simp only [okb, okl, okO_some]
theorem ok_tAnd (a b : DT) (Q : Bool → Store → Prop) : Ok (tAndD a b ρ g) Q ↔ Ok (a ρ g) fun c g1 => if c = true then Ok (b ρ g1) Q else Q false g1 := by
  unfold tAndD; simp only [okb]
  constructor <;> (rintro ⟨c, g1, e, q⟩; refine ⟨c, g1, e, ?_⟩; cases c <;> simpa [okv] using q)
theorem ok_tOr (a b : DT) (Q : Bool → Store → Prop) : Ok (tOrD a b ρ g) Q ↔ Ok (a ρ g) fun c g1 => if c = true then Q true g1 else Ok (b ρ g1) Q := by
  unfold tOrD; simp only [okb]
  constructor <;> (rintro ⟨c, g1, e, q⟩; refine ⟨c, g1, e, ?_⟩; cases c <;> simpa [okv] using q)
theorem ok_eAnd (a b : DE) (Q : D → Store → Prop) : Ok (eAndD a b ρ g) Q ↔ Ok (a ρ g) fun x g1 => OkO (asBl x) fun c => if c = true then Ok (b ρ g1) Q else Q (.bl false) g1 := by
  unfold eAndD; simp only [okb]
  constructor
  · rintro ⟨x, g1, e, y, g2, e2, q⟩
    refine ⟨x, g1, e, ?_⟩
    split at e2
    · exact ⟨true, rfl, y, g2, e2, q⟩
    · cases e2; exact ⟨false, rfl, q⟩
    · cases e2
  · rintro ⟨x, g1, e, c, e2, q⟩
    refine ⟨x, g1, e, ?_⟩
    cases x <;> cases e2
    cases c
    · exact ⟨_, _, rfl, q⟩
    · exact q
theorem ok_eOr (a b : DE) (Q : D → Store → Prop) : Ok (eOrD a b ρ g) Q ↔ Ok (a ρ g) fun x g1 => OkO (asBl x) fun c => if c = true then Q (.bl true) g1 else Ok (b ρ g1) Q := by
  unfold eOrD; simp only [okb]
  constructor
  · rintro ⟨x, g1, e, y, g2, e2, q⟩
    refine ⟨x, g1, e, ?_⟩
    split at e2
    · exact ⟨false, rfl, y, g2, e2, q⟩
    · cases e2; exact ⟨true, rfl, q⟩
    · cases e2
  · rintro ⟨x, g1, e, c, e2, q⟩
    refine ⟨x, g1, e, ?_⟩
    cases x <;> cases e2
    cases c
    · exact q
    · exact ⟨_, _, rfl, q⟩
theorem ok_eIf (c : DT) (a b : DE) (Q : D → Store → Prop) : Ok (eIfD c a b ρ g) Q ↔ Ok (c ρ g) fun k g1 => if k = true then Ok (a ρ g1) Q else Ok (b ρ g1) Q := by
  unfold eIfD; simp only [okb]
  constructor <;> (rintro ⟨c, g1, e, q⟩; refine ⟨c, g1, e, ?_⟩; cases c <;> simpa using q)
theorem ok_eChain (o o' : D → D → Option D) (a b c : DE) (Q : D → Store → Prop) : Ok (eChain o o' a b c ρ g) Q ↔ Ok (a ρ g) fun x g1 => Ok (b ρ g1) fun y g2 => OkO (o x y) fun z => OkO (asBl z) fun k => if k = true then Ok (c ρ g2) fun u g3 => OkO (o' y u) fun r => Q r g3 else Q (.bl false) g2 := by
  unfold eChain; simp only [okb, okl]
  constructor
  · rintro ⟨x, g1, e1, y, g2, e2, z, e3, r, g4, e4, q⟩
    refine ⟨x, g1, e1, y, g2, e2, z, e3, ?_⟩
    split at e4
    · obtain ⟨u, g5, e5, e6⟩ := bindM_some e4
      obtain ⟨e7, rfl⟩ := liftM_some e6
      exact ⟨true, rfl, u, g5, e5, r, e7, q⟩
    · cases e4; exact ⟨false, rfl, q⟩
    · cases e4
  · rintro ⟨x, g1, e1, y, g2, e2, z, e3, k, e4, q⟩
    refine ⟨x, g1, e1, y, g2, e2, z, e3, ?_⟩
    cases z <;> cases e4
    cases k
    · exact ⟨_, _, rfl, q⟩
    · exact ok_bind (by obtain ⟨u, g5, e5, r, e6, q⟩ := q; exact ⟨u, g5, e5, ok_lift e6 q⟩)
/-! names -/
def valD : Option (Option SV) → Option D
  | some (some (.d x)) => some x
  | _ => none
def valB : Option (Option SV) → Option D
  | some (some (.d x)) => some x
  | some (some (.own xs)) => some (.lst xs)
  | some (some (.ownd ds)) => some (.dic ds)
  | _ => none
theorem ok_eVar (i : Nat) (Q : D → Store → Prop) : Ok (eVar i ρ g) Q ↔ OkO (valD ρ[i]?) fun x => Q x g := by
  unfold eVar valD
  generalize ρ[i]? = o
  constructor
  · rintro ⟨x, g1, e, q⟩
    split at e
    · cases e; exact ⟨_, rfl, q⟩
    · cases e
  · rintro ⟨x, e, q⟩
    split at e
    · cases e; exact ⟨_, _, rfl, q⟩
    · cases e
theorem ok_eVarB (i : Nat) (Q : D → Store → Prop) : Ok (eVarB i ρ g) Q ↔ OkO (valB ρ[i]?) fun x => Q x g := by
  unfold eVarB valB
  generalize ρ[i]? = o
  constructor
  · rintro ⟨x, g1, e, q⟩
    split at e
    · cases e; exact ⟨_, rfl, q⟩
    · cases e; exact ⟨_, rfl, q⟩
    · cases e; exact ⟨_, rfl, q⟩
    · cases e
  · rintro ⟨x, e, q⟩
    split at e
    · cases e; exact ⟨_, _, rfl, q⟩
    · cases e; exact ⟨_, _, rfl, q⟩
    · cases e; exact ⟨_, _, rfl, q⟩
    · cases e
/-! statements -/
def seqK (b : DS) (Q : Out → Store → Prop) : Out → Store → Prop := fun o g1 => match o with
  | .nx ρ1 => Ok (b ρ1 g1) Q
  | o => Q o g1
theorem seqK_nx (b : DS) (Q : Out → Store → Prop) (ρ1 : Env3) : seqK b Q (.nx ρ1) g ↔ Ok (b ρ1 g) Q := Iff.rfl
theorem seqK_rt (b : DS) (Q : Out → Store → Prop) (d : D) : seqK b Q (.rt d) g ↔ Q (.rt d) g := Iff.rfl
theorem seqK_bk (b : DS) (Q : Out → Store → Prop) (ρ1 : Env3) : seqK b Q (.bk ρ1) g ↔ Q (.bk ρ1) g := Iff.rfl
theorem seqK_ct (b : DS) (Q : Out → Store → Prop) (ρ1 : Env3) : seqK b Q (.ct ρ1) g ↔ Q (.ct ρ1) g := Iff.rfl
theorem ok_sSeq (a b : DS) (Q : Out → Store → Prop) : Ok (sSeq a b ρ g) Q ↔ Ok (a ρ g) (seqK b Q) := by
  constructor
  · rintro ⟨o, g1, e, q⟩
    unfold sSeq at e
    split at e
    · rename_i ρ1 g2 e1
      exact ⟨_, _, e1, o, g1, e, q⟩
    · rename_i hn
      refine ⟨o, g1, e, ?_⟩
      cases o with
      | nx ρ1 => exact absurd e (hn ρ1 g1)
      | rt d => exact q
      | bk ρ1 => exact q
      | ct ρ1 => exact q
  · intro h
    exact ok_seq (h.mono fun o g1 q => by cases o <;> exact q)
theorem ok_sSet (i : Nat) (f : DE) (Q : Out → Store → Prop) : Ok (sSet i f ρ g) Q ↔ Ok (f ρ g) fun d g1 => Q (.nx (ρ.set i (some (.d d)))) g1 := by
  constructor
  · rintro ⟨o, g1, e, q⟩
    unfold sSet at e
    split at e
    · cases e; exact ⟨_, _, ‹_›, q⟩
    · cases e
  · exact ok_set
theorem ok_sOwn (i : Nat) (f : DA) (Q : Out → Store → Prop) (hi : i < ρ.length) : Ok (sOwn i f ρ g) Q ↔ Ok (f ρ g) fun d g1 => Q (.nx (ρ.set i (some (.own d)))) g1 := by
  constructor
  · rintro ⟨o, g1, e, q⟩
    unfold sOwn at e
    split at e
    · rw [if_pos hi] at e; cases e; exact ⟨_, _, ‹_›, q⟩
    · cases e
  · exact ok_own hi
theorem ok_sRet (f : DE) (Q : Out → Store → Prop) : Ok (sRet f ρ g) Q ↔ Ok (f ρ g) fun d g1 => Q (.rt d) g1 := by
  constructor
  · rintro ⟨o, g1, e, q⟩
    unfold sRet at e
    split at e
    · cases e; exact ⟨_, _, ‹_›, q⟩
    · cases e
  · exact ok_ret
theorem ok_sIf (c : DT) (a b : DS) (Q : Out → Store → Prop) : Ok (sIf c a b ρ g) Q ↔ Ok (c ρ g) fun k g1 => if k = true then Ok (a ρ g1) Q else Ok (b ρ g1) Q := by
  constructor
  · rintro ⟨o, g1, e, q⟩
    unfold sIf at e
    split at e
    · exact ⟨_, _, ‹_›, by dsimp only; rw [if_pos rfl]; exact ⟨o, g1, e, q⟩⟩
    · exact ⟨_, _, ‹_›, by dsimp only; rw [if_neg (by decide)]; exact ⟨o, g1, e, q⟩⟩
    · cases e
  · rintro ⟨k, g1, e, q⟩
    refine ok_if ⟨k, g1, e, fun h => ?_, fun h => ?_⟩
    · rw [if_pos h] at q; exact q
    · rw [if_neg (by simp [h])] at q; exact q
theorem ok_sNext (Q : Out → Store → Prop) : Ok (sNext ρ g) Q ↔ Q (.nx ρ) g := okv _ _
theorem ok_sDrop (f : DE) (Q : Out → Store → Prop) : Ok (sDrop f ρ g) Q ↔ Ok (f ρ g) fun d g1 => Q (.nx ρ) g1 := by
  constructor
  · rintro ⟨o, g1, e, q⟩
    unfold sDrop at e
    split at e
    · cases e; exact ⟨_, _, ‹_›, q⟩
    · cases e
  · rintro ⟨d, g1, e, q⟩
    exact ⟨_, g1, by unfold sDrop; rw [e], q⟩
def ownOf : Option (Option SV) → Option (List D)
  | some (some (.own xs)) => some xs
  | _ => none
theorem ok_sApp (i : Nat) (f : DE) (Q : Out → Store → Prop) : Ok (sApp i f ρ g) Q ↔ OkO (ownOf ρ[i]?) fun xs => Ok (f ρ g) fun d g1 => xs.length < BIG ∧ Q (.nx (ρ.set i (some (.own (xs ++ [d]))))) g1 := by
  constructor
  · rintro ⟨o, g1, e, q⟩
    unfold sApp at e
    split at e
    · rename_i xs hx
      split at e
      · split at e
        · cases e
          exact ⟨xs, by rw [hx]; rfl, _, _, ‹_›, ‹_›, q⟩
        · cases e
      · cases e
    · cases e
  · rintro ⟨xs, hx, d, g1, e, hl, q⟩
    have hx' : ρ[i]? = some (some (.own xs)) := by
      unfold ownOf at hx
      split at hx
      · cases hx; assumption
      · cases hx
    exact ok_app hx' ⟨d, g1, e, hl, q⟩
def frz (ρ : Env3) (i : Nat) : Env3 := match ρ[i]? with
  | some (some (.own xs)) => ρ.set i (some (.d (.lst xs)))
  | some (some (.ownd ds)) => ρ.set i (some (.d (.dic ds)))
  | _ => ρ
theorem ok_sFreeze (i : Nat) (f : DS) (Q : Out → Store → Prop) : Ok (sFreeze i f ρ g) Q ↔ Ok (f (frz ρ i) g) Q := by
  unfold sFreeze frz
  generalize ρ[i]? = o
  cases o with
  | none => exact Iff.rfl
  | some o => cases o with
    | none => exact Iff.rfl
    | some x => cases x <;> exact Iff.rfl
theorem ok_sUnp (f : DE) (tg : D → Option (List (Nat × D))) (Q : Out → Store → Prop) : Ok (sUnp f tg ρ g) Q ↔ Ok (f ρ g) fun d g1 => OkO (tg d) fun as => Q (.nx (sets ρ as)) g1 := by
  constructor
  · rintro ⟨o, g1, e, q⟩
    unfold sUnp at e
    split at e
    · split at e
      · cases e; exact ⟨_, _, ‹_›, _, ‹_›, q⟩
      · cases e
    · cases e
  · rintro ⟨d, g1, e, as, ea, q⟩
    exact ⟨_, g1, by unfold sUnp; rw [e]; simp only [ea], q⟩
theorem ok_sAug (i : Nat) (op : D → D → Option D) (f : DE) (Q : Out → Store → Prop) : Ok (sAug i op f ρ g) Q ↔ OkO (valD ρ[i]?) fun x => Ok (f ρ g) fun y g1 => OkO (op x y) fun z => Q (.nx (ρ.set i (some (.d z)))) g1 := by
  constructor
  · rintro ⟨o, g1, e, q⟩
    unfold sAug at e
    split at e
    · rename_i x hx
      split at e
      · split at e
        · cases e
          exact ⟨x, by rw [hx]; rfl, _, _, ‹_›, _, ‹_›, q⟩
        · cases e
      · cases e
    · cases e
  · rintro ⟨x, hx, y, g1, e, z, ez, q⟩
    have hx' : ρ[i]? = some (some (.d x)) := by
      unfold valD at hx
      split at hx
      · cases hx; assumption
      · cases hx
    exact ⟨_, g1, by unfold sAug; rw [hx']; simp only [e, ez], q⟩
theorem ok_sFor (it : DA) (tg : D → Option (List (Nat × D))) (body : DS) (Q : Out → Store → Prop) : Ok (sFor it tg body ρ g) Q ↔ Ok (it ρ g) fun ds g1 => Ok (forD tg body ds ρ g1) Q := by
  constructor
  · rintro ⟨o, g1, e, q⟩
    unfold sFor at e
    split at e
    · exact ⟨_, _, ‹_›, o, g1, e, q⟩
    · cases e
  · exact ok_sfor
theorem ok_aLcE (it : DA) (vs : List Nat) (tg : D → Option (List (Nat × D))) (c : DT) (e : DE) (Q : List D → Store → Prop) : Ok (aLc it vs tg c e ρ g) Q ↔ Ok (it ρ g) fun ds g1 => (ds.length ≤ BIG ∧ noOwn ρ vs = true) ∧ Ok (lcD tg c e ds (wipe3 ρ vs) g1) Q := by
  constructor
  · rintro ⟨o, g1, e, q⟩
    unfold aLc at e
    split at e
    · split at e
      · exact ⟨_, _, ‹_›, ‹_›, o, g1, e, q⟩
      · cases e
    · cases e
  · exact ok_aLc
theorem ok_aItems (f : DE) (Q : List D → Store → Prop) : Ok (aItems f ρ g) Q ↔ Ok (f ρ g) fun x g1 => OkO (items x) fun z => Q z g1 := by
  unfold aItems; simp only [okb, okl]
def runK (Q : D → Store → Prop) : Out → Store → Prop := fun o g1 => match o with
  | .rt d => Q d g1
  | .nx _ => Q .non g1
  | _ => False
theorem runK_rt (Q : D → Store → Prop) (d : D) : runK Q (.rt d) g ↔ Q d g := Iff.rfl
theorem runK_nx (Q : D → Store → Prop) (ρ1 : Env3) : runK Q (.nx ρ1) g ↔ Q .non g := Iff.rfl
theorem ok_runD (n : Nat) (f : DS) (ds : List D) (Q : D → Store → Prop) : Ok (runD n f ds g) Q ↔ Ok (f (start3 n ds) g) (runK Q) := by
  constructor
  · rintro ⟨o, g1, e, q⟩
    unfold runD at e
    split at e
    · rename_i d g2 e1
      cases e
      exact ⟨.rt _, _, e1, q⟩
    · rename_i d g2 e1
      cases e
      exact ⟨.nx _, _, e1, q⟩
    · cases e
  · intro h
    exact ok_run (h.mono fun o g1 q => by cases o <;> exact q)
end
end L3

/-! L3o: operators on what they are of, as equations. -/
namespace L3
theorem okO_if {β : Type} {c : Prop} [Decidable c] (x : β) (Q : β → Prop) : OkO (if c then some x else none) Q ↔ c ∧ Q x := by
  constructor
  · rintro ⟨y, e, q⟩
    split at e
    · rename_i hc; cases e; exact ⟨hc, q⟩
    · cases e
  · rintro ⟨hc, q⟩
    exact ⟨x, by rw [if_pos hc], q⟩
theorem dAddA_ii (a b : Int) : dAddA (.int a) (.int b) = some (.int (a + b)) := rfl
theorem dAddA_ss (a b : List Nat) : dAddA (.str a) (.str b) = if a.length + b.length ≤ BIG then some (.str (a ++ b)) else none := rfl
theorem dAddA_ll (a b : List D) : dAddA (.lst a) (.lst b) = if a.length + b.length ≤ BIG then some (.lst (a ++ b)) else none := rfl
theorem dAddA_tt (a b : List D) : dAddA (.tup a) (.tup b) = if a.length + b.length ≤ BIG then some (.tup (a ++ b)) else none := rfl
theorem dAdd_ii (a b : Int) : dAdd (.int a) (.int b) = some (.int (a + b)) := rfl
theorem dAdd_ss (a b : List Nat) : dAdd (.str a) (.str b) = if a.length + b.length ≤ BIG then some (.str (a ++ b)) else none := rfl
theorem dSub_ii (a b : Int) : dSub (.int a) (.int b) = some (.int (a - b)) := rfl
theorem dMul_ii (a b : Int) : dMul (.int a) (.int b) = if (-(2 ^ 64) < a ∧ a < 2 ^ 64) ∨ (-(2 ^ 64) < b ∧ b < 2 ^ 64) then some (.int (a * b)) else none := rfl
theorem dMul_si (a : List Nat) (n : Int) : dMul (.str a) (.int n) = if 0 ≤ n ∧ n ≤ 100000 ∧ a.length * n.toNat ≤ BIG then some (.str (List.replicate n.toNat a).flatten) else none := rfl
theorem dMod_ii (a b : Int) : dMod (.int a) (.int b) = if 0 < b then some (.int (a % b)) else none := rfl
theorem dDiv_ii (a b : Int) : dDiv (.int a) (.int b) = if 0 < b ∧ b < 1073741824 then some (.int (a / b)) else none := rfl
theorem dLt_ii (a b : Int) : dLt (.int a) (.int b) = some (.bl (decide (a < b))) := rfl
theorem dLt_ss (a b : List Nat) : dLt (.str a) (.str b) = some (.bl (decide (a < b))) := rfl
theorem dLe_ii (a b : Int) : dLe (.int a) (.int b) = some (.bl (decide (a ≤ b))) := rfl
theorem dLe_ss (a b : List Nat) : dLe (.str a) (.str b) = some (.bl (!decide (b < a))) := rfl
theorem dGt_ii (a b : Int) : dGt (.int a) (.int b) = some (.bl (decide (b < a))) := rfl
theorem dGt_ss (a b : List Nat) : dGt (.str a) (.str b) = some (.bl (decide (b < a))) := rfl
theorem dGe_ii (a b : Int) : dGe (.int a) (.int b) = some (.bl (decide (b ≤ a))) := rfl
theorem dGe_ss (a b : List Nat) : dGe (.str a) (.str b) = some (.bl (!decide (a < b))) := rfl
theorem dEq_ii (a b : Int) : dEq (.int a) (.int b) = some (.bl (decide (a = b))) := rfl
theorem dEq_ss (a b : List Nat) : dEq (.str a) (.str b) = some (.bl (decide (a = b))) := rfl
theorem dEq_bb (a b : Bool) : dEq (.bl a) (.bl b) = some (.bl (decide (a = b))) := rfl
theorem dEq_nn  : dEq .non .non = some (.bl (true)) := rfl
theorem dEq_ns (a : List Nat) : dEq .non (.str a) = some (.bl (false)) := rfl
theorem dEq_sn (a : List Nat) : dEq (.str a) .non = some (.bl (false)) := rfl
theorem dEq_ni (a : Int) : dEq .non (.int a) = some (.bl (false)) := rfl
theorem dEq_in (a : Int) : dEq (.int a) .non = some (.bl (false)) := rfl
theorem dNe_ii (a b : Int) : dNe (.int a) (.int b) = some (.bl (!decide (a = b))) := rfl
theorem dNe_ss (a b : List Nat) : dNe (.str a) (.str b) = some (.bl (!decide (a = b))) := rfl
theorem dNe_bb (a b : Bool) : dNe (.bl a) (.bl b) = some (.bl (!decide (a = b))) := rfl
theorem dNe_nn  : dNe .non .non = some (.bl (!true)) := rfl
theorem dNe_ns (a : List Nat) : dNe .non (.str a) = some (.bl (!false)) := rfl
theorem dNe_sn (a : List Nat) : dNe (.str a) .non = some (.bl (!false)) := rfl
theorem dNe_ni (a : Int) : dNe .non (.int a) = some (.bl (!false)) := rfl
theorem dNe_in (a : Int) : dNe (.int a) .non = some (.bl (!false)) := rfl
theorem dIs_n  : dIs .non .non = some (.bl true) := rfl
theorem dIsNot_n  : dIsNot .non .non = some (.bl false) := rfl
theorem dIs_b (a : Bool) : dIs (.bl a) .non = some (.bl false) := rfl
theorem dIsNot_b (a : Bool) : dIsNot (.bl a) .non = some (.bl true) := rfl
theorem dIs_i (a : Int) : dIs (.int a) .non = some (.bl false) := rfl
theorem dIsNot_i (a : Int) : dIsNot (.int a) .non = some (.bl true) := rfl
theorem dIs_s (a : List Nat) : dIs (.str a) .non = some (.bl false) := rfl
theorem dIsNot_s (a : List Nat) : dIsNot (.str a) .non = some (.bl true) := rfl
theorem dIs_l (a : List D) : dIs (.lst a) .non = some (.bl false) := rfl
theorem dIsNot_l (a : List D) : dIsNot (.lst a) .non = some (.bl true) := rfl
theorem dIs_t (a : List D) : dIs (.tup a) .non = some (.bl false) := rfl
theorem dIsNot_t (a : List D) : dIsNot (.tup a) .non = some (.bl true) := rfl
theorem dIs_d (a : List (DKey × D)) : dIs (.dic a) .non = some (.bl false) := rfl
theorem dIsNot_d (a : List (DKey × D)) : dIsNot (.dic a) .non = some (.bl true) := rfl
theorem dIs_o (a : Nat) : dIs (.obj a) .non = some (.bl false) := rfl
theorem dIsNot_o (a : Nat) : dIsNot (.obj a) .non = some (.bl true) := rfl
theorem dLen_s (a : List Nat) : dLen [.str a] = if a.length ≤ BIG then some (.int a.length) else none := rfl
theorem dLen_l (a : List D) : dLen [.lst a] = some (.int a.length) := rfl
theorem dLen_t (a : List D) : dLen [.tup a] = some (.int a.length) := rfl
theorem dTup_d (a : List D) : dTup a = if a.length ≤ BIG then some (.tup a) else none := rfl
theorem dLst_d (a : List D) : dLst a = if a.length ≤ BIG then some a else none := rfl
theorem truD_n  : truD .non = some false := rfl
theorem truD_b (a : Bool) : truD (.bl a) = some a := rfl
theorem truD_i (a : Int) : truD (.int a) = some (a != 0) := rfl
theorem truD_s (a : List Nat) : truD (.str a) = if a.length ≤ BIG then some (!a.isEmpty) else none := rfl
theorem truD_l (a : List D) : truD (.lst a) = some (!a.isEmpty) := rfl
theorem truD_t (a : List D) : truD (.tup a) = some (!a.isEmpty) := rfl
theorem dNot_b (a : Bool) : dNot (.bl a) = some (.bl (!a)) := rfl
theorem dNeg_i (a : Int) : dNeg (.int a) = some (.int (-a)) := rfl
theorem asInt_i (a : Int) : asInt (.int a) = some (some a) := rfl
theorem asBl_b (a : Bool) : asBl (.bl a) = some a := rfl
theorem dSl_s (a : List Nat) (l h : Option Int) : dSl (.str a) l h = if a.length ≤ BIG then some (.str (cutL a l h)) else none := rfl
theorem dSl_l (a : List D) (l h : Option Int) : dSl (.lst a) l h = some (.lst (cutL a l h)) := rfl
theorem dSl_t (a : List D) (l h : Option Int) : dSl (.tup a) l h = some (.tup (cutL a l h)) := rfl
theorem isStr_s (a : List Nat) : isStr (.str a) = true := rfl
theorem items_l (a : List D) : items (.lst a) = some a := rfl
theorem items_t (a : List D) : items (.tup a) = some a := rfl
theorem items_s (a : List Nat) : items (.str a) = some (a.map fun c => .str [c]) := rfl
theorem dInt_i (a : Int) : dInt [.int a] = some (.int a) := rfl
theorem dInt_b (a : Bool) : dInt [.bl a] = some (.int (if a then 1 else 0)) := rfl
theorem dIx_li (a : List D) (i : Int) : dIx (.lst a) (.int i) = L2.atI a i := rfl
theorem dIx_ti (a : List D) (i : Int) : dIx (.tup a) (.int i) = L2.atI a i := rfl
theorem dStarts_ss (a b : List Nat) : dStarts (.str a) [.str b] = some (.bl (a.take b.length == b)) := rfl
theorem dTuple_l (a : List D) : dTuple [.lst a] = some (.tup a) := rfl
theorem dTuple_t (a : List D) : dTuple [.tup a] = some (.tup a) := rfl
theorem aList_l (a : List D) : aList [.lst a] = some a := rfl
theorem aList_t (a : List D) : aList [.tup a] = some a := rfl
theorem dIn_cs (c : Nat) (z : List Nat) : dIn (.str [c]) (.str z) = some (.bl (decide (c ∈ z))) := rfl
theorem dNotIn_cs (c : Nat) (z : List Nat) : dNotIn (.str [c]) (.str z) = some (.bl (!decide (c ∈ z))) := rfl
theorem valD_d (x : D) : valD (some (some (.d x))) = some x := rfl
theorem valB_d (x : D) : valB (some (some (.d x))) = some x := rfl
theorem valB_o (xs : List D) : valB (some (some (.own xs))) = some (.lst xs) := rfl
theorem valB_w (xs : List (DKey × D)) : valB (some (some (.ownd xs))) = some (.dic xs) := rfl
theorem ownOf_o (xs : List D) : ownOf (some (some (.own xs))) = some xs := rfl
theorem isi_int_n  : dIsi "int" .non = some (.bl false) := by unfold dIsi tyName; dsimp only; rw [show L2.kitB "NoneType" "int" = some false by decide +kernel]; rfl
theorem isi_int_b (a : Bool) : dIsi "int" (.bl a) = some (.bl true) := by unfold dIsi tyName; dsimp only; rw [show L2.kitB "bool" "int" = some true by decide +kernel]; rfl
theorem isi_int_i (a : Int) : dIsi "int" (.int a) = some (.bl true) := by unfold dIsi tyName; dsimp only; rw [show L2.kitB "int" "int" = some true by decide +kernel]; rfl
theorem isi_int_s (a : List Nat) : dIsi "int" (.str a) = some (.bl false) := by unfold dIsi tyName; dsimp only; rw [show L2.kitB "str" "int" = some false by decide +kernel]; rfl
theorem isi_int_l (a : List D) : dIsi "int" (.lst a) = some (.bl false) := by unfold dIsi tyName; dsimp only; rw [show L2.kitB "list" "int" = some false by decide +kernel]; rfl
theorem isi_int_t (a : List D) : dIsi "int" (.tup a) = some (.bl false) := by unfold dIsi tyName; dsimp only; rw [show L2.kitB "tuple" "int" = some false by decide +kernel]; rfl
theorem isi_int_d (a : List (DKey × D)) : dIsi "int" (.dic a) = some (.bl false) := by unfold dIsi tyName; dsimp only; rw [show L2.kitB "dict" "int" = some false by decide +kernel]; rfl
theorem isi_str_n  : dIsi "str" .non = some (.bl false) := by unfold dIsi tyName; dsimp only; rw [show L2.kitB "NoneType" "str" = some false by decide +kernel]; rfl
theorem isi_str_b (a : Bool) : dIsi "str" (.bl a) = some (.bl false) := by unfold dIsi tyName; dsimp only; rw [show L2.kitB "bool" "str" = some false by decide +kernel]; rfl
theorem isi_str_i (a : Int) : dIsi "str" (.int a) = some (.bl false) := by unfold dIsi tyName; dsimp only; rw [show L2.kitB "int" "str" = some false by decide +kernel]; rfl
theorem isi_str_s (a : List Nat) : dIsi "str" (.str a) = some (.bl true) := by unfold dIsi tyName; dsimp only; rw [show L2.kitB "str" "str" = some true by decide +kernel]; rfl
theorem isi_str_l (a : List D) : dIsi "str" (.lst a) = some (.bl false) := by unfold dIsi tyName; dsimp only; rw [show L2.kitB "list" "str" = some false by decide +kernel]; rfl
theorem isi_str_t (a : List D) : dIsi "str" (.tup a) = some (.bl false) := by unfold dIsi tyName; dsimp only; rw [show L2.kitB "tuple" "str" = some false by decide +kernel]; rfl
theorem isi_str_d (a : List (DKey × D)) : dIsi "str" (.dic a) = some (.bl false) := by unfold dIsi tyName; dsimp only; rw [show L2.kitB "dict" "str" = some false by decide +kernel]; rfl
theorem isi_bool_n  : dIsi "bool" .non = some (.bl false) := by unfold dIsi tyName; dsimp only; rw [show L2.kitB "NoneType" "bool" = some false by decide +kernel]; rfl
theorem isi_bool_b (a : Bool) : dIsi "bool" (.bl a) = some (.bl true) := by unfold dIsi tyName; dsimp only; rw [show L2.kitB "bool" "bool" = some true by decide +kernel]; rfl
theorem isi_bool_i (a : Int) : dIsi "bool" (.int a) = some (.bl false) := by unfold dIsi tyName; dsimp only; rw [show L2.kitB "int" "bool" = some false by decide +kernel]; rfl
theorem isi_bool_s (a : List Nat) : dIsi "bool" (.str a) = some (.bl false) := by unfold dIsi tyName; dsimp only; rw [show L2.kitB "str" "bool" = some false by decide +kernel]; rfl
theorem isi_bool_l (a : List D) : dIsi "bool" (.lst a) = some (.bl false) := by unfold dIsi tyName; dsimp only; rw [show L2.kitB "list" "bool" = some false by decide +kernel]; rfl
theorem isi_bool_t (a : List D) : dIsi "bool" (.tup a) = some (.bl false) := by unfold dIsi tyName; dsimp only; rw [show L2.kitB "tuple" "bool" = some false by decide +kernel]; rfl
theorem isi_bool_d (a : List (DKey × D)) : dIsi "bool" (.dic a) = some (.bl false) := by unfold dIsi tyName; dsimp only; rw [show L2.kitB "dict" "bool" = some false by decide +kernel]; rfl
theorem isi_list_n  : dIsi "list" .non = some (.bl false) := by unfold dIsi tyName; dsimp only; rw [show L2.kitB "NoneType" "list" = some false by decide +kernel]; rfl
theorem isi_list_b (a : Bool) : dIsi "list" (.bl a) = some (.bl false) := by unfold dIsi tyName; dsimp only; rw [show L2.kitB "bool" "list" = some false by decide +kernel]; rfl
theorem isi_list_i (a : Int) : dIsi "list" (.int a) = some (.bl false) := by unfold dIsi tyName; dsimp only; rw [show L2.kitB "int" "list" = some false by decide +kernel]; rfl
theorem isi_list_s (a : List Nat) : dIsi "list" (.str a) = some (.bl false) := by unfold dIsi tyName; dsimp only; rw [show L2.kitB "str" "list" = some false by decide +kernel]; rfl
theorem isi_list_l (a : List D) : dIsi "list" (.lst a) = some (.bl true) := by unfold dIsi tyName; dsimp only; rw [show L2.kitB "list" "list" = some true by decide +kernel]; rfl
theorem isi_list_t (a : List D) : dIsi "list" (.tup a) = some (.bl false) := by unfold dIsi tyName; dsimp only; rw [show L2.kitB "tuple" "list" = some false by decide +kernel]; rfl
theorem isi_list_d (a : List (DKey × D)) : dIsi "list" (.dic a) = some (.bl false) := by unfold dIsi tyName; dsimp only; rw [show L2.kitB "dict" "list" = some false by decide +kernel]; rfl
theorem isi_tuple_n  : dIsi "tuple" .non = some (.bl false) := by unfold dIsi tyName; dsimp only; rw [show L2.kitB "NoneType" "tuple" = some false by decide +kernel]; rfl
theorem isi_tuple_b (a : Bool) : dIsi "tuple" (.bl a) = some (.bl false) := by unfold dIsi tyName; dsimp only; rw [show L2.kitB "bool" "tuple" = some false by decide +kernel]; rfl
theorem isi_tuple_i (a : Int) : dIsi "tuple" (.int a) = some (.bl false) := by unfold dIsi tyName; dsimp only; rw [show L2.kitB "int" "tuple" = some false by decide +kernel]; rfl
theorem isi_tuple_s (a : List Nat) : dIsi "tuple" (.str a) = some (.bl false) := by unfold dIsi tyName; dsimp only; rw [show L2.kitB "str" "tuple" = some false by decide +kernel]; rfl
theorem isi_tuple_l (a : List D) : dIsi "tuple" (.lst a) = some (.bl false) := by unfold dIsi tyName; dsimp only; rw [show L2.kitB "list" "tuple" = some false by decide +kernel]; rfl
theorem isi_tuple_t (a : List D) : dIsi "tuple" (.tup a) = some (.bl true) := by unfold dIsi tyName; dsimp only; rw [show L2.kitB "tuple" "tuple" = some true by decide +kernel]; rfl
theorem isi_tuple_d (a : List (DKey × D)) : dIsi "tuple" (.dic a) = some (.bl false) := by unfold dIsi tyName; dsimp only; rw [show L2.kitB "dict" "tuple" = some false by decide +kernel]; rfl
theorem isi_dict_n  : dIsi "dict" .non = some (.bl false) := by unfold dIsi tyName; dsimp only; rw [show L2.kitB "NoneType" "dict" = some false by decide +kernel]; rfl
theorem isi_dict_b (a : Bool) : dIsi "dict" (.bl a) = some (.bl false) := by unfold dIsi tyName; dsimp only; rw [show L2.kitB "bool" "dict" = some false by decide +kernel]; rfl
theorem isi_dict_i (a : Int) : dIsi "dict" (.int a) = some (.bl false) := by unfold dIsi tyName; dsimp only; rw [show L2.kitB "int" "dict" = some false by decide +kernel]; rfl
theorem isi_dict_s (a : List Nat) : dIsi "dict" (.str a) = some (.bl false) := by unfold dIsi tyName; dsimp only; rw [show L2.kitB "str" "dict" = some false by decide +kernel]; rfl
theorem isi_dict_l (a : List D) : dIsi "dict" (.lst a) = some (.bl false) := by unfold dIsi tyName; dsimp only; rw [show L2.kitB "list" "dict" = some false by decide +kernel]; rfl
theorem isi_dict_t (a : List D) : dIsi "dict" (.tup a) = some (.bl false) := by unfold dIsi tyName; dsimp only; rw [show L2.kitB "tuple" "dict" = some false by decide +kernel]; rfl
theorem isi_dict_d (a : List (DKey × D)) : dIsi "dict" (.dic a) = some (.bl true) := by unfold dIsi tyName; dsimp only; rw [show L2.kitB "dict" "dict" = some true by decide +kernel]; rfl
end L3

/-! L3p: loops turn by turn. -/
namespace L3
def FUEL : Nat := 1000000
section
variable {ρ : Env3} {g : Store}
def forK (tg : D → Option (List (Nat × D))) (body : DS) (ds : List D) (Q : Out → Store → Prop) : Out → Store → Prop := fun o g1 => match o with
  | .nx ρ1 => Ok (forD tg body ds ρ1 g1) Q
  | .ct ρ1 => Ok (forD tg body ds ρ1 g1) Q
  | .bk ρ1 => Q (.nx ρ1) g1
  | .rt d => Q (.rt d) g1
variable (tg : D → Option (List (Nat × D))) (body : DS) (ds : List D) (Q : Out → Store → Prop)
theorem forK_nx (ρ1 : Env3) : forK tg body ds Q (.nx ρ1) g ↔ Ok (forD tg body ds ρ1 g) Q := Iff.rfl
theorem forK_ct (ρ1 : Env3) : forK tg body ds Q (.ct ρ1) g ↔ Ok (forD tg body ds ρ1 g) Q := Iff.rfl
theorem forK_bk (ρ1 : Env3) : forK tg body ds Q (.bk ρ1) g ↔ Q (.nx ρ1) g := Iff.rfl
theorem forK_rt (d : D) : forK tg body ds Q (.rt d) g ↔ Q (.rt d) g := Iff.rfl
theorem ok_forNil : Ok (forD tg body [] ρ g) Q ↔ Q (.nx ρ) g := okv _ _
theorem ok_forCons (d : D) : Ok (forD tg body (d :: ds) ρ g) Q ↔ OkO (tg d) fun as => Ok (body (sets ρ as) g) (forK tg body ds Q) := by
  constructor
  · rintro ⟨o, g1, e, q⟩
    unfold forD at e
    split at e
    · cases e
    · rename_i as ha
      refine ⟨as, ha, ?_⟩
      split at e
      · exact ⟨.nx _, _, ‹_›, show Ok _ _ from ⟨o, g1, e, q⟩⟩
      · exact ⟨.ct _, _, ‹_›, show Ok _ _ from ⟨o, g1, e, q⟩⟩
      · cases e; exact ⟨.bk _, _, ‹_›, q⟩
      · cases e; exact ⟨.rt _, _, ‹_›, q⟩
      · cases e
  · rintro ⟨as, ha, o, g1, e, q⟩
    unfold forD
    rw [ha]
    simp only [e]
    cases o with
    | nx ρ1 => exact q
    | ct ρ1 => exact q
    | bk ρ1 => exact ⟨_, _, rfl, q⟩
    | rt d => exact ⟨_, _, rfl, q⟩
end
section
variable {ρ : Env3} {g : Store} (tg : D → Option (List (Nat × D))) (c : DT) (e : DE) (ds : List D) (Q : List D → Store → Prop)
theorem ok_lcNil : Ok (lcD tg c e [] ρ g) Q ↔ Q [] g := okv _ _
theorem ok_lcCons (d : D) : Ok (lcD tg c e (d :: ds) ρ g) Q ↔ OkO (tg d) fun as => Ok (c (sets ρ as) g) fun b g1 => if b = true then Ok (e (sets ρ as) g1) fun y g2 => Ok (lcD tg c e ds ρ g2) fun ys g3 => Q (y :: ys) g3 else Ok (lcD tg c e ds ρ g1) Q := by
  constructor
  · rintro ⟨o, g1, h, q⟩
    unfold lcD at h
    split at h
    · cases h
    · rename_i as ha
      refine ⟨as, ha, ?_⟩
      split at h
      · split at h
        · split at h
          · cases h
            exact ⟨_, _, ‹_›, by dsimp only; rw [if_pos rfl]; exact ⟨_, _, ‹_›, _, _, ‹_›, q⟩⟩
          · cases h
        · cases h
      · exact ⟨_, _, ‹_›, by dsimp only; rw [if_neg (by decide)]; exact ⟨o, g1, h, q⟩⟩
      · cases h
  · rintro ⟨as, ha, b, g1, hc, q⟩
    unfold lcD
    rw [ha]
    simp only [hc]
    cases b with
    | true =>
      rw [if_pos rfl] at q
      obtain ⟨y, g2, e1, ys, g3, e2, q⟩ := q
      exact ⟨y :: ys, g3, by simp only [e1, e2], q⟩
    | false =>
      rw [if_neg (by decide)] at q
      exact q
end
section
variable {ρ : Env3} {g : Store} (c : DT) (body : DS) (Q : Out → Store → Prop)
def whK (n : Nat) : Out → Store → Prop := fun o g1 => match o with
  | .nx ρ1 => Ok (whileD c body n ρ1 g1) Q
  | .ct ρ1 => Ok (whileD c body n ρ1 g1) Q
  | .bk ρ1 => Q (.nx ρ1) g1
  | .rt d => Q (.rt d) g1
theorem whK_nx (n : Nat) (ρ1 : Env3) : whK c body Q n (.nx ρ1) g ↔ Ok (whileD c body n ρ1 g) Q := Iff.rfl
theorem whK_ct (n : Nat) (ρ1 : Env3) : whK c body Q n (.ct ρ1) g ↔ Ok (whileD c body n ρ1 g) Q := Iff.rfl
theorem whK_bk (n : Nat) (ρ1 : Env3) : whK c body Q n (.bk ρ1) g ↔ Q (.nx ρ1) g := Iff.rfl
theorem whK_rt (n : Nat) (d : D) : whK c body Q n (.rt d) g ↔ Q (.rt d) g := Iff.rfl
theorem ok_wh (n : Nat) : Ok (whileD c body (n + 1) ρ g) Q ↔ Ok (c ρ g) fun k g1 => if k = true then Ok (body ρ g1) (whK c body Q n) else Q (.nx ρ) g1 := by
  constructor
  · rintro ⟨o, g1, e, q⟩
    unfold whileD at e
    split at e
    · refine ⟨_, _, ‹_›, ?_⟩
      dsimp only
      rw [if_pos rfl]
      split at e
      · exact ⟨.nx _, _, ‹_›, show Ok _ _ from ⟨o, g1, e, q⟩⟩
      · exact ⟨.ct _, _, ‹_›, show Ok _ _ from ⟨o, g1, e, q⟩⟩
      · cases e; exact ⟨.bk _, _, ‹_›, q⟩
      · cases e; exact ⟨.rt _, _, ‹_›, q⟩
      · cases e
    · cases e
      exact ⟨_, _, ‹_›, by dsimp only; rw [if_neg (by decide)]; exact q⟩
    · cases e
  · rintro ⟨k, g1, e, q⟩
    unfold whileD
    rw [e]
    cases k with
    | true =>
      rw [if_pos rfl] at q
      obtain ⟨o, g2, e2, q⟩ := q
      simp only [e2]
      cases o with
      | nx ρ1 => exact q
      | ct ρ1 => exact q
      | bk ρ1 => exact ⟨_, _, rfl, q⟩
      | rt d => exact ⟨_, _, rfl, q⟩
    | false =>
      rw [if_neg (by decide)] at q
      exact ⟨_, _, rfl, q⟩
end
end L3

namespace L3
open PySem PySem.Spec PyProof.Rows L2
/-! the head's facts, over a fragment in which no list lies (so the script is tracked) -/
def notL (o : Obj) : Bool := match o.cls with
  | .type c => !(decide (c = ("list" : Str)))
  | _ => true
def gL (g : Addr → Option Obj) (a : Addr) : Option Obj := match g a with
  | some o => match notL o with
    | true => some o
    | false => none
  | none => none
theorem gL_at {g : Addr → Option Obj} {a : Addr} {o : Obj} (h : gL g a = some o) : g a = some o ∧ notL o = true := by
  unfold gL at h
  split at h
  · rename_i o' e
    split at h
    · rename_i e2
      cases h
      exact ⟨e, e2⟩
    · cases h
  · cases h
def obsLG (n : Nat) (fa : List He.Fa) (fn : List He.DefD) (g : Addr → Option Obj) : He.AlD := He.obsD fa fn (He.frG (gL g) (He.asD g n))
def SaysL (fa : List He.Fa) (fn : List He.DefD) (K : PySem.W.Frag) : Prop := He.SaysD fa fn K ∧ ∀ a o, K.lookup a = some o → notL o = true
def hookL (n : Nat) (fa : List He.Fa) (fn : List He.DefD) : PySem.W.Hook where
  α := He.AlD
  obs := fun s => obsLG n fa fn s.heap.get?
  val := fun _ => He.valD fn
  says := fun _ h => ∃ K : PySem.W.Frag, K.In h ∧ SaysL fa fn K
  of := fun _ _ e => ⟨_, fun _ _ q => (gL_at (He.frG_at _ q)).1, e, fun _ _ q => (gL_at (He.frG_at _ q)).2⟩
  keeps := fun _ _ _ ⟨K, hK, c⟩ k => ⟨K, PySem.W.Frag.In.keeps hK k, c⟩
theorem obsLG_eq {n : Nat} {fa : List He.Fa} {fn : List He.DefD} {g : Addr → Option Obj} {s : Shared} (h : ∀ a, g a = s.heap.get? a) : obsLG n fa fn g = (hookL n fa fn).obs s := by
  have e : g = s.heap.get? := funext h
  rw [e] <;> rfl
theorem sqL_rd {K : PySem.W.Frag} {H : Hp} {a : Addr} {xs : List V} (hK : ∀ a o, K.lookup a = some o → notL o = true) (h : SqL K H a xs) : Rd H a (.lst xs) := by
  rcases h with h | ⟨o, its, n, hk, hc, _⟩
  · exact h
  · have := hK a o hk
    unfold notL at this
    rw [hc] at this
    dsimp only at this
    rw [decide_eq_true rfl] at this
    cases this
theorem lawFn {P : Program} {w : World} {K : PySem.W.Frag} {mg : Str → Option Value} {base : Heap} {k : Nat} {x qual : Str} {params : Arguments} {body : List Stmt} {scope : Scope} {dvs : List V} {kws : List (Str × V)} {fd : FuncData} {ps : List Str} {sp : Sp}
    (F : FunD K x qual params body scope dvs kws (He.ga K x) fd) (A : FnAt P w K mg base k x ps sp) : FnOk P w K mg base CX0 k (He.ga K x) fd ps sp := by
  obtain ⟨oc, od, _, _, _, _, _, _, _, osl, _, lk, _⟩ := F.ex
  obtain ⟨⟨fd2, G, _, oc2, od2, osl2, lk2⟩, _, _⟩ := A
  rw [lk] at lk2
  cases lk2
  exact G
theorem endD {K : PySem.W.Frag} {φ : List D → Store → Option (D × Store)} {m : Nat} (hK : ∀ a o, K.lookup a = some o → notL o = true)
    (hφ : ∀ ns : List Int, ns.length ≤ m → Ok (φ [.lst (ns.map .int)] []) fun d _ => d = .bl true) {H : Hp} {a : Addr} {ns : List Int} (hl : ns.length ≤ m) (hS : SqL K H a (ns.map V.int)) {E : XK} :
    spD K 1 φ [.ref a] H (fun v _ => v = .bl true) E := by
  obtain ⟨d, g', e, rfl⟩ := hφ ns hl
  refine ⟨fun _ => False, [], [], [.lst (ns.map .int)], .bl true, g', rfl, fun _ h => h.elim, ?_, ⟨rfl, ?_⟩, e, ?_⟩
  · exact ⟨rfl, List.nodup_nil, fun i a o h => by simp at h⟩
  · intro i v d hv hd
    cases i with
    | zero =>
      cases hv; cases hd
      refine Rep.lst ⟨by simp, fun h => h, fun i h => by cases h⟩ (sqL_rd hK hS) (by simp) ?_
      intro i v d hv hd
      rw [List.getElem?_map] at hv hd
      cases q : ns[i]? with
      | none => rw [q] at hv; cases hv
      | some k =>
        rw [q] at hv hd
        cases hv; cases hd
        exact .int k
    | succ i => cases hv
  · intro v H' α' _ _ r
    cases r
    rfl
end L3

namespace L3
open PySem PySem.Spec PyProof.Rows L2
/-! sorted(set(xs)), xs a list of ints of any length below the scan's bound -/
abbrev fresh (w : World) : Obj := { cls := .type "set", dict := none, data := .set #[] 0 (.fresh 0 0 (!w.params.followText "set-order")) }
section
variable {P : Program} {w : World} {A : Around} {E : Value → Shared → Prop} {s : Shared}
/-- what the set's loop gets of a list: the walk over it, from the new set on -/
theorem loop_listI {l : Addr} {items : Array Value} {ns : List Int} (hh : A.handled = none) (hl : s.heap.IsList l items) (hi : IntsAre items.toList ns) (hb : ns.length + 1 < scanBound) {R : Result → Shared → Prop}
    (hR : ∀ (h' : Heap) (tk c : Nat), SetR w h' s.heap.objs.size (fun j => decide (j ∈ ns)) c → c ≤ ns.length → (∀ b o, s.heap.get? b = some o → h'.get? b = some o) → R (.ok (.ret .none)) { s with heap := h', toks := tk }) :
    codeAny (model P w) A (.builtin "set.update.loop" ⟨[.ref s.heap.objs.size, .ref (s.heap.push (fresh w)).objs.size], []⟩) R { s with heap := (s.heap.push (fresh w)).push { cls := .type "list_iterator", data := .fields #[.ref l, .int 0 0] } } := by
  have len : items.size = ns.length := by rw [← hi.length, Array.length_toList]
  have lt : l < s.heap.objs.size := by obtain ⟨_, q, _⟩ := hl; exact Heap.lt_size q
  have ne1 : l ≠ (s.heap.push (fresh w)).objs.size := by rw [Heap.size_push]; exact Nat.ne_of_lt (Nat.lt_succ_of_lt lt)
  have nin : s.heap.objs.size ∉ [(s.heap.push (fresh w)).objs.size, l] := by
    rw [Heap.size_push]
    intro z
    rcases List.mem_cons.mp z with z | z
    · exact absurd z (Nat.ne_of_lt (Nat.lt_succ_self _))
    · exact absurd (List.mem_singleton.mp z) (Nat.ne_of_gt lt)
  have val : ∀ (i : Nat) (v : Value), items[i]? = some v → ∃ k t, ns[i]? = some k ∧ v = .int k t := fun i v q => by
    have hlt : i < ns.length := by rw [← len]; exact (Array.getElem?_eq_some_iff.mp q).1
    obtain ⟨t, e⟩ := PyProof.Rows.IntsAre.int_at hi i v (by rw [Array.getElem?_toList]; exact q)
    exact ⟨ns[i], t, List.getElem?_eq_getElem hlt, by rw [e, List.getD_eq_getElem?_getD, List.getElem?_eq_getElem hlt]; rfl⟩
  have h1 : A.in1.handled = none := by simp [hh]
  refine set_update_ints ((Walks.list h1 _ l ne1 items).toS) s.heap.objs.size nin ns len hb val (items.size - 0) 0 _ (by omega) (Nat.zero_le _) ⟨⟨_, Heap.get?_push_size _ rfl, rfl, rfl⟩, (hl.push _).push _⟩
    ⟨0, Nat.le_refl 0, setR_new_at (Heap.get?_push_of_some _ (Heap.get?_push_size _ rfl))⟩ fun s' c mv hc hS => ?_
  obtain ⟨h', g2, d', tk', os'⟩ := s'
  cases mv.gens
  cases mv.drawn
  cases mv.os
  rw [len] at hc
  refine hR h' tk' c hS hc fun b o e => ?_
  have hlt := Heap.lt_size e
  refine mv.heap b o (fun z => ?_) (Heap.get?_push_of_some _ (Heap.get?_push_of_some _ e))
  rw [Heap.size_push] at z
  rcases List.mem_cons.mp z with z | z
  · exact absurd z (Nat.ne_of_lt hlt)
  · exact absurd (List.mem_singleton.mp z) (Nat.ne_of_lt (Nat.lt_succ_of_lt hlt))
theorem init_listI {l : Addr} {items : Array Value} {ns : List Int} {R : Result → Shared → Prop} (hh : A.handled = none) (hl : s.heap.IsList l items) (hi : IntsAre items.toList ns) (hb : ns.length + 1 < scanBound)
    (hR : ∀ (h' : Heap) (tk c : Nat), SetR w h' s.heap.objs.size (fun j => decide (j ∈ ns)) c → c ≤ ns.length → (∀ b o, s.heap.get? b = some o → h'.get? b = some o) → R (.ok (.ret .none)) { s with heap := h', toks := tk }) :
    codeAny (model P w) A (.call (.builtin "set.__init__") ⟨[.ref s.heap.objs.size, .ref l], []⟩) R { s with heap := s.heap.push (fresh w) } := by
  have at0 : (s.heap.push (fresh w)).get? s.heap.objs.size = some (fresh w) := Heap.get?_push_size _ rfl
  have ty : Shared.TypeIs { s with heap := s.heap.push (fresh w) } (.ref s.heap.objs.size) "set" := ⟨_, at0, rfl⟩
  refine codeAny_call_builtin F.called_set.init.plain F.entry_set_init (check_set_init_1 ty ?_)
  obtain ⟨⟨_, od, _, osl⟩, hol, hcl, nl, hdl⟩ := id hl
  cases hcl
  cases hdl
  have lS := F.sub_list_set; have lF := F.sub_list_frozenset
  have nd : (Value.type "list" == Value.type "dict") = false := by decide
  have at1 : (s.heap.push (fresh w)).get? l = some { cls := .type "list", dict := od, data := .seq items nl, slots := osl } := Heap.get?_push_of_some _ hol
  have hl1 : (s.heap.push (fresh w)).IsList l items := hl.push _
  unfold Builtin.«set.__init__» noKeywords Builtin.Frozenset.updateFrom; generalize q : pyIter = PI; wp_walk; subst q
  refine wpAny_pyIter_list hl1 (wpAny_bind (wpAny_runValue ?_))
  refine loop_listI (by simp [hh]) hl hi hb fun h' tk c hS hc hk => ?_
  exact wpAny_pure (wpAny_pure (hR h' tk c hS hc hk))
theorem set_listI {l : Addr} {items : Array Value} {ns : List Int} {Q : Value → Shared → Prop} (hh : A.handled = none) (hl : s.heap.IsList l items) (hi : IntsAre items.toList ns) (hb : ns.length + 1 < scanBound)
    (hQ : ∀ (h' : Heap) (tk c : Nat), SetR w h' s.heap.objs.size (fun j => decide (j ∈ ns)) c → c ≤ ns.length → (∀ b o, s.heap.get? b = some o → h'.get? b = some o) → Q (.ref s.heap.objs.size) { s with heap := h', toks := tk }) :
    wpAny (model P w) A (call (.type "set") [.ref l]) Q E s := by
  obtain ⟨c, tl, mro⟩ := F.called_set.mro
  have made := F.called_set.made; have sub := F.called_set.sub; have nt := F.called_set.notType; have cr := F.called_set.canCreate; have ct := F.typeCall_set_1 (.ref l)
  refine wpAny_call (codeAny_of_tree (wpAny_pure ⟨Code.quiet_builtin _ (by decide +kernel), codeAny_builtin F.entry_type_call ?_⟩)); rw [Around.under_plain (weight_type_call_type "set" [.ref l] []) rfl]
  repeat (any_goals (first | assumption | wp_step))
  refine codeAny_mono (code_set_led1 (.ref l) (E := E) (Q₁ := fun o s1 => o = .ref s.heap.objs.size ∧ s1 = { s with heap := s.heap.push (fresh w) }) ⟨rfl, rfl⟩) fun r s1 hr => ?_
  have at0 : (s.heap.push (fresh w)).get? s.heap.objs.size = some (fresh w) := Heap.get?_push_size _ rfl
  cases r with
  | error e => exact hr
  | ok fl =>
    cases fl
    case ret o =>
      obtain ⟨rfl, rfl⟩ := hr
      have ty : Shared.TypeIs { s with heap := s.heap.push (fresh w) } (.ref s.heap.objs.size) "set" := ⟨_, at0, rfl⟩
      have lk := F.called_set.init.lookup; have bd := F.called_set.init.bind (.ref s.heap.objs.size)
      repeat (any_goals (first | assumption | wp_step))
      refine codeAny_mono (init_listI (s := s) (R := wants (fun r s2 => r = .none ∧ ∃ h' tk c, s2 = { s with heap := h', toks := tk } ∧ SetR w h' s.heap.objs.size (fun j => decide (j ∈ ns)) c ∧ c ≤ ns.length ∧ ∀ b o, s.heap.get? b = some o → h'.get? b = some o) E) (by simp [hh]) hl hi hb fun h' tk c a1 a2 a3 => ⟨rfl, h', tk, c, rfl, a1, a2, a3⟩) fun r2 s2 hr2 => ?_
      cases r2 with
      | error e => exact hr2
      | ok fl2 =>
        cases fl2
        case ret r =>
          obtain ⟨rfl, h', tk, c', rfl, a1, a2, a3⟩ := hr2
          repeat (any_goals (first | assumption | wp_step))
          exact hQ _ _ _ a1 a2 a3
        all_goals exact hr2.elim
    all_goals exact hr.elim
theorem sortedS {a : Addr} {S : Int → Bool} {n : Nat} {Q : Value → Shared → Prop} (R : SetR w s.heap a S n) (hh : A.handled = none)
    (hQ : ∀ s' p (out : Array Value) (c : Nat) (ns : List Int), (∀ b o, s.heap.get? b = some o → s'.heap.get? b = some o) → s'.gens = s.gens → s'.os = s.os → s.heap.objs.size ≤ p →
      s'.heap.get? p = some (seqObj "list" out c) → IntsAre out.toList ns → ns.Pairwise (· < ·) → (∀ k, k ∈ ns ↔ S k = true) → ns.length ≤ sizeLine → Q (.ref p) s') : wpAny (model P w) A (call (.builtin "sorted") [.ref a]) Q E s := by
  obtain ⟨o, es, ep, t, ho, ex, hd, good, nd, mem, few, fit, _, ris, led⟩ := R
  refine Calls.call_function_entry kind_sorted plain_sorted entry_sorted (args_sorted1 _) ?_; unfold Builtin.«sorted»
  refine wpAny_bind (m := checkCount "sorted" 1 1 _) (wpAny_pure (wpAny_bind (collect_set (A := A.in1) hh ⟨o, ho, ex.1, hd⟩ fit few ris led fun s1 vs k1 hz g1 o1 pm => ?_)))
  have lenV : vs.length ≤ sizeLine := by
    rw [pm.length_eq, List.length_map, Array.length_toList, sizeLine_eq]
    unfold scanBound at few
    omega
  have allI : ∀ v ∈ vs, ∃ k tk, v = Value.int k tk := fun v hv => by
    obtain ⟨e, he, q⟩ := List.mem_map.mp (pm.mem_iff.mp hv)
    obtain ⟨k, tk, h1, _⟩ := good e he
    exact ⟨k, tk, by rw [← q]; exact h1⟩
  have inI := SrtO.ints_iv allI
  have keys : (vs.map SrtO.iv).Perm (es.toList.map keyOf) := by
    have q := pm.map SrtO.iv
    rw [List.map_map] at q
    refine q.trans (.of_eq (List.map_congr_left fun e he => ?_))
    obtain ⟨k, tk, h1, _⟩ := good e he
    show SrtO.iv e.2 = keyOf e
    unfold keyOf
    rw [h1]
    rfl
  refine wpAny_bind (wpAny_newList ?_ lenV)
  have new : (s1.heap.push (seqObj "list" vs.toArray 0)).get? s1.heap.objs.size = some (seqObj "list" vs.toArray 0) := Heap.get?_push_size _ rfl
  refine wpAny_bind (wpAny_holding (wpAny_call_entry slot_list_sort ⟨_, new, rfl⟩ entry_list_sort (SrtO.list_sort_ord SrtO.swo_int new lenV (fun h2 => SrtO.ints_sortable inI h2) fun out c1 c2 => ⟨_, rfl, wpAny_pure ⟨_, rfl, ?_⟩⟩) (args_list_sort _)))
  obtain ⟨d1, d2, d3⟩ := SrtO.ints_out inI c1 c2
  obtain ⟨c, hc⟩ := sortedHeap_at (vs := vs) (out := out.toArray) new
  have pn := d2.trans keys
  refine hQ _ s1.heap.objs.size out.toArray c _ (fun b u e => ?_) g1 o1 hz hc d1 (lt_of_le_nodup _ d3 (pn.nodup_iff.mpr nd)) (fun k => by rw [pn.mem_iff, ← mem k]) ?_
  · have q := k1 b u e
    have lt := Heap.lt_size q
    show (sortedHeap (s1.heap.push (seqObj "list" vs.toArray 0)) s1.heap.objs.size vs out.toArray).get? b = some u
    rw [sortedHeap_old (Nat.ne_of_lt lt) (by rw [size_push']; exact Nat.lt_succ_of_lt lt)]
    exact Heap.get?_push_of_some _ q
  · rw [d2.length_eq, List.length_map]
    exact lenV
end
/-- a tracked set of ints -/
def SetI (w : World) (a : Addr) (S : Int → Bool) : HO := .ext fun h => ∃ n, SetR w h a S n
theorem setI_new {P : Program} {w : World} {H : Hp} {h : Heap} {a : Addr} {S : Int → Bool} {n : Nat} (R : SetR w h a S n) : ObjOk P w H h a (SetI w a S) := by
  have ⟨o, _, _, _, ho, _⟩ := R
  exact ⟨⟨n, R⟩, ⟨o, ho⟩, fun h1 h2 ⟨n, p⟩ k => ⟨n, p.at k⟩⟩
section
variable {X : Cx} {a : Expr} {fa : DE} {pos : Pos}
def rSetL (K : PySem.W.Frag) (w : World) : List V → Hp → VK → Prop := fun xs H Q => ∃ (l : Addr) (ns : List Int), xs = [V.ref l] ∧ SqL K H l (ns.map V.int) ∧ ns.length ≤ 4000 ∧ ∀ p, H p = none → Q (.ref p) (upd H p (SetI w p fun j => decide (j ∈ ns)))
theorem cr_setL (hc : X.calm = true) : CallR X (.type "set") (rSetL X.K X.w) := by
  intro pins s σ H xs us Q I r h
  obtain ⟨l, ns, rfl, hl, hn, q⟩ := h
  rw [Vals.ref1 r]
  obtain ⟨its, rv, pl, hz⟩ := I.list hl
  refine set_listI (I.ok.hd hc) pl.isList (ns := ns) (by simpa using rv.ints) (by unfold scanBound; omega) fun h' tk c R _ k => ?_
  exact ⟨.ref _, upd H s.heap.objs.size _, I.laid (t' := tk) k (Nat.le_refl _) (setI_new R), rfl, q _ (I.hok.fresh (Nat.le_refl _))⟩
def rSortS (w : World) : List V → Hp → VK → Prop := fun xs H Q => ∃ (a : Addr) (S : Int → Bool), xs = [V.ref a] ∧ H a = some (SetI w a S) ∧ ∀ p (ns : List Int), H p = none → ns.Pairwise (· < ·) → (∀ k, k ∈ ns ↔ S k = true) → Q (.ref p) (upd H p (.lst (ns.map V.int)))
theorem cr_sortS (hc : X.calm = true) : CallR X (.builtin "sorted") (rSortS X.w) := by
  intro pins s σ H xs us Q I r h
  obtain ⟨a, S, rfl, ha, q⟩ := h
  rw [Vals.ref1 r]
  obtain ⟨n, R⟩ := (I.hok a _ ha).1
  refine sortedS R (I.ok.hd hc) fun s' p out c ns k g o hp hg hI hlt hm hlen => ?_
  have hn : H p = none := I.hok.fresh hp
  have J : Inv X pins σ (upd H p (.lst (ns.map V.int))) { s with heap := s'.heap, gens := s'.gens, drawn := s'.drawn, toks := s'.toks } :=
    I.call (ch := []) (Un.laid k hp hn) (I.hok.laid k hp ⟨by rw [List.length_map]; exact hlen, out.toList, c, vals_of_ints hI, hg⟩) (by rw [g]; exact I.bare) (fun _ z => nomatch z)
  have e : s' = { s with heap := s'.heap, gens := s'.gens, drawn := s'.drawn, toks := s'.toks } := by cases s'; cases s; cases o; rfl
  rw [e]
  exact ⟨.ref p, _, J, rfl, q p ns hn hlt hm⟩
/-- the ints of a list of data -/
def intsD : List D → Option (List Int)
  | [] => some []
  | .int i :: r => (intsD r).map (i :: ·)
  | _ :: _ => none
def insU (i : Int) : List Int → List Int
  | [] => [i]
  | j :: r => if i < j then i :: j :: r else if i = j then j :: r else j :: insU i r
def sortU (l : List Int) : List Int := l.foldr insU []
theorem intsD_map : ∀ ns : List Int, intsD (ns.map .int) = some ns
  | [] => rfl
  | i :: r => by show (intsD (r.map .int)).map (i :: ·) = _; rw [intsD_map r]; rfl
theorem intsD_eq : ∀ {ds : List D} {ns : List Int}, intsD ds = some ns → ds = ns.map .int
  | [], _, h => by cases h; rfl
  | .int i :: r, ns, h => by
    unfold intsD at h
    cases q : intsD r with
    | none => rw [q] at h; cases h
    | some l => rw [q] at h; cases h; rw [intsD_eq q]; rfl
  | .non :: _, _, h | .bl _ :: _, _, h | .str _ :: _, _, h | .lst _ :: _, _, h | .tup _ :: _, _, h | .dic _ :: _, _, h | .obj _ :: _, _, h | .sta _ :: _, _, h => by cases h
theorem insU_mem (i k : Int) : ∀ l, k ∈ insU i l ↔ k = i ∨ k ∈ l
  | [] => by simp [insU]
  | j :: r => by
    unfold insU
    split
    · simp
    · split
      · rename_i e; subst e; simp
      · rw [List.mem_cons, insU_mem i k r, List.mem_cons]
        constructor
        · rintro (h | h | h) <;> simp [h]
        · rintro (h | h | h) <;> simp [h]
theorem insU_lt (i : Int) : ∀ l : List Int, l.Pairwise (· < ·) → (insU i l).Pairwise (· < ·)
  | [], _ => by simp [insU]
  | j :: r, h => by
    obtain ⟨h1, h2⟩ := List.pairwise_cons.mp h
    unfold insU
    split
    · rename_i hij
      refine List.pairwise_cons.mpr ⟨fun y hy => ?_, h⟩
      rcases List.mem_cons.mp hy with rfl | hy
      · exact hij
      · have := h1 y hy; omega
    · split
      · exact h
      · rename_i n1 n2
        refine List.pairwise_cons.mpr ⟨fun y hy => ?_, insU_lt i r h2⟩
        rcases (insU_mem i y r).mp hy with rfl | hy
        · omega
        · exact h1 y hy
theorem sortU_mem (k : Int) : ∀ l, k ∈ sortU l ↔ k ∈ l
  | [] => by simp [sortU]
  | i :: r => by show k ∈ insU i (sortU r) ↔ _; rw [insU_mem, sortU_mem k r, List.mem_cons]
theorem sortU_lt : ∀ l : List Int, (sortU l).Pairwise (· < ·)
  | [] => .nil
  | i :: r => insU_lt i _ (sortU_lt r)
theorem lt_uniq : ∀ {l m : List Int}, l.Pairwise (· < ·) → m.Pairwise (· < ·) → (∀ k, k ∈ l ↔ k ∈ m) → l = m
  | [], [], _, _, _ => rfl
  | [], j :: m, _, _, h => absurd ((h j).mpr (List.mem_cons_self ..)) (by simp)
  | i :: l, [], _, _, h => absurd ((h i).mp (List.mem_cons_self ..)) (by simp)
  | i :: l, j :: m, hl, hm, h => by
    obtain ⟨l1, l2⟩ := List.pairwise_cons.mp hl
    obtain ⟨m1, m2⟩ := List.pairwise_cons.mp hm
    have e : i = j := by
      have a := (h i).mp (List.mem_cons_self ..)
      have b := (h j).mpr (List.mem_cons_self ..)
      rcases List.mem_cons.mp a with a | a
      · exact a
      · rcases List.mem_cons.mp b with b | b
        · exact b.symm
        · have := m1 i a; have := l1 j b; omega
    subst e
    rw [lt_uniq l2 m2 fun k => ?_]
    have q := h k
    rw [List.mem_cons, List.mem_cons] at q
    constructor
    · intro hk
      have := l1 k hk
      rcases q.mp (.inr hk) with z | z
      · omega
      · exact z
    · intro hk
      have := m1 k hk
      rcases q.mpr (.inr hk) with z | z
      · omega
      · exact z
def aSortSet : List D → Option (List D)
  | [.lst ds] => match intsD ds with
    | some ns => if ns.length ≤ 4000 then some ((sortU ns).map .int) else none
    | none => none
  | _ => none
theorem b_sorted : bootBuiltins "sorted" = some (.builtin "sorted") := by decide +kernel
theorem b_set : bootBuiltins "set" = some (.type "set") := by decide +kernel
theorem RepAll.ints {A : Addr → Prop} {α : List Addr} {K : PySem.W.Frag} {H : Hp} : ∀ {vs : List V} {ns : List Int}, RepAll A α K H vs (ns.map .int) → vs = ns.map V.int
  | [], [], _ => rfl
  | [], _ :: _, h => by cases h.1
  | _ :: _, [], h => by cases h.1
  | v :: vs, n :: ns, h => by
    have h0 := h.2 0 v (.int n) rfl rfl
    cases h0
    rw [RepAll.ints (vs := vs) (ns := ns) ⟨Nat.succ.inj h.1, fun i v d a b => h.2 (i + 1) v d a b⟩]
    rfl
theorem repAll_ints {A : Addr → Prop} {α : List Addr} {K : PySem.W.Frag} {H : Hp} (ns : List Int) : RepAll A α K H (ns.map V.int) (ns.map .int) := by
  refine ⟨by simp, fun i v d a b => ?_⟩
  rw [List.getElem?_map] at a b
  cases q : ns[i]? with
  | none => rw [q] at a; cases a
  | some k => rw [q] at a b; cases a; cases b; exact .int k
theorem ef_sortSet {p p2 q : Pos} (z1 : X.mg "sorted" = none) (z2 : X.mg "set" = none) (ha : EB X a fa) (hc : X.calm = true := by rfl) (g1 : Gl X "sorted" := by rfl) (g2 : Gl X "set" := by rfl)
    (he : starEach [.Call (.Name "set" p2) [a] [] q] X.env = (false, eval (.Call (.Name "set" p2) [a] [] q) X.env) :: starEach [] X.env := by rfl) (he2 : starEach [a] X.env = (false, eval a X.env) :: starEach [] X.env := by rfl) :
    EF X (.Call (.Name "sorted" p) [.Call (.Name "set" p2) [a] [] q] [] pos) (aFn aSortSet (aCons fa aNil)) := by
  obtain ⟨t, pt, hq⟩ := ha
  have p1 := pe_callTy (p := p2) (pos := q) (cr_setL hc) g2 z2 b_set (pa_cons pt pa_nil he2) (by decide) (by decide) he2 rfl
  refine ⟨_, pe_callB (cr_sortS hc) g1 z1 b_sorted (pa_cons p1 pa_nil he) (by decide) (by decide) he rfl, fun G α ow σ H ρ g ds g' Q s e w => ?_⟩
  obtain ⟨xs, g1, e1, e2⟩ := bindM_some e
  obtain ⟨e3, rfl⟩ := liftM_some e2
  obtain ⟨y, g2, e4, e5⟩ := bindM_some e1
  obtain ⟨ys, g3, e6, e7⟩ := bindM_some e5
  obtain ⟨e8, rfl⟩ := liftM_some e7
  cases e8
  cases e6
  refine hq G α ow σ H ρ g y g2 _ s e4 fun v H1 α1 x1 s1 r1 => ?_
  unfold aSortSet at e3
  split at e3
  · rename_i ds' eq
    cases eq
    split at e3
    · rename_i ns hns
      split at e3
      · rename_i hlen
        cases e3
        obtain ⟨l, vs, rfl, hl, r2⟩ := r1.lst
        rw [intsD_eq hns] at r2
        cases r2.ints
        refine ⟨l, ns, rfl, .inl hl, hlen, fun p hp => ?_⟩
        refine ⟨p, _, rfl, upd_same, fun r ms hr hlt hm => ?_⟩
        have em : ms = sortU ns := lt_uniq hlt (sortU_lt ns) fun k => by rw [hm k, sortU_mem, decide_eq_true_eq]
        subst em
        exact w r _ _ α1 (x1.trans (Ext.new hp)) (s1.new hp) hr (repAll_ints _) _ rfl
      · cases e3
    · cases e3
  · cases e3
end
end L3

/-! L3s: parts that are never come to; dicts as data. -/
namespace L3
open PySem PySem.Spec PyProof.Rows L2 TL

/-! ### dead parts -/
def mDead {β : Type} : M β := fun _ _ => none
def sDead : DS := fun _ _ => none
section
variable {X : Cx} {e tg : Expr} {es : List Expr} {st : Stmt} {sts : List Stmt}
theorem ec_dead : EC X e mDead := ⟨fun _ _ _ => False, ⟨fun _ _ _ _ _ _ h => h.elim⟩, fun _ _ _ _ _ _ _ _ _ _ _ h => by cases h⟩
theorem eb_dead : EB X e mDead := ⟨fun _ _ _ => False, ⟨fun _ _ _ _ _ _ h => h.elim⟩, fun _ _ _ _ _ _ _ _ _ _ _ h => by cases h⟩
theorem ef_dead : EF X e mDead := ⟨fun _ _ _ => False, ⟨fun _ _ _ _ _ _ h => h.elim⟩, fun _ _ _ _ _ _ _ _ _ _ _ h => by cases h⟩
theorem tc_dead : TC X e mDead := ⟨fun _ _ _ => False, ⟨fun _ _ _ _ _ _ h => h.elim⟩, fun _ _ _ _ _ _ _ _ _ _ _ h => by cases h⟩
theorem sc_dead : SC X st sDead := ⟨fun _ _ _ => False, ⟨fun _ _ _ _ _ _ h => h.elim⟩, fun _ _ _ _ _ _ _ _ _ _ _ h => by cases h⟩
theorem bc_dead : BC X sts sDead := ⟨fun _ _ _ => False, ⟨fun _ _ _ _ _ _ h => h.elim⟩, fun _ _ _ _ _ _ _ _ _ _ _ h => by cases h⟩
theorem ic_dead : IC X tg e mDead := ⟨fun _ _ _ => False, ⟨fun _ _ _ _ _ _ h => h.elim⟩, fun _ _ _ _ _ _ _ _ _ _ _ h => by cases h⟩
end

/-! ### either way -/
section
variable {X : Cx} {e : Expr}
theorem PE.or {t u : TE} (h : PE X e t) (k : PE X e u) : PE X e (fun σ H Q => t σ H Q ∨ u σ H Q) := ⟨fun pins s σ H Q I q => q.elim (h.run pins s σ H Q I) (k.run pins s σ H Q I)⟩
theorem PT.or {t u : TT} (h : PT X e t) (k : PT X e u) : PT X e (fun σ H Q => t σ H Q ∨ u σ H Q) := ⟨fun pins s σ H Q I q => q.elim (h.run pins s σ H Q I) (k.run pins s σ H Q I)⟩
end

/-! ### pairs of a dict -/
def dkOf : D → Option DKey
  | .int i => some (.inl i)
  | .str s => some (.inr s)
  | _ => none
def kD : DKey → D
  | .inl i => .int i
  | .inr s => .str s
def valK {β : Type} (kvs : List (DKey × β)) (k : DKey) : Option β := (kvs.find? fun kv => decide (kv.1 = k)).map (·.2)
def putD {β : Type} (kvs : List (DKey × β)) (k : DKey) (v : β) : List (DKey × β) :=
  if (kvs.any fun kv => decide (kv.1 = k)) = true then kvs.map (fun kv => if kv.1 = k then (kv.1, v) else kv) else kvs ++ [(k, v)]
theorem dkey_inj {a b : DKey} (h : dkey a = dkey b) : a = b := by
  cases a <;> cases b <;> simp only [dkey, reduceCtorEq, Sum.inl.injEq, Sum.inr.injEq] at h
  · rw [h]
  · rw [S_inj h]
theorem dkey_iff (a b : DKey) : (dkey a = dkey b) = (a = b) := propext ⟨dkey_inj, fun h => by rw [h]⟩
def RepKV (A : Addr → Prop) (α : List Addr) (K : PySem.W.Frag) (H : Hp) (kvs : List (Key × V)) (ds : List (DKey × D)) : Prop := kvs.map (·.1) = ds.map (fun p => dkey p.1) ∧ RepAll A α K H (kvs.map (·.2)) (ds.map (·.2))
section
variable {A : Addr → Prop} {α : List Addr} {K : PySem.W.Frag} {H : Hp}
theorem RepKV.nil : RepKV A α K H [] [] := ⟨rfl, RepAll.nil⟩
theorem RepKV.cons {k : DKey} {v : V} {d : D} {kvs : List (Key × V)} {ds : List (DKey × D)} (h : Rep A α K H v d) (t : RepKV A α K H kvs ds) : RepKV A α K H ((dkey k, v) :: kvs) ((k, d) :: ds) :=
  ⟨by rw [List.map_cons, List.map_cons, t.1], RepAll.cons h t.2⟩
theorem RepKV.uncons {kvs : List (Key × V)} {p : DKey × D} {ds : List (DKey × D)} (h : RepKV A α K H kvs (p :: ds)) : ∃ v r, kvs = (dkey p.1, v) :: r ∧ Rep A α K H v p.2 ∧ RepKV A α K H r ds := by
  obtain ⟨h1, h2⟩ := h
  cases kvs with
  | nil => simp at h1
  | cons q r =>
    obtain ⟨k, v⟩ := q
    rw [List.map_cons, List.map_cons] at h1 h2
    obtain ⟨v', r', e, g1, g2⟩ := h2.uncons
    injection e with e1 e2
    injection h1 with e3 e4
    dsimp only at e1 e3
    subst e1 e3
    exact ⟨v, r, rfl, g1, e4, by rw [e2]; exact g2⟩
theorem RepKV.unnil {kvs : List (Key × V)} (h : RepKV A α K H kvs []) : kvs = [] := by
  have := h.1
  cases kvs with
  | nil => rfl
  | cons q r => simp at this
theorem RepKV.len : ∀ {ds : List (DKey × D)} {kvs : List (Key × V)}, RepKV A α K H kvs ds → kvs.length = ds.length := fun {ds kvs} h => by
  have := congrArg List.length h.1
  simpa using this
theorem RepKV.mono {A' : Addr → Prop} {α' : List Addr} {H' : Hp} {kvs : List (Key × V)} {ds : List (DKey × D)} (h : RepKV A α K H kvs ds) (hA : ∀ a o, A a → H a = some o → A' a ∧ H' a = some o) (p : α <+: α') : RepKV A' α' K H' kvs ds := ⟨h.1, h.2.mono hA p⟩
theorem RepKV.val : ∀ {ds : List (DKey × D)} {kvs : List (Key × V)} (k : DKey), RepKV A α K H kvs ds → match valK ds k with | some d => ∃ v, valV kvs (dkey k) = some v ∧ Rep A α K H v d | none => valV kvs (dkey k) = none
  | [], kvs, k, h => by rw [h.unnil]; rfl
  | p :: ds, kvs, k, h => by
    obtain ⟨v, r, rfl, h1, h2⟩ := h.uncons
    have ih := RepKV.val k h2
    by_cases e : p.1 = k
    · have e1 : valK (p :: ds) k = some p.2 := by unfold valK; rw [List.find?_cons_of_pos (by simp [e])]; rfl
      rw [e1]
      exact ⟨v, valV_pos (p := (dkey p.1, v)) (by rw [e]), h1⟩
    · have e1 : valK (p :: ds) k = valK ds k := by unfold valK; rw [List.find?_cons_of_neg (by simp [e])]
      have e2 : valV ((dkey p.1, v) :: r) (dkey k) = valV r (dkey k) := valV_neg (p := (dkey p.1, v)) (fun z => e (dkey_inj z))
      rw [e1, e2]
      exact ih
theorem RepKV.any : ∀ {ds : List (DKey × D)} {kvs : List (Key × V)} (k : DKey), RepKV A α K H kvs ds → (kvs.any fun kv => decide (kv.1 = dkey k)) = ds.any fun kv => decide (kv.1 = k)
  | [], kvs, k, h => by rw [h.unnil]; rfl
  | p :: ds, kvs, k, h => by
    obtain ⟨v, r, rfl, h1, h2⟩ := h.uncons
    rw [List.any_cons, List.any_cons, RepKV.any k h2]
    congr 1
    exact decide_eq_decide.mpr (by rw [dkey_iff])
theorem RepKV.app : ∀ {ds es : List (DKey × D)} {kvs lws : List (Key × V)}, RepKV A α K H kvs ds → RepKV A α K H lws es → RepKV A α K H (kvs ++ lws) (ds ++ es) := fun {ds es kvs lws} h t =>
  ⟨by rw [List.map_append, List.map_append, h.1, t.1], by rw [List.map_append, List.map_append]; exact h.2.append t.2⟩
theorem RepKV.upd1 {k : DKey} {v : V} {d : D} (hv : Rep A α K H v d) : ∀ {ds : List (DKey × D)} {kvs : List (Key × V)}, RepKV A α K H kvs ds → RepKV A α K H (kvs.map fun kv => if kv.1 = dkey k then (kv.1, v) else kv) (ds.map fun kv => if kv.1 = k then (kv.1, d) else kv)
  | [], kvs, h => by rw [h.unnil]; exact RepKV.nil
  | p :: ds, kvs, h => by
    obtain ⟨u, r, rfl, h1, h2⟩ := h.uncons
    have ih := RepKV.upd1 (k := k) hv h2
    rw [List.map_cons, List.map_cons]
    by_cases e : p.1 = k
    · rw [if_pos e, if_pos (by rw [e])]
      exact RepKV.cons hv ih
    · rw [if_neg e, if_neg (fun z => e (dkey_inj z))]
      exact RepKV.cons h1 ih
theorem RepKV.put {k : DKey} {v : V} {d : D} {ds : List (DKey × D)} {kvs : List (Key × V)} (h : RepKV A α K H kvs ds) (hv : Rep A α K H v d) : RepKV A α K H (putK kvs (dkey k) v) (putD ds k d) := by
  unfold putK putD
  rw [h.any k]
  split
  · exact h.upd1 hv
  · exact h.app (RepKV.cons hv RepKV.nil)
end
theorem kV_dkey {A : Addr → Prop} {α : List Addr} {K : PySem.W.Frag} {H : Hp} {y : V} {dy : D} {k : DKey} (h : Rep A α K H y dy) (e : dkOf dy = some k) : y = kV (dkey k) := by
  cases h <;> cases e <;> rfl
theorem BRep.key {B : Addr → Prop} {α : List Addr} {ow : Nat → Option Addr} {K : PySem.W.Frag} {H : Hp} {y : V} {dy : D} {k : DKey} (h : BRep B α ow K H y dy) (e : dkOf dy = some k) : y = kV (dkey k) := by
  cases h with
  | of h => exact kV_dkey h e
  | own => cases e
  | ownd => cases e
theorem rep_kD {A : Addr → Prop} {α : List Addr} {K : PySem.W.Frag} {H : Hp} (k : DKey) : Rep A α K H (kV (dkey k)) (kD k) := by
  cases k with
  | inl i => exact .int i
  | inr s => exact .str s
theorem repAll_kD {A : Addr → Prop} {α : List Addr} {K : PySem.W.Frag} {H : Hp} : ∀ ks : List DKey, RepAll A α K H (ks.map fun k => kV (dkey k)) (ks.map kD)
  | [] => RepAll.nil
  | k :: ks => RepAll.cons (rep_kD k) (repAll_kD ks)
theorem BRep.dicKV {B : Addr → Prop} {α : List Addr} {ow : Nat → Option Addr} {K : PySem.W.Frag} {H : Hp} {v : V} {ds : List (DKey × D)} (h : BRep B α ow K H v (.dic ds)) : ∃ a kvs, v = .ref a ∧ Rd H a (.dK kvs) ∧ RepKV (Al B α ow) α K H kvs ds := by
  obtain ⟨a, kvs, e, h1, h2, h3⟩ := h.dic
  exact ⟨a, kvs, e, h1, h2, h3⟩
section
variable {K : PySem.W.Frag} {G : Gh} {α : List Addr} {ow : Nat → Option Addr} {σ : L2.St} {H : Hp} {ρ : Env3} {g : Store}
theorem Sat.newD (s : Sat K G α ow σ H ρ g) {p : Addr} {kvs : List (Key × V)} {ds : List (DKey × D)} (h : H p = none) (r : RepKV (Al G.B α ow) α K H kvs ds) : Rep (Al G.B α ow) α K (upd H p (.dK kvs)) (.ref p) (.dic ds) := by
  have r' := r.2.ext (Ext.new (α := α) (o := .dK kvs) h)
  refine .dic (s.al h) (.inl upd_same) r.1 fun i x y h1 h2 => ?_
  exact r'.2 i x.2 y.2 (by rw [List.getElem?_map, h1]; rfl) (by rw [List.getElem?_map, h2]; rfl)
end

/-! ### subscripts, in -/
def dIxA : D → D → Option D
  | .dic kvs, y => match dkOf y with
    | some k => valK kvs k
    | none => none
  | x, y => dIx x y
def dInA : D → D → Option D
  | y, .dic kvs => match dkOf y with
    | some k => some (.bl (valK kvs k).isSome)
    | none => none
  | y, x => dIn y x
def dNotInA : D → D → Option D
  | y, .dic kvs => match dkOf y with
    | some k => some (.bl (!(valK kvs k).isSome))
    | none => none
  | y, x => dNotIn y x
section
variable {X : Cx} {a b c e : Expr} {fa fb fc fe : DE} {pos : Pos}
theorem isDic (d : D) : (∃ kvs, d = .dic kvs) ∨ ∀ kvs, d ≠ .dic kvs := by
  cases d <;> first | exact .inl ⟨_, rfl⟩ | exact .inr fun _ z => by cases z
theorem dIxA_no {x y : D} (h : ∀ kvs, x ≠ .dic kvs) : dIxA x y = dIx x y := by
  cases x <;> first | rfl | exact absurd rfl (h _)
theorem dInA_no {x y : D} (h : ∀ kvs, x ≠ .dic kvs) : dInA y x = dIn y x := by
  cases x <;> first | rfl | exact absurd rfl (h _)
theorem dNotInA_no {x y : D} (h : ∀ kvs, x ≠ .dic kvs) : dNotInA y x = dNotIn y x := by
  cases x <;> first | rfl | exact absurd rfl (h _)
theorem ec_ixA (hu : X.A.units + 64 < cLine) (ha : EB X a fa) (hb : EB X b fb) (hs : PlainIx b := by exact fun _ _ => rfl) : EC X (.Subscript a b pos) (eOp dIxA fa fb) := by
  obtain ⟨t, pt, hq⟩ := ec_ix (pos := pos) ixd ha hb hs
  obtain ⟨ta, pa, qa⟩ := ha
  obtain ⟨tb, pb, qb⟩ := hb
  refine ⟨_, PE.or pt (pe_dget (by omega) pa pb hs), fun G α ow σ H ρ g d g' Q s e w => ?_⟩
  obtain ⟨dx, g1, e1, he⟩ := bindM_some e
  obtain ⟨dy, g2, e2, he⟩ := bindM_some he
  obtain ⟨e3, rfl⟩ := liftM_some he
  rcases isDic dx with ⟨kvs, rfl⟩ | hn
  · refine .inr (qa G α ow σ H ρ g _ g1 _ s e1 fun x H1 α1 x1 s1 r1 => qb G α1 ow σ H1 ρ g1 dy g2 _ s1 e2 fun y H2 α2 x2 s2 r2 => ?_)
    obtain ⟨p, kv, rfl, h1, h2⟩ := (r1.ext x2).dicKV
    unfold dIxA at e3
    dsimp only at e3
    split at e3
    · rename_i k hk
      have hv := h2.val k
      rw [e3] at hv
      obtain ⟨v, hv1, hv2⟩ := hv
      exact ⟨p, v, rfl, .inl ⟨kv, dkey k, h1, r2.key hk, hv1.symm⟩, w v H2 α2 (x1.trans x2) s2 hv2⟩
    · cases e3
  · rw [dIxA_no hn] at e3
    exact .inl (hq G α ow σ H ρ g d g2 Q s (by unfold eOp L3.bindM L3.liftM; rw [e1]; dsimp only; rw [e2]; dsimp only; rw [e3]) w)
theorem ec_inA (hu : X.A.units + 64 < cLine) (ha : EB X a fa) (hb : EB X b fb) (hm : behindInMarks .In b = false := by first | exact nomark _ | rfl) : EC X (.Compare a [.In] [b] pos) (eOp dInA fa fb) := by
  obtain ⟨t, pt, hq⟩ := ec_cmp (pos := pos) opd_in ha hb hm
  obtain ⟨ta, pa, qa⟩ := ha
  obtain ⟨tb, pb, qb⟩ := hb
  refine ⟨_, PE.or pt (pe_cmp (pc_din (by omega) pa pb) hm), fun G α ow σ H ρ g d g' Q s e w => ?_⟩
  obtain ⟨dy, g1, e1, he⟩ := bindM_some e
  obtain ⟨dx, g2, e2, he⟩ := bindM_some he
  obtain ⟨e3, rfl⟩ := liftM_some he
  rcases isDic dx with ⟨kvs, rfl⟩ | hn
  · refine .inr (qa G α ow σ H ρ g _ g1 _ s e1 fun y H1 α1 x1 s1 r1 => qb G α1 ow σ H1 ρ g1 _ g2 _ s1 e2 fun x H2 α2 x2 s2 r2 => ?_)
    obtain ⟨p, kv, rfl, h1, h2⟩ := r2.dicKV
    unfold dInA at e3
    dsimp only at e3
    split at e3
    · rename_i k hk
      cases e3
      have hv := h2.val k
      refine ⟨p, valV kv (dkey k), rfl, .inl ⟨kv, dkey k, h1, (r1.ext x2).key hk, rfl⟩, ?_⟩
      have e4 : (valV kv (dkey k)).isSome = (valK kvs k).isSome := by
        cases q : valK kvs k with
        | none => rw [q] at hv; dsimp only at hv; rw [hv]; rfl
        | some d => rw [q] at hv; obtain ⟨v, hv, _⟩ := hv; rw [hv]; rfl
      rw [e4]
      exact w _ H2 α2 (x1.trans x2) s2 (.bl _)
    · cases e3
  · rw [dInA_no hn] at e3
    exact .inl (hq G α ow σ H ρ g d g2 Q s (by unfold eOp L3.bindM L3.liftM; rw [e1]; dsimp only; rw [e2]; dsimp only; rw [e3]) w)
theorem ec_notinA (hu : X.A.units + 64 < cLine) (ha : EB X a fa) (hb : EB X b fb) (hm : behindInMarks .NotIn b = false := by first | exact nomark _ | rfl) : EC X (.Compare a [.NotIn] [b] pos) (eOp dNotInA fa fb) := by
  obtain ⟨t, pt, hq⟩ := ec_cmp (pos := pos) opd_notin ha hb hm
  obtain ⟨ta, pa, qa⟩ := ha
  obtain ⟨tb, pb, qb⟩ := hb
  refine ⟨_, PE.or pt (pe_cmp (pc_dnotin (by omega) pa pb) hm), fun G α ow σ H ρ g d g' Q s e w => ?_⟩
  obtain ⟨dy, g1, e1, he⟩ := bindM_some e
  obtain ⟨dx, g2, e2, he⟩ := bindM_some he
  obtain ⟨e3, rfl⟩ := liftM_some he
  rcases isDic dx with ⟨kvs, rfl⟩ | hn
  · refine .inr (qa G α ow σ H ρ g _ g1 _ s e1 fun y H1 α1 x1 s1 r1 => qb G α1 ow σ H1 ρ g1 _ g2 _ s1 e2 fun x H2 α2 x2 s2 r2 => ?_)
    obtain ⟨p, kv, rfl, h1, h2⟩ := r2.dicKV
    unfold dNotInA at e3
    dsimp only at e3
    split at e3
    · rename_i k hk
      cases e3
      have hv := h2.val k
      refine ⟨p, valV kv (dkey k), rfl, .inl ⟨kv, dkey k, h1, (r1.ext x2).key hk, rfl⟩, ?_⟩
      have e4 : (valV kv (dkey k)).isSome = (valK kvs k).isSome := by
        cases q : valK kvs k with
        | none => rw [q] at hv; dsimp only at hv; rw [hv]; rfl
        | some d => rw [q] at hv; obtain ⟨v, hv, _⟩ := hv; rw [hv]; rfl
      rw [e4]
      exact w _ H2 α2 (x1.trans x2) s2 (.bl _)
    · cases e3
  · rw [dNotInA_no hn] at e3
    exact .inl (hq G α ow σ H ρ g d g2 Q s (by unfold eOp L3.bindM L3.liftM; rw [e1]; dsimp only; rw [e2]; dsimp only; rw [e3]) w)
theorem tc_inA (hu : X.A.units + 64 < cLine) (ha : EB X a fa) (hb : EB X b fb) (hm : behindInMarks .In b = false := by first | exact nomark _ | rfl) : TC X (.Compare a [.In] [b] pos) (tOf (eOp dInA fa fb)) := by
  obtain ⟨t, pt, hq⟩ := tc_cmp (pos := pos) opd_in ha hb hm
  obtain ⟨ta, pa, qa⟩ := ha
  obtain ⟨tb, pb, qb⟩ := hb
  refine ⟨_, PT.or pt (pt_cmp (pc_din (by omega) pa pb) hm), fun G α ow σ H ρ g k0 g' Q s e w => ?_⟩
  obtain ⟨d, g0, e0, e9⟩ := bindM_some e
  obtain ⟨e8, rfl⟩ := liftM_some e9
  obtain ⟨dy, g1, e1, he⟩ := bindM_some e0
  obtain ⟨dx, g2, e2, he⟩ := bindM_some he
  obtain ⟨e3, rfl⟩ := liftM_some he
  rcases isDic dx with ⟨kvs, rfl⟩ | hn
  · refine .inr (qa G α ow σ H ρ g _ g1 _ s e1 fun y H1 α1 x1 s1 r1 => qb G α1 ow σ H1 ρ g1 _ g2 _ s1 e2 fun x H2 α2 x2 s2 r2 => ?_)
    obtain ⟨p, kv, rfl, h1, h2⟩ := r2.dicKV
    unfold dInA at e3
    dsimp only at e3
    split at e3
    · rename_i k hk
      cases e3
      cases e8
      have hv := h2.val k
      refine ⟨p, valV kv (dkey k), rfl, .inl ⟨kv, dkey k, h1, (r1.ext x2).key hk, rfl⟩, _, rfl, ?_⟩
      have e4 : (valV kv (dkey k)).isSome = (valK kvs k).isSome := by
        cases q : valK kvs k with
        | none => rw [q] at hv; dsimp only at hv; rw [hv]; rfl
        | some d => rw [q] at hv; obtain ⟨v, hv, _⟩ := hv; rw [hv]; rfl
      rw [e4]
      exact w H2 α2 (x1.trans x2) s2
    · cases e3
  · rw [dInA_no hn] at e3
    exact .inl (hq G α ow σ H ρ g k0 g2 Q s (by unfold tOf eOp L3.bindM L3.liftM; rw [e1]; dsimp only; rw [e2]; dsimp only; rw [e3]; dsimp only; rw [e8]) w)
theorem tc_notinA (hu : X.A.units + 64 < cLine) (ha : EB X a fa) (hb : EB X b fb) (hm : behindInMarks .NotIn b = false := by first | exact nomark _ | rfl) : TC X (.Compare a [.NotIn] [b] pos) (tOf (eOp dNotInA fa fb)) := by
  obtain ⟨t, pt, hq⟩ := tc_cmp (pos := pos) opd_notin ha hb hm
  obtain ⟨ta, pa, qa⟩ := ha
  obtain ⟨tb, pb, qb⟩ := hb
  refine ⟨_, PT.or pt (pt_cmp (pc_dnotin (by omega) pa pb) hm), fun G α ow σ H ρ g k0 g' Q s e w => ?_⟩
  obtain ⟨d, g0, e0, e9⟩ := bindM_some e
  obtain ⟨e8, rfl⟩ := liftM_some e9
  obtain ⟨dy, g1, e1, he⟩ := bindM_some e0
  obtain ⟨dx, g2, e2, he⟩ := bindM_some he
  obtain ⟨e3, rfl⟩ := liftM_some he
  rcases isDic dx with ⟨kvs, rfl⟩ | hn
  · refine .inr (qa G α ow σ H ρ g _ g1 _ s e1 fun y H1 α1 x1 s1 r1 => qb G α1 ow σ H1 ρ g1 _ g2 _ s1 e2 fun x H2 α2 x2 s2 r2 => ?_)
    obtain ⟨p, kv, rfl, h1, h2⟩ := r2.dicKV
    unfold dNotInA at e3
    dsimp only at e3
    split at e3
    · rename_i k hk
      cases e3
      cases e8
      have hv := h2.val k
      refine ⟨p, valV kv (dkey k), rfl, .inl ⟨kv, dkey k, h1, (r1.ext x2).key hk, rfl⟩, _, rfl, ?_⟩
      have e4 : (valV kv (dkey k)).isSome = (valK kvs k).isSome := by
        cases q : valK kvs k with
        | none => rw [q] at hv; dsimp only at hv; rw [hv]; rfl
        | some d => rw [q] at hv; obtain ⟨v, hv, _⟩ := hv; rw [hv]; rfl
      rw [e4]
      exact w H2 α2 (x1.trans x2) s2
    · cases e3
  · rw [dNotInA_no hn] at e3
    exact .inl (hq G α ow σ H ρ g k0 g2 Q s (by unfold tOf eOp L3.bindM L3.liftM; rw [e1]; dsimp only; rw [e2]; dsimp only; rw [e3]; dsimp only; rw [e8]) w)
end
end L3

/-! L3t: dicts that are made, that a slot owns, that are lent; further built-ins. -/
namespace L3
open PySem PySem.Spec PyProof.Rows L2 TL

abbrev DDc := M (List (DKey × D))
def WantsFD (K : PySem.W.Frag) (G : Gh) (α : List Addr) (ow : Nat → Option Addr) (σ : L2.St) (H : Hp) (ρ : Env3) (g' : Store) (ds : List (DKey × D)) (Q : VK) : Prop :=
  ∀ p kvs H' α', Ext α H α' H' → Sat K G α' ow σ H' ρ g' → H' p = none → RepKV (Al G.B α' ow) α' K H' kvs ds → ∀ H2, H2 = upd H' p (.dK kvs) → Q (.ref p) H2
/-- a new dict -/
def EFD (X : Cx) (e : Expr) (f : DDc) : Prop := ∃ t, PE X e t ∧ ∀ G α ow σ H ρ g ds g' Q, Sat X.K G α ow σ H ρ g → f ρ g = some (ds, g') → WantsFD X.K G α ow σ H ρ g' ds Q → t σ H Q
def eDc (f : DDc) : DE := bindM f fun xs => liftM (some (.dic xs))
def cNil : DDc := fun _ g => some ([], g)
def cFn (φ : List D → Option (List (DKey × D))) (a : DA) : DDc := bindM a fun xs => liftM (φ xs)
section
variable {X : Cx} {a b c e : Expr} {es : List Expr} {fa fb fc fe : DE} {fs : DA} {fd : DDc} {pos : Pos}
theorem efd_dead : EFD X e mDead := ⟨fun _ _ _ => False, ⟨fun _ _ _ _ _ _ h => h.elim⟩, fun _ _ _ _ _ _ _ _ _ _ _ h => by cases h⟩
theorem EFD.ec (h : EFD X e fd) : EC X e (eDc fd) := by
  obtain ⟨t, pt, hq⟩ := h
  refine ⟨t, pt, fun G α ow σ H ρ g d g' Q s e w => ?_⟩
  obtain ⟨xs, g1, e1, e2⟩ := bindM_some e
  obtain ⟨e3, rfl⟩ := liftM_some e2
  cases e3
  refine hq G α ow σ H ρ g xs g1 _ s e1 fun p vs H1 α1 x1 s1 hp r H2 e => ?_
  subst e
  exact w _ _ α1 (x1.trans (Ext.new hp)) (s1.new hp) (s1.newD hp r)
theorem efd_nil : EFD X (.Dict [] [] pos) cNil :=
  ⟨_, pe_dnewK, fun G α ow σ H ρ g ds g' Q s e w => by cases e; exact fun p hp => w p [] H α Ext.refl s hp RepKV.nil _ rfl⟩
def CallFD (X : Cx) (f : Value) (φ : List D → Option (List (DKey × D))) : Prop := ∃ r, CallR X f r ∧ ∀ G α ow σ H ρ g vs ds d (Q : VK), Sat X.K G α ow σ H ρ g → BRepAll G.B α ow X.K H vs ds → φ ds = some d →
  (∀ p us, H p = none → RepKV (Al G.B α ow) α X.K H us d → Q (.ref p) (upd H p (.dK us))) → r vs H Q
theorem efd_callT {x : Str} {p : Pos} {T : String} {φ : List D → Option (List (DKey × D))} (hc : CallFD X (.type T) φ) (hm : X.mg x = none) (hv : bootBuiltins x = some (.type T)) (ha : AB X (e :: es) fs) (hg : Gl X x := by rfl) (hn : x ≠ "__name__" := by decide) (hdb : (x == ("__debug__" : Str)) = false := by decide)
    (he : starEach (e :: es) X.env = (false, eval e X.env) :: starEach es X.env := by rfl) (hpl : (backTo pos (starEach es X.env)).any (·.1) = false := by rfl) : EFD X (.Call (.Name x p) (e :: es) [] pos) (cFn φ fs) := by
  obtain ⟨r, hr, hq⟩ := hc
  obtain ⟨t, pt, qa⟩ := ha
  refine ⟨_, pe_callTy hr hg hm hv pt hn hdb he hpl, fun G α ow σ H ρ g d g' Q s e w => ?_⟩
  obtain ⟨xs, g1, e1, e2⟩ := bindM_some e
  obtain ⟨e3, rfl⟩ := liftM_some e2
  exact qa G α ow σ H ρ g xs g1 _ s e1 fun vs H1 α1 x1 s1 r1 => hq G α1 ow σ H1 ρ g1 vs xs d Q s1 r1 e3 fun q us hq r2 => w q us H1 α1 x1 s1 hq r2 _ rfl

/-! ### dict(..) -/
def pairD : D → Option (DKey × D)
  | .tup [k, v] => (dkOf k).map fun k => (k, v)
  | _ => none
def pairsD : List D → Option (List (DKey × D))
  | [] => some []
  | x :: xs => match pairD x, pairsD xs with
    | some p, some ps => some (p :: ps)
    | _, _ => none
def mergeD (ps : List (DKey × D)) : List (DKey × D) := ps.foldl (fun acc kv => putD acc kv.1 kv.2) []
def cDict : List D → Option (List (DKey × D))
  | [.dic kvs] => some kvs
  | [.lst xs] => (pairsD xs).map mergeD
  | [.tup xs] => (pairsD xs).map mergeD
  | _ => none
theorem pairD_some {x : D} {p : DKey × D} (h : pairD x = some p) : ∃ k, x = .tup [k, p.2] ∧ dkOf k = some p.1 := by
  unfold pairD at h
  split at h
  · rw [Option.map_eq_some_iff] at h
    obtain ⟨k, hk, rfl⟩ := h
    exact ⟨_, rfl, hk⟩
  · cases h
theorem pairs_rep {A : Addr → Prop} {α : List Addr} {K : PySem.W.Frag} {H : Hp} : ∀ {ds : List D} {vs : List V} {ps : List (DKey × D)}, RepAll A α K H vs ds → pairsD ds = some ps →
    ∃ (as : List Addr) (kvs : List (Key × V)), vs = as.map V.ref ∧ Paired (fun p kv => SqT K H p [kV kv.1, kv.2]) as kvs ∧ RepKV A α K H kvs ps
  | [], vs, ps, r, e => by
    cases e
    exact ⟨[], [], by rw [r.unnil]; rfl, .nil, RepKV.nil⟩
  | d :: ds, vs, ps, r, e => by
    obtain ⟨v, vr, rfl, h1, h2⟩ := r.uncons
    unfold pairsD at e
    split at e
    · rename_i p q hp hq
      cases e
      obtain ⟨k, rfl, hk⟩ := pairD_some hp
      obtain ⟨as, kvs, e1, e2, e3⟩ := pairs_rep h2 hq
      cases h1 with
      | tup hs hl hi =>
        rename_i a xs
        have ra : RepAll A α K H xs [k, p.2] := ⟨hl, hi⟩
        obtain ⟨x, xr, rfl, ra1, ra2⟩ := ra.uncons
        obtain ⟨y, yr, rfl, rb1, rb2⟩ := ra2.uncons
        cases rb2.unnil
        refine ⟨a :: as, (dkey p.1, y) :: kvs, by rw [e1]; rfl, .cons ?_ e2, RepKV.cons rb1 e3⟩
        rw [kV_dkey ra1 hk] at hs
        exact hs.sq
    · cases e
theorem merge_rep {A : Addr → Prop} {α : List Addr} {K : PySem.W.Frag} {H : Hp} : ∀ {ps : List (DKey × D)} {kvs acc : List (Key × V)} {dacc : List (DKey × D)}, RepKV A α K H kvs ps → RepKV A α K H acc dacc →
    RepKV A α K H (mergeK acc kvs) (ps.foldl (fun acc kv => putD acc kv.1 kv.2) dacc)
  | [], kvs, acc, dacc, r, ra => by rw [r.unnil]; exact ra
  | p :: ps, kvs, acc, dacc, r, ra => by
    obtain ⟨v, r', rfl, h1, h2⟩ := r.uncons
    show RepKV A α K H (mergeK (putK acc (dkey p.1) v) r') (ps.foldl (fun acc kv => putD acc kv.1 kv.2) (putD dacc p.1 p.2))
    exact merge_rep h2 (ra.put h1)
/-- a tuple that is known to the object -/
def SqZ (K : PySem.W.Frag) (H : Hp) (a : Addr) (xs : List V) : Prop := (∃ o, TO o ∧ H a = some (.frz o (.tup xs))) ∨ staT K a xs
theorem ST.z {A : Addr → Prop} {K : PySem.W.Frag} {H : Hp} {a : Addr} {xs : List V} (h : ST A K H a xs) : SqZ K H a xs := by
  rcases h with ⟨_, o, h1, h2⟩ | h
  · exact .inl ⟨o, h1, h2⟩
  · exact .inr h
theorem BRep.tupZ {B : Addr → Prop} {α : List Addr} {ow : Nat → Option Addr} {K : PySem.W.Frag} {H : Hp} {v : V} {xs : List D} (h : BRep B α ow K H v (.tup xs)) : ∃ a vs, v = .ref a ∧ SqZ K H a vs ∧ RepAll (Al B α ow) α K H vs xs := by
  cases h with
  | of h => cases h with | tup h hl hi => exact ⟨_, _, rfl, h.z, hl, hi⟩
theorem plainT {pins : List (Addr × Obj)} {σ : L2.St} {H : Hp} {s : Shared} {a : Addr} {xs : List V} (I : Inv X pins σ H s) (h : SqZ X.K H a xs) : ∃ its : List Value, Vals xs its ∧ PlainSeq "tuple" s.heap a its.toArray ∧ xs.length ≤ sizeLine := by
  rcases h with ⟨o, ⟨h1, h2⟩, h⟩ | ⟨o, its, n, hk, ⟨h1, h2⟩, h3, h4, h5⟩
  · obtain ⟨hg, hz, its, r, o', ho', hc', n, hd'⟩ := I.hok a _ h
    rw [hg] at ho'
    cases ho'
    exact ⟨its, r, ⟨o, n, hg, h1, h2.1, hd'⟩, hz⟩
  · refine ⟨its.toList, h5, ⟨o, n, I.kIn a o hk, h1, h2.1, by simpa using h3⟩, ?_⟩
    rw [h5.length, Array.length_toList]
    exact h4
/-- dict(t) of a tuple of pairs -/
theorem call_dictT (hcalm : X.calm = true) : CallR X (.type "dict") (fun xs H Q => ∃ (a : Addr) (ps : List Addr) (kvs : List (Key × V)), xs = [.ref a] ∧ SqZ X.K H a (ps.map V.ref) ∧ Paired (fun p kv => SqT X.K H p [kV kv.1, kv.2]) ps kvs ∧
    ∀ p, H p = none → Q (.ref p) (upd H p (.dK (mergeK [] kvs)))) := by
  intro pins s σ H xs us Q I r ⟨a, ps, kvs, ex, hq, hp, q⟩
  subst ex
  obtain ⟨u, eu, rx⟩ := vals1 r
  subst eu
  cases rx
  obtain ⟨its, rv, pl, hz⟩ := plainT I hq
  have ei := refs_at rv
  subst ei
  rw [List.length_map] at hz
  obtain ⟨prs, rel, hl, hpr⟩ := pairs_of I hp
  have hkey : ∀ j : Nat, ∃ u : Value, ∀ q : Key × Value, prs[j]? = some q → IsTup s.heap (ps.getD j 0) #[u, q.2] ∧ keyIs q.1 u = true := fun j => by
    cases e : prs[j]? with
    | none => exact ⟨.none, fun q z => by cases z⟩
    | some q =>
      obtain ⟨b, u, e1, e2, e3⟩ := hpr j q e
      refine ⟨u, fun q' z => ?_⟩
      cases z
      rw [List.getD_eq_getElem?_getD, e1]
      exact ⟨e2, e3⟩
  obtain ⟨U, hU⟩ := Classical.axiomOfChoice hkey
  have len2 : ((List.range prs.length).map fun j => (U j, (prs.getD j (.inl 0, .none)).2)).length = prs.length := by simp
  have at2 : ∀ (j : Nat) (k v : Value), ((List.range prs.length).map fun j => (U j, (prs.getD j (.inl 0, .none)).2))[j]? = some (k, v) → ∃ q : Key × Value, prs[j]? = some q ∧ k = U j ∧ v = q.2 := fun j k v e => by
    rw [List.getElem?_map, Option.map_eq_some_iff] at e
    obtain ⟨i, e1, e2⟩ := e
    obtain ⟨h1, h2⟩ := List.getElem?_eq_some_iff.mp e1
    rw [List.getElem_range] at h2
    subst h2
    have hj : j < prs.length := by simpa using h1
    rw [List.getD_eq_getElem?_getD, List.getElem?_eq_getElem hj] at e2
    cases e2
    exact ⟨_, List.getElem?_eq_getElem hj, rfl, rfl⟩
  refine PySem.call_dict_pairs (knd := mixKind X.prog X.w) (kvs := prs) (PairArg.tuple (prog := X.prog) (w := X.w) a (ps.map Value.ref).toArray (fun j => ps.getD j 0) ((List.range prs.length).map fun j => (U j, (prs.getD j (.inl 0, .none)).2))) (I.ok.hd hcalm) ⟨pl, by simp [hl], fun j k v e => ?_⟩ ⟨by rw [len2], fun j k v e => ?_⟩ (by rw [len2, hl]; exact hz) fun h' tk hd' k => ?_
  · obtain ⟨q', e1, rfl, rfl⟩ := at2 j k v e
    obtain ⟨b, u, e3, _⟩ := hpr j q' e1
    refine ⟨by simp [e3], .inl ?_⟩
    obtain ⟨o, ho, hc, n, hd⟩ := (hU j q' e1).1
    exact ⟨o, ho, hc, n, hd⟩
  · obtain ⟨q', e1, rfl, rfl⟩ := at2 j k v e
    exact ⟨q'.1, e1, (hU j q' e1).2⟩
  · have hm : (s.heap.objs.size == sysModules) = false := beq_eq_false_iff_ne.mpr (Nat.ne_of_gt I.big)
    have hlen : (mergeK [] kvs).length ≤ sizeLine := by
      refine Nat.le_trans (length_mergeK kvs []) ?_
      rw [List.length_nil, Nat.zero_add, rel.length, hl]; exact hz
    exact ⟨.ref s.heap.objs.size, upd H s.heap.objs.size (.dK (mergeK [] kvs)), I.laid (t' := tk) (fun b o e => k b o (by simp) e) (Nat.le_refl _) (show ObjOk X.prog X.w _ _ _ (.dK (mergeK [] kvs)) from ⟨hlen, hm, merged [] prs, KV.merge rel .nil, hd'⟩), rfl, q _ (I.hok.fresh (Nat.le_refl _))⟩
theorem cd_dict (hc : X.calm = true) : CallFD X (.type "dict") cDict := by
  refine ⟨_, OrR call_dictD (OrR (call_dictP hc) (call_dictT hc)), fun G α ow σ H ρ g vs ds d Q s r e w => ?_⟩
  unfold cDict at e
  split at e
  · cases e
    obtain ⟨v, rfl, r1⟩ := BRepAll.one1 r
    obtain ⟨a, kvs, rfl, h1, h2⟩ := r1.dicKV
    exact .inl ⟨a, kvs, rfl, h1, fun p hp => w p kvs hp h2⟩
  · rw [Option.map_eq_some_iff] at e
    obtain ⟨ps, e, rfl⟩ := e
    obtain ⟨v, rfl, r1⟩ := BRepAll.one1 r
    obtain ⟨a, vs, rfl, h1, h2⟩ := r1.lst
    obtain ⟨as, kvs, rfl, h3, h4⟩ := pairs_rep h2 e
    exact .inr (.inl ⟨a, as, kvs, rfl, .inl h1, h3, fun p hp => w p _ hp (merge_rep h4 RepKV.nil)⟩)
  · rw [Option.map_eq_some_iff] at e
    obtain ⟨ps, e, rfl⟩ := e
    obtain ⟨v, rfl, r1⟩ := BRepAll.one1 r
    obtain ⟨a, vs, rfl, h1, h2⟩ := r1.tupZ
    obtain ⟨as, kvs, rfl, h3, h4⟩ := pairs_rep h2 e
    exact .inr (.inr ⟨a, as, kvs, rfl, h1, h3, fun p hp => w p _ hp (merge_rep h4 RepKV.nil)⟩)
  · cases e
end
end L3

/-! L3u: dicts that a slot owns; dicts lent to a def; further built-ins. -/
namespace L3
open PySem PySem.Spec PyProof.Rows L2 TL

section
variable {K : PySem.W.Frag} {G : Gh} {α α' : List Addr} {ow : Nat → Option Addr} {σ : L2.St} {H H' : Hp} {ρ : Env3} {g g' : Store} {i : Nat} {kvs : List (Key × V)} {ds : List (DKey × D)}
theorem Sat.ownd1 (s : Sat K G α ow σ H ρ g) {p : Addr} (hi : i < ρ.length) (hp : H p = none) (r : RepKV (Al G.B α ow) α K H kvs ds) :
    Sat K G α (put ow i p) (σ.set i (some (.ref p))) (upd H p (.dK kvs)) (ρ.set i (some (.ownd ds))) g ∧ Fz G.B α ow H α (put ow i p) (upd H p (.dK kvs)) := by
  have ne : ∀ {a : Addr} {o : HO}, H a = some o → a ≠ p := fun e => ne_of_none e hp
  have hA : ∀ a (o : HO), Al G.B α ow a → H a = some o → Al G.B α (put ow i p) a ∧ upd H p (.dK kvs) a = some o := fun a o h e => by
    refine ⟨⟨h.1, h.2.1, fun j => ?_⟩, by rw [upd_ne (ne e)]; exact e⟩
    unfold put
    split
    · exact fun z => ne e (Option.some.inj z).symm
    · exact h.2.2 j
  have al := s.al hp
  refine ⟨⟨s.ext.trans (Ext.new hp), fun a h => ?_, by rw [List.length_set, List.length_set, s.len], s.gok.mono hA fun a o _ e => by rw [upd_ne (ne e)]; exact e, fun j a h => ?_, fun j k a h1 h2 => ?_, fun j x hx => ?_⟩, hA, List.prefix_refl _⟩
  · obtain ⟨⟨o, h1⟩, h2⟩ := s.blk a h
    exact ⟨⟨o, by rw [upd_ne (ne h1)]; exact h1⟩, h2⟩
  · unfold put at h
    split at h
    · cases h
      rename_i hj
      exact ⟨s.ext.fresh hp al.1, al.1, al.2.1, ⟨_, upd_same⟩, .ownd ds, by rw [hj, List.getElem?_set_self hi], rfl⟩
    · rename_i hj
      obtain ⟨h1, h2, h3, ⟨o, h4⟩, h5⟩ := s.own j a h
      exact ⟨h1, h2, h3, ⟨o, by rw [upd_ne (ne h4)]; exact h4⟩, by rw [List.getElem?_set_ne (Ne.symm hj)]; exact h5⟩
  · unfold put at h1 h2
    split at h1
    · split at h2
      · omega
      · cases h1
        exact absurd h2 (al.2.2 k)
    · split at h2
      · cases h2
        exact absurd h1 (al.2.2 j)
      · exact s.oinj j k a h1 h2
  · by_cases hj : j = i
    · subst hj
      by_cases hl : j < ρ.length
      · rw [List.getElem?_set_self hl] at hx
        cases hx
        have r' := r.mono hA (List.prefix_refl _)
        exact ⟨p, kvs, by unfold put; rw [if_pos rfl], by rw [List.getElem?_set_self (by rw [s.len]; exact hl)], upd_same, r'.1, r'.2⟩
      · rw [List.getElem?_eq_none (by rw [List.length_set]; omega)] at hx
        cases hx
    · rw [List.getElem?_set_ne (Ne.symm hj)] at hx
      rw [List.getElem?_set_ne (Ne.symm hj)]
      have q := s.slot j x hx
      have e : put ow i p j = ow j := by unfold put; rw [if_neg hj]
      rw [e]
      exact q.mono hA fun a u _ e => by rw [upd_ne (ne e)]; exact e
theorem Sat.mutd (s : Sat K G α ow σ H ρ g) {a : Addr} (ho : ow i = some a) (hi : i < ρ.length) (hv : σ[i]? = some (some (.ref a))) (r : RepKV (Al G.B α ow) α K H kvs ds) :
    Sat K G α ow σ (upd H a (.dK kvs)) (ρ.set i (some (.ownd ds))) g ∧ Fz G.B α ow H α ow (upd H a (.dK kvs)) := by
  obtain ⟨o1, o2, o3, ⟨o, o4⟩, o5⟩ := s.own i a ho
  have hA : ∀ b (o : HO), Al G.B α ow b → H b = some o → Al G.B α ow b ∧ upd H a (.dK kvs) b = some o := fun b o h e => ⟨h, by
    rw [upd_ne fun z => h.2.2 i (by rw [z]; exact ho)]; exact e⟩
  have tr : ∀ {b : Addr}, (∃ o, H b = some o) → ∃ o, upd H a (.dK kvs) b = some o := fun {b} ⟨o, h⟩ => by
    by_cases e : b = a
    · rw [e]; exact ⟨_, upd_same⟩
    · exact ⟨o, by rw [upd_ne e]; exact h⟩
  refine ⟨⟨⟨fun b o h hn => ?_, s.ext.2.1, s.ext.2.2⟩, fun b h => ⟨tr (s.blk b h).1, (s.blk b h).2⟩, by rw [List.length_set, s.len], s.gok.mono hA fun b o hb e => by rw [upd_ne fun z => o2 (by rw [← z]; exact hb)]; exact e, fun j b h => ?_, s.oinj, fun j x hx => ?_⟩, hA, List.prefix_refl _⟩
  · rw [upd_ne fun z => by rw [z, o1] at h; cases h]
    exact s.ext.1 b o h hn
  · obtain ⟨h1, h2, h3, h4, h5⟩ := s.own j b h
    refine ⟨h1, h2, h3, tr h4, ?_⟩
    by_cases hj : j = i
    · subst hj
      exact ⟨.ownd ds, by rw [List.getElem?_set_self hi], rfl⟩
    · rw [List.getElem?_set_ne (Ne.symm hj)]
      exact h5
  · by_cases hj : j = i
    · subst hj
      rw [List.getElem?_set_self hi] at hx
      cases hx
      have r' := r.mono hA (List.prefix_refl _)
      exact ⟨a, kvs, ho, hv, upd_same, r'.1, r'.2⟩
    · rw [List.getElem?_set_ne (Ne.symm hj)] at hx
      have q := s.slot j x hx
      exact q.mono hA fun b u hb e => by
        rw [upd_ne fun z => hj (s.oinj j i a (by rw [← z]; exact hb) ho)]
        exact e
end
def sOwnD (i : Nat) (f : DDc) : DS := fun ρ g => match f ρ g with
  | some (ds, g1) => if i < ρ.length then some (.nx (ρ.set i (some (.ownd ds))), g1) else none
  | none => none
/-- d[k] = v, d a slot's own dict -/
def sPut (i : Nat) (fk fv : DE) : DS := fun ρ g => match ρ[i]? with
  | some (some (.ownd ds)) => match fv ρ g with
    | some (v, g1) => match fk ρ g1 with
      | some (k, g2) => match dkOf k with
        | some k => if ds.length < BIG then some (.nx (ρ.set i (some (.ownd (putD ds k v)))), g2) else none
        | none => none
      | none => none
    | none => none
  | _ => none
section
variable {X : Cx} {a b c e k : Expr} {es : List Expr} {fa fb fc fe fk fv : DE} {fs : DA} {fd : DDc} {pos : Pos}
theorem sc_ownd {i : Nat} {x : Str} {pos' : Pos} (hN : X.N.Nodup) (he : EFD X e fd) (hi : X.N[i]? = some x := by rfl) (hx : Loc X.env.scope x := by first | exact Or.inl rfl | exact Or.inr rfl) (hs : swapsWith e (some (.Name x pos')) pos.line X.env = pure false := by rfl)
    (hf : X.fn x = true ∨ X.env.scope.names.lookup x = some .local := by first | exact .inl rfl | exact .inr rfl | assumption) : SC X (.Assign [.Name x pos'] e pos) (sOwnD i fd) := by
  obtain ⟨t, pt, hq⟩ := he
  refine ⟨_, ps_set hN hi hx pt hs hf, fun G α ow σ H ρ g out g' Dn s e p => ?_⟩
  unfold sOwnD at e
  split at e
  · rename_i ds g1 e1
    split at e
    · rename_i hi
      cases e
      refine hq G α ow σ H ρ g ds g' _ s e1 fun q vs H' α' x s' hp r H2 e2 => ?_
      subst e2
      exact p _ _ _ _ (s'.ownd1 hi hp r).1 (x.fz.trans (s'.ownd1 hi hp r).2)
    · cases e
  · cases e
theorem sc_put {i : Nat} {x : Str} {p1 pos' : Pos} (hu : X.A.units + 64 < cLine) (hk : EB X k fk) (hv : EC X e fv) (hN : X.N[i]? = some x := by rfl) (hvs : Vis X.env.scope x := by first | exact Or.inl rfl | exact Or.inr (Or.inl rfl) | exact Or.inr (Or.inr rfl)) (hd : (x == ("__debug__" : Str)) = false := by decide) (hcd : (x == ("__classdict__" : Str)) = false := by decide)
    (hs : swapsWith e (some (.Subscript (.Name x p1) k pos')) pos.line X.env = pure false := by rfl) : SC X (.Assign [.Subscript (.Name x p1) k pos'] e pos) (sPut i fk fv) := by
  obtain ⟨tk, pk, qk⟩ := hk
  obtain ⟨tv, pv, qv⟩ := hv
  refine ⟨_, ps_dput (by omega) (pe_var hN hvs hd hcd) pk pv hs, fun G α ow σ H ρ g out g' Dn s e p => ?_⟩
  unfold sPut at e
  split at e
  · rename_i ds hx
    split at e
    · rename_i v g1 e1
      split at e
      · rename_i kd g2 e2
        split at e
        · rename_i k' hk'
          split at e
          · rename_i hl
            cases e
            obtain ⟨a, kvs, h1, h2, h3, h4, h5⟩ := s.slot i _ hx
            have own := (s.own i a h1).2.1
            refine qv G α ow σ H ρ g v g1 _ s e1 fun vv H1 α1 x1 s1 r1 => ⟨_, h2, qk G α1 ow σ H1 ρ g1 kd g' _ s1 e2 fun y H2 α2 x2 s2 r2 => ?_⟩
            have h31 := x1.1 a _ h3 own
            have h32 := x2.1 a _ h31 (s1.own i a h1).2.1
            have rk : RepKV (Al G.B α2 ow) α2 X.K H2 kvs ds := ⟨h4, (h5.ext x1).ext x2⟩
            refine ⟨a, upd H2 a (.dK (putK kvs (dkey k') vv)), rfl, ?_, ?_⟩
            · rw [r2.key hk']
              exact DPut.k h32 (by rw [rk.len]; exact Nat.lt_of_lt_of_le hl big_line)
            · have m := s2.mutd h1 (List.getElem?_eq_some_iff.mp hx).1 h2 (rk.put (k := k') (r1.ext x2))
              exact p _ _ _ _ m.1 ((x1.trans x2).fz.trans m.2)
          · cases e
        · cases e
      · cases e
    · cases e
  · cases e
/-! ### get -/
def eGet1 (fo fk : DE) : DE := bindM fo fun x => bindM fk fun k => liftM (match x, dkOf k with
  | .dic kvs, some k => some ((valK kvs k).getD .non)
  | _, _ => none)
def eGet2 (fo fk fx : DE) : DE := bindM fo fun x => bindM fk fun k => bindM fx fun z => liftM (match x, dkOf k with
  | .dic kvs, some k => some ((valK kvs k).getD z)
  | _, _ => none)
theorem ec_get1 {o : Expr} {fo : DE} {ap cp : Pos} (hu : X.A.units + 64 < cLine) (ho : EB X o fo) (hk : EB X k fk) (m : M1 X o "get" ap k cp := by exact ⟨rfl, rfl, rfl, rfl⟩) : EC X (.Call (.Attribute o "get" ap) [k] [] cp) (eGet1 fo fk) := by
  obtain ⟨to, po, qo⟩ := ho
  obtain ⟨tk, pk, qk⟩ := hk
  refine ⟨_, pe_dget1 (by omega) po pk m, fun G α ow σ H ρ g d g' Q s e w => ?_⟩
  obtain ⟨x, g1, e1, e2⟩ := bindM_some e
  obtain ⟨y, g2, e3, e4⟩ := bindM_some e2
  obtain ⟨e5, rfl⟩ := liftM_some e4
  split at e5
  · rename_i kvs k' hk'
    cases e5
    refine qo G α ow σ H ρ g _ g1 _ s e1 fun v H1 α1 x1 s1 r1 => ?_
    obtain ⟨a, kv, rfl, h1, h2⟩ := r1.dicKV
    refine ⟨a, rfl, .inl ⟨kv, h1⟩, qk G α1 ow σ H1 ρ g1 y g2 _ s1 e3 fun u H2 α2 x2 s2 r2 => ?_⟩
    obtain ⟨a', kv', ea, h1, h2⟩ := (r1.ext x2).dicKV
    cases ea
    refine ⟨valV kv' (dkey k'), .inl ⟨kv', dkey k', h1, r2.key hk', rfl⟩, w _ H2 α2 (x1.trans x2) s2 ?_⟩
    have hv := h2.val k'
    cases q : valK kvs k' with
    | none => rw [q] at hv; dsimp only at hv; rw [hv]; exact .non
    | some d => rw [q] at hv; obtain ⟨v, hv, r⟩ := hv; rw [hv]; exact r
  · cases e5
theorem ec_get2 {o z : Expr} {fo fx : DE} {ap cp : Pos} (hu : X.A.units + 64 < cLine) (ho : EB X o fo) (hk : EB X k fk) (hz : EC X z fx) (m : M2 X o "get" ap k z cp := by exact ⟨rfl, rfl, rfl, rfl⟩) : EC X (.Call (.Attribute o "get" ap) [k, z] [] cp) (eGet2 fo fk fx) := by
  obtain ⟨to, po, qo⟩ := ho
  obtain ⟨tk, pk, qk⟩ := hk
  obtain ⟨tz, pz, qz⟩ := hz
  refine ⟨_, pe_dget2 (by omega) po pk pz m, fun G α ow σ H ρ g d g' Q s e w => ?_⟩
  obtain ⟨x, g1, e1, e2⟩ := bindM_some e
  obtain ⟨y, g2, e3, e4⟩ := bindM_some e2
  obtain ⟨z, g3, e6, e7⟩ := bindM_some e4
  obtain ⟨e5, rfl⟩ := liftM_some e7
  split at e5
  · rename_i kvs k' hk'
    cases e5
    refine qo G α ow σ H ρ g _ g1 _ s e1 fun v H1 α1 x1 s1 r1 => ?_
    obtain ⟨a, kv, rfl, h1, h2⟩ := r1.dicKV
    refine ⟨a, rfl, .inl ⟨kv, h1⟩, qk G α1 ow σ H1 ρ g1 y g2 _ s1 e3 fun u H2 α2 x2 s2 r2 => ?_⟩
    refine qz G α2 ow σ H2 ρ g2 z g3 _ s2 e6 fun t H3 α3 x3 s3 r3 => ?_
    obtain ⟨a', kv', ea, h1, h2⟩ := ((r1.ext x2).ext x3).dicKV
    cases ea
    refine ⟨valV kv' (dkey k'), .inl ⟨kv', dkey k', h1, (r2.ext x3).key hk', rfl⟩, w _ H3 α3 ((x1.trans x2).trans x3) s3 ?_⟩
    have hv := h2.val k'
    cases q : valK kvs k' with
    | none => rw [q] at hv; dsimp only at hv; rw [hv]; exact r3
    | some d => rw [q] at hv; obtain ⟨v, hv, r⟩ := hv; rw [hv]; exact r
  · cases e5
/-! ### list(d) -/
def aListA : List D → Option (List D)
  | [.dic kvs] => some (kvs.map fun p => kD p.1)
  | ds => aList ds
theorem cf_listA (hc : X.calm = true) : CallF X (.type "list") aListA := by
  obtain ⟨r0, c0, q0⟩ := cf_list (X := X)
  refine ⟨_, OrR c0 (call_listD hc), fun G α ow σ H ρ g vs ds d Q s r e w => ?_⟩
  unfold aListA at e
  split at e
  · rename_i kvs
    cases e
    obtain ⟨v, rfl, r1⟩ := BRepAll.one1 r
    obtain ⟨a, kv, rfl, h1, h2⟩ := r1.dicKV
    refine .inr ⟨a, kv, rfl, h1, fun p hp => w p _ hp ?_⟩
    have e1 : kv.map (fun x => kV x.1) = kvs.map fun p => kV (dkey p.1) := by
      have := congrArg (List.map kV) h2.1
      simpa [Function.comp_def] using this
    have e2 := repAll_kD (A := Al G.B α ow) (α := α) (K := X.K) (H := H) (kvs.map (·.1))
    rw [List.map_map, List.map_map] at e2
    rw [e1]
    exact e2
  · exact .inl (q0 G α ow σ H ρ g vs _ d Q s r e w)
end
end L3

/-! L3v: sorted(set(texts)), sorted(texts). -/
namespace L3
open PySem PySem.Spec PyProof.Rows L2 TL

theorem perm_of_len {β : Type} [BEq β] [LawfulBEq β] : ∀ {l m : List β}, l.Nodup → (∀ x ∈ l, x ∈ m) → m.length ≤ l.length → l.Perm m
  | [], m, _, _, h => by
    have : m = [] := List.eq_nil_of_length_eq_zero (by simpa using h)
    rw [this]
  | x :: l, m, nd, hs, h => by
    obtain ⟨hx, nd⟩ := List.nodup_cons.mp nd
    have p := List.perm_cons_erase (hs x List.mem_cons_self)
    have len := p.length_eq
    rw [List.length_cons] at len h
    refine (List.Perm.cons x (perm_of_len nd (fun y hy => ?_) (by omega))).trans p.symm
    exact (List.mem_erase_of_ne (fun (e : y = x) => hx (by rw [← e]; exact hy))).mpr (hs y (List.mem_cons_of_mem _ hy))
def SetX (P : Program) (w : World) (h : Heap) (a : Addr) (l : List Str) : Prop :=
  l.Nodup ∧ ∃ D : Froz.SD, h.get? a = some (Froz.sObj "set" D) ∧ Froz.TxOk P w D l ∧ Ris D.2.2.place.toList ∧ (w.params.followText "set-order" = true ∨ D.2.2.led = true)
section
variable {P : Program} {w : World} {A : Around} {E : Value → Shared → Prop} {s : Shared} {a : Addr} {l : List Str}
theorem SetX.at {h h' : Heap} (R : SetX P w h a l) (k : ∀ o, h.get? a = some o → h'.get? a = some o) : SetX P w h' a l := by
  obtain ⟨nd, D, h1, r⟩ := R
  exact ⟨nd, D, k _ h1, r⟩
theorem tail_ris {ep : Nat} {es : Array (Int × Value)} {t : SetTable} {wd : Bool} (r : Ris t.place.toList) : Ris (Froz.tailTx ep es t wd).2.2.place.toList := by
  unfold Froz.tailTx
  split
  · exact relayAll_ris t es _
  · exact r
theorem tail_led {ep : Nat} {es : Array (Int × Value)} {t : SetTable} {wd : Bool} : (Froz.tailTx ep es t wd).2.2.led = t.led := by
  unfold Froz.tailTx
  split
  · exact relayAll_led t es _
  · rfl
theorem add_ris {h : Int} {v : Value} {D : Froz.SD} (r : Ris D.2.2.place.toList) : Ris (Froz.addTx h v D).2.2.place.toList := by
  unfold Froz.addTx
  refine tail_ris ?_
  have := layNew_ris D.2.2 D.1 h v r
  split
  · exact this
  · exact this
theorem add_led {h : Int} {v : Value} {D : Froz.SD} : (Froz.addTx h v D).2.2.led = D.2.2.led := by
  unfold Froz.addTx
  rw [tail_led]
  have := layNew_led D.2.2 D.1 h v
  split
  · exact this
  · exact this
theorem addX {k : Str} {u : Tok} {Q : Bool → Shared → Prop} (R : SetX P w s.heap a l) (hb : l.length + 1 < scanBound)
    (hQ : ∀ h' l' b, Heap.SameBut a s.heap h' → SetX P w h' a l' → (∀ x, x ∈ l' ↔ x ∈ l ∨ x = k) → l'.length ≤ l.length + 1 → Q b { s with heap := h' }) : wpAny (model P w) A (setAddHashed a (.str k u) (hashStr w k)) Q E s := by
  obtain ⟨nd, D, ho, F, hr, hl⟩ := R
  by_cases hk : k ∈ l
  · obtain ⟨es, ep, t⟩ := D
    have hd : (Froz.sObj "set" (es, ep, t)).data = .set es ep t := rfl
    have hf : t.fits es.size = true := F.fit
    have hel : ElemsOf (strKind P w) es.toList := F.el
    have hb0 : es.size < scanBound := by have : es.size = l.length := F.sz; omega
    have q := hQ s.heap l false (Heap.SameBut.refl a s.heap) ⟨nd, _, ho, F, hr, hl⟩ (fun x => ⟨.inl, fun z => z.elim id fun e => e ▸ hk⟩) (Nat.le_succ _)
    unfold setAddHashed setAddHashedIn
    refine wpAny_holding (wpAny_bind (wpAny_setState_of ho hd hf ?_))
    dsimp only
    rw [byScan_of rfl hb0 hel]
    simp only [↓reduceIte]
    unfold setAddByScan
    refine wpAny_bind (wpAny_bind (wpAny_rule (wpAny_bind (wpAny_setScan_of (knd := strKind P w) (k := k) (Froz.is_str k u) ho hd hf hel ?_))))
    cases hfi : List.findIdx? (fun e => (strKind P w).is k e.2) es.toList with
    | some j =>
      dsimp only
      exact wpAny_pure (wpAny_pure q)
    | none =>
      obtain ⟨e, he, z⟩ := (F.mem k).mp hk
      have c := List.findIdx?_eq_none_iff.mp hfi e he
      rw [z] at c
      cases c
  · refine Froz.add_x ho F hk hb ?_
    refine hQ _ (k :: l) true (Heap.SameBut.update _ a _) ⟨List.nodup_cons.mpr ⟨hk, nd⟩, _, Froz.get_upd _ ho rfl, Froz.add_ok u F, add_ris hr, hl.imp id fun z => by rw [add_led]; exact z⟩ (fun x => ?_) (by simp)
    rw [List.mem_cons]
    exact Or.comm
theorem set_update_txt {I : Addr} {fp wr : List Addr} {Gs : Array GenState → Array GenState → Prop} {n : Nat} {Pv : Nat → Value → Prop} {St : Nat → Shared → Prop} {R : Result → Shared → Prop}
    (W : WalksS P w A.in1 I fp wr Gs n Pv St) (S : Addr) (hSf : S ∉ fp) (ns : List Str) (hn : n = ns.length) (hb : ns.length + 1 < scanBound) (hval : ∀ i v, Pv i v → ∃ k t, ns[i]? = some k ∧ v = .str k t) :
    ∀ (k i : Nat) (s : Shared), n - i = k → i ≤ n → St i s → (∃ l, l.length ≤ i ∧ (∀ x, x ∈ l ↔ x ∈ ns.take i) ∧ SetX P w s.heap S l) →
      (∀ s' l, Moved (S :: wr) Gs s s' → l.length ≤ n → (∀ x, x ∈ l ↔ x ∈ ns) → SetX P w s'.heap S l → R (.ok (.ret .none)) s') →
      codeAny (model P w) A (.builtin "set.update.loop" ⟨[.ref S, .ref I], []⟩) R s := by
  have hSw : S ∉ wr := fun h => hSf (W.sub _ h)
  have sub : ∀ b ∈ wr, b ∈ S :: wr := fun b hb => List.mem_cons_of_mem _ hb
  intro k
  induction k with
  | zero =>
    intro i s hk' hi hst ⟨l, hc, hm, hS⟩ hR
    have hin : i = n := by omega
    subst hin
    refine codeAny_builtin F.entry_set_update_loop ?_; rw [Around.under_plainId F.plain_set_update_loop _]
    show wpAny _ A.in1 (pyNext (.ref I) >>= _) _ _ s
    refine wpAny_bind (W.done s _ _ hst fun s' mv => ?_)
    show wpAny _ A.in1 (ret Value.none) _ _ s'
    rw [List.take_of_length_le (by omega)] at hm
    exact wpAny_pure (hR s' l (mv.mono sub) hc hm (hS.at fun o e => mv.heap S o hSw e))
  | succ k ih =>
    intro i s hk' hi hst ⟨l, hc, hm, hS⟩ hR
    have hlt : i < n := by omega
    refine codeAny_builtin F.entry_set_update_loop ?_; rw [Around.under_plainId F.plain_set_update_loop _]
    show wpAny _ A.in1 (pyNext (.ref I) >>= _) _ _ s
    refine wpAny_bind (W.item i s _ _ hlt hst fun v s' hP hst' mv => ?_)
    obtain ⟨z, t, hz, rfl⟩ := hval i v hP
    have hS' : SetX P w s'.heap S l := hS.at fun o e => mv.heap S o hSw e
    show wpAny _ A.in1 (holding [Value.str z t] (setAdd S (.str z t)) >>= _) _ _ s'
    refine wpAny_bind (wpAny_holding ?_); unfold setAdd
    refine wpAny_holding (wpAny_bind ((strKind P w).pyHash (k := z) (Froz.is_str z t) ?_))
    refine addX (s := { s' with toks := s'.toks + 1 }) hS' (by omega) fun h' l' b hsb hS2 hm2 hc2 => ?_
    have hm3 : ∀ x, x ∈ l' ↔ x ∈ ns.take (i + 1) := fun x => by
      rw [hm2, hm, List.take_add_one, hz]
      simp
    refine wpAny_pure ⟨plainId_quiet F.plain_set_update_loop _, ih (i + 1) _ (by omega) hlt (W.frame _ s' _ _ hst' (Nat.le_succ _) fun b hb o e => ?_) ⟨l', by omega, hm3, hS2⟩ fun s'' l2 mv2 hc'' hm'' hS'' => ?_⟩
    · rw [hsb.2 b (fun h : b = S => hSf (by rw [← h]; exact hb))]; exact e
    · refine hR s'' l2 (Moved.trans W.gtrans ((mv.mono sub).then_heap (Nat.le_succ _) fun b o hb e => ?_) mv2) hc'' hm'' hS''; rw [hsb.2 b (fun h : b = S => hb (by rw [h]; exact List.mem_cons_self))]; exact e
theorem loop_listX {l : Addr} {items : Array Value} {ns : List Str} (hh : A.handled = none) (hl : s.heap.IsList l items) (hi : StrsAre items.toList ns) (hb : ns.length + 1 < scanBound) {R : Result → Shared → Prop}
    (hR : ∀ (h' : Heap) (tk : Nat) (xs : List Str), SetX P w h' s.heap.objs.size xs → xs.length ≤ ns.length → (∀ x, x ∈ xs ↔ x ∈ ns) → (∀ b o, s.heap.get? b = some o → h'.get? b = some o) → R (.ok (.ret .none)) { s with heap := h', toks := tk }) :
    codeAny (model P w) A (.builtin "set.update.loop" ⟨[.ref s.heap.objs.size, .ref (s.heap.push (fresh w)).objs.size], []⟩) R { s with heap := (s.heap.push (fresh w)).push { cls := .type "list_iterator", data := .fields #[.ref l, .int 0 0] } } := by
  have len : items.size = ns.length := by rw [← StrsAre.len_eq hi, Array.length_toList]
  have lt : l < s.heap.objs.size := by obtain ⟨_, q, _⟩ := hl; exact Heap.lt_size q
  have ne1 : l ≠ (s.heap.push (fresh w)).objs.size := by rw [Heap.size_push]; exact Nat.ne_of_lt (Nat.lt_succ_of_lt lt)
  have nin : s.heap.objs.size ∉ [(s.heap.push (fresh w)).objs.size, l] := by
    rw [Heap.size_push]
    intro z
    rcases List.mem_cons.mp z with z | z
    · exact absurd z (Nat.ne_of_lt (Nat.lt_succ_self _))
    · exact absurd (List.mem_singleton.mp z) (Nat.ne_of_gt lt)
  have val : ∀ (i : Nat) (v : Value), items[i]? = some v → ∃ k t, ns[i]? = some k ∧ v = .str k t := fun i v q => by
    have hlt : i < ns.length := by rw [← len]; exact (Array.getElem?_eq_some_iff.mp q).1
    obtain ⟨t, e⟩ := SS.strs_at hi i v (by rw [Array.getElem?_toList]; exact q)
    exact ⟨ns[i], t, List.getElem?_eq_getElem hlt, by rw [e, List.getD_eq_getElem?_getD, List.getElem?_eq_getElem hlt]; rfl⟩
  have h1 : A.in1.handled = none := by simp [hh]
  have fr : SetX P w ((s.heap.push (fresh w)).push { cls := .type "list_iterator", data := .fields #[.ref l, .int 0 0] }) s.heap.objs.size [] := by
    refine ⟨List.nodup_nil, (#[], 0, .fresh 0 0 (!w.params.followText "set-order")), Heap.get?_push_of_some _ (Heap.get?_push_size _ rfl), Froz.TxOk.nil rfl, List.Pairwise.nil, ?_⟩
    show _ ∨ (!w.params.followText "set-order") = true
    cases w.params.followText "set-order"
    · exact .inr rfl
    · exact .inl rfl
  refine set_update_txt ((Walks.list h1 _ l ne1 items).toS) s.heap.objs.size nin ns len hb val (items.size - 0) 0 _ (by omega) (Nat.zero_le _) ⟨⟨_, Heap.get?_push_size _ rfl, rfl, rfl⟩, (hl.push _).push _⟩
    ⟨[], Nat.le_refl 0, fun x => by simp, fr⟩ fun s' xs mv hc hm hS => ?_
  obtain ⟨h', g2, d', tk', os'⟩ := s'
  cases mv.gens
  cases mv.drawn
  cases mv.os
  rw [len] at hc
  refine hR h' tk' xs hS hc hm fun b o e => ?_
  have hlt := Heap.lt_size e
  refine mv.heap b o (fun z => ?_) (Heap.get?_push_of_some _ (Heap.get?_push_of_some _ e))
  rw [Heap.size_push] at z
  rcases List.mem_cons.mp z with z | z
  · exact absurd z (Nat.ne_of_lt hlt)
  · exact absurd (List.mem_singleton.mp z) (Nat.ne_of_lt (Nat.lt_succ_of_lt hlt))
theorem init_listX {l : Addr} {items : Array Value} {ns : List Str} {R : Result → Shared → Prop} (hh : A.handled = none) (hl : s.heap.IsList l items) (hi : StrsAre items.toList ns) (hb : ns.length + 1 < scanBound)
    (hR : ∀ (h' : Heap) (tk : Nat) (xs : List Str), SetX P w h' s.heap.objs.size xs → xs.length ≤ ns.length → (∀ x, x ∈ xs ↔ x ∈ ns) → (∀ b o, s.heap.get? b = some o → h'.get? b = some o) → R (.ok (.ret .none)) { s with heap := h', toks := tk }) :
    codeAny (model P w) A (.call (.builtin "set.__init__") ⟨[.ref s.heap.objs.size, .ref l], []⟩) R { s with heap := s.heap.push (fresh w) } := by
  have at0 : (s.heap.push (fresh w)).get? s.heap.objs.size = some (fresh w) := Heap.get?_push_size _ rfl
  have ty : Shared.TypeIs { s with heap := s.heap.push (fresh w) } (.ref s.heap.objs.size) "set" := ⟨_, at0, rfl⟩
  refine codeAny_call_builtin F.called_set.init.plain F.entry_set_init (check_set_init_1 ty ?_)
  obtain ⟨⟨_, od, _, osl⟩, hol, hcl, nl, hdl⟩ := id hl
  cases hcl
  cases hdl
  have lS := F.sub_list_set; have lF := F.sub_list_frozenset
  have nd : (Value.type "list" == Value.type "dict") = false := by decide
  have at1 : (s.heap.push (fresh w)).get? l = some { cls := .type "list", dict := od, data := .seq items nl, slots := osl } := Heap.get?_push_of_some _ hol
  have hl1 : (s.heap.push (fresh w)).IsList l items := hl.push _
  unfold Builtin.«set.__init__» noKeywords Builtin.Frozenset.updateFrom; generalize q : pyIter = PI; wp_walk; subst q
  refine wpAny_pyIter_list hl1 (wpAny_bind (wpAny_runValue ?_))
  refine loop_listX (by simp [hh]) hl hi hb fun h' tk xs hS hc hm hk => ?_
  exact wpAny_pure (wpAny_pure (hR h' tk xs hS hc hm hk))
theorem set_listX {l : Addr} {items : Array Value} {ns : List Str} {Q : Value → Shared → Prop} (hh : A.handled = none) (hl : s.heap.IsList l items) (hi : StrsAre items.toList ns) (hb : ns.length + 1 < scanBound)
    (hQ : ∀ (h' : Heap) (tk : Nat) (xs : List Str), SetX P w h' s.heap.objs.size xs → xs.length ≤ ns.length → (∀ x, x ∈ xs ↔ x ∈ ns) → (∀ b o, s.heap.get? b = some o → h'.get? b = some o) → Q (.ref s.heap.objs.size) { s with heap := h', toks := tk }) :
    wpAny (model P w) A (call (.type "set") [.ref l]) Q E s := by
  obtain ⟨c, tl, mro⟩ := F.called_set.mro
  have made := F.called_set.made; have sub := F.called_set.sub; have nt := F.called_set.notType; have cr := F.called_set.canCreate; have ct := F.typeCall_set_1 (.ref l)
  refine wpAny_call (codeAny_of_tree (wpAny_pure ⟨Code.quiet_builtin _ (by decide +kernel), codeAny_builtin F.entry_type_call ?_⟩)); rw [Around.under_plain (weight_type_call_type "set" [.ref l] []) rfl]
  repeat (any_goals (first | assumption | wp_step))
  refine codeAny_mono (code_set_led1 (.ref l) (E := E) (Q₁ := fun o s1 => o = .ref s.heap.objs.size ∧ s1 = { s with heap := s.heap.push (fresh w) }) ⟨rfl, rfl⟩) fun r s1 hr => ?_
  have at0 : (s.heap.push (fresh w)).get? s.heap.objs.size = some (fresh w) := Heap.get?_push_size _ rfl
  cases r with
  | error e => exact hr
  | ok fl =>
    cases fl
    case ret o =>
      obtain ⟨rfl, rfl⟩ := hr
      have ty : Shared.TypeIs { s with heap := s.heap.push (fresh w) } (.ref s.heap.objs.size) "set" := ⟨_, at0, rfl⟩
      have lk := F.called_set.init.lookup; have bd := F.called_set.init.bind (.ref s.heap.objs.size)
      repeat (any_goals (first | assumption | wp_step))
      refine codeAny_mono (init_listX (s := s) (R := wants (fun r s2 => r = .none ∧ ∃ h' tk xs, s2 = { s with heap := h', toks := tk } ∧ SetX P w h' s.heap.objs.size xs ∧ xs.length ≤ ns.length ∧ (∀ x, x ∈ xs ↔ x ∈ ns) ∧ ∀ b o, s.heap.get? b = some o → h'.get? b = some o) E) (by simp [hh]) hl hi hb fun h' tk xs a1 a2 a3 a4 => ⟨rfl, h', tk, xs, rfl, a1, a2, a3, a4⟩) fun r2 s2 hr2 => ?_
      cases r2 with
      | error e => exact hr2
      | ok fl2 =>
        cases fl2
        case ret r =>
          obtain ⟨rfl, h', tk, xs, rfl, a1, a2, a3, a4⟩ := hr2
          repeat (any_goals (first | assumption | wp_step))
          exact hQ _ _ _ a1 a2 a3 a4
        all_goals exact hr2.elim
    all_goals exact hr.elim
theorem isStr_of {k : Str} {v : Value} (h : (strKind P w).is k v = true) : ∃ tk, v = .str k tk := by
  cases v <;> simp [PySem.strKind, Value.isStrOf] at h
  exact ⟨_, by rw [h]⟩
theorem sortedX {a : Addr} {l : List Str} {Q : Value → Shared → Prop} (R : SetX P w s.heap a l) (hh : A.handled = none) (hlen : l.length < scanBound)
    (hQ : ∀ s' p (out : Array Value) (c : Nat) (ys : List Str), (∀ b o, s.heap.get? b = some o → s'.heap.get? b = some o) → s'.gens = s.gens → s'.os = s.os → s.heap.objs.size ≤ p →
      s'.heap.get? p = some (seqObj "list" out c) → StrsAre out.toList ys → PyProof.Rows.sortedS ys = true → ys.Nodup → (∀ k, k ∈ ys ↔ k ∈ l) → ys.length ≤ sizeLine → Q (.ref p) s') : wpAny (model P w) A (call (.builtin "sorted") [.ref a]) Q E s := by
  obtain ⟨ndl, ⟨es, ep, t⟩, ho, F, ris, led⟩ := R
  have sz : es.size = l.length := F.sz
  have few : es.size < scanBound := by omega
  refine Calls.call_function_entry kind_sorted plain_sorted entry_sorted (args_sorted1 _) ?_; unfold Builtin.«sorted»
  refine wpAny_bind (m := checkCount "sorted" 1 1 _) (wpAny_pure (wpAny_bind (collect_set (A := A.in1) hh ⟨_, ho, rfl, rfl⟩ F.fit few ris led fun s1 vs k1 hz g1 o1 pm => ?_)))
  have lenV : vs.length ≤ sizeLine := by
    rw [pm.length_eq, List.length_map, Array.length_toList, sizeLine_eq]
    unfold scanBound at few
    show es.size ≤ _
    omega
  have allS : ∀ v ∈ vs, ∃ k tk, v = Value.str k tk := fun v hv => by
    obtain ⟨e, he, q⟩ := List.mem_map.mp (pm.mem_iff.mp hv)
    obtain ⟨⟨k, h1, _⟩, _⟩ := F.el e he
    obtain ⟨tk, h2⟩ := isStr_of h1
    exact ⟨k, tk, by rw [← q]; exact h2⟩
  have inS := strsAre_map vs allS
  refine wpAny_bind (wpAny_newList ?_ lenV)
  have new : (s1.heap.push (seqObj "list" vs.toArray 0)).get? s1.heap.objs.size = some (seqObj "list" vs.toArray 0) := Heap.get?_push_size _ rfl
  refine wpAny_bind (wpAny_holding (wpAny_call_entry slot_list_sort ⟨_, new, rfl⟩ entry_list_sort (list_sort_treeKAny strKind_oneLt new inS.keysOf (fun v₁ v₂ rest e => keyKind_strs (by rw [← e]; exact inS)) lenV fun st' a1 a2 => ⟨_, rfl, wpAny_pure ⟨_, rfl, ?_⟩⟩) (args_list_sort _)))
  obtain ⟨ys, d1, d2, d3⟩ := sorted_out_str inS a1 a2
  obtain ⟨c, hc⟩ := sortedHeap_at (vs := vs) (out := (arrOf st').map (·.2)) new
  have mem : ∀ k, k ∈ vs.map strOf ↔ k ∈ l := fun k => by
    rw [F.mem k, List.mem_map]
    constructor
    · rintro ⟨v, hv, rfl⟩
      obtain ⟨e, he, q⟩ := List.mem_map.mp (pm.mem_iff.mp hv)
      obtain ⟨k', tk, e2⟩ := allS v hv
      exact ⟨e, he, by rw [q, e2]; exact Froz.is_str k' tk⟩
    · rintro ⟨e, he, z⟩
      obtain ⟨tk, h2⟩ := isStr_of z
      exact ⟨e.2, pm.mem_iff.mpr (List.mem_map_of_mem he), by rw [h2]; rfl⟩
  have nd : (vs.map strOf).Nodup := by
    have e1 : (vs.map strOf).length = l.length := by
      rw [List.length_map, pm.length_eq, List.length_map, Array.length_toList]
      exact F.sz
    exact (perm_of_len ndl (fun x hx => (mem x).mpr hx) (Nat.le_of_eq e1)).nodup_iff.mp ndl
  refine hQ _ s1.heap.objs.size _ c ys (fun b u e => ?_) g1 o1 hz hc d1 d3 (d2.nodup_iff.mpr nd) (fun k => by rw [d2.mem_iff, mem]) ?_
  · have q := k1 b u e
    have lt := Heap.lt_size q
    show (sortedHeap (s1.heap.push (seqObj "list" vs.toArray 0)) s1.heap.objs.size vs _).get? b = some u
    rw [sortedHeap_old (Nat.ne_of_lt lt) (by rw [size_push']; exact Nat.lt_succ_of_lt lt)]
    exact Heap.get?_push_of_some _ q
  · rw [d2.length_eq, List.length_map]
    exact lenV
end
end L3

/-! L3w: sorted texts as data. -/
namespace L3
open PySem PySem.Spec PyProof.Rows L2 TL

abbrev Tx := List Nat
def insT (x : Tx) : List Tx → List Tx
  | [] => [x]
  | y :: r => if y < x then y :: insT x r else x :: y :: r
def sortT (l : List Tx) : List Tx := l.foldr insT []
def insST (x : Tx) : List Tx → List Tx
  | [] => [x]
  | y :: r => if x < y then x :: y :: r else if x = y then y :: r else y :: insST x r
def sortST (l : List Tx) : List Tx := l.foldr insST []
theorem insT_perm (x : Tx) : ∀ l, (insT x l).Perm (x :: l)
  | [] => .refl _
  | y :: r => by
    unfold insT
    split
    · exact ((insT_perm x r).cons y).trans (.swap x y r)
    · exact .refl _
theorem sortT_perm : ∀ l, (sortT l).Perm l
  | [] => .refl _
  | x :: r => (insT_perm x _).trans ((sortT_perm r).cons x)
theorem tx_trans {a b c : Tx} (h1 : ¬ b < a) (h2 : ¬ c < b) : ¬ c < a := by
  have h1 : a ≤ b := h1
  have h2 : b ≤ c := h2
  exact (List.le_trans h1 h2 : a ≤ c)
theorem tx_lt_of {a b : Tx} (h : ¬ a < b) (hn : a ≠ b) : b < a := by
  by_cases z : b < a
  · exact z
  · exact absurd (List.le_antisymm (show a ≤ b from z) (show b ≤ a from h)) hn
theorem insT_sorted (x : Tx) : ∀ l : List Tx, l.Pairwise (fun a b => ¬ b < a) → (insT x l).Pairwise (fun a b => ¬ b < a)
  | [], _ => by simp [insT]
  | y :: r, h => by
    obtain ⟨h1, h2⟩ := List.pairwise_cons.mp h
    unfold insT
    split
    · rename_i hy
      refine List.pairwise_cons.mpr ⟨fun z hz => ?_, insT_sorted x r h2⟩
      rcases List.mem_cons.mp ((insT_perm x r).mem_iff.mp hz) with rfl | hz
      · exact List.lt_asymm hy
      · exact h1 z hz
    · rename_i hy
      refine List.pairwise_cons.mpr ⟨fun z hz => ?_, h⟩
      rcases List.mem_cons.mp hz with rfl | hz
      · exact hy
      · exact tx_trans hy (h1 z hz)
theorem sortT_sorted : ∀ l, (sortT l).Pairwise (fun a b => ¬ b < a)
  | [] => .nil
  | x :: r => insT_sorted x _ (sortT_sorted r)
theorem sortT_uniq {l m : List Tx} (p : m.Perm l) (h : m.Pairwise (fun a b => ¬ b < a)) : m = sortT l :=
  List.Perm.eq_of_pairwise (le := fun a b => ¬ b < a) (fun a b _ _ h1 h2 => List.le_antisymm h1 h2) h (sortT_sorted l) (p.trans (sortT_perm l).symm)
theorem sortT_len (l : List Tx) : (sortT l).length = l.length := (sortT_perm l).length_eq
theorem sortT_mem {x : Tx} {l : List Tx} : x ∈ sortT l ↔ x ∈ l := (sortT_perm l).mem_iff
theorem insST_mem (x k : Tx) : ∀ l, k ∈ insST x l ↔ k = x ∨ k ∈ l
  | [] => by simp [insST]
  | y :: r => by
    unfold insST
    split
    · simp
    · split
      · rename_i e; subst e; simp
      · rw [List.mem_cons, insST_mem x k r, List.mem_cons]
        constructor
        · rintro (h | h | h)
          · exact .inr (.inl h)
          · exact .inl h
          · exact .inr (.inr h)
        · rintro (h | h | h)
          · exact .inr (.inl h)
          · exact .inl h
          · exact .inr (.inr h)
theorem sortST_mem (k : Tx) : ∀ l, k ∈ sortST l ↔ k ∈ l
  | [] => by simp [sortST]
  | x :: r => by show k ∈ insST x (sortST r) ↔ _; rw [insST_mem, sortST_mem k r, List.mem_cons]
theorem insST_sorted (x : Tx) : ∀ l : List Tx, l.Pairwise (· < ·) → (insST x l).Pairwise (· < ·)
  | [], _ => by simp [insST]
  | y :: r, h => by
    obtain ⟨h1, h2⟩ := List.pairwise_cons.mp h
    unfold insST
    split
    · rename_i hy
      refine List.pairwise_cons.mpr ⟨fun z hz => ?_, h⟩
      rcases List.mem_cons.mp hz with rfl | hz
      · exact hy
      · exact List.lt_trans hy (h1 z hz)
    · split
      · exact h
      · rename_i h3 h4
        refine List.pairwise_cons.mpr ⟨fun z hz => ?_, insST_sorted x r h2⟩
        rcases (insST_mem x z r).mp hz with rfl | hz
        · exact tx_lt_of h3 h4
        · exact h1 z hz
theorem sortST_sorted : ∀ l, (sortST l).Pairwise (· < ·)
  | [] => .nil
  | x :: r => insST_sorted x _ (sortST_sorted r)
theorem nodup_lt {l : List Tx} (h : l.Pairwise (· < ·)) : l.Nodup := h.imp fun {a b} h e => by subst e; exact List.lt_irrefl _ h
theorem lt_uniqT {l m : List Tx} (hl : l.Pairwise (· < ·)) (hm : m.Pairwise (· < ·)) (h : ∀ k, k ∈ l ↔ k ∈ m) : l = m := by
  have p : l.Perm m := (List.perm_ext_iff_of_nodup (nodup_lt hl) (nodup_lt hm)).mpr h
  exact List.Perm.eq_of_pairwise (le := fun a b => a < b) (fun a b _ _ h1 h2 => absurd h2 (List.lt_asymm h1)) hl hm p
/-! ### the calls -/
def tlS (x : Str) : Tx := x.cps.toList
theorem S_tl (x : Str) : S (tlS x) = x := (S_of x).symm
theorem tl_S (x : Tx) : tlS (S x) = x := S_list x
theorem map_S_tl (l : List Str) : (l.map tlS).map S = l := by rw [List.map_map]; exact (List.map_congr_left fun x _ => S_tl x).trans (List.map_id _)
theorem map_tl_S (l : List Tx) : (l.map S).map tlS = l := by rw [List.map_map]; exact (List.map_congr_left fun x _ => tl_S x).trans (List.map_id _)
theorem rising_pw : ∀ (l : List Str) (p : Str), risingS p l = true → ((p :: l).map tlS).Pairwise (fun a b => ¬ b < a)
  | [], p, _ => by simp
  | x :: r, p, h => by
    have h : (!ltCps x.cps.toList p.cps.toList && risingS x r) = true := h
    rw [Bool.and_eq_true, Bool.not_eq_true', ltCps_eq, decide_eq_false_iff_not] at h
    have ih := rising_pw r x h.2
    refine List.pairwise_cons.mpr ⟨fun z hz => ?_, ih⟩
    rcases List.mem_cons.mp hz with rfl | hz
    · exact h.1
    · exact tx_trans h.1 ((List.pairwise_cons.mp ih).1 z hz)
theorem sorted_pw : ∀ l : List Str, PyProof.Rows.sortedS l = true → (l.map tlS).Pairwise (fun a b => ¬ b < a)
  | [], _ => .nil
  | x :: r, h => rising_pw r x h
theorem sorted_eq {ys xs : List Str} (p : ys.Perm xs) (h : PyProof.Rows.sortedS ys = true) : ys = (sortT (xs.map tlS)).map S := by
  rw [← sortT_uniq (p.map tlS) (sorted_pw ys h), map_S_tl]
theorem sortedX_eq {ys : List Str} {l : List Tx} (h : PyProof.Rows.sortedS ys = true) (nd : ys.Nodup) (hm : ∀ k, k ∈ ys ↔ k ∈ l.map S) : ys = (sortST l).map S := by
  have h1 : (ys.map tlS).Pairwise (· < ·) := by
    have a1 := sorted_pw ys h
    have a2 : (ys.map tlS).Nodup := List.pairwise_map.mpr (nd.imp fun {a b} h e => h (by rw [← S_tl a, ← S_tl b, e]))
    exact (a1.and a2).imp fun {a b} ⟨h1, h2⟩ => tx_lt_of h1 (Ne.symm h2)
  have h2 : ys.map tlS = sortST l := lt_uniqT h1 (sortST_sorted l) fun k => by
    rw [sortST_mem, List.mem_map]
    constructor
    · rintro ⟨y, hy, rfl⟩
      obtain ⟨x, hx, rfl⟩ := List.mem_map.mp ((hm y).mp hy)
      rw [tl_S]; exact hx
    · intro hk
      exact ⟨S k, (hm _).mpr (List.mem_map_of_mem hk), tl_S k⟩
  rw [← h2, map_S_tl]
section
variable {X : Cx} {a : Expr} {fa : DE} {pos : Pos}
def rSortTx (K : PySem.W.Frag) : List V → Hp → VK → Prop := fun vs H Q => ∃ (a : Addr) (xs : List Str), vs = [V.ref a] ∧ SqL K H a (xs.map V.str) ∧
  ∀ (ys : List Str) (p : Addr), ys.Perm xs → PyProof.Rows.sortedS ys = true → H p = none → Q (.ref p) (upd H p (.lst (ys.map V.str)))
theorem cr_sortTx : CallR X (.builtin "sorted") (rSortTx X.K) := by
  intro pins s σ H vs us Q I r ⟨a, xs, ea, hs, q⟩
  subst ea
  obtain ⟨its, rv, hl, hz⟩ := I.list hs
  rw [Vals.ref1 r]
  have hz2 : its.length ≤ sizeLine := by rw [← rv.length]; exact hz
  have inS := rv.strs
  refine sortedKAny strKind_oneLt hl.isList inS.keysOf (fun v₁ v₂ rest e => keyKind_strs (by rw [← e]; exact inS)) hz2 fun st' a1 a2 => ?_
  obtain ⟨ys, h1, h2, h3⟩ := sorted_out_str inS a1 a2
  obtain ⟨ep, he'⟩ := PyProof.Rows.sortedAll_at s.heap its ((arrOf st').map (·.2))
  have hlen : (ys.map V.str).length ≤ sizeLine := by rw [List.length_map, h2.length_eq]; simpa using hz
  exact ⟨.ref _, upd H (s.heap.objs.size + 1) (.lst (ys.map V.str)), I.laid (t' := s.toks) (fun _ _ => PyProof.Rows.sortedAll_old) (Nat.le_succ _) ⟨hlen, _, ep, vals_of_strs h1, he'⟩, rfl, q ys _ h2 h3 (I.hok.fresh (Nat.le_succ _))⟩
def SetXO (P : Program) (w : World) (a : Addr) (l : List Str) : HO := .ext fun h => ∃ xs, SetX P w h a xs ∧ xs.length < scanBound ∧ ∀ x, x ∈ xs ↔ x ∈ l
theorem setX_new {P : Program} {w : World} {H : Hp} {h : Heap} {a : Addr} {xs l : List Str} (R : SetX P w h a xs) (hn : xs.length < scanBound) (hm : ∀ x, x ∈ xs ↔ x ∈ l) : ObjOk P w H h a (SetXO P w a l) := by
  have ⟨_, D, ho, _⟩ := R
  exact ⟨⟨xs, R, hn, hm⟩, ⟨_, ho⟩, fun h1 h2 ⟨n, p, q⟩ k => ⟨n, p.at k, q⟩⟩
def rSetX (K : PySem.W.Frag) (P : Program) (w : World) : List V → Hp → VK → Prop := fun xs H Q => ∃ (l : Addr) (ns : List Str), xs = [V.ref l] ∧ SqL K H l (ns.map V.str) ∧ ns.length ≤ 4000 ∧ ∀ p, H p = none → Q (.ref p) (upd H p (SetXO P w p ns))
theorem cr_setX (hc : X.calm = true) : CallR X (.type "set") (rSetX X.K X.prog X.w) := by
  intro pins s σ H xs us Q I r ⟨l, ns, el, hl, hn, q⟩
  subst el
  rw [Vals.ref1 r]
  obtain ⟨its, rv, pl, hz⟩ := I.list hl
  refine set_listX (I.ok.hd hc) pl.isList (ns := ns) (by simpa using rv.strs) (by unfold scanBound; omega) fun h' tk c R hc hm k => ?_
  exact ⟨.ref _, upd H s.heap.objs.size _, I.laid (t' := tk) k (Nat.le_refl _) (setX_new R (by unfold scanBound; omega) hm), rfl, q _ (I.hok.fresh (Nat.le_refl _))⟩
def rSortX (P : Program) (w : World) : List V → Hp → VK → Prop := fun xs H Q => ∃ (a : Addr) (l : List Str), xs = [V.ref a] ∧ H a = some (SetXO P w a l) ∧ ∀ p (ys : List Str), H p = none → PyProof.Rows.sortedS ys = true → ys.Nodup → (∀ k, k ∈ ys ↔ k ∈ l) → Q (.ref p) (upd H p (.lst (ys.map V.str)))
theorem cr_sortX (hc : X.calm = true) : CallR X (.builtin "sorted") (rSortX X.prog X.w) := by
  intro pins s σ H xs us Q I r ⟨a, l, el, ha, q⟩
  subst el
  rw [Vals.ref1 r]
  obtain ⟨xs, R, hb, hm⟩ := (I.hok a _ ha).1
  refine sortedX R (I.ok.hd hc) hb fun s' p out c ns k g o hp hg hI hs nd hm2 hlen => ?_
  have hn : H p = none := I.hok.fresh hp
  have J : Inv X pins σ (upd H p (.lst (ns.map V.str))) { s with heap := s'.heap, gens := s'.gens, drawn := s'.drawn, toks := s'.toks } :=
    I.call (ch := []) (Un.laid k hp hn) (I.hok.laid k hp ⟨by rw [List.length_map]; exact hlen, out.toList, c, vals_of_strs hI, hg⟩) (by rw [g]; exact I.bare) (fun _ z => nomatch z)
  have e : s' = { s with heap := s'.heap, gens := s'.gens, drawn := s'.drawn, toks := s'.toks } := by cases s'; cases s; cases o; rfl
  rw [e]
  exact ⟨.ref p, _, J, rfl, q p ns hn hs nd fun x => (hm2 x).trans (hm x)⟩
theorem txts_eq : ∀ {ds : List D} {l : List Tx}, txts ds = some l → ds = l.map .str
  | [], _, h => by cases h; rfl
  | .str s :: r, l, h => by
    rw [txts, Option.map_eq_some_iff] at h
    obtain ⟨l', h, rfl⟩ := h
    rw [txts_eq h]; rfl
  | .non :: _, _, h | .bl _ :: _, _, h | .int _ :: _, _, h | .lst _ :: _, _, h | .tup _ :: _, _, h | .dic _ :: _, _, h | .obj _ :: _, _, h | .sta _ :: _, _, h => by cases h
/-- sorted(xs) of a list of texts -/
def aSortT : List D → Option (List D)
  | [.lst ds] => (txts ds).map fun l => (sortT l).map .str
  | _ => none
theorem cf_sortT : CallF X (.builtin "sorted") aSortT := by
  refine ⟨_, cr_sortTx, fun G α ow σ H ρ g vs ds d Q s r e w => ?_⟩
  unfold aSortT at e
  split at e
  · rw [Option.map_eq_some_iff] at e
    obtain ⟨l, e, rfl⟩ := e
    obtain ⟨v, rfl, r1⟩ := BRepAll.one1 r
    obtain ⟨p, vs, rfl, h1, h2⟩ := r1.lst
    rw [txts_rep h2 e] at h1
    refine ⟨p, l.map S, rfl, .inl h1, fun ys q hp hs hq => ?_⟩
    rw [sorted_eq hp hs, map_tl_S]
    exact w q _ hq (repAll_strs _)
  · cases e
def aSortSetA : List D → Option (List D)
  | [.lst ds] => match intsD ds with
    | some ns => if ns.length ≤ 4000 then some ((sortU ns).map .int) else none
    | none => match txts ds with
      | some l => if l.length ≤ 4000 then some ((sortST l).map .str) else none
      | none => none
  | _ => none
theorem ef_sortSetA {p p2 q : Pos} (z1 : X.mg "sorted" = none) (z2 : X.mg "set" = none) (ha : EB X a fa) (hc : X.calm = true := by rfl) (g1 : Gl X "sorted" := by rfl) (g2 : Gl X "set" := by rfl)
    (he : starEach [.Call (.Name "set" p2) [a] [] q] X.env = (false, eval (.Call (.Name "set" p2) [a] [] q) X.env) :: starEach [] X.env := by rfl) (he2 : starEach [a] X.env = (false, eval a X.env) :: starEach [] X.env := by rfl) :
    EF X (.Call (.Name "sorted" p) [.Call (.Name "set" p2) [a] [] q] [] pos) (aFn aSortSetA (aCons fa aNil)) := by
  obtain ⟨tI, pI, qI⟩ := ef_sortSet (pos := pos) (p := p) (p2 := p2) (q := q) z1 z2 ha hc g1 g2 he he2
  obtain ⟨t, pt, hq⟩ := ha
  have p1 := pe_callTy (p := p2) (pos := q) (cr_setX hc) g2 z2 b_set (pa_cons pt pa_nil he2) (by decide) (by decide) he2 rfl
  refine ⟨_, PE.or pI (pe_callB (cr_sortX hc) g1 z1 b_sorted (pa_cons p1 pa_nil he) (by decide) (by decide) he rfl), fun G α ow σ H ρ g ds g' Q s e w => ?_⟩
  obtain ⟨xs, g1, e1, e2⟩ := bindM_some e
  obtain ⟨e3, rfl⟩ := liftM_some e2
  obtain ⟨y, g2, e4, e5⟩ := bindM_some e1
  obtain ⟨ys, g3, e6, e7⟩ := bindM_some e5
  obtain ⟨e8, rfl⟩ := liftM_some e7
  cases e8
  cases e6
  unfold aSortSetA at e3
  split at e3
  · rename_i ds' eq
    cases eq
    split at e3
    · rename_i ns hns
      refine .inl (qI G α ow σ H ρ g ds g2 Q s ?_ w)
      unfold aFn L3.bindM
      rw [e1]
      dsimp only
      unfold L3.liftM aSortSet
      dsimp only
      rw [hns]
      dsimp only
      rw [e3]
    · split at e3
      · rename_i l hl
        split at e3
        · rename_i hlen
          cases e3
          refine .inr (hq G α ow σ H ρ g _ g2 _ s e4 fun v H1 α1 x1 s1 r1 => ?_)
          obtain ⟨a, vs, rfl, h1, h2⟩ := r1.lst
          rw [txts_rep h2 hl] at h1
          refine ⟨a, l.map S, rfl, .inl h1, by rw [List.length_map]; exact hlen, fun p hp => ⟨p, _, rfl, upd_same, fun r ms hr hs nd hm => ?_⟩⟩
          rw [sortedX_eq hs nd hm]
          exact w r _ _ α1 (x1.trans (Ext.new hp)) (s1.new hp) hr (repAll_strs _) _ rfl
        · cases e3
      · cases e3
  · cases e3
end
end L3

/-! L3x: tables of the top; defs called by a slot; dicts lent to a def. -/
namespace L3
open PySem PySem.Spec PyProof.Rows L2 TL

/-! ### values of the top as data -/
mutual
def staB (K : PySem.W.Frag) : D → Value → Bool
  | .non, .none => true
  | .bl b, .bool c => b == c
  | .int i, .int j _ => i == j
  | .str s, .str x _ => decide (x = S s)
  | .sta x, .ref a => a == He.ga K x
  | .tup ds, .ref a => match K.lookup a with
    | some ⟨.type c, none, .seq its _, sl⟩ => decide (c = "tuple" ∧ sl.size = 0) && (decide (its.size ≤ sizeLine) && staBs K ds its.toList)
    | _ => false
  | _, _ => false
def staBs (K : PySem.W.Frag) : List D → List Value → Bool
  | [], [] => true
  | d :: ds, u :: us => staB K d u && staBs K ds us
  | _, _ => false
end
mutual
theorem staB_ok {K : PySem.W.Frag} : ∀ (d : D) (u : Value), staB K d u = true → ∃ v, RelV v u ∧ ∀ A α H, Rep A α K H v d
  | .non, u, h => by cases u <;> first | exact ⟨.non, rfl, fun _ _ _ => .non⟩ | cases h
  | .bl b, u, h => by
    cases u <;> first | cases h | skip
    rename_i c
    have : b = c := beq_iff_eq.mp h
    subst this
    exact ⟨.bl b, rfl, fun _ _ _ => .bl b⟩
  | .int i, u, h => by
    cases u <;> first | cases h | skip
    rename_i j t
    have : i = j := beq_iff_eq.mp h
    subst this
    exact ⟨.int i, ⟨t, rfl⟩, fun _ _ _ => .int i⟩
  | .str s, u, h => by
    cases u <;> first | cases h | skip
    rename_i x t
    have : x = S s := of_decide_eq_true h
    subst this
    exact ⟨.str (S s), ⟨t, rfl⟩, fun _ _ _ => .str s⟩
  | .sta x, u, h => by
    cases u <;> first | cases h | skip
    rename_i a
    have : a = He.ga K x := beq_iff_eq.mp h
    subst this
    exact ⟨.ref _, rfl, fun _ _ _ => .sta x⟩
  | .tup ds, u, h => by
    cases u <;> first | cases h | skip
    rename_i a
    unfold staB at h
    split at h
    · rename_i c its n sl q
      rw [Bool.and_eq_true, Bool.and_eq_true] at h
      obtain ⟨h1, h2, h3⟩ := h
      obtain ⟨vs, r1, r2⟩ := staBs_ok ds its.toList h3
      obtain ⟨hc, hsl⟩ := of_decide_eq_true h1
      subst hc
      exact ⟨.ref a, rfl, fun A α H => .tup (.inr ⟨_, its, n, q, ⟨rfl, rfl, Array.eq_empty_of_size_eq_zero hsl⟩, rfl, of_decide_eq_true h2, r1⟩) (r2 A α H).1 (r2 A α H).2⟩
    · cases h
  | .lst _, u, h => by cases u <;> cases h
  | .dic _, u, h => by cases u <;> cases h
  | .obj _, u, h => by cases u <;> cases h
theorem staBs_ok {K : PySem.W.Frag} : ∀ (ds : List D) (us : List Value), staBs K ds us = true → ∃ vs, Vals vs us ∧ ∀ A α H, RepAll A α K H vs ds
  | [], us, h => by
    cases us with
    | nil => exact ⟨[], .nil, fun _ _ _ => RepAll.nil⟩
    | cons => cases h
  | d :: ds, us, h => by
    cases us with
    | nil => cases h
    | cons u us =>
      unfold staBs at h
      rw [Bool.and_eq_true] at h
      obtain ⟨v, r, q⟩ := staB_ok d u h.1
      obtain ⟨vs, rs, qs⟩ := staBs_ok ds us h.2
      exact ⟨v :: vs, .cons r rs, fun A α H => RepAll.cons (q A α H) (qs A α H)⟩
end
def esB (K : PySem.W.Frag) : List (Tx × D) → List DictEntry → Bool
  | [], [] => true
  | (z, d) :: r, e :: es => (match e.key with
    | .str y _ => decide (y = S z)
    | _ => false) && (staB K d e.val && esB K r es)
  | _, _ => false
def tabB (K : PySem.W.Frag) (x : Str) (tb : List (Tx × D)) : Bool := match K.lookup (He.ga K x) with
  | some ⟨_, _, .dict es _, _⟩ => esB K tb es.toList
  | _ => false
def lookT (z : Tx) : List (Tx × D) → Option D
  | [] => none
  | (y, d) :: r => if y = z then some d else lookT z r
structure TabAt (K : PySem.W.Frag) (w : World) (mg : Str → Option Value) (x : Str) (tb : List (Tx × D)) : Prop where
  g : mg x = some (.ref (He.ga K x))
  d : ∃ es n, KDict K w (He.ga K x) es n
  val : ∀ z, match lookT z tb with
    | some d => ∃ u v, PySem.W.nsIn K (He.ga K x) (S z) = some (some u) ∧ RelV v u ∧ ∀ A α H, Rep A α K H v d
    | none => PySem.W.nsIn K (He.ga K x) (S z) = some none
theorem es_find {K : PySem.W.Frag} (z : Tx) : ∀ (tb : List (Tx × D)) (es : List DictEntry), esB K tb es = true → (∀ e ∈ es, e.refKey = false) ∧ match lookT z tb with
    | some d => ∃ e v, es.find? (·.key.isStr (S z)) = some e ∧ RelV v e.val ∧ ∀ A α H, Rep A α K H v d
    | none => es.find? (·.key.isStr (S z)) = none
  | [], es, h => by
    cases es with
    | nil => exact ⟨fun e he => (by cases he), rfl⟩
    | cons => cases h
  | (y, d) :: r, es, h => by
    cases es with
    | nil => cases h
    | cons e es =>
      unfold esB at h
      rw [Bool.and_eq_true, Bool.and_eq_true] at h
      obtain ⟨h1, h2, h3⟩ := h
      obtain ⟨i1, i2⟩ := es_find z r es h3
      split at h1
      · rename_i y' t hk
        have : y' = S y := of_decide_eq_true h1
        subst this
        refine ⟨fun e' he => ?_, ?_⟩
        · rcases List.mem_cons.mp he with rfl | he
          · unfold DictEntry.refKey; rw [hk]
          · exact i1 e' he
        · unfold lookT
          by_cases hyz : y = z
          · subst hyz
            rw [if_pos rfl]
            obtain ⟨v, r1, r2⟩ := staB_ok d e.val h2
            exact ⟨e, v, List.find?_cons_of_pos (by rw [hk]; simp [Value.isStr]), r1, r2⟩
          · rw [if_neg hyz]
            have e1 : (e :: es).find? (·.key.isStr (S z)) = es.find? (·.key.isStr (S z)) := List.find?_cons_of_neg (by rw [hk]; simp only [Value.isStr, beq_iff_eq]; exact fun q => hyz (S_inj q))
            rw [e1]
            exact i2
      · cases h1
theorem tab_ok {K : PySem.W.Frag} {w : World} {mg : Str → Option Value} {x : Str} {tb : List (Tx × D)} (g : mg x = some (.ref (He.ga K x))) (d : ∃ es n, KDict K w (He.ga K x) es n) (h : tabB K x tb = true) : TabAt K w mg x tb := by
  refine ⟨g, d, fun z => ?_⟩
  unfold tabB at h
  split at h
  · rename_i es n sl q
    obtain ⟨i1, i2⟩ := es_find z tb es.toList h
    cases e : lookT z tb with
    | some dd =>
      rw [e] at i2
      obtain ⟨en, v, f, r1, r2⟩ := i2
      refine ⟨en.val, v, ?_, r1, r2⟩
      unfold PySem.W.nsIn
      rw [q]
      dsimp only
      rw [f]
    | none =>
      rw [e] at i2
      dsimp only at i2 ⊢
      unfold PySem.W.nsIn
      rw [q]
      dsimp only
      rw [i2]
      dsimp only
      rw [if_neg]
      rw [List.any_eq_true]
      rintro ⟨en, he, z⟩
      rw [i1 en he] at z
      cases z
  · cases h
def dTabIx (tb : List (Tx × D)) : D → Option D
  | .str z => lookT z tb
  | _ => none
def dTabIn (tb : List (Tx × D)) (f : Bool → Bool) : D → Option D
  | .str z => some (.bl (f (lookT z tb).isSome))
  | _ => none
section
variable {X : Cx} {a b c e : Expr} {es : List Expr} {fa fb fc fe : DE} {fs : DA} {pos p : Pos} {x : Str} {tb : List (Tx × D)}
theorem ec_tabIx (T : TabAt X.K X.w X.mg x tb) (hb : EB X b fb) (hg : Gl X x := by rfl) (hd : (x == ("__debug__" : Str)) = false := by decide) (hs : PlainIx b := by exact fun _ _ => rfl) : EC X (.Subscript (.Name x p) b pos) (eUn (dTabIx tb) fb) := by
  obtain ⟨t, pt, hq⟩ := hb
  refine ⟨_, pe_ix ix_kdict (pe_glob (v := .ref (He.ga X.K x)) hg T.g rfl hd) pt hs, fun G α ow σ H ρ g d g' Q s e w => ?_⟩
  obtain ⟨y, g1, e1, e2⟩ := bindM_some e
  obtain ⟨e3, rfl⟩ := liftM_some e2
  refine hq G α ow σ H ρ g y g1 _ s e1 fun v H1 α1 x1 s1 r1 => ?_
  unfold dTabIx at e3
  split at e3
  · rename_i z
    have hv := T.val z
    rw [e3] at hv
    obtain ⟨u, v', h1, h2, h3⟩ := hv
    obtain ⟨es, n, K1⟩ := T.d
    exact ⟨_, S z, v', rfl, r1.str, ⟨es, n, u, K1.1, K1.lit, h1, h2⟩, w v' H1 α1 x1 s1 (h3 _ _ _)⟩
  · cases e3
theorem opTab_in (T : TabAt X.K X.w X.mg x tb) (hb : EB X b fb) (hg : Gl X x := by rfl) (hd : (x == ("__debug__" : Str)) = false := by decide) (hm : behindInMarks .In (.Name x p) = false := by first | exact nomark _ | rfl) : TC X (.Compare b [.In] [.Name x p] pos) (tOf (eUn (dTabIn tb id) fb)) := by
  obtain ⟨t, pt, hq⟩ := hb
  obtain ⟨es, n, K1⟩ := T.d
  refine ⟨_, pt_cmpR (op_in_kd K1) pt (pe_glob (v := .ref (He.ga X.K x)) hg T.g rfl hd) hm, fun G α ow σ H ρ g d g' Q s e w => ?_⟩
  obtain ⟨k, g0, e0, e9⟩ := bindM_some e
  obtain ⟨e8, rfl⟩ := liftM_some e9
  obtain ⟨y, g1, e1, e2⟩ := bindM_some e0
  obtain ⟨e3, rfl⟩ := liftM_some e2
  refine hq G α ow σ H ρ g y g1 _ s e1 fun v H1 α1 x1 s1 r1 => ?_
  unfold dTabIn at e3
  split at e3
  · rename_i z
    cases e3
    cases e8
    have hv := T.val z
    have hr : ∃ r, PySem.W.nsIn X.K (He.ga X.K x) (S z) = some r ∧ r.isSome = (lookT z tb).isSome := by
      cases q : lookT z tb with
      | none => rw [q] at hv; exact ⟨none, hv, rfl⟩
      | some dd => rw [q] at hv; obtain ⟨u, _, h1, _⟩ := hv; exact ⟨some u, h1, rfl⟩
    obtain ⟨r, h1, h2⟩ := hr
    refine ⟨S z, r, r1.str, rfl, h1, _, rfl, ?_⟩
    rw [h2]
    exact w H1 α1 x1 s1
  · cases e3
/-! ### a def that a slot holds -/
def eDisp (i : Nat) : List (Str × (List D → Store → Option (D × Store))) → DA → DE
  | [], _ => fun _ _ => none
  | (x, φ) :: r, fs => fun ρ g => match ρ[i]? with
    | some (some (.d (.sta y))) => if y = x then eApp φ fs ρ g else eDisp i r fs ρ g
    | _ => none
theorem ec_disp0 {i : Nat} : EC X e (eDisp i [] fs) := ec_dead
theorem ec_disp {i k j n : Nat} {y : Str} {ps : List Str} {φ : List D → Store → Option (D × Store)} {r : List (Str × (List D → Store → Option (D × Store)))}
    (F : FnAt X.prog X.w X.K X.mg X.base k y ps (spD X.K n φ)) (hr : Room j X.A) (ha : AC X (e :: es) fs) (rest : EC X (.Call (.Name x p) (e :: es) [] pos) (eDisp i r fs)) (hk : k ≤ j := by decide) (hN : X.N[i]? = some x := by rfl) (hv : Vis X.env.scope x := by first | exact Or.inl rfl | exact Or.inr (Or.inl rfl) | exact Or.inr (Or.inr rfl))
    (hdb : (x == ("__debug__" : Str)) = false := by decide) (hcd : (x == ("__classdict__" : Str)) = false := by decide) (he : starEach (e :: es) X.env = (false, eval e X.env) :: starEach es X.env := by rfl) (hpl : (backTo pos (starEach es X.env)).any (·.1) = false := by rfl) (hl : (e :: es).length = n := by rfl) :
    EC X (.Call (.Name x p) (e :: es) [] pos) (eDisp i ((y, φ) :: r) fs) := by
  obtain ⟨⟨fd, F, hb, _⟩, gg, kp⟩ := F
  obtain ⟨hal, t, pt, q⟩ := ha
  obtain ⟨t2, pt2, q2⟩ := rest
  refine ⟨_, PE.or (pe_callL F (hr.mono hk) hN hv kp hb .nil pass0 pt hdb hcd he hpl) pt2, fun G α ow σ H ρ g d g' Q s e w => ?_⟩
  unfold eDisp at e
  split at e
  · rename_i y' hy
    split at e
    · rename_i e0
      subst e0
      obtain ⟨v, h1, h2⟩ := s.slot i _ hy
      cases h2
      obtain ⟨xs, g1, e1, e2⟩ := bindM_some e
      refine .inl ⟨h1, q G α ow σ H ρ g xs g1 _ s e1 fun vs H1 α1 x1 s1 r1 => ?_⟩
      have hA : ∀ a (o : HO), Al G.B α1 ow a → H1 a = some o → Al (fun a => G.B a ∨ ∃ i, ow i = some a) α1 no a ∧ H1 a = some o := fun a o h e => ⟨⟨h.1, fun z => z.elim h.2.1 fun ⟨i, hi⟩ => h.2.2 i hi, fun i z => by cases z⟩, e⟩
      rw [List.append_nil]
      refine ⟨fun a => G.B a ∨ ∃ i, ow i = some a, α1, g1, xs, d, g', by rw [r1.1, hal _ _ _ _ e1]; exact hl, fun a h => ?_, s1.gok.mono hA fun _ _ _ e => e, r1.mono hA (List.prefix_refl _), e2, fun v H2 α2 x2 gk2 r2 => ?_⟩
      · rcases h with h | ⟨i, h⟩
        · exact s1.blk a h
        · obtain ⟨_, h2, _, h4, _⟩ := s1.own i a h
          exact ⟨h4, h2⟩
      · have hA2 : ∀ a (o : HO), Al (fun a => G.B a ∨ ∃ i, ow i = some a) α2 no a → H2 a = some o → Al G.B α2 ow a ∧ H2 a = some o := fun a o h e => ⟨⟨h.1, fun z => h.2.1 (.inl z), fun i z => h.2.1 (.inr ⟨i, z⟩)⟩, e⟩
        exact w v H2 α2 (x1.trans x2) (s1.step x2 (gk2.mono hA2 fun _ _ _ e => e)) (r2.mono hA2 (List.prefix_refl _))
    · exact .inr (q2 G α ow σ H ρ g d g' Q s e w)
  · cases e
end
end L3

/-! L3y: a, *b = e. -/
namespace L3
open PySem PySem.Spec PyProof.Rows L2 TL
section
variable {prog : Program} {w : World} {A : Around} {E : Value → Shared → Prop} {s : Shared} {I : Addr} {fp wr : List Addr} {n : Nat} {P : Nat → Value → Prop} {St : Nat → Heap → Prop}
theorem walks_shift (W : Walks prog w A I fp wr n P St) {i : Nat} (hi : i ≤ n) : Walks prog w A I fp wr (n - i) (fun j => P (i + j)) (fun j => St (i + j)) where
  sub := W.sub
  frame := fun j h h' st k => W.frame _ h h' st k
  item := fun j s Q E hj st k => W.item (i + j) s Q E (by omega) st k
  done := fun s Q E st k => W.done s Q E (by rw [show i + (n - i) = n by omega] at st; exact st) k
  self := fun j s Q E st k => W.self _ s Q E st k
theorem draw_walk (W : Walks prog w A I fp wr n P St) : ∀ (k i : Nat) (s : Shared) (Q : List Value → Shared → Prop), i + k ≤ n → St i s.heap →
    (∀ h' tk vs, vs.length = k → (∀ j v, vs[j]? = some v → P (i + j) v) → St (i + k) h' → (∀ b o, b ∉ wr → s.heap.get? b = some o → h'.get? b = some o) → Q vs { s with heap := h', toks := tk }) → wpAny (model prog w) A (draw (.ref I) k) Q E s
  | 0, i, s, Q, hi, st, hQ => wpAny_pure (hQ s.heap s.toks [] rfl (fun j v e => by simp at e) st (fun b o _ e => e))
  | k + 1, i, s, Q, hi, st, hQ => by
    show wpAny _ _ (pyNext (.ref I) >>= _) Q E s
    refine wpAny_bind (W.item i s _ _ (by omega) st fun v h1 tk1 hP st1 k1 => ?_)
    refine wpAny_bind (wpAny_holding (draw_walk W k (i + 1) { s with heap := h1, toks := tk1 } _ (by omega) st1 fun h2 tk2 vs hl hv st2 k2 => wpAny_pure ?_))
    refine hQ h2 tk2 (v :: vs) (by rw [List.length_cons, hl]) (fun j u e => ?_) (by rw [show i + (k + 1) = i + 1 + k by omega]; exact st2) fun b o hb e => k2 b o hb (k1 b o hb e)
    cases j with
    | zero => cases e; exact hP
    | succ j => rw [show i + (j + 1) = i + 1 + j by omega]; exact hv j u (by simpa using e)
/-- the items of a list or a tuple, the last ones gathered -/
theorem star_items {a : Addr} {T : String} {items : Array Value} {m : Nat} {Q : List Value → Shared → Prop} (hT : T = "list" ∨ T = "tuple") (ho : if T = "list" then s.heap.IsList a items else IsTup s.heap a items) (hh : A.handled = none) (hm : m ≤ items.size) (hz : items.size ≤ sizeLine)
    (hQ : ∀ (h' : Heap) (tk : Nat), (∀ b o, s.heap.get? b = some o → h'.get? b = some o) → Q (items.toList.take m ++ [.ref h'.objs.size]) { s with heap := h'.push { cls := .type "list", data := .seq (items.toList.drop m).toArray }, toks := tk }) :
    wpAny (model prog w) A (unpackItems (.ref a) (m + 1) (some m)) Q E s := by
  have fin : ∀ {T2 : String} {St : Nat → Heap → Prop} {it : Addr} (h0 : Heap), (T2 = "str_ascii_iterator" ∨ T2 = "str_iterator" ∨ T2 = "list_iterator" ∨ T2 = "tuple_iterator") → (∀ A' : Around, A'.handled = none → Walks prog w A' it [it, a] [it] items.size (fun i v => items[i]? = some v) St) →
      (∀ (i : Nat) (s : Shared), St i s.heap → s.TypeIs (.ref it) T2) → St 0 h0 → it < h0.objs.size → a < h0.objs.size → s.heap.get? it = none → (∀ b o, s.heap.get? b = some o → h0.get? b = some o) →
      wpAny (model prog w) A (do
        let first ← holding [.ref it] (draw (.ref it) m)
        if first.length < m then
          rule "unpack.star.too-few-before"
          raiseError "ValueError" s!"not enough values to unpack (expected at least {m + 1 - 1}, got {first.length})"
        let rest ← holding first (collect (.ref it))
        let after := m + 1 - 1 - m
        if rest.length < after then
          rule "unpack.star.too-few"
          raiseError "ValueError" s!"not enough values to unpack (expected at least {m + 1 - 1}, got {m + rest.length})"
        let mid := rest.length - after
        return first ++ [← newList (rest.take mid)] ++ rest.drop mid) Q E { s with heap := h0 } := by
    intro T2 St it h0 hT2 W tyI st hit ha hnew k0
    refine wpAny_bind (wpAny_holding (draw_walk (W A hh) m 0 { s with heap := h0 } _ (by omega) st fun h1 tk1 vs hl hv st1 k1 => ?_))
    rw [if_neg (by omega)]
    have hh1 : A.in1.handled = none := by simp [hh]
    have hst : (fun (j : Nat) (h : Heap) => St (0 + m + j) h) 0 h1 := by simpa using st1
    have W1 := walks_shift (W A.in1 hh1) (i := 0 + m) (by omega)
    have hlt1 : ∀ b ∈ [it, a], b < h1.objs.size := fun b hb => by
      have hI : ∃ o, h1.get? it = some o := by obtain ⟨o, ho, _⟩ := tyI _ { s with heap := h1 } st1; exact ⟨o, ho⟩
      rcases List.mem_cons.mp hb with rfl | hb
      · obtain ⟨o, e⟩ := hI; exact Heap.lt_size e
      · rw [List.mem_singleton] at hb
        subst hb
        have : ∃ o, s.heap.get? b = some o := by
          split at ho
          · obtain ⟨o, e, _⟩ := ho; exact ⟨o, e⟩
          · obtain ⟨o, e, _⟩ := ho; exact ⟨o, e⟩
        obtain ⟨o, e⟩ := this
        refine Heap.lt_size (k1 b o (fun z => ?_) (k0 b o e))
        rw [List.mem_singleton] at z
        rw [z, hnew] at e
        cases e
    refine wpAny_bind (wpAny_holding (wpAny_collect_iter (s := { s with heap := h1, toks := tk1 }) hT2 W1.toS (fun i s st => tyI _ s st) hst hlt1 (List.mem_cons_self ..) (fun s' acc mv hacc => ?_) (by omega)))
    obtain ⟨h2, g2, d2, tk2, os2⟩ := s'
    cases mv.gens
    cases mv.drawn
    cases mv.os
    have ef : vs = items.toList.take m := by
      apply List.ext_getElem?
      intro j
      rw [List.getElem?_take]
      split
      · rename_i hj
        have e := hv j vs[j] (List.getElem?_eq_getElem (by omega))
        rw [List.getElem?_eq_getElem (by omega), Array.getElem?_toList, ← e]
        congr 1; omega
      · exact List.getElem?_eq_none (by omega)
    have er : acc.toList = items.toList.drop m := by
      apply List.ext_getElem?
      intro j
      rw [List.getElem?_drop]
      by_cases hj : j < acc.size
      · have e := hacc.2 j acc[j] (Array.getElem?_eq_getElem hj)
        rw [Array.getElem?_toList, Array.getElem?_toList, Array.getElem?_eq_getElem hj, ← e]
        congr 1; omega
      · have := hacc.1
        rw [List.getElem?_eq_none (by simp; omega), List.getElem?_eq_none (by simp; omega)]
    dsimp only
    rw [if_neg (by omega), show m + 1 - 1 - m = 0 by omega, Nat.sub_zero, List.take_length, List.drop_length]
    refine wpAny_bind (wpAny_newList (wpAny_pure ?_) (by rw [er]; simp; omega))
    rw [List.append_nil, ef, er]
    refine hQ h2 tk2 fun b o e => ?_
    have hb : b ∉ [it] := fun z => by
      rw [List.mem_singleton] at z
      rw [z, hnew] at e
      cases e
    exact mv.heap b o hb (k1 b o hb (k0 b o e))
  unfold unpackItems
  refine wpAny_bind ?_
  unfold notIterableAtAll
  rcases hT with rfl | rfl
  · rw [if_pos rfl] at ho
    have hlt := (show a < s.heap.objs.size by obtain ⟨o, e, _⟩ := ho; exact Heap.lt_size e)
    refine wpAny_bind (wpAny_specialOf ho.typeIs slot_list_iter.lookup ?_)
    refine wpAny_pure ?_
    simp only [Bool.false_eq_true, if_false]
    refine wpAny_bind (wpAny_holding (wpAny_pyIter_list ho ?_))
    refine fin (St := fun i h => h.IsListIter s.heap.objs.size a i ∧ h.IsList a items) _ (.inr (.inr (.inl rfl))) (fun A' h' => Walks.list h' _ a (Nat.ne_of_lt hlt) items) (fun i s st => ?_) ⟨⟨_, Heap.get?_push_size _ rfl, rfl, rfl⟩, ho.push _⟩ (by rw [Heap.size_push]; exact Nat.lt_succ_self _) (by rw [Heap.size_push]; exact Nat.lt_succ_of_lt hlt) (Heap.get?_none_of_le (Nat.le_refl _)) (fun b o e => Heap.get?_push_of_some _ e)
    exact st.1.typeIs
  · rw [if_neg (by decide)] at ho
    have hlt := (show a < s.heap.objs.size by obtain ⟨o, e, _⟩ := ho; exact Heap.lt_size e)
    refine wpAny_bind (wpAny_specialOf ho.typeIs slot_tuple_iter.lookup ?_)
    refine wpAny_pure ?_
    simp only [Bool.false_eq_true, if_false]
    refine wpAny_bind (wpAny_holding (iter_tuple ho ?_))
    have ho2 : s.heap.IsTuple a items := by obtain ⟨o, e1, e2, e3⟩ := ho; exact ⟨o, e1, e2, e3⟩
    refine fin (St := fun i h => h.IsTupleIter s.heap.objs.size a i ∧ h.IsTuple a items) _ (.inr (.inr (.inr rfl))) (fun A' h' => Walks.tuple h' _ a (Nat.ne_of_lt hlt) items) (fun i s st => ?_) ⟨⟨_, Heap.get?_push_size _ rfl, rfl, rfl⟩, ho2.push _⟩ (by rw [Heap.size_push]; exact Nat.lt_succ_self _) (by rw [Heap.size_push]; exact Nat.lt_succ_of_lt hlt) (Heap.get?_none_of_le (Nat.le_refl _)) (fun b o e => Heap.get?_push_of_some _ e)
    exact st.1.typeIs
end
section
variable {X : Cx} {e : Expr} {es : List Expr} {fe : DE} {pos : Pos}
def gStar (K : PySem.W.Frag) (m : Nat) (t : TGs) : TG := fun v σ H Q => ∃ a xs, v = .ref a ∧ (SqT K H a xs ∨ SqL K H a xs) ∧ m ≤ xs.length ∧ ∀ p, H p = none → t (xs.take m ++ [.ref p]) σ (upd H p (.lst (xs.drop m))) Q
theorem pg_star {k m : Nat} {t : TGs} (hc : X.calm = true) (h : PGs X es t) (hn : (assignEach es X.env).length = m + 1) (hst : (assignEach es X.env).findIdx? (·.1) = some m) : PG X (.Tuple es k pos) (gStar X.K m t) := by
  refine ⟨fun pins s σ H v u Q I r ⟨a, xs, e1, hq, hl, hw⟩ => ?_⟩
  subst e1
  cases r
  rw [assign_Tuple]
  refine wpAny_bind (wpAny_standAt ?_)
  unfold unpack
  rw [hn, hst]
  have last : ∀ (its : List Value), Vals xs its → xs.length ≤ sizeLine → ∀ (h' : Heap) (tk : Nat), (∀ b o, s.heap.get? b = some o → h'.get? b = some o) →
      wpAny (model X.prog X.w) X.A (assignInOrder ((assignEach es X.env).map (·.2)) (its.toArray.toList.take m ++ [.ref h'.objs.size])) (fun _ s' => ∃ σ' H', Inv X pins σ' H' s' ∧ Q σ' H') X.xe { s with heap := h'.push { cls := .type "list", data := .seq (its.toArray.toList.drop m).toArray }, toks := tk } := by
    intro its rv hz h' tk kp
    have I1 : Inv X pins σ H { s with heap := h', toks := tk } := I.kept (t' := tk) kp
    have I2 : Inv X pins σ (upd H h'.objs.size (.lst (xs.drop m))) { s with heap := h'.push { cls := .type "list", data := .seq (its.drop m).toArray }, toks := tk } :=
      I1.laid (t' := tk) (o := .lst (xs.drop m)) (fun b o e => Heap.get?_push_of_some _ e) (Nat.le_refl _) ⟨by rw [List.length_drop]; omega, its.drop m, 0, rv.drop m, Heap.get?_push_size _ rfl⟩
    exact h.run pins _ σ _ _ _ Q I2 ((rv.take m).append (.cons (show RelV (.ref h'.objs.size) (.ref h'.objs.size) from rfl) .nil)) (hw _ (I1.hok.fresh (Nat.le_refl _)))
  rcases hq with hq | hq
  · obtain ⟨its, rv, ht, hz⟩ := I.tuple hq
    refine wpAny_bind (wpAny_holding (star_items (T := "tuple") (.inr rfl) (by rw [if_neg (by decide)]; exact ht) (I.ok.hd hc) (by rw [List.size_toArray, ← rv.length]; exact hl) (by rw [List.size_toArray, ← rv.length]; exact hz) fun h' tk kp => last its rv hz h' tk kp))
  · obtain ⟨its, rv, ht, hz⟩ := I.list hq
    refine wpAny_bind (wpAny_holding (star_items (T := "list") (.inl rfl) (by rw [if_pos rfl]; exact ht.isList) (I.ok.hd hc) (by rw [List.size_toArray, ← rv.length]; exact hl) (by rw [List.size_toArray, ← rv.length]; exact hz) fun h' tk kp => last its rv hz h' tk kp))
theorem gcs_star {x : Str} {p1 p2 : Pos} {p : D → Option (List (Nat × D))} (h : GC X (.Name x p1) p) : GCs X [.Starred (.Name x p1) p2] (tgsCons p tgsNil) := by
  obtain ⟨l, t, pt, q⟩ := gcs_cons h gcs_nil
  exact ⟨l, t, ⟨pt.run⟩, q⟩
def sUnpS (m : Nat) (f : DE) (ps : List D → Option (List (Nat × D))) : DS := fun ρ g => match f ρ g with
  | some (d, g1) => match d with
    | .tup xs => if m ≤ xs.length then (match ps (xs.take m ++ [.lst (xs.drop m)]) with
      | some as => some (.nx (sets ρ as), g1)
      | none => none) else none
    | .lst xs => if m ≤ xs.length then (match ps (xs.take m ++ [.lst (xs.drop m)]) with
      | some as => some (.nx (sets ρ as), g1)
      | none => none) else none
    | _ => none
  | none => none
theorem sc_unpS {k : Nat} {tp : Pos} (m : Nat) {ps : List D → Option (List (Nat × D))} (he : EC X e fe) (hg : GCs X es ps) (hn : (assignEach es X.env).length = m + 1 := by rfl) (hst : (assignEach es X.env).findIdx? (·.1) = some m := by rfl) (hc : X.calm = true := by rfl)
    (hs : swapsWithSole [.Tuple es k tp] e pos.line X.env = pure false := by rfl) (hw : swappedStores [.Tuple es k tp] e X.env = pure none := by rfl)
    (h1 : (assignEach [.Tuple es k tp] X.env).map (·.2) = [assign (.Tuple es k tp) X.env] := by rfl) : SC X (.Assign [.Tuple es k tp] e pos) (sUnpS m fe ps) := by
  obtain ⟨t, pt, hq⟩ := he
  obtain ⟨hl, t', pg, qg⟩ := hg
  refine ⟨_, ps_asg pt (pg_star hc pg hn hst) hs hw h1, fun G α ow σ H ρ g out g' Dn s e w => ?_⟩
  unfold sUnpS at e
  split at e
  · rename_i d g1 e1
    have fin : ∀ {xs : List D}, (if m ≤ xs.length then (match ps (xs.take m ++ [.lst (xs.drop m)]) with
        | some as => some (Out.nx (sets ρ as), g1)
        | none => none) else none) = some (out, g') → (∀ {v H1 α1}, Rep (Al G.B α1 ow) α1 X.K H1 v d → ∃ a vs, v = .ref a ∧ (SqT X.K H1 a vs ∨ SqL X.K H1 a vs) ∧ RepAll (Al G.B α1 ow) α1 X.K H1 vs xs) →
        t σ H fun v H1 => gStar X.K m t' v σ H1 Dn.nx := by
      intro xs e hr
      split at e
      · rename_i hm
        split at e
        · rename_i as has
          cases e
          refine hq G α ow σ H ρ g d g' _ s e1 fun v H1 α1 x1 s1 r1 => ?_
          obtain ⟨a, vs, rfl, h2, h3⟩ := hr r1
          refine ⟨a, vs, rfl, h2, by rw [h3.1]; exact hm, fun p hp => ?_⟩
          have s2 := s1.new (o := .lst (vs.drop m)) hp
          have rl := s1.newL hp (h3.drop m)
          have r3 := (h3.take m).ext (Ext.new (α := α1) (o := .lst (vs.drop m)) hp)
          refine qg _ _ σ _ _ _ as _ (r3.append (RepAll.one rl)) has fun ws rs => ?_
          obtain ⟨ow2, s3, z2⟩ := s2.sets rs
          exact w _ _ _ _ s3 ((x1.trans (Ext.new hp)).fz.trans z2)
        · cases e
      · cases e
    split at e
    · exact fin e fun r => by cases r with | tup h hl hi => exact ⟨_, _, rfl, .inl h.sq, hl, hi⟩
    · exact fin e fun r => by cases r with | lst hA h hl hi => exact ⟨_, _, rfl, .inr (.inl h), hl, hi⟩
    · cases e
  · cases e
end
end L3

/-! L4a: dicts lent to a def; further built-ins. -/
namespace L3
open PySem PySem.Spec PyProof.Rows L2 TL

mutual
def noDic : D → Bool
  | .dic _ => false
  | .lst xs => noDics xs
  | .tup xs => noDics xs
  | _ => true
def noDics : List D → Bool
  | [] => true
  | x :: xs => noDic x && noDics xs
end
theorem noDics_at : ∀ {xs : List D} {i : Nat} {d : D}, noDics xs = true → xs[i]? = some d → noDic d = true
  | x :: xs, 0, d, h, e => by
    unfold noDics at h
    rw [Bool.and_eq_true] at h
    cases e
    exact h.1
  | x :: xs, i + 1, d, h, e => by
    unfold noDics at h
    rw [Bool.and_eq_true] at h
    exact noDics_at h.2 (by simpa using e)
def soNoDic (o : SO) : Bool := noDics (soDs o)
theorem noDics_mem {xs : List D} {d : D} (h : noDics xs = true) (hd : d ∈ xs) : noDic d = true := by
  obtain ⟨i, hi⟩ := List.getElem?_of_mem hd
  exact noDics_at h hi
/-- what holds no dict stands for its data also where dicts are not let in -/
theorem Rep.undic {A A' : Addr → Prop} {α : List Addr} {K : PySem.W.Frag} {H : Hp} {v : V} {d : D} (h : Rep A α K H v d) (hA : ∀ a o, A a → H a = some o → (∀ kvs, o ≠ .dK kvs) → A' a) : noDic d = true → Rep A' α K H v d := by
  induction h with
  | non => exact fun _ => .non
  | bl b => exact fun _ => .bl b
  | int i => exact fun _ => .int i
  | str s => exact fun _ => .str s
  | lst ha h hl _ ih =>
    intro hn
    unfold noDic at hn
    refine .lst ?_ h hl fun i v d e1 e2 => ih i v d e1 e2 (noDics_at hn e2)
    rcases h with h | ⟨o, h⟩
    · exact hA _ _ ha h fun _ z => by cases z
    · exact hA _ _ ha h fun _ z => by cases z
  | tup h hl _ ih =>
    intro hn
    unfold noDic at hn
    refine .tup ?_ hl fun i v d e1 e2 => ih i v d e1 e2 (noDics_at hn e2)
    rcases h with ⟨ha, o, ho, h⟩ | h
    · exact .inl ⟨hA _ _ ha h (fun _ z => by cases z), o, ho, h⟩
    · exact .inr h
  | dic => intro hn; unfold noDic at hn; cases hn
  | obj h => exact fun _ => .obj h
  | sta x => exact fun _ => .sta x
inductive LRep (B : Addr → Prop) (α : List Addr) (ow : Nat → Option Addr) (K : PySem.W.Frag) (H : Hp) (ρ : Env3) : V → D → Prop
  | of {v : V} {d : D} (h : Rep (Al B α ow) α K H v d) : LRep B α ow K H ρ v d
  | ownd {i : Nat} {a : Addr} {kvs : List (Key × V)} {ds : List (DKey × D)} (h : ow i = some a) (hρ : ∃ x, ρ[i]? = some (some (.ownd x))) (hn : a ∉ α) (ho : H a = some (.dK kvs)) (r : RepKV (Al B α ow) α K H kvs ds) : LRep B α ow K H ρ (.ref a) (.dic ds)
theorem LRep.ext {B : Addr → Prop} {α α' : List Addr} {ow : Nat → Option Addr} {K : PySem.W.Frag} {H H' : Hp} {ρ : Env3} {v : V} {d : D} (h : LRep B α ow K H ρ v d) (e : Ext α H α' H') : LRep B α' ow K H' ρ v d := by
  have nn : ∀ {a : Addr} {o : HO}, H a = some o → a ∉ α → a ∉ α' := fun {a o} ho hn z => by
    rcases e.2.2 a z with z | z
    · exact hn z
    · rw [ho] at z; cases z
  cases h with
  | of h => exact .of (h.ext e)
  | ownd h hρ hn ho r => exact .ownd h hρ (nn ho hn) (e.1 _ _ ho hn) (r.mono e.al e.2.1)
def LRepAll (B : Addr → Prop) (α : List Addr) (ow : Nat → Option Addr) (K : PySem.W.Frag) (H : Hp) (ρ : Env3) (vs : List V) (ds : List D) : Prop :=
  vs.length = ds.length ∧ ∀ (i : Nat) v d, vs[i]? = some v → ds[i]? = some d → LRep B α ow K H ρ v d
theorem LRepAll.ext {B : Addr → Prop} {α α' : List Addr} {ow : Nat → Option Addr} {K : PySem.W.Frag} {H H' : Hp} {ρ : Env3} {vs : List V} {ds : List D} (h : LRepAll B α ow K H ρ vs ds) (e : Ext α H α' H') : LRepAll B α' ow K H' ρ vs ds :=
  ⟨h.1, fun i v d h1 h2 => (h.2 i v d h1 h2).ext e⟩
/-- arguments, a slot's own dict among them -/
def AL (X : Cx) (es : List Expr) (f : DA) : Prop := (∀ ρ g ds g', f ρ g = some (ds, g') → ds.length = es.length) ∧ ∃ t, PA X es t ∧ ∀ G α ow σ H ρ g ds g' (Q : List V → Hp → Prop), Sat X.K G α ow σ H ρ g → f ρ g = some (ds, g') →
  (∀ vs H' α', Ext α H α' H' → Sat X.K G α' ow σ H' ρ g' → LRepAll G.B α' ow X.K H' ρ vs ds → Q vs H') → t σ H Q
def eVarL (i : Nat) : DE := fun ρ g => match ρ[i]? with
  | some (some (.d x)) => some (x, g)
  | some (some (.ownd ds)) => some (.dic ds, g)
  | _ => none
def eAppL (φ : List D → Store → Option (D × Store)) (a : DA) : DE := bindM a fun xs => fun _ g => match φ xs g with
  | some (d, g') => if noDic d = true ∧ g'.all soNoDic = true then some (d, g') else none
  | none => none
section
variable {X : Cx} {e : Expr} {es : List Expr} {f : DE} {fs : DA} {pos p : Pos} {x : Str}
theorem al_nil : AL X [] aNil := ⟨fun ρ g ds g' e => by cases e; rfl, _, pa_nil, fun G α ow σ H ρ g ds g' Q s e w => by cases e; exact w [] H α Ext.refl s ⟨rfl, fun i v d e => by simp at e⟩⟩
theorem al_gen (h : ∃ t, PE X e t ∧ ∀ G α ow σ H ρ g d g' (Q : VK), Sat X.K G α ow σ H ρ g → f ρ g = some (d, g') → (∀ v H' α', Ext α H α' H' → Sat X.K G α' ow σ H' ρ g' → LRep G.B α' ow X.K H' ρ v d → Q v H') → t σ H Q) (hr : AL X es fs) (hs : starEach (e :: es) X.env = (false, eval e X.env) :: starEach es X.env) : AL X (e :: es) (aCons f fs) := by
  obtain ⟨t, pt, hq⟩ := h
  obtain ⟨l1, t1, pt1, hq1⟩ := hr
  refine ⟨fun ρ g ds g' e => ?_, _, pa_cons pt pt1 hs, fun G α ow σ H ρ g ds g' Q s e w => ?_⟩
  · obtain ⟨x, g1, e1, e2⟩ := bindM_some e
    obtain ⟨xs, g2, e4, e3⟩ := bindM_some e2
    obtain ⟨e3, rfl⟩ := liftM_some e3
    cases e3
    rw [List.length_cons, List.length_cons, l1 _ _ _ _ e4]
  obtain ⟨x, g1, e1, e2⟩ := bindM_some e
  obtain ⟨xs, g2, e4, e3⟩ := bindM_some e2
  obtain ⟨e3, rfl⟩ := liftM_some e3
  cases e3
  refine hq G α ow σ H ρ g x g1 _ s e1 fun v H1 α1 x1 s1 r1 => ?_
  refine hq1 G α1 ow σ H1 ρ g1 xs g2 _ s1 e4 fun vs H2 α2 x2 s2 r2 => ?_
  refine w _ H2 α2 (x1.trans x2) s2 ⟨by rw [List.length_cons, List.length_cons, r2.1], fun i u d h1 h2 => ?_⟩
  cases i with
  | zero => cases h1; cases h2; exact r1.ext x2
  | succ i => exact r2.2 i u d (by simpa using h1) (by simpa using h2)
theorem al_cons (ha : EC X e f) (hr : AL X es fs) (hs : starEach (e :: es) X.env = (false, eval e X.env) :: starEach es X.env := by rfl) : AL X (e :: es) (aCons f fs) := by
  obtain ⟨t, pt, hq⟩ := ha
  exact al_gen ⟨t, pt, fun G α ow σ H ρ g d g' Q s e w => hq G α ow σ H ρ g d g' Q s e fun v H1 α1 x1 s1 r1 => w v H1 α1 x1 s1 (.of r1)⟩ hr hs
theorem al_var (i : Nat) (hr : AL X es fs) (hN : X.N[i]? = some x := by rfl) (hv : Vis X.env.scope x := by first | exact Or.inl rfl | exact Or.inr (Or.inl rfl) | exact Or.inr (Or.inr rfl)) (hd : (x == ("__debug__" : Str)) = false := by decide) (hcd : (x == ("__classdict__" : Str)) = false := by decide)
    (hs : starEach (.Name x p :: es) X.env = (false, eval (.Name x p) X.env) :: starEach es X.env := by rfl) : AL X (.Name x p :: es) (aCons (eVarL i) fs) := by
  refine al_gen ⟨tVar i, pe_var hN hv hd hcd, fun G α ow σ H ρ g d g' Q s e w => ?_⟩ hr hs
  unfold eVarL at e
  split at e
  · rename_i y hy
    cases e
    obtain ⟨v, h1, h2⟩ := s.slot i _ hy
    exact ⟨v, h1, w v H α Ext.refl s (.of h2)⟩
  · rename_i ds hy
    cases e
    obtain ⟨a, kvs, h1, h2, h3, h4, h5⟩ := s.slot i _ hy
    exact ⟨_, h2, w _ H α Ext.refl s (.ownd h1 ⟨_, hy⟩ (s.own i a h1).2.1 h3 ⟨h4, h5⟩)⟩
  · cases e
/-- a call by which a slot's own dict is lent -/
theorem ec_callL {k j n : Nat} {ps : List Str} {φ : List D → Store → Option (D × Store)}
    (F : FnAt X.prog X.w X.K X.mg X.base k x ps (spD X.K n φ)) (hr : Room j X.A) (ha : AL X (e :: es) fs) (hk : k ≤ j := by decide)
    (hg : Gl X x := by rfl) (hdb : (x == ("__debug__" : Str)) = false := by decide) (he : starEach (e :: es) X.env = (false, eval e X.env) :: starEach es X.env := by rfl) (hpl : (backTo pos (starEach es X.env)).any (·.1) = false := by rfl) (hl : (e :: es).length = n := by rfl) :
    EC X (.Call (.Name x p) (e :: es) [] pos) (eAppL φ fs) := by
  obtain ⟨⟨fd, F, hb, _⟩, gg, kp⟩ := F
  obtain ⟨hal, t, pt, q⟩ := ha
  refine ⟨_, pe_call F (hr.mono hk) hg gg kp hb .nil pass0 pt hdb he hpl, fun G α ow σ H ρ g d g' Q s e w => ?_⟩
  obtain ⟨xs, g1, e1, e2⟩ := bindM_some e
  split at e2
  · rename_i d0 g0 e3
    split at e2
    · rename_i hnd
      cases e2
      refine q G α ow σ H ρ g xs g1 _ s e1 fun vs H1 α1 x1 s1 r1 => ?_
      let B' : Addr → Prop := fun a => G.B a ∨ ∃ i xs, ow i = some a ∧ ρ[i]? = some (some (.own xs))
      have hA : ∀ a (o : HO), Al G.B α1 ow a → H1 a = some o → Al B' α1 no a ∧ H1 a = some o := fun a o h e => ⟨⟨h.1, fun z => z.elim h.2.1 fun ⟨i, _, hi, _⟩ => h.2.2 i hi, fun i z => by cases z⟩, e⟩
      have own : ∀ i a, ow i = some a → ∃ x, ρ[i]? = some (some x) ∧ SlotOk (Al G.B α1 ow) α1 X.K H1 (ow i) σ[i]? x := fun i a h => by
        obtain ⟨_, _, _, _, y, h5, _⟩ := s1.own i a h
        exact ⟨y, h5, s1.slot i y h5⟩
      rw [List.append_nil]
      refine ⟨B', α1, g1, xs, d, g', by rw [r1.1, hal _ _ _ _ e1]; exact hl, fun a h => ?_, s1.gok.mono hA fun _ _ _ e => e, ⟨r1.1, fun i v d h1 h2 => ?_⟩, e3, fun v H2 α2 x2 gk2 r2 => ?_⟩
      · rcases h with h | ⟨i, _, h, _⟩
        · exact s1.blk a h
        · obtain ⟨_, h2, _, h4, _⟩ := s1.own i a h
          exact ⟨h4, h2⟩
      · cases r1.2 i v d h1 h2 with
        | of r => exact r.mono hA (List.prefix_refl _)
        | ownd hi hρ hn ho r =>
          obtain ⟨y, hy⟩ := hρ
          refine .dic ⟨hn, fun z => ?_, fun i z => by cases z⟩ (.inl ho) r.1 fun i p q h1 h2 => ((r.2.2 i p.2 q.2 (by rw [List.getElem?_map, h1]; rfl) (by rw [List.getElem?_map, h2]; rfl))).mono hA (List.prefix_refl _)
          rcases z with z | ⟨i2, xs2, z1, z2⟩
          · exact (s1.own _ _ hi).2.2.1 z
          · cases s1.oinj _ _ _ hi z1
            rw [hy] at z2
            cases z2
      · have keep : ∀ i a, ow i = some a → ∀ o, H1 a = some o → H2 a = some o := fun i a h o ho => x2.1 a o ho (s1.own i a h).2.1
        have hA2 : ∀ a (o : HO), Al B' α2 no a → H2 a = some o → (∀ kvs, o ≠ .dK kvs) → Al G.B α2 ow a := fun a o h e hno => by
          refine ⟨h.1, fun z => h.2.1 (.inl z), fun i z => ?_⟩
          obtain ⟨y, hy, so⟩ := own i a z
          cases y with
          | d y =>
            obtain ⟨_, _, _, _, y2, h5, h6⟩ := s1.own i a z
            rw [hy] at h5
            cases h5
            cases h6
          | own ys => exact h.2.1 (.inr ⟨i, ys, z, hy⟩)
          | ownd ys =>
            obtain ⟨a', kvs, q1, _, q3, _⟩ := so
            rw [z] at q1
            cases q1
            have := keep i a z _ q3
            rw [e] at this
            cases this
            exact hno kvs rfl
        have gk3 : GOk (Al G.B α2 ow) α2 g' X.K H2 := ⟨gk2.len, gk2.nd, fun n a o h1 h2 => by
          have q := gk2.so n a o h1 h2
          have hz := List.all_eq_true.mp hnd.2 o (List.mem_of_getElem? h2)
          exact q.map (fun _ e => e) fun v d hd r => r.undic hA2 (noDics_mem hz hd)⟩
        exact w v H2 α2 (x1.trans x2) (s1.step x2 gk3) (r2.undic hA2 hnd.1)
    · cases e2
  · cases e2
end
/-! ### built-ins -/
section
variable {X : Cx}
def dAbs : List D → Option D
  | [.int i] => some (.int (if i < 0 then -i else i))
  | _ => none
theorem cd_abs : CallD X (.builtin "abs") dAbs := by
  refine ⟨_, call_abs, fun G α ow σ H ρ g vs ds d Q s r e w => ?_⟩
  unfold dAbs at e
  split at e
  · cases e
    obtain ⟨v, rfl, r1⟩ := BRepAll.one1 r
    rw [r1.int]
    exact ⟨_, rfl, w _ H Ext.refl s (.int _)⟩
  · cases e
def dMin2 : List D → Option D
  | [.int i, .int j] => some (.int (if j < i then j else i))
  | _ => none
def dMax2 : List D → Option D
  | [.int i, .int j] => some (.int (if j > i then j else i))
  | _ => none
theorem cd_min2 (hc : X.calm = true) : CallD X (.builtin "min") dMin2 := by
  refine ⟨_, call_min2 hc, fun G α ow σ H ρ g vs ds d Q s r e w => ?_⟩
  unfold dMin2 at e
  split at e
  · cases e
    obtain ⟨v, u, rfl, r1, r2⟩ := BRepAll.two r
    rw [r1.int, r2.int]
    exact ⟨_, _, rfl, w _ H Ext.refl s (.int _)⟩
  · cases e
theorem cd_max2 (hc : X.calm = true) : CallD X (.builtin "max") dMax2 := by
  refine ⟨_, call_max2 hc, fun G α ow σ H ρ g vs ds d Q s r e w => ?_⟩
  unfold dMax2 at e
  split at e
  · cases e
    obtain ⟨v, u, rfl, r1, r2⟩ := BRepAll.two r
    rw [r1.int, r2.int]
    exact ⟨_, _, rfl, w _ H Ext.refl s (.int _)⟩
  · cases e
def txtCount (a b : Tx) : Int := Txt.count (S a) (S b)
def txtRfind (a b : Tx) : Int := Txt.rfind (S a) (S b)
def txtFind (a b : Tx) : Int := Txt.find (S a) (S b)
def dCount : D → List D → Option D
  | .str a, [.str b] => some (.int (txtCount a b))
  | _, _ => none
def dRfind : D → List D → Option D
  | .str a, [.str b] => some (.int (txtRfind a b))
  | _, _ => none
def dFind : D → List D → Option D
  | .str a, [.str b] => some (.int (txtFind a b))
  | _, _ => none
theorem md_count : MtD X "str.count" dCount := by
  refine ⟨_, mt_count, fun G α ow σ H ρ g x vs dx ds d Q s rx r e w => ?_⟩
  unfold dCount at e
  split at e
  · cases e
    obtain ⟨v, rfl, r1⟩ := BRepAll.one1 r
    rw [rx.str, r1.str]
    exact ⟨_, _, rfl, rfl, w _ H Ext.refl s (.int _)⟩
  · cases e
theorem md_rfind : MtD X "str.rfind" dRfind := by
  refine ⟨_, mt_rfind, fun G α ow σ H ρ g x vs dx ds d Q s rx r e w => ?_⟩
  unfold dRfind at e
  split at e
  · cases e
    obtain ⟨v, rfl, r1⟩ := BRepAll.one1 r
    rw [rx.str, r1.str]
    exact ⟨_, _, rfl, rfl, w _ H Ext.refl s (.int _)⟩
  · cases e
theorem md_find : MtD X "str.find" dFind := by
  refine ⟨_, mt_find, fun G α ow σ H ρ g x vs dx ds d Q s rx r e w => ?_⟩
  unfold dFind at e
  split at e
  · cases e
    obtain ⟨v, rfl, r1⟩ := BRepAll.one1 r
    rw [rx.str, r1.str]
    exact ⟨_, _, rfl, rfl, w _ H Ext.refl s (.int _)⟩
  · cases e
end
theorem b_abs : bootBuiltins "abs" = some (.builtin "abs") := by decide +kernel
theorem b_min : bootBuiltins "min" = some (.builtin "min") := by decide +kernel
theorem b_max : bootBuiltins "max" = some (.builtin "max") := by decide +kernel
theorem b_range : bootBuiltins "range" = some (.type "range") := by decide +kernel
end L3

/-! L4b: len of a tracked list; the head with tables. -/
namespace L3
open PySem PySem.Spec PyProof.Rows L2 TL
section
variable {X : Cx} {e a b : Expr} {fe fa fb : DE} {fs : DA} {pos p : Pos}
def eLenO (f : DE) : DE := bindM f fun x => fun _ g => match x with
  | .obj n => match g[n]? with
    | some (.lst xs) => some (.int xs.length, g)
    | _ => none
  | _ => none
theorem ec_lenO (hm : X.mg "len" = none) (ha : EB X a fa) (hg : Gl X "len" := by rfl) (he : starEach [a] X.env = (false, eval a X.env) :: starEach [] X.env := by rfl) (hpl : (backTo pos (starEach [] X.env)).any (·.1) = false := by rfl) : EC X (.Call (.Name "len" p) [a] [] pos) (eLenO fa) := by
  obtain ⟨ta, pa, ha⟩ := ha
  refine ⟨_, pe_callB call_len hg hm b_len (pa_cons pa pa_nil he) (by decide) (by decide) he hpl, fun G α ow σ H ρ g d g' Q s e w => ?_⟩
  obtain ⟨x, g1, e1, e2⟩ := bindM_some e
  refine ha G α ow σ H ρ g x g1 _ s e1 fun v H1 α1 x1 s1 r1 => ?_
  split at e2
  · split at e2
    · rename_i hg
      cases e2
      obtain ⟨p, rfl, hp⟩ := r1.obj
      obtain ⟨vs, h1, h2⟩ := s1.gok.so _ p _ hp hg
      exact ⟨_, _, rfl, .inl ⟨vs, .inl (.inl h1), h2.1.symm⟩, w _ H1 α1 x1 s1 (.int _)⟩
    · cases e2
  · cases e2
end
/-! ### the head -/
abbrev AlX : Type := He.AlT × Bool
def obsX (fa : List He.Fa) (fn : List He.DefD) (ts : List He.Tab) (bx : PySem.W.Frag → Bool) (K : PySem.W.Frag) : AlX := (He.obsT fa fn ts K, bx K)
def valX (fn : List He.DefD) (ts : List He.Tab) (w : World) : AlX := (He.valT fn ts w, true)
def obsXG (n : Nat) (fa : List He.Fa) (fn : List He.DefD) (ts : List He.Tab) (bx : PySem.W.Frag → Bool) (g : Addr → Option Obj) : AlX := obsX fa fn ts bx (He.frG (gL g) (He.asD g n))
structure SaysX (fa : List He.Fa) (fn : List He.DefD) (ts : List He.Tab) (bx : PySem.W.Frag → Bool) (w : World) (K : PySem.W.Frag) : Prop where
  t : He.SaysT fa fn ts w K
  b : bx K = true
  nl : ∀ a o, K.lookup a = some o → notL o = true
def hookX (n : Nat) (fa : List He.Fa) (fn : List He.DefD) (ts : List He.Tab) (bx : PySem.W.Frag → Bool) : PySem.W.Hook where
  α := AlX
  obs := fun s => obsXG n fa fn ts bx s.heap.get?
  val := fun w => valX fn ts w
  says := fun w h => ∃ K : PySem.W.Frag, K.In h ∧ SaysX fa fn ts bx w K
  of := fun _ _ e => ⟨_, fun _ _ q => (gL_at (He.frG_at _ q)).1, ⟨congrArg (fun z : AlX => z.1) e, congrArg (fun z : AlX => z.2) e, fun _ _ q => (gL_at (He.frG_at _ q)).2⟩⟩
  keeps := fun _ _ _ ⟨K, hK, c⟩ k => ⟨K, PySem.W.Frag.In.keeps hK k, c⟩
theorem obsXG_eq {n : Nat} {fa : List He.Fa} {fn : List He.DefD} {ts : List He.Tab} {bx : PySem.W.Frag → Bool} {g : Addr → Option Obj} {s : Shared} (h : ∀ a, g a = s.heap.get? a) : obsXG n fa fn ts bx g = (hookX n fa fn ts bx).obs s := by
  have e : g = s.heap.get? := funext h
  rw [e] <;> rfl
def allT (K : PySem.W.Frag) : List (Str × List (Tx × D)) → Bool
  | [] => true
  | (x, tb) :: r => tabB K x tb && allT K r
theorem allT_at {K : PySem.W.Frag} : ∀ {l : List (Str × List (Tx × D))} (i : Nat) {x : Str} {tb : List (Tx × D)}, allT K l = true → l[i]? = some (x, tb) → tabB K x tb = true
  | (x', tb') :: r, 0, x, tb, h, e => by
    unfold allT at h
    rw [Bool.and_eq_true] at h
    cases e
    exact h.1
  | (x', tb') :: r, i + 1, x, tb, h, e => by
    unfold allT at h
    rw [Bool.and_eq_true] at h
    exact allT_at i h.2 (by simpa using e)
end L3

/-! L4bb: the head's facts over the few objects that they name. -/
namespace L3
open PySem PySem.Spec PyProof.Rows L2 TL
def nmA (g : Addr → Option Obj) (x : Str) : List Addr := match g mainGlobals with
  | some ⟨_, _, .dict es _, _⟩ => (match es.toList.find? (·.key.isStr x) with
    | some e => He.refV e.val
    | none => [])
  | _ => []
def refQ (o : Obj) : List Addr := match o.data with
  | .func fd => He.refV fd.code ++ He.refV fd.defaults
  | .cls cd => [cd.ns]
  | .dict es _ => es.toList.flatMap fun e => He.refV e.val
  | .seq its _ => its.toList.flatMap He.refV
  | _ => []
def growQ (g : Addr → Option Obj) (as : List Addr) : List Addr := as.flatMap fun a => match g a with
  | some o => refQ o
  | none => []
def asQ (g : Addr → Option Obj) (xs : List Str) : List Addr :=
  let a := xs.flatMap (nmA g)
  let b := growQ g a
  let c := growQ g b
  mainGlobals :: cStatics :: (a ++ (b ++ (c ++ growQ g c)))
def obsYG (xs : List Str) (fa : List He.Fa) (fn : List He.DefD) (ts : List He.Tab) (bx : PySem.W.Frag → Bool) (g : Addr → Option Obj) : AlX := obsX fa fn ts bx (He.frG (gL g) (asQ g xs))
def hookY (xs : List Str) (fa : List He.Fa) (fn : List He.DefD) (ts : List He.Tab) (bx : PySem.W.Frag → Bool) : PySem.W.Hook where
  α := AlX
  obs := fun s => obsYG xs fa fn ts bx s.heap.get?
  val := fun w => valX fn ts w
  says := fun w h => ∃ K : PySem.W.Frag, K.In h ∧ SaysX fa fn ts bx w K
  of := fun _ _ e => ⟨_, fun _ _ q => (gL_at (He.frG_at _ q)).1, ⟨congrArg (fun z : AlX => z.1) e, congrArg (fun z : AlX => z.2) e, fun _ _ q => (gL_at (He.frG_at _ q)).2⟩⟩
  keeps := fun _ _ _ ⟨K, hK, c⟩ k => ⟨K, PySem.W.Frag.In.keeps hK k, c⟩
theorem obsYG_eq {xs : List Str} {fa : List He.Fa} {fn : List He.DefD} {ts : List He.Tab} {bx : PySem.W.Frag → Bool} {g : Addr → Option Obj} {s : Shared} (h : ∀ a, g a = s.heap.get? a) : obsYG xs fa fn ts bx g = (hookY xs fa fn ts bx).obs s := by
  have e : g = s.heap.get? := funext h
  rw [e] <;> rfl
structure CFn (K : PySem.W.Frag) (C : Addr) (m : Str) (f : Addr) : Prop where
  r : ClX.CRead K C (.type "type")
  at_ : PySem.W.findCls K (.ref C) (.type "type") m = some (.val (.ref f))
/-! ### the head's facts -/
def cfnB (K : PySem.W.Frag) (C : Addr) (m : Str) : Bool := PySem.W.readsIn K C (.type "type") && (He.eqO (PySem.W.specialIn K (.ref C) "__getattribute__") (some (some (.builtin "type.__getattribute__"))) &&
  (match PySem.W.findCls K (.ref C) (.type "type") m with
    | some (.val (.ref f)) => decide (f = He.ma K C m)
    | _ => false))
theorem cfn_ok {K : PySem.W.Frag} {C : Addr} {m : Str} (h : cfnB K C m = true) : CFn K C m (He.ma K C m) := by
  unfold cfnB at h
  rw [Bool.and_eq_true, Bool.and_eq_true] at h
  obtain ⟨h1, h2, h3⟩ := h
  refine ⟨⟨h1, He.eqO_ok h2⟩, ?_⟩
  split at h3
  · rename_i g hf
    rw [hf, of_decide_eq_true h3]
  · cases h3
def allC (K : PySem.W.Frag) : List (Str × Str) → Bool
  | [] => true
  | (C, m) :: r => cfnB K (He.ga K C) m && allC K r
theorem allC_at {K : PySem.W.Frag} : ∀ {l : List (Str × Str)} (i : Nat) {C m : Str}, allC K l = true → l[i]? = some (C, m) → cfnB K (He.ga K C) m = true
  | (C', m') :: r, 0, C, m, h, e => by
    unfold allC at h
    rw [Bool.and_eq_true] at h
    cases e
    exact h.1
  | (C', m') :: r, i + 1, C, m, h, e => by
    unfold allC at h
    rw [Bool.and_eq_true] at h
    exact allC_at i h.2 (by simpa using e)
/-- the class C has m of the class E -/
def sameM (K : PySem.W.Frag) : List (Str × Str × Str) → Bool
  | [] => true
  | (C, E, m) :: r => decide (He.ma K (He.ga K C) m = He.ma K (He.ga K E) m) && sameM K r
theorem sameM_at {K : PySem.W.Frag} : ∀ {l : List (Str × Str × Str)} (i : Nat) {C E m : Str}, sameM K l = true → l[i]? = some (C, E, m) → He.ma K (He.ga K C) m = He.ma K (He.ga K E) m
  | (C', E', m') :: r, 0, C, E, m, h, e => by
    unfold sameM at h
    rw [Bool.and_eq_true] at h
    cases e
    exact of_decide_eq_true h.1
  | (C', E', m') :: r, i + 1, C, E, m, h, e => by
    unfold sameM at h
    rw [Bool.and_eq_true] at h
    exact sameM_at i h.2 (by simpa using e)
end L3

namespace W
open PySem PySem.Spec PyProof.Rows L2 L3
def topS (i : Nat) : Stmt := PySem.Challenge.pw_rowshell_k31_first_single_count.main.body.getD i (.Pass ⟨0, 0, 0, 0⟩)
def memS (i j : Nat) : Stmt := match topS i with
  | .ClassDef _ _ _ body _ _ _ _ _ _ _ => body.getD j (.Pass ⟨0, 0, 0, 0⟩)
  | _ => .Pass ⟨0, 0, 0, 0⟩
def tb_JOINED : List (Tx × D) := [([115, 97, 121], (.sta "say")), ([104, 101, 114, 101], (.sta "here")), ([116, 119, 105, 99, 101], (.sta "twice")), ([98, 101, 115, 105, 100, 101], (.sta "beside")), ([98, 101, 104, 105, 110, 100], (.sta "behind")), ([100, 105, 102, 102, 101, 114], (.sta "differ")), ([109, 101, 110, 100], (.sta "mend"))]
end W

namespace W
open PySem PySem.Spec PyProof.Rows L2 L3
def df__law_state : He.DefD := ⟨("_law_state", none), "_law_state", "_law_state", defArgs (topS 86), defBody (topS 86), defScope (topS 86), [], []⟩
def df__law_next : He.DefD := ⟨("_law_next", none), "_law_next", "_law_next", defArgs (topS 87), defBody (topS 87), defScope (topS 87), [], []⟩
def df__law_text : He.DefD := ⟨("_law_text", none), "_law_text", "_law_text", defArgs (topS 89), defBody (topS 89), defScope (topS 89), [], []⟩
def df__law_figures : He.DefD := ⟨("_law_figures", none), "_law_figures", "_law_figures", defArgs (topS 90), defBody (topS 90), defScope (topS 90), [], []⟩
def df__law_line : He.DefD := ⟨("_law_line", none), "_law_line", "_law_line", defArgs (topS 91), defBody (topS 91), defScope (topS 91), [], []⟩
def df__law_lines : He.DefD := ⟨("_law_lines", none), "_law_lines", "_law_lines", defArgs (topS 92), defBody (topS 92), defScope (topS 92), [], []⟩
def df__law_single : He.DefD := ⟨("_law_single", none), "_law_single", "_law_single", defArgs (topS 93), defBody (topS 93), defScope (topS 93), [], []⟩
def df__law_same : He.DefD := ⟨("_law_same", none), "_law_same", "_law_same", defArgs (topS 88), defBody (topS 88), defScope (topS 88), [], []⟩
def df_Stream____init__ : He.DefD := ⟨("Stream", some "__init__"), "__init__", "Stream.__init__", defArgs (memS 28 0), defBody (memS 28 0), defScope (memS 28 0), [], []⟩
def df_Gathering____init__ : He.DefD := ⟨("Gathering", some "__init__"), "__init__", "Gathering.__init__", defArgs (memS 30 0), defBody (memS 30 0), defScope (memS 30 0), [], []⟩
def df_gathering_of : He.DefD := ⟨("gathering_of", none), "gathering_of", "gathering_of", defArgs (topS 81), defBody (topS 81), defScope (topS 81), [], []⟩
def df_number_in : He.DefD := ⟨("number_in", none), "number_in", "number_in", defArgs (topS 8), defBody (topS 8), defScope (topS 8), [], []⟩
def df_First____init__ : He.DefD := ⟨("First", some "__init__"), "__init__", "First.__init__", defArgs (memS 36 0), defBody (memS 36 0), defScope (memS 36 0), [], []⟩
def df_Single____init__ : He.DefD := ⟨("Single", some "__init__"), "__init__", "Single.__init__", defArgs (memS 37 0), defBody (memS 37 0), defScope (memS 37 0), [], []⟩
def df_stream_of : He.DefD := ⟨("stream_of", none), "stream_of", "stream_of", defArgs (topS 82), defBody (topS 82), defScope (topS 82), [], []⟩
def df_Stream__close : He.DefD := ⟨("Stream", some "close"), "close", "Stream.close", defArgs (memS 28 2), defBody (memS 28 2), defScope (memS 28 2), [], []⟩
def df_Count__close : He.DefD := ⟨("Count", some "close"), "close", "Count.close", defArgs (memS 32 0), defBody (memS 32 0), defScope (memS 32 0), [], []⟩
def df_Stream__ending : He.DefD := ⟨("Stream", some "ending"), "ending", "Stream.ending", defArgs (memS 28 3), defBody (memS 28 3), defScope (memS 28 3), [], []⟩
def df_First__feed : He.DefD := ⟨("First", some "feed"), "feed", "First.feed", defArgs (memS 36 1), defBody (memS 36 1), defScope (memS 36 1), [], []⟩
def df_Single__feed : He.DefD := ⟨("Single", some "feed"), "feed", "Single.feed", defArgs (memS 37 1), defBody (memS 37 1), defScope (memS 37 1), [], []⟩
def df_Gathering__feed : He.DefD := ⟨("Gathering", some "feed"), "feed", "Gathering.feed", defArgs (memS 30 1), defBody (memS 30 1), defScope (memS 30 1), [], []⟩
def df_streamed : He.DefD := ⟨("streamed", none), "streamed", "streamed", defArgs (topS 83), defBody (topS 83), defScope (topS 83), [], []⟩
def df_told : He.DefD := ⟨("told", none), "told", "told", defArgs (topS 84), defBody (topS 84), defScope (topS 84), [], []⟩
def df__law_told_right : He.DefD := ⟨("_law_told_right", none), "_law_told_right", "_law_told_right", defArgs (topS 94), defBody (topS 94), defScope (topS 94), [], []⟩
def df_law : He.DefD := ⟨("law", none), "law", "law", defArgs (topS 95), defBody (topS 95), defScope (topS 95), [], []⟩
def fnL : List He.DefD := [df__law_state, df__law_next, df__law_text, df__law_figures, df__law_line, df__law_lines, df__law_single, df__law_same, df_Stream____init__, df_Gathering____init__, df_gathering_of, df_number_in, df_First____init__, df_Single____init__, df_stream_of, df_Stream__close, df_Count__close, df_Stream__ending, df_First__feed, df_Single__feed, df_Gathering__feed, df_streamed, df_told, df__law_told_right, df_law]
def faL : List He.Fa := [.glo "_law_state", .glo "_law_next", .glo "_law_text", .glo "_law_figures", .glo "_law_line", .glo "_law_lines", .glo "_law_single", .glo "_law_same", .glo "Stream", .glo "Gathering", .glo "gathering_of", .glo "number_in", .glo "First", .glo "Single", .glo "stream_of", .glo "Stream", .glo "Count", .glo "Stream", .glo "First", .glo "Single", .glo "Gathering", .glo "streamed", .glo "told", .glo "_law_told_right", .glo "law", .free "list", .free "len", .free "range", .free "str", .free "tuple", .free "isinstance", .free "zip", .free "all", .free "int", .free "bool", .cls "Count", .noat "Count" "words", .cls "Single", .noat "Single" "words", .cls "First", .noat "First" "words", .glo "Stream", .noat "Count" "lines", .glo "Count", .mkr "Count", .int "NUMBER" 18, .str "FIGURES" (S [48, 49, 50, 51, 52, 53, 54, 55, 56, 57]), .noat "First" "left", .noat "Single" "last", .glo "First", .mkr "First", .glo "Single", .mkr "Single", .meth "Count" "feed", .meth "Single" "feed", .meth "First" "feed", .meth "Count" "close", .meth "Single" "close", .meth "First" "close", .meth "Count" "ending", .meth "Single" "ending", .meth "First" "ending", .int "MOST" 100, .free "max", .free "min", .glo "JOINED"]
abbrev RR : PySem.W.OpenRow := PySem.W.OpenLaw.row PySem.Challenge.rw_rowshell_k31_first_single_count
def tsL : List He.Tab := [((fun K => He.ga K "JOINED"), ["say", "here", "twice", "beside", "behind", "differ", "mend"])]
def atL : List (Str × List (L3.Tx × D)) := [("JOINED", tb_JOINED)]
def cfL : List (Str × Str) := [("Stream", "__init__")]
def smL : List (Str × Str × Str) := [("Count", "Gathering", "__init__"), ("Count", "Gathering", "feed"), ("Single", "Stream", "close"), ("First", "Stream", "close"), ("Count", "Stream", "ending"), ("Single", "Stream", "ending"), ("First", "Stream", "ending")]
def nmL : List Str := ("_law_state" :: "_law_next" :: "_law_text" :: "_law_figures" :: "_law_line" :: "_law_lines" :: "_law_single" :: "_law_same" :: "Stream" :: "Gathering" :: "gathering_of" :: "number_in" :: "First" :: "Single" :: "stream_of" :: "Count" :: "streamed" :: "told" :: "_law_told_right" :: "law" :: "JOINED" :: [])
abbrev hkL : PySem.W.Hook := hookY nmL faL fnL tsL (fun K => allT K atL && (allC K cfL && sameM K smL))
def obL (s : PySem.W.SharedT) : AlX := obsYG nmL faL fnL tsL (fun K => allT K atL && (allC K cfL && sameM K smL)) (HandSHeadRun.getT s)
theorem obL_eq (s : PySem.W.SharedT) : obL s = hkL.obs s.abs := obsYG_eq (HandSHeadRun.getT_eq s)
def looseL : List Str := ("SIGNS" :: "MOST" :: "FIGURES" :: "NUMBER" :: "ANY" :: "ONE" :: "shortened" :: "number_in" :: "fields" :: "field" :: "over_stars" :: "stepped" :: "fits" :: "has" :: "is_same" :: "is_another" :: "has_part" :: "is_less" :: "is_more" :: "ASKED" :: "holds" :: "MOST_RULES" :: "parted" :: "read_rules" :: "Stream" :: "Pick" :: "Gathering" :: "Near" :: "Count" :: "rank" :: "Sort" :: "Cut" :: "First" :: "Single" :: "MOST_PLACE" :: "DEEDS" :: "ADDRESSES" :: "is_place" :: "is_address" :: "is_deed" :: "edit_rule" :: "edit_rules" :: "is_meant" :: "Edit" :: "changed" :: "say" :: "here" :: "twice" :: "side_by_side" :: "beside" :: "behind" :: "alike_ahead" :: "deeds_between" :: "differ" :: "many_in" :: "mended" :: "mend" :: "JOINED" :: "LETTERS" :: "LONGEST" :: "is_word_of" :: "MOST_FIELDS" :: "FAR" :: "KEPT" :: "is_own_name" :: "field_in" :: "is_source" :: "deed_in" :: "rule_in" :: "tell_rules" :: "sum_of" :: "Tell" :: "gathering_of" :: "stream_of" :: "streamed" :: "told" :: "_law_state" :: "_law_next" :: "_law_same" :: "_law_text" :: "_law_figures" :: "_law_line" :: "_law_lines" :: "_law_single" :: "_law_told_right" :: [])
theorem runF (w : World) : HandSHeadRun.RunEq RR (PySem.W.view RR.prog [95]) hkL obL 8000 looseL (w.withFollow "special-get-raises" false) := by
  intro os
  kernel_rfl
theorem runT (w : World) : HandSHeadRun.RunEq RR (PySem.W.view RR.prog [95]) hkL obL 8000 looseL (w.withFollow "special-get-raises" true) := by
  intro os
  kernel_rfl
theorem runL (w : World) : HandSHeadRun.RunEq RR (PySem.W.view RR.prog [95]) hkL obL 8000 looseL w :=
  PySem.W.byRow2 "special-get-raises" (P := fun w => HandSHeadRun.RunEq RR (PySem.W.view RR.prog [95]) hkL obL 8000 looseL w) runF runT w
end W

/-! L4c: the newer parts as equations, for simp. -/
namespace L3
open L2 (atI ixN)
section
variable {ρ : Env3} {g : Store}
theorem ok_iff {β γ : Type} {r : Option (β × Store)} {R : β → Store → Prop} {P : Prop} (h1 : ∀ x g, r = some (x, g) → R x g → P) (h2 : P → ∃ x g, r = some (x, g) ∧ R x g) : Ok r R ↔ P := ⟨fun ⟨x, g, e, q⟩ => h1 x g e q, h2⟩
theorem ok_eAppL (φ : List D → Store → Option (D × Store)) (a : DA) (Q : D → Store → Prop) : Ok (eAppL φ a ρ g) Q ↔ Ok (a ρ g) fun xs g1 => Ok (φ xs g1) fun d g2 => (noDic d = true ∧ g2.all soNoDic = true) ∧ Q d g2 := by
  unfold eAppL
  rw [okb]
  constructor
  · rintro ⟨xs, g1, e1, d, g2, e2, q⟩
    refine ⟨xs, g1, e1, ?_⟩
    split at e2
    · split at e2
      · rename_i h; cases e2; exact ⟨_, _, ‹_›, h, q⟩
      · cases e2
    · cases e2
  · rintro ⟨xs, g1, e1, d, g2, e2, h, q⟩
    refine ⟨xs, g1, e1, d, g2, ?_, q⟩
    rw [e2]
    dsimp only
    rw [if_pos h]
def asDic : D → Option (List (DKey × D))
  | .dic kvs => some kvs
  | _ => none
theorem ok_eGet1 (fo fk : DE) (Q : D → Store → Prop) : Ok (eGet1 fo fk ρ g) Q ↔ Ok (fo ρ g) fun x g1 => Ok (fk ρ g1) fun k g2 => OkO (asDic x) fun kvs => OkO (dkOf k) fun k => Q ((valK kvs k).getD .non) g2 := by
  unfold eGet1
  simp only [okb, okl]
  constructor
  · rintro ⟨x, g1, e1, k, g2, e2, z, e3, q⟩
    refine ⟨x, g1, e1, k, g2, e2, ?_⟩
    split at e3
    · rename_i kvs k' hk
      cases e3
      exact ⟨kvs, rfl, k', hk, q⟩
    · cases e3
  · rintro ⟨x, g1, e1, k, g2, e2, kvs, e3, k', hk, q⟩
    refine ⟨x, g1, e1, k, g2, e2, _, ?_, q⟩
    cases x <;> cases e3
    rw [hk]
theorem ok_eGet2 (fo fk fx : DE) (Q : D → Store → Prop) : Ok (eGet2 fo fk fx ρ g) Q ↔ Ok (fo ρ g) fun x g1 => Ok (fk ρ g1) fun k g2 => Ok (fx ρ g2) fun z g3 => OkO (asDic x) fun kvs => OkO (dkOf k) fun k => Q ((valK kvs k).getD z) g3 := by
  unfold eGet2
  simp only [okb, okl]
  constructor
  · rintro ⟨x, g1, e1, k, g2, e2, z, g3, e4, y, e3, q⟩
    refine ⟨x, g1, e1, k, g2, e2, z, g3, e4, ?_⟩
    split at e3
    · rename_i kvs k' hk
      cases e3
      exact ⟨kvs, rfl, k', hk, q⟩
    · cases e3
  · rintro ⟨x, g1, e1, k, g2, e2, z, g3, e4, kvs, e3, k', hk, q⟩
    refine ⟨x, g1, e1, k, g2, e2, z, g3, e4, _, ?_, q⟩
    cases x <;> cases e3
    rw [hk]
def valL : Option (Option SV) → Option D
  | some (some (.d x)) => some x
  | some (some (.ownd ds)) => some (.dic ds)
  | _ => none
theorem ok_eVarL (i : Nat) (Q : D → Store → Prop) : Ok (eVarL i ρ g) Q ↔ OkO (valL ρ[i]?) fun x => Q x g := by
  unfold eVarL valL
  generalize ρ[i]? = o
  constructor
  · rintro ⟨x, g1, e, q⟩
    split at e
    · cases e; exact ⟨_, rfl, q⟩
    · cases e; exact ⟨_, rfl, q⟩
    · cases e
  · rintro ⟨x, e, q⟩
    split at e
    · cases e; exact ⟨_, _, rfl, q⟩
    · cases e; exact ⟨_, _, rfl, q⟩
    · cases e
def owndOf : Option (Option SV) → Option (List (DKey × D))
  | some (some (.ownd xs)) => some xs
  | _ => none
theorem ok_sPut (i : Nat) (fk fv : DE) (Q : Out → Store → Prop) : Ok (sPut i fk fv ρ g) Q ↔ OkO (owndOf ρ[i]?) fun ds => Ok (fv ρ g) fun v g1 => Ok (fk ρ g1) fun k g2 => OkO (dkOf k) fun k => ds.length < BIG ∧ Q (.nx (ρ.set i (some (.ownd (putD ds k v))))) g2 := by
  unfold sPut
  constructor
  · rintro ⟨o, g1, e, q⟩
    split at e
    · rename_i ds hx
      refine ⟨ds, by rw [hx]; rfl, ?_⟩
      split at e
      · rename_i v g2 e1
        refine ⟨v, g2, e1, ?_⟩
        split at e
        · rename_i k g3 e2
          refine ⟨k, g3, e2, ?_⟩
          split at e
          · rename_i k' hk
            split at e
            · cases e; exact ⟨k', hk, ‹_›, q⟩
            · cases e
          · cases e
        · cases e
      · cases e
    · cases e
  · rintro ⟨ds, hx, v, g1, e1, k, g2, e2, k', hk, hl, q⟩
    have hx' : ρ[i]? = some (some (.ownd ds)) := by
      unfold owndOf at hx
      split at hx
      · cases hx; assumption
      · cases hx
    refine ⟨_, g2, ?_, q⟩
    rw [hx']
    dsimp only
    rw [e1]
    dsimp only
    rw [e2]
    dsimp only
    rw [hk]
    dsimp only
    rw [if_pos hl]
theorem ok_sOwnD (i : Nat) (f : DDc) (Q : Out → Store → Prop) (hi : i < ρ.length) : Ok (sOwnD i f ρ g) Q ↔ Ok (f ρ g) fun d g1 => Q (.nx (ρ.set i (some (.ownd d)))) g1 := by
  unfold sOwnD
  constructor
  · rintro ⟨o, g1, e, q⟩
    split at e
    · rw [if_pos hi] at e; cases e; exact ⟨_, _, ‹_›, q⟩
    · cases e
  · rintro ⟨d, g1, e, q⟩
    exact ⟨_, g1, by rw [e]; dsimp only; rw [if_pos hi], q⟩
def seqOf : D → Option (List D)
  | .tup xs => some xs
  | .lst xs => some xs
  | _ => none
theorem ok_sUnpS (m : Nat) (f : DE) (ps : List D → Option (List (Nat × D))) (Q : Out → Store → Prop) : Ok (sUnpS m f ps ρ g) Q ↔ Ok (f ρ g) fun d g1 => OkO (seqOf d) fun xs => m ≤ xs.length ∧ OkO (ps (xs.take m ++ [.lst (xs.drop m)])) fun as => Q (.nx (sets ρ as)) g1 := by
  unfold sUnpS
  constructor
  · rintro ⟨o, g1, e, q⟩
    split at e
    · rename_i d g2 e1
      refine ⟨d, g2, e1, ?_⟩
      split at e
      · split at e
        · split at e
          · cases e; exact ⟨_, rfl, ‹_›, _, ‹_›, q⟩
          · cases e
        · cases e
      · split at e
        · split at e
          · cases e; exact ⟨_, rfl, ‹_›, _, ‹_›, q⟩
          · cases e
        · cases e
      · cases e
    · cases e
  · rintro ⟨d, g1, e1, xs, hx, hm, as, ha, q⟩
    refine ⟨_, g1, ?_, q⟩
    rw [e1]
    dsimp only
    cases d <;> cases hx
    · dsimp only; rw [if_pos hm, ha]
    · dsimp only; rw [if_pos hm, ha]
theorem ok_eDc (f : DDc) (Q : D → Store → Prop) : Ok (eDc f ρ g) Q ↔ Ok (f ρ g) fun xs g1 => Q (.dic xs) g1 := by
  unfold eDc; simp only [okb, okl, okO_some]
theorem ok_cFn (φ : List D → Option (List (DKey × D))) (a : DA) (Q : List (DKey × D) → Store → Prop) : Ok (cFn φ a ρ g) Q ↔ Ok (a ρ g) fun xs g1 => OkO (φ xs) fun z => Q z g1 := by
  unfold cFn; simp only [okb, okl]
theorem ok_cNil (Q : List (DKey × D) → Store → Prop) : Ok (cNil ρ g) Q ↔ Q [] g := okv _ _
def lenO (g : Store) : D → Option D
  | .obj n => match g[n]? with
    | some (.lst xs) => some (.int xs.length)
    | _ => none
  | _ => none
def ixO (g : Store) : D → D → Option D
  | .obj n, .int i => match g[n]? with
    | some (.lst xs) => atI xs i
    | _ => none
  | _, _ => none
def setO (g : Store) : D → D → D → Option Store
  | .obj n, .int i, d => match g[n]? with
    | some (.lst xs) => match ixN xs.length i with
      | some j => some (g.set n (.lst (xs.set j d)))
      | none => none
    | _ => none
  | _, _, _ => none
theorem ok_eLenO (f : DE) (Q : D → Store → Prop) : Ok (eLenO f ρ g) Q ↔ Ok (f ρ g) fun x g1 => OkO (lenO g1 x) fun d => Q d g1 := by
  unfold eLenO
  rw [okb]
  constructor
  · rintro ⟨x, g1, e1, d, g2, e2, q⟩
    refine ⟨x, g1, e1, ?_⟩
    split at e2
    · split at e2
      · rename_i h; cases e2; exact ⟨_, by unfold lenO; dsimp only; rw [h], q⟩
      · cases e2
    · cases e2
  · rintro ⟨x, g1, e1, d, e2, q⟩
    refine ⟨x, g1, e1, d, g1, ?_, q⟩
    cases x <;> first | (cases e2; done) | skip
    unfold lenO at e2
    dsimp only at e2 ⊢
    split at e2
    · cases e2; rename_i h; first | rfl | rw [h]
    · cases e2
theorem ok_eIxO (fo fi : DE) (Q : D → Store → Prop) : Ok (eIxO fo fi ρ g) Q ↔ Ok (fo ρ g) fun x g1 => Ok (fi ρ g1) fun y g2 => OkO (ixO g2 x y) fun d => Q d g2 := by
  unfold eIxO
  simp only [okb]
  constructor
  · rintro ⟨x, g1, e1, y, g2, e2, d, g3, e3, q⟩
    refine ⟨x, g1, e1, y, g2, e2, ?_⟩
    split at e3
    · split at e3
      · rename_i h
        rw [Option.map_eq_some_iff] at e3
        obtain ⟨z, e3, e4⟩ := e3
        cases e4
        exact ⟨_, by unfold ixO; dsimp only; rw [h]; exact e3, q⟩
      · cases e3
    · cases e3
  · rintro ⟨x, g1, e1, y, g2, e2, d, e3, q⟩
    refine ⟨x, g1, e1, y, g2, e2, d, g2, ?_, q⟩
    unfold ixO at e3
    split at e3
    · split at e3
      · rename_i h; (try dsimp only); (try rw [h]); (try dsimp only); rw [e3]; rfl
      · cases e3
    · cases e3
theorem ok_sSetO (fo fi fe : DE) (Q : Out → Store → Prop) : Ok (sSetO fo fi fe ρ g) Q ↔ Ok (fe ρ g) fun d g1 => Ok (fo ρ g1) fun x g2 => Ok (fi ρ g2) fun y g3 => OkO (setO g3 x y d) fun g4 => Q (.nx ρ) g4 := by
  unfold sSetO
  constructor
  · rintro ⟨o, g1, e, q⟩
    split at e
    · rename_i d g2 e1
      refine ⟨d, g2, e1, ?_⟩
      split at e
      · rename_i n g3 e2
        refine ⟨_, g3, e2, ?_⟩
        split at e
        · rename_i i g4 e3
          refine ⟨_, g4, e3, ?_⟩
          split at e
          · rename_i xs h
            split at e
            · rename_i j hj
              cases e
              exact ⟨_, by unfold setO; dsimp only; rw [h]; dsimp only; rw [hj], q⟩
            · cases e
          · cases e
        · cases e
      · cases e
    · cases e
  · rintro ⟨d, g1, e1, x, g2, e2, y, g3, e3, g4, e4, q⟩
    unfold setO at e4
    split at e4
    · split at e4
      · rename_i h
        split at e4
        · rename_i hj
          cases e4
          refine ⟨_, _, ?_, q⟩
          rw [e1]; dsimp only; rw [e2]; dsimp only; rw [e3]; dsimp only; rw [h]; dsimp only; rw [hj]
        · cases e4
      · cases e4
    · cases e4
def staOf : Option (Option SV) → Option PySem.Str
  | some (some (.d (.sta y))) => some y
  | _ => none
theorem ok_eDisp (i : Nat) (x : PySem.Str) (φ : List D → Store → Option (D × Store)) (r : List (PySem.Str × (List D → Store → Option (D × Store)))) (fs : DA) (Q : D → Store → Prop) : Ok (eDisp i ((x, φ) :: r) fs ρ g) Q ↔ OkO (staOf ρ[i]?) fun y => if y = x then Ok (fs ρ g) fun xs g1 => Ok (φ xs g1) Q else Ok (eDisp i r fs ρ g) Q := by
  rw [eDisp]
  dsimp only
  generalize ρ[i]? = o
  constructor
  · rintro ⟨d, g1, e, q⟩
    split at e
    · rename_i y
      refine ⟨y, rfl, ?_⟩
      split at e
      · rename_i h; rw [if_pos h]; rw [← ok_eApp]; exact ⟨d, g1, e, q⟩
      · rename_i h; rw [if_neg h]; exact ⟨d, g1, e, q⟩
    · cases e
  · rintro ⟨y, hy, q⟩
    have ho : o = some (some (.d (.sta y))) := by
      unfold staOf at hy
      split at hy
      · cases hy; rfl
      · cases hy
    subst ho
    dsimp only
    split at q
    · rename_i h; rw [if_pos h]; rw [← ok_eApp] at q; exact q
    · rename_i h; rw [if_neg h]; exact q
end
theorem dIxA_ds (kvs : List (DKey × D)) (k : List Nat) : dIxA (.dic kvs) (.str k) = valK kvs (.inr k) := rfl
theorem dIxA_li (a : List D) (i : Int) : dIxA (.lst a) (.int i) = atI a i := rfl
theorem dIxA_ti (a : List D) (i : Int) : dIxA (.tup a) (.int i) = atI a i := rfl
theorem dInA_sd (kvs : List (DKey × D)) (k : List Nat) : dInA (.str k) (.dic kvs) = some (.bl (valK kvs (.inr k)).isSome) := rfl
theorem dNotInA_sd (kvs : List (DKey × D)) (k : List Nat) : dNotInA (.str k) (.dic kvs) = some (.bl (!(valK kvs (.inr k)).isSome)) := rfl
theorem dkOf_s (k : List Nat) : dkOf (.str k) = some (.inr k) := rfl
theorem dkOf_i (k : Int) : dkOf (.int k) = some (.inl k) := rfl
theorem asDic_d (kvs : List (DKey × D)) : asDic (.dic kvs) = some kvs := rfl
theorem valL_d (x : D) : valL (some (some (.d x))) = some x := rfl
theorem valL_o (xs : List (DKey × D)) : valL (some (some (.ownd xs))) = some (.dic xs) := rfl
theorem owndOf_o (xs : List (DKey × D)) : owndOf (some (some (.ownd xs))) = some xs := rfl
theorem seqOf_t (xs : List D) : seqOf (.tup xs) = some xs := rfl
theorem seqOf_l (xs : List D) : seqOf (.lst xs) = some xs := rfl
theorem aListA_d (kvs : List (DKey × D)) : aListA [.dic kvs] = some (kvs.map fun p => kD p.1) := rfl
theorem cDict_d (kvs : List (DKey × D)) : cDict [.dic kvs] = some kvs := rfl
theorem cDict_l (xs : List D) : cDict [.lst xs] = (pairsD xs).map mergeD := rfl
theorem cDict_t (xs : List D) : cDict [.tup xs] = (pairsD xs).map mergeD := rfl
theorem dAbs_i (i : Int) : dAbs [.int i] = some (.int (if i < 0 then -i else i)) := rfl
theorem dMin2_i (i j : Int) : dMin2 [.int i, .int j] = some (.int (if j < i then j else i)) := rfl
theorem dMax2_i (i j : Int) : dMax2 [.int i, .int j] = some (.int (if j > i then j else i)) := rfl
theorem dCount_s (a b : List Nat) : dCount (.str a) [.str b] = some (.int (txtCount a b)) := rfl
theorem dRfind_s (a b : List Nat) : dRfind (.str a) [.str b] = some (.int (txtRfind a b)) := rfl
theorem dPow_ii (a b : Int) : dPow (.int a) (.int b) = if 0 ≤ b ∧ b ≤ 100 ∧ a.natAbs < 2 ^ 64 then some (.int (a ^ b.toNat)) else none := rfl
theorem staOf_s (y : PySem.Str) : staOf (some (some (.d (.sta y)))) = some y := rfl
/-- a comprehension, turn by turn numbered -/
theorem ok_lcI {ρ : Env3} {tg : D → Option (List (Nat × D))} {e : DE} (P : D → D → Prop) : ∀ {ds : List D} {g : Store} (I : Nat → Store → Prop), I 0 g → (∀ (i : Nat) d, ds[i]? = some d → ∀ g, I i g → ∃ as, tg d = some as ∧ Ok (e (sets ρ as) g) fun y g1 => P d y ∧ I (i + 1) g1) →
    Ok (lcD tg tYesD e ds ρ g) fun ys g1 => I ds.length g1 ∧ ys.length = ds.length ∧ ∀ (i : Nat) d y, ds[i]? = some d → ys[i]? = some y → P d y
  | [], g, I, hI, _ => ⟨[], g, rfl, hI, rfl, fun i d y h => by simp at h⟩
  | d :: ds, g, I, hI, h => by
    obtain ⟨as, ea, y, g1, ey, hp, hI1⟩ := h 0 d rfl g hI
    obtain ⟨ys, g2, e2, hI2, hl, hall⟩ := ok_lcI P (ds := ds) (fun i => I (i + 1)) hI1 fun i d' hd' => h (i + 1) d' (by simpa using hd')
    refine ⟨y :: ys, g2, ?_, hI2, by simp [hl], fun i d' y' h1 h2 => ?_⟩
    · unfold lcD
      rw [ea]
      simp only [tYesD, ey, e2]
    · cases i with
      | zero => simp at h1 h2; subst h1 h2; exact hp
      | succ i => exact hall i d' y' (by simpa using h1) (by simpa using h2)
end L3

/-! L4d: plain data, what == tells of it. -/
namespace L3
open PySem PySem.Spec PyProof.Rows L2
mutual
def plB : Nat → D → Bool
  | _, .non => true
  | _, .bl _ => true
  | _, .int _ => true
  | _, .str s => s.all fun c => decide (c < 128)
  | n + 1, .lst xs => plBs n xs
  | n + 1, .tup xs => plBs n xs
  | _, _ => false
def plBs : Nat → List D → Bool
  | _, [] => true
  | n, x :: xs => plB n x && plBs n xs
end
theorem plBs_all {n : Nat} : ∀ {xs : List D}, plBs n xs = true ↔ ∀ x ∈ xs, plB n x = true
  | [] => by simp [plBs]
  | x :: xs => by
    rw [plBs, Bool.and_eq_true, plBs_all, List.forall_mem_cons]
theorem asc_strOk {s : Tx} (h : (s.all fun c => decide (c < 128)) = true) : PySem.PyData.strOk (S s) = true := by
  unfold PySem.PyData.strOk
  rw [List.all_eq_true] at h
  simp only [S, Array.all_eq_true', List.mem_toArray]
  intro c hc
  have := of_decide_eq_true (h c hc)
  simp
  omega
mutual
theorem toPy_pl : ∀ (n : Nat) (d : D), plB n d = true → ∃ p, toPy d = some p ∧ p.canLay0 = true ∧ p.depth ≤ n
  | n, .non, _ => ⟨.none, by simp [toPy], by simp [PyData.canLay0], by simp [PyData.depth]⟩
  | n, .bl b, _ => ⟨.bool b, by simp [toPy], by simp [PyData.canLay0], by simp [PyData.depth]⟩
  | n, .int i, _ => ⟨.int i, by simp [toPy], by simp [PyData.canLay0], by simp [PyData.depth]⟩
  | n, .str s, h => ⟨.str (S s), by simp [toPy], by rw [PyData.canLay0]; exact asc_strOk (by rw [plB] at h; exact h), by simp [PyData.depth]⟩
  | n + 1, .lst xs, h => by
    rw [plB] at h
    obtain ⟨ps, h1, h2, h3⟩ := toPys_pl n xs h
    exact ⟨.list ps, by simp [toPy, h1], by rw [PyData.canLay0]; exact h2, by rw [PyData.depth]; omega⟩
  | n + 1, .tup xs, h => by
    rw [plB] at h
    obtain ⟨ps, h1, h2, h3⟩ := toPys_pl n xs h
    exact ⟨.tuple ps, by simp [toPy, h1], by rw [PyData.canLay0]; exact h2, by rw [PyData.depth]; omega⟩
  | 0, .lst xs, h => by simp [plB] at h
  | 0, .tup xs, h => by simp [plB] at h
  | 0, .dic xs, h => by simp [plB] at h
  | n + 1, .dic xs, h => by simp [plB] at h
  | 0, .obj xs, h => by simp [plB] at h
  | n + 1, .obj xs, h => by simp [plB] at h
  | 0, .sta xs, h => by simp [plB] at h
  | n + 1, .sta xs, h => by simp [plB] at h
theorem toPys_pl : ∀ (n : Nat) (ds : List D), plBs n ds = true → ∃ ps, toPys ds = some ps ∧ PyData.canLayAll0 ps = true ∧ PyData.depthAll ps ≤ n
  | n, [], _ => ⟨[], by simp [toPys], by simp [PyData.canLayAll0], by simp [PyData.depthAll]⟩
  | n, d :: ds, h => by
    rw [plBs, Bool.and_eq_true] at h
    obtain ⟨p, h1, h2, h3⟩ := toPy_pl n d h.1
    obtain ⟨ps, k1, k2, k3⟩ := toPys_pl n ds h.2
    refine ⟨p :: ps, by simp [toPys, h1, k1], by rw [PyData.canLayAll0, h2, k2]; rfl, ?_⟩
    rw [PyData.depthAll]
    omega
end
/-- what == tells of two things of plain data -/
def eqD (x y : D) : Bool := match toPy x, toPy y with
  | some p, some q => PyData.eqv p q
  | _, _ => false
theorem dEqP_pl {n : Nat} {x y : D} (hn : n ≤ 60) (hx : plB n x = true) (hy : plB n y = true) : dEqP x y = some (eqD x y) := by
  obtain ⟨p, h1, h2, h3⟩ := toPy_pl n x hx
  obtain ⟨q, k1, k2, k3⟩ := toPy_pl n y hy
  unfold dEqP eqD
  rw [h1, k1]
  dsimp only
  rw [if_pos]
  exact ⟨Bool.and_eq_true_iff.mpr ⟨h2, decide_eq_true (by omega)⟩, Bool.and_eq_true_iff.mpr ⟨k2, decide_eq_true (by omega)⟩⟩
theorem S_beq (a b : Tx) : (S a == S b) = decide (a = b) := by
  rw [Bool.eq_iff_iff, beq_iff_eq, decide_eq_true_eq]
  exact ⟨S_inj, fun h => by rw [h]⟩
theorem dEqB_pl {n : Nat} {x y : D} (hn : n ≤ 60) (hx : plB n x = true) (hy : plB n y = true) : dEqB x y = some (eqD x y) := by
  have e := dEqP_pl hn hx hy
  unfold dEqB
  split
  · simp [eqD, toPy, PyData.eqv]
    rfl
  · simp [eqD, toPy, PyData.eqv, S_beq]
  · simp [eqD, toPy, PyData.eqv]
    rfl
  · simp [eqD, toPy, PyData.eqv]
  · simp [eqD, toPy, PyData.eqv]
  · simp [eqD, toPy, PyData.eqv]
  · simp [eqD, toPy, PyData.eqv]
  · simp [eqD, toPy, PyData.eqv]
  · exact e
theorem dEq_pl {n : Nat} {x y : D} (hn : n ≤ 60) (hx : plB n x = true) (hy : plB n y = true) : dEq x y = some (.bl (eqD x y)) := by unfold dEq; rw [dEqB_pl hn hx hy]; rfl
theorem dNe_pl {n : Nat} {x y : D} (hn : n ≤ 60) (hx : plB n x = true) (hy : plB n y = true) : dNe x y = some (.bl (!eqD x y)) := by unfold dNe; rw [dEqB_pl hn hx hy]; rfl
theorem eqD_refl {n : Nat} {x : D} (hx : plB n x = true) : eqD x x = true := by
  obtain ⟨p, h1, h2, h3⟩ := toPy_pl n x hx
  unfold eqD
  rw [h1]
  exact PySem.SeqAt.eqv_refl p h2
theorem eqD_lnil (x : D) (xs : List D) : eqD (.lst (x :: xs)) (.lst []) = false := by
  unfold eqD
  simp only [toPy, toPys]
  cases h : toPy x <;> cases h2 : toPys xs <;> simp [PyData.eqv, PyData.eqvAll]
theorem eqD_nn : eqD (.lst []) (.lst []) = true := by simp [eqD, toPy, toPys, PyData.eqv, PyData.eqvAll]
end L3

/-! L4e: loops, joins, places: what the maths of all laws use. -/
namespace L3
open L2 (atI ixN)
theorem strI_dig : ∀ v : Int, 0 ≤ v → v < 10 → strI v = [48 + v.toNat] := by
  intro v h0 h1
  have : v = 0 ∨ v = 1 ∨ v = 2 ∨ v = 3 ∨ v = 4 ∨ v = 5 ∨ v = 6 ∨ v = 7 ∨ v = 8 ∨ v = 9 := by omega
  rcases this with h | h | h | h | h | h | h | h | h | h <;> subst h <;> decide +kernel
theorem dStr_ok {v : Int} (h0 : 0 ≤ v) (h1 : v < 1000000) : dStr [.int v] = some (.str (strI v)) := by
  unfold dStr
  dsimp only
  rw [if_pos (show v.natAbs < 10 ^ 60 from Nat.lt_of_lt_of_le (show v.natAbs < 1000000 by omega) (by decide))]
theorem txts_of : ∀ {ys : List D}, (∀ y ∈ ys, ∃ s, y = D.str s) → ∃ l : List (List Nat), ys = l.map D.str
  | [], _ => ⟨[], rfl⟩
  | y :: ys, h => by
    obtain ⟨s, rfl⟩ := h y List.mem_cons_self
    obtain ⟨l, rfl⟩ := txts_of fun y' h' => h y' (List.mem_cons_of_mem _ h')
    exact ⟨s :: l, rfl⟩
theorem txts_map (l : List (List Nat)) : txts (l.map D.str) = some l := by
  induction l with
  | nil => rfl
  | cons x r ih => simp [txts, ih]
theorem joinL_nil (l : List (List Nat)) : TL.joinL [] l = l.flatten := by
  induction l with
  | nil => rfl
  | cons x r ih => cases r with
    | nil => simp [TL.joinL]
    | cons y r => simp only [TL.joinL, ih, List.nil_append, List.flatten_cons]
/-- "".join of a row of texts that a comprehension makes, each by a law P -/
theorem join_ok {tg : D → Option (List (Nat × D))} {e : DE} {ρ : Env3} {g : Store} {ds : List D} {Q : D → Store → Prop} (I : Store → Prop) (P : List Nat → Prop) (N : Nat) (hI : I g) (hN : ds.length * N ≤ BIG)
    (h : ∀ d ∈ ds, ∀ g, I g → ∃ as, tg d = some as ∧ Ok (e (sets ρ as) g) fun y g1 => (∃ s, y = .str s ∧ P s ∧ s.length ≤ N) ∧ I g1)
    (w : ∀ (l : List (List Nat)) g1, I g1 → l.length = ds.length → (∀ s ∈ l, P s ∧ s.length ≤ N) → Q (.str l.flatten) g1) :
    Ok (lcD tg tYesD e ds ρ g) fun xs g1 => OkO (if isStr (.str []) then dJoin (.str []) [.lst xs] else none) fun z => Q z g1 := by
  refine (ok_lc I (fun _ y => ∃ s, y = .str s ∧ P s ∧ s.length ≤ N) hI h).mono fun ys g1 q => ?_
  obtain ⟨hI1, hl, hall⟩ := q
  have hys : ∀ y ∈ ys, ∃ s, y = D.str s ∧ P s ∧ s.length ≤ N := fun y hy => by
    obtain ⟨i, hi, rfl⟩ := List.getElem_of_mem hy
    exact hall i _ _ (List.getElem?_eq_getElem (by omega)) (List.getElem?_eq_getElem hi)
  obtain ⟨l, rfl⟩ := txts_of fun y hy => by obtain ⟨s, e, _⟩ := hys y hy; exact ⟨s, e⟩
  have hP : ∀ s ∈ l, P s ∧ s.length ≤ N := fun s hs => by
    obtain ⟨s', e, q⟩ := hys _ (List.mem_map_of_mem hs)
    cases e
    exact q
  have hsum : ∀ l : List (List Nat), (∀ s ∈ l, s.length ≤ N) → (l.map (·.length)).sum ≤ l.length * N := by
    intro l
    induction l with
    | nil => intro _; simp
    | cons x r ih =>
      intro h
      have h1 := h x List.mem_cons_self
      have h2 := ih fun s hs => h s (List.mem_cons_of_mem _ hs)
      rw [List.map_cons, List.sum_cons, List.length_cons, Nat.succ_mul]
      omega
  have hjn : joinN [] l ≤ BIG := by
    unfold joinN
    have := hsum l fun s hs => (hP s hs).2
    rw [List.length_map] at hl
    rw [hl] at this
    simp only [List.length_nil, Nat.mul_zero, Nat.add_zero]
    exact Nat.le_trans this hN
  refine ⟨.str l.flatten, ?_, w l g1 hI1 (by rw [List.length_map] at hl; exact hl) hP⟩
  simp only [isStr, if_true, dJoin, dJoinL, txts_map, hjn, joinL_nil]
theorem range1_ok {k : Int} (h0 : 0 ≤ k) (h1 : k ≤ 1000000) : dRange1 [.int k] = some (rangeD 0 k.toNat) := by
  unfold dRange1
  dsimp only
  rw [if_pos ⟨by omega, h1⟩]
theorem mem_range {lo : Int} {n : Nat} {d : D} (h : d ∈ rangeD lo n) : ∃ i : Nat, i < n ∧ d = .int (lo + i) := by
  unfold rangeD at h
  obtain ⟨i, hi, rfl⟩ := List.mem_map.mp h
  exact ⟨i, List.mem_range.mp hi, rfl⟩
theorem ix_strA {z : List Nat} {v : Int} (h0 : 0 ≤ v) (h1 : v < z.length) (hl : z.length ≤ BIG) : ∃ c, c ∈ z ∧ dIx (.str z) (.int v) = some (.str [c]) := by
  have hv : v.toNat < z.length := by omega
  refine ⟨z[v.toNat], List.getElem_mem _, ?_⟩
  unfold dIx
  dsimp only
  rw [if_pos hl]
  unfold atI ixN
  rw [if_pos h0, if_pos h1]
  simp [List.getElem?_eq_getElem hv]
theorem ix_lst {z : List D} {v : Int} (h0 : 0 ≤ v) (h1 : v < z.length) : ∃ d, d ∈ z ∧ dIx (.lst z) (.int v) = some d := by
  have hv : v.toNat < z.length := by omega
  refine ⟨z[v.toNat], List.getElem_mem _, ?_⟩
  unfold dIx
  dsimp only
  unfold atI ixN
  rw [if_pos h0, if_pos h1]
  simp [List.getElem?_eq_getElem hv]
theorem cut_len {β : Type} (xs : List β) (lo hi : Option Int) : (cutL xs lo hi).length ≤ xs.length := by
  unfold cutL
  rw [List.length_take, List.length_drop]
  omega
theorem flat_repl (k : Nat) (c : Nat) : (List.replicate k [c]).flatten = List.replicate k c := by
  induction k with
  | zero => rfl
  | succ k ih => rw [List.replicate_succ, List.flatten_cons, ih, List.replicate_succ]; rfl
theorem flat1 {P : Nat → Prop} : ∀ l : List (List Nat), (∀ s ∈ l, ∃ c, s = [c] ∧ P c) → l.flatten.length = l.length ∧ ∀ c ∈ l.flatten, P c := by
  intro l
  induction l with
  | nil => intro _; exact ⟨rfl, by simp⟩
  | cons s r ih =>
    intro h
    obtain ⟨c, rfl, hc⟩ := h s List.mem_cons_self
    obtain ⟨a, b⟩ := ih fun s hs => h s (List.mem_cons_of_mem _ hs)
    refine ⟨by simp [a], fun x hx => ?_⟩
    rw [List.flatten_cons, List.singleton_append] at hx
    rcases List.mem_cons.mp hx with rfl | hx
    · exact hc
    · exact b x hx
def nxt (J : Env3 → Store → Prop) : Out → Store → Prop := fun o g => ∃ ρ, o = .nx ρ ∧ J ρ g
theorem nxt_nx (J : Env3 → Store → Prop) (ρ : Env3) (g : Store) : nxt J (.nx ρ) g ↔ J ρ g := ⟨fun ⟨_, e, h⟩ => by cases e; exact h, fun h => ⟨ρ, rfl, h⟩⟩
/-- a loop that is not left ahead of its end -/
theorem ok_forN {tg : D → Option (List (Nat × D))} {body : DS} {Q : Out → Store → Prop} (J : List D → Env3 → Store → Prop) {ds : List D} {ρ : Env3} {g : Store} (h0 : J ds ρ g)
    (h1 : ∀ d r ρ g, J (d :: r) ρ g → ∃ as, tg d = some as ∧ Ok (body (sets ρ as) g) (nxt (J r))) (h2 : ∀ ρ g, J [] ρ g → Q (.nx ρ) g) : Ok (forD tg body ds ρ g) Q := by
  refine ok_for J h0 (fun d r ρ g h => ?_) h2
  obtain ⟨as, e, h⟩ := h1 d r ρ g h
  refine ⟨as, e, h.mono ?_⟩
  rintro _ g1 ⟨ρ1, rfl, h⟩
  exact h

theorem txts_nil : txts [] = some [] := rfl
/-- c.join of a row of texts that a comprehension makes, the turns numbered -/
theorem join_okI {tg : D → Option (List (Nat × D))} {e : DE} {ρ : Env3} {g : Store} {ds : List D} {Q : D → Store → Prop} (c : Tx) (I : Nat → Store → Prop) (P : Tx → Prop) (N : Nat) (hI : I 0 g) (hN : ds.length * (N + c.length) ≤ BIG)
    (h : ∀ (i : Nat) d, ds[i]? = some d → ∀ g, I i g → ∃ as, tg d = some as ∧ Ok (e (sets ρ as) g) fun y g1 => (∃ s, y = .str s ∧ P s ∧ s.length ≤ N) ∧ I (i + 1) g1)
    (w : ∀ (l : List (List Nat)) g1, I ds.length g1 → l.length = ds.length → (∀ s ∈ l, P s ∧ s.length ≤ N) → Q (.str (TL.joinL c l)) g1) :
    Ok (lcD tg tYesD e ds ρ g) fun xs g1 => OkO (if isStr (.str c) then dJoin (.str c) [.lst xs] else none) fun z => Q z g1 := by
  refine (ok_lcI (fun _ y => ∃ s, y = .str s ∧ P s ∧ s.length ≤ N) I hI h).mono fun ys g1 q => ?_
  obtain ⟨hI1, hl, hall⟩ := q
  have hys : ∀ y ∈ ys, ∃ s, y = D.str s ∧ P s ∧ s.length ≤ N := fun y hy => by
    obtain ⟨i, hi, rfl⟩ := List.getElem_of_mem hy
    exact hall i _ _ (List.getElem?_eq_getElem (by omega)) (List.getElem?_eq_getElem hi)
  obtain ⟨l, rfl⟩ := txts_of fun y hy => by obtain ⟨s, e, _⟩ := hys y hy; exact ⟨s, e⟩
  have hP : ∀ s ∈ l, P s ∧ s.length ≤ N := fun s hs => by
    obtain ⟨s', e, q⟩ := hys _ (List.mem_map_of_mem hs)
    cases e
    exact q
  have hsum : ∀ l : List (List Nat), (∀ s ∈ l, s.length ≤ N) → (l.map (·.length)).sum ≤ l.length * N := by
    intro l
    induction l with
    | nil => intro _; simp
    | cons x r ih =>
      intro h
      have h1 := h x List.mem_cons_self
      have h2 := ih fun s hs => h s (List.mem_cons_of_mem _ hs)
      rw [List.map_cons, List.sum_cons, List.length_cons, Nat.succ_mul]
      omega
  have hjn : joinN c l ≤ BIG := by
    unfold joinN
    have := hsum l fun s hs => (hP s hs).2
    rw [List.length_map] at hl
    rw [hl] at this ⊢
    rw [Nat.mul_add] at hN
    omega
  refine ⟨.str (TL.joinL c l), ?_, w l g1 hI1 (by rw [List.length_map] at hl; exact hl) hP⟩
  simp only [isStr, if_true, dJoin, dJoinL, txts_map, hjn]
theorem joinL_len (c : Tx) (N : Nat) : ∀ l : List Tx, (∀ s ∈ l, s.length ≤ N) → (TL.joinL c l).length ≤ l.length * (N + c.length)
  | [], _ => by simp [TL.joinL]
  | [x], h => by
    have := h x List.mem_cons_self
    simp [TL.joinL]
    omega
  | x :: y :: r, h => by
    have h1 := h x List.mem_cons_self
    have h2 := joinL_len c N (y :: r) fun s hs => h s (List.mem_cons_of_mem _ hs)
    simp only [TL.joinL, List.length_append, List.length_cons] at h2 ⊢
    rw [Nat.succ_mul]
    omega
theorem range_len0 {k : Int} : (rangeD 0 k.toNat).length = k.toNat := rangeD_len _ _
/-- a comprehension of data, without a test: what each turn brings is told by f -/
theorem ok_lcF {ρ : Env3} {tg : D → Option (List (Nat × D))} {e : DE} {ds : List D} {g : Store} {Q : List D → Store → Prop} (f : D → D) (h : ∀ d ∈ ds, ∃ as, tg d = some as ∧ e (sets ρ as) g = some (f d, g)) (w : Q (ds.map f) g) : Ok (lcD tg tYesD e ds ρ g) Q := ⟨_, g, lc_map h, w⟩
theorem of_ok {β : Type} {r : Option (β × Store)} {x : β} {g : Store} (h : Ok r fun y g' => y = x ∧ g' = g) : r = some (x, g) := by
  obtain ⟨y, g', e, rfl, rfl⟩ := h
  exact e
theorem mem_ix {z : List D} {v : Int} (h0 : 0 ≤ v) (h1 : v < z.length) : ∃ d, d ∈ z ∧ atI z v = some d := by
  have hv : v.toNat < z.length := by omega
  refine ⟨z[v.toNat], List.getElem_mem _, ?_⟩
  unfold atI ixN
  rw [if_pos h0, if_pos h1]
  simp [List.getElem?_eq_getElem hv]
end L3

/-! L4f: places told by written numbers. -/
namespace L3
open L2 (atI ixN)
section
variable {β : Type} (a b c d e f h k : β) (l : List β)
theorem at0 : atI (a :: l) 0 = some a := by unfold atI ixN; rw [if_pos (by decide), if_pos (by simp only [List.length_cons]; omega)]; rfl
theorem at1 : atI (a :: b :: l) 1 = some b := by unfold atI ixN; rw [if_pos (by decide), if_pos (by simp only [List.length_cons]; omega)]; rfl
theorem at2 : atI (a :: b :: c :: l) 2 = some c := by unfold atI ixN; rw [if_pos (by decide), if_pos (by simp only [List.length_cons]; omega)]; rfl
theorem at3 : atI (a :: b :: c :: d :: l) 3 = some d := by unfold atI ixN; rw [if_pos (by decide), if_pos (by simp only [List.length_cons]; omega)]; rfl
theorem at4 : atI (a :: b :: c :: d :: e :: l) 4 = some e := by unfold atI ixN; rw [if_pos (by decide), if_pos (by simp only [List.length_cons]; omega)]; rfl
end
theorem sortSetA_texts {l : List Tx} (h : l.length ≤ 4000) : aSortSetA [.lst (l.map .str)] = some ((sortST l).map .str) := by
  cases l with
  | nil => rfl
  | cons x r =>
    unfold aSortSetA
    dsimp only
    rw [show intsD ((x :: r).map D.str) = none from rfl]
    dsimp only
    rw [txts_map]
    dsimp only
    rw [if_pos h]
theorem lc_filterT {ρ : Env3} {g : Store} {tg : D → Option (List (Nat × D))} {c : DT} {e : DE} {f : Tx → D} {p : Tx → Bool} {l : List Tx} (h : ∀ k ∈ l, ∃ as, tg (.str k) = some as ∧ c (sets ρ as) g = some (p k, g) ∧ (p k = true → e (sets ρ as) g = some (f k, g))) : lcD tg c e (l.map .str) ρ g = some ((l.filter p).map f, g) := by
  induction l with
  | nil => rfl
  | cons k r ih =>
    obtain ⟨as, ea, ec, ey⟩ := h k List.mem_cons_self
    have ih := ih fun k hk => h k (List.mem_cons_of_mem _ hk)
    rw [List.map_cons]
    unfold lcD
    rw [ea]
    simp only [ec]
    cases hp : p k with
    | true => simp only [ey hp, ih, List.filter_cons_of_pos hp, List.map_cons]
    | false => simp only [ih]; rw [List.filter_cons_of_neg (by simp [hp])]
/-- // by a wide divisor -/
def dDivW : D → D → Option D
  | .int a, .int b => if 0 < b ∧ b < 18446744073709551616 then some (.int (a / b)) else none
  | _, _ => none
theorem dDivW_ii (a b : Int) : dDivW (.int a) (.int b) = if 0 < b ∧ b < 18446744073709551616 then some (.int (a / b)) else none := rfl
theorem opd_divW {X : L2.Cx} : OpD X (PySem.binaryOp .FloorDiv) dDivW := by
  refine ⟨_, L2.op_fdivW, fun G α ow σ H ρ g x y dx dy d Q s rx ry e w => ?_⟩
  unfold dDivW at e
  split at e
  · split at e
    · rename_i hc
      cases e
      rw [rx.int, ry.int]
      exact ⟨_, _, rfl, rfl, L2.wide_div (b := 64) hc.1 (by omega) (by decide) (by decide), w _ H Ext.refl s (.int _)⟩
    · cases e
  · cases e
end L3

/-! L4g: the equations for simp, bundled. -/
namespace L3
open L2 (atI ixN)
theorem oks0 : type_of% (And.intro @forK_nx (And.intro @forK_ct (And.intro @forK_bk (And.intro @forK_rt (And.intro @ok_eOp (And.intro @ok_eUn (And.intro @ok_aNil (And.intro @ok_aCons (And.intro @ok_eFn (And.intro @ok_aFn (And.intro @ok_eApp (And.intro @ok_eC (And.intro @ok_eL (And.intro @ok_eSt (And.intro @ok_eM1 (And.intro @ok_aM1 (And.intro @ok_oNone (And.intro @ok_oSome (And.intro @ok_eSl (And.intro @ok_tOf (And.intro @ok_tTru (And.intro @ok_tNot (And.intro @ok_tAnd (And.intro @ok_tOr (And.intro @ok_eAnd (And.intro @ok_eOr (And.intro @ok_eIf (And.intro @ok_eChain (And.intro @ok_eVar (And.intro @ok_eVarB (And.intro @ok_sSeq (And.intro @seqK_rt (And.intro @seqK_bk (And.intro @seqK_ct (And.intro @ok_sSet (And.intro @ok_sRet (And.intro @ok_sIf (And.intro @ok_sNext (And.intro @ok_sDrop (@ok_sApp)))))))))))))))))))))))))))))))))))))))) := And.intro @forK_nx (And.intro @forK_ct (And.intro @forK_bk (And.intro @forK_rt (And.intro @ok_eOp (And.intro @ok_eUn (And.intro @ok_aNil (And.intro @ok_aCons (And.intro @ok_eFn (And.intro @ok_aFn (And.intro @ok_eApp (And.intro @ok_eC (And.intro @ok_eL (And.intro @ok_eSt (And.intro @ok_eM1 (And.intro @ok_aM1 (And.intro @ok_oNone (And.intro @ok_oSome (And.intro @ok_eSl (And.intro @ok_tOf (And.intro @ok_tTru (And.intro @ok_tNot (And.intro @ok_tAnd (And.intro @ok_tOr (And.intro @ok_eAnd (And.intro @ok_eOr (And.intro @ok_eIf (And.intro @ok_eChain (And.intro @ok_eVar (And.intro @ok_eVarB (And.intro @ok_sSeq (And.intro @seqK_rt (And.intro @seqK_bk (And.intro @seqK_ct (And.intro @ok_sSet (And.intro @ok_sRet (And.intro @ok_sIf (And.intro @ok_sNext (And.intro @ok_sDrop (@ok_sApp)))))))))))))))))))))))))))))))))))))))
theorem oks1 : type_of% (And.intro @ok_sFreeze (And.intro @ok_sUnp (And.intro @ok_sAug (And.intro @ok_sFor (And.intro @ok_aLcE (And.intro @ok_aItems (And.intro @runK_rt (And.intro @runK_nx (And.intro @ok_runD (And.intro @okO_some (And.intro @okO_map (And.intro @valD_d (And.intro @valB_d (And.intro @valB_o (And.intro @valB_w (And.intro @ownOf_o (And.intro @asInt_i (And.intro @asBl_b (And.intro @ok_eAppL (And.intro @ok_eGet1 (And.intro @ok_eGet2 (And.intro @ok_eVarL (And.intro @ok_sPut (And.intro @ok_sUnpS (And.intro @ok_eDc (And.intro @ok_cFn (And.intro @ok_cNil (And.intro @ok_eLenO (And.intro @ok_eIxO (And.intro @ok_sSetO (And.intro @ok_eDisp (And.intro @valL_d (And.intro @valL_o (And.intro @owndOf_o (And.intro @seqOf_t (And.intro @seqOf_l (And.intro @staOf_s (And.intro @asDic_d (And.intro @dkOf_s (@dkOf_i)))))))))))))))))))))))))))))))))))))))) := And.intro @ok_sFreeze (And.intro @ok_sUnp (And.intro @ok_sAug (And.intro @ok_sFor (And.intro @ok_aLcE (And.intro @ok_aItems (And.intro @runK_rt (And.intro @runK_nx (And.intro @ok_runD (And.intro @okO_some (And.intro @okO_map (And.intro @valD_d (And.intro @valB_d (And.intro @valB_o (And.intro @valB_w (And.intro @ownOf_o (And.intro @asInt_i (And.intro @asBl_b (And.intro @ok_eAppL (And.intro @ok_eGet1 (And.intro @ok_eGet2 (And.intro @ok_eVarL (And.intro @ok_sPut (And.intro @ok_sUnpS (And.intro @ok_eDc (And.intro @ok_cFn (And.intro @ok_cNil (And.intro @ok_eLenO (And.intro @ok_eIxO (And.intro @ok_sSetO (And.intro @ok_eDisp (And.intro @valL_d (And.intro @valL_o (And.intro @owndOf_o (And.intro @seqOf_t (And.intro @seqOf_l (And.intro @staOf_s (And.intro @asDic_d (And.intro @dkOf_s (@dkOf_i)))))))))))))))))))))))))))))))))))))))
theorem ops0 : type_of% (And.intro @okO_if (And.intro @dDivW_ii (And.intro @dAddA_ii (And.intro @dAddA_ss (And.intro @dAddA_ll (And.intro @dAddA_tt (And.intro @dAdd_ii (And.intro @dAdd_ss (And.intro @dSub_ii (And.intro @dMul_ii (And.intro @dMul_si (And.intro @dMod_ii (And.intro @dDiv_ii (And.intro @dLt_ii (And.intro @dLt_ss (And.intro @dLe_ii (And.intro @dLe_ss (And.intro @dGt_ii (And.intro @dGt_ss (And.intro @dGe_ii (And.intro @dGe_ss (And.intro @dEq_ii (And.intro @dEq_ss (And.intro @dEq_bb (And.intro @dEq_nn (And.intro @dEq_ns (And.intro @dEq_sn (And.intro @dEq_ni (And.intro @dEq_in (And.intro @dNe_ii (And.intro @dNe_ss (And.intro @dNe_bb (And.intro @dNe_nn (And.intro @dNe_ns (And.intro @dNe_sn (And.intro @dNe_ni (And.intro @dNe_in (And.intro @dIs_n (And.intro @dIsNot_n (@dIs_b)))))))))))))))))))))))))))))))))))))))) := And.intro @okO_if (And.intro @dDivW_ii (And.intro @dAddA_ii (And.intro @dAddA_ss (And.intro @dAddA_ll (And.intro @dAddA_tt (And.intro @dAdd_ii (And.intro @dAdd_ss (And.intro @dSub_ii (And.intro @dMul_ii (And.intro @dMul_si (And.intro @dMod_ii (And.intro @dDiv_ii (And.intro @dLt_ii (And.intro @dLt_ss (And.intro @dLe_ii (And.intro @dLe_ss (And.intro @dGt_ii (And.intro @dGt_ss (And.intro @dGe_ii (And.intro @dGe_ss (And.intro @dEq_ii (And.intro @dEq_ss (And.intro @dEq_bb (And.intro @dEq_nn (And.intro @dEq_ns (And.intro @dEq_sn (And.intro @dEq_ni (And.intro @dEq_in (And.intro @dNe_ii (And.intro @dNe_ss (And.intro @dNe_bb (And.intro @dNe_nn (And.intro @dNe_ns (And.intro @dNe_sn (And.intro @dNe_ni (And.intro @dNe_in (And.intro @dIs_n (And.intro @dIsNot_n (@dIs_b)))))))))))))))))))))))))))))))))))))))
theorem ops1 : type_of% (And.intro @dIsNot_b (And.intro @dIs_i (And.intro @dIsNot_i (And.intro @dIs_s (And.intro @dIsNot_s (And.intro @dIs_l (And.intro @dIsNot_l (And.intro @dIs_t (And.intro @dIsNot_t (And.intro @dIs_d (And.intro @dIsNot_d (And.intro @dIs_o (And.intro @dIsNot_o (And.intro @dLen_s (And.intro @dLen_l (And.intro @dLen_t (And.intro @dTup_d (And.intro @dLst_d (And.intro @truD_n (And.intro @truD_b (And.intro @truD_i (And.intro @truD_s (And.intro @truD_l (And.intro @truD_t (And.intro @dNot_b (And.intro @dNeg_i (And.intro @dSl_s (And.intro @dSl_l (And.intro @dSl_t (And.intro @isStr_s (And.intro @items_l (And.intro @items_t (And.intro @items_s (And.intro @dInt_i (And.intro @dInt_b (And.intro @dIx_li (And.intro @dIx_ti (And.intro @dStarts_ss (And.intro @dTuple_l (@dTuple_t)))))))))))))))))))))))))))))))))))))))) := And.intro @dIsNot_b (And.intro @dIs_i (And.intro @dIsNot_i (And.intro @dIs_s (And.intro @dIsNot_s (And.intro @dIs_l (And.intro @dIsNot_l (And.intro @dIs_t (And.intro @dIsNot_t (And.intro @dIs_d (And.intro @dIsNot_d (And.intro @dIs_o (And.intro @dIsNot_o (And.intro @dLen_s (And.intro @dLen_l (And.intro @dLen_t (And.intro @dTup_d (And.intro @dLst_d (And.intro @truD_n (And.intro @truD_b (And.intro @truD_i (And.intro @truD_s (And.intro @truD_l (And.intro @truD_t (And.intro @dNot_b (And.intro @dNeg_i (And.intro @dSl_s (And.intro @dSl_l (And.intro @dSl_t (And.intro @isStr_s (And.intro @items_l (And.intro @items_t (And.intro @items_s (And.intro @dInt_i (And.intro @dInt_b (And.intro @dIx_li (And.intro @dIx_ti (And.intro @dStarts_ss (And.intro @dTuple_l (@dTuple_t)))))))))))))))))))))))))))))))))))))))
theorem ops2 : type_of% (And.intro @aList_l (And.intro @aList_t (And.intro @dIn_cs (And.intro @dNotIn_cs (And.intro @isi_int_n (And.intro @isi_int_b (And.intro @isi_int_i (And.intro @isi_int_s (And.intro @isi_int_l (And.intro @isi_int_t (And.intro @isi_int_d (And.intro @isi_str_n (And.intro @isi_str_b (And.intro @isi_str_i (And.intro @isi_str_s (And.intro @isi_str_l (And.intro @isi_str_t (And.intro @isi_str_d (And.intro @isi_bool_n (And.intro @isi_bool_b (And.intro @isi_bool_i (And.intro @isi_bool_s (And.intro @isi_bool_l (And.intro @isi_bool_t (And.intro @isi_bool_d (And.intro @isi_list_n (And.intro @isi_list_b (And.intro @isi_list_i (And.intro @isi_list_s (And.intro @isi_list_l (And.intro @isi_list_t (And.intro @isi_list_d (And.intro @isi_tuple_n (And.intro @isi_tuple_b (And.intro @isi_tuple_i (And.intro @isi_tuple_s (And.intro @isi_tuple_l (And.intro @isi_tuple_t (And.intro @isi_tuple_d (@isi_dict_n)))))))))))))))))))))))))))))))))))))))) := And.intro @aList_l (And.intro @aList_t (And.intro @dIn_cs (And.intro @dNotIn_cs (And.intro @isi_int_n (And.intro @isi_int_b (And.intro @isi_int_i (And.intro @isi_int_s (And.intro @isi_int_l (And.intro @isi_int_t (And.intro @isi_int_d (And.intro @isi_str_n (And.intro @isi_str_b (And.intro @isi_str_i (And.intro @isi_str_s (And.intro @isi_str_l (And.intro @isi_str_t (And.intro @isi_str_d (And.intro @isi_bool_n (And.intro @isi_bool_b (And.intro @isi_bool_i (And.intro @isi_bool_s (And.intro @isi_bool_l (And.intro @isi_bool_t (And.intro @isi_bool_d (And.intro @isi_list_n (And.intro @isi_list_b (And.intro @isi_list_i (And.intro @isi_list_s (And.intro @isi_list_l (And.intro @isi_list_t (And.intro @isi_list_d (And.intro @isi_tuple_n (And.intro @isi_tuple_b (And.intro @isi_tuple_i (And.intro @isi_tuple_s (And.intro @isi_tuple_l (And.intro @isi_tuple_t (And.intro @isi_tuple_d (@isi_dict_n)))))))))))))))))))))))))))))))))))))))
theorem ops3 : type_of% (And.intro @isi_dict_b (And.intro @isi_dict_i (And.intro @isi_dict_s (And.intro @isi_dict_l (And.intro @isi_dict_t (And.intro @isi_dict_d (And.intro @decide_eq_true_eq (And.intro @Bool.not_eq_true (And.intro @Bool.not_true (And.intro @Bool.not_false (And.intro @Bool.false_eq_true (And.intro @and_true (And.intro @true_and (And.intro @decide_true (And.intro @decide_false (And.intro @dIxA_ds (And.intro @dIxA_li (And.intro @dIxA_ti (And.intro @dInA_sd (And.intro @dNotInA_sd (And.intro @aListA_d (And.intro @cDict_d (And.intro @cDict_l (And.intro @cDict_t (And.intro @dAbs_i (And.intro @dMin2_i (And.intro @dMax2_i (And.intro @dCount_s (And.intro @dRfind_s (And.intro @dPow_ii (And.intro @at0 (And.intro @at1 (And.intro @at2 (And.intro @at3 (@at4))))))))))))))))))))))))))))))))))) := And.intro @isi_dict_b (And.intro @isi_dict_i (And.intro @isi_dict_s (And.intro @isi_dict_l (And.intro @isi_dict_t (And.intro @isi_dict_d (And.intro @decide_eq_true_eq (And.intro @Bool.not_eq_true (And.intro @Bool.not_true (And.intro @Bool.not_false (And.intro @Bool.false_eq_true (And.intro @and_true (And.intro @true_and (And.intro @decide_true (And.intro @decide_false (And.intro @dIxA_ds (And.intro @dIxA_li (And.intro @dIxA_ti (And.intro @dInA_sd (And.intro @dNotInA_sd (And.intro @aListA_d (And.intro @cDict_d (And.intro @cDict_l (And.intro @cDict_t (And.intro @dAbs_i (And.intro @dMin2_i (And.intro @dMax2_i (And.intro @dCount_s (And.intro @dRfind_s (And.intro @dPow_ii (And.intro @at0 (And.intro @at1 (And.intro @at2 (And.intro @at3 (@at4))))))))))))))))))))))))))))))))))
end L3

/-! L4h: how often a sign stands in a text; parts and their joining. -/
namespace L3
open PySem PySem.Spec PyProof.Rows L2 TL
theorem occ_nil (c : Nat) : Builtin.Str.occurrences (S []) (S [c]) 0 (S []).length ((S []).length + 1) = [] := by
  have h0 : (S []).length = 0 := by rw [S_len]; rfl
  have h1 : (S [c]).length = 1 := by rw [S_len]; rfl
  unfold Builtin.Str.occurrences
  rw [h0, h1]
  have hd : ∀ i : Nat, decide (i + 1 ≤ 0) = false := fun i => by simp
  simp [hd, List.range']
theorem txtCount_one (a : Tx) (c : Nat) (hc : c < 256) : txtCount a [c] = ((splitC c a).length : Int) - 1 := by
  have h := congrArg List.length (split_S a c hc)
  rw [List.length_map] at h
  have hk : ¬ Builtin.Str.strKind (S a) < Builtin.Str.strKind (S [c]) := by
    have : Builtin.Str.strKind (S [c]) = 1 := by
      unfold Builtin.Str.strKind
      rw [if_pos]
      simp [S, hc]
    rw [this]
    unfold Builtin.Str.strKind
    split
    · decide
    · split <;> decide
  unfold txtCount Txt.count
  cases a with
  | nil =>
    rw [occ_nil]
    simp [splitC]
  | cons x r =>
    unfold Txt.split at h
    rw [if_neg] at h
    · split at h
      · rename_i he
        rw [List.isEmpty_iff] at he
        rw [he, ← h]
        simp
      · unfold Builtin.Str.partsBetween at h
        simp only [List.length_map, List.length_zip, List.length_cons, List.length_append, List.length_nil] at h
        omega
    · rw [S_len, S_len]
      simp
      exact Nat.le_of_not_lt hk
theorem splitC_len (c : Nat) : ∀ a : Tx, (splitC c a).length = a.count c + 1
  | [] => rfl
  | x :: r => by
    have ih := splitC_len c r
    unfold splitC
    split
    · rename_i e
      subst e
      rw [List.length_cons, ih, List.count_cons_self]
    · rename_i e
      rw [List.count_cons_of_ne (fun z => e z)]
      cases q : splitC c r with
      | nil => exact absurd q (splitC_ne c r)
      | cons p ps => rw [q] at ih; simpa using ih
/-- joined again by the sign: the text itself -/
theorem join_splitC (c : Nat) : ∀ a : Tx, TL.joinL [c] (splitC c a) = a
  | [] => rfl
  | x :: r => by
    have ih := join_splitC c r
    unfold splitC
    split
    · rename_i e
      subst e
      cases q : splitC x r with
      | nil => exact absurd q (splitC_ne x r)
      | cons p ps => rw [q] at ih; rw [TL.joinL, ih]; rfl
    · cases q : splitC c r with
      | nil => exact absurd q (splitC_ne c r)
      | cons p ps =>
        rw [q] at ih
        dsimp only
        cases ps with
        | nil => rw [TL.joinL] at ih ⊢; rw [ih]
        | cons p2 ps => rw [TL.joinL] at ih ⊢; rw [List.cons_append, ih]
theorem splitC_no (c : Nat) : ∀ {a : Tx}, c ∉ a → splitC c a = [a]
  | [], _ => rfl
  | x :: r, h => by
    rw [List.mem_cons, not_or] at h
    unfold splitC
    rw [if_neg (fun e => h.1 e.symm), splitC_no c h.2]
/-- the parts of a text, a sign, a text -/
theorem splitC_app (c : Nat) (b : Tx) : ∀ a : Tx, splitC c (a ++ c :: b) = splitC c a ++ splitC c b
  | [] => by rw [List.nil_append]; conv => lhs; unfold splitC
             rw [if_pos rfl]; rfl
  | x :: r => by
    have ih := splitC_app c b r
    rw [List.cons_append]
    have e1 : ∀ t : Tx, splitC c (x :: t) = if x = c then [] :: splitC c t else match splitC c t with
      | [] => [[x]]
      | p :: ps => (x :: p) :: ps := fun t => by
        conv => lhs; unfold splitC
        all_goals split
        all_goals first
          | rfl
          | (split <;> (rename_i q; rw [q]))
    rw [e1, e1, ih]
    by_cases e : x = c
    · rw [if_pos e, if_pos e]; rfl
    · rw [if_neg e, if_neg e]
      cases q : splitC c r with
      | nil => exact absurd q (splitC_ne c r)
      | cons p ps => rfl
theorem splitC_parts (c : Nat) : ∀ {a : Tx}, ∀ s ∈ splitC c a, c ∉ s
  | [], s, h => by simp [splitC] at h; subst h; simp
  | x :: r, s, h => by
    have ih := splitC_parts c (a := r)
    unfold splitC at h
    split at h
    · rcases List.mem_cons.mp h with rfl | h
      · simp
      · exact ih s h
    · rename_i e
      cases q : splitC c r with
      | nil => exact absurd q (splitC_ne c r)
      | cons p ps =>
        rw [q] at h ih
        rcases List.mem_cons.mp h with rfl | h
        · rw [List.mem_cons, not_or]
          exact ⟨fun z => e z.symm, ih p List.mem_cons_self⟩
        · exact ih s (List.mem_cons_of_mem _ h)
theorem splitC_join (c : Nat) : ∀ {l : List Tx}, l ≠ [] → (∀ s ∈ l, c ∉ s) → splitC c (TL.joinL [c] l) = l
  | [], h, _ => absurd rfl h
  | [x], _, h => by rw [TL.joinL]; exact splitC_no c (h x List.mem_cons_self)
  | x :: y :: r, _, h => by
    rw [TL.joinL, List.singleton_append, splitC_app, splitC_no c (h x List.mem_cons_self), splitC_join c (by simp) fun s hs => h s (List.mem_cons_of_mem _ hs)]
    rfl
theorem splitC_le (c : Nat) (a : Tx) : (splitC c a).length ≤ a.length + 1 := by
  rw [splitC_len]
  have := List.count_le_length (a := c) (l := a)
  omega
section
variable {X : L2.Cx}
theorem ac_len {es : List Expr} {f : DA} (h : AC X es f) {ρ : Env3} {g g' : Store} {ds : List D} (e : f ρ g = some (ds, g')) : ds.length = es.length := h.1 ρ g ds g' e
/-- a, b = x, y of plain local names: the kit's rule stores from the right -/
theorem sc_par2 {i j : Nat} {x y : Str} {a b : Expr} {fa : DA} {px py pt pos : Pos} {kt k2 pt2} (hc : X.calm = true) (hN : X.N.Nodup) (ha : AC X [a, b] fa) (hi : X.N[i]? = some x := by rfl) (hj : X.N[j]? = some y := by rfl) (hij : i ≠ j := by decide)
    (hx : X.env.scope.names.lookup x = some .local := by rfl) (hy : X.env.scope.names.lookup y = some .local := by rfl)
    (hw : swappedStores [.Tuple [.Name x px, .Name y py] kt pt] (.Tuple [a, b] k2 pt2) X.env = pure (some [x, y]) := by rfl)
    (hs : swapsWithSole [.Tuple [.Name x px, .Name y py] kt pt] (.Tuple [a, b] k2 pt2) pos.line X.env = pure false := by rfl) :
    SC X (.Assign [.Tuple [.Name x px, .Name y py] kt pt] (.Tuple [a, b] k2 pt2) pos) (sUnp (eFn dTup fa) (tgTup (tgsCons (tgName i) (tgsCons (tgName j) tgsNil)))) := by
  have hl := ha.1
  obtain ⟨_, t, pt', hq⟩ := ha
  refine ⟨_, ps_par hc hN hi hj hij hx hy pt' hw hs, fun G α ow σ H ρ g out g' Dn s e w => ?_⟩
  unfold sUnp at e
  split at e
  · rename_i d g1 e1
    split at e
    · rename_i as has
      cases e
      obtain ⟨xs, g2, e2, e3⟩ := bindM_some e1
      obtain ⟨e4, rfl⟩ := liftM_some e3
      unfold dTup at e4
      split at e4
      · cases e4
        have l := hl _ _ _ _ e2
        match xs, l with
        | [u, v], _ =>
          cases has
          refine hq G α ow σ H ρ g [u, v] g2 _ s e2 fun vs H1 α1 x1 s1 r1 => ?_
          have l1 := r1.1
          match vs, l1 with
          | [p, q], _ =>
            refine ⟨p, q, rfl, ?_⟩
            have rs : RepSets (Al G.B α1 ow) α1 X.K H1 [(i, p), (j, q)] [(i, u), (j, v)] := by
              exact ⟨rfl, r1⟩
            obtain ⟨ow2, s2, z2⟩ := s1.sets rs
            exact w _ _ _ _ s2 (x1.fz.trans z2)
      · cases e4
    · cases e
  · cases e
/-- a, b, c = x, y, z of plain local names: the kit's rule stores from the right -/
theorem sc_par3 {i j l : Nat} {x y z : Str} {a b c : Expr} {fa : DA} {px py pz pt pos : Pos} {kt k2 pt2} (hc : X.calm = true) (hN : X.N.Nodup) (ha : AC X [a, b, c] fa) (hi : X.N[i]? = some x := by rfl) (hj : X.N[j]? = some y := by rfl) (hl : X.N[l]? = some z := by rfl) (hij : i ≠ j := by decide) (hil : i ≠ l := by decide) (hjl : j ≠ l := by decide)
    (hx : X.env.scope.names.lookup x = some .local := by rfl) (hy : X.env.scope.names.lookup y = some .local := by rfl) (hz : X.env.scope.names.lookup z = some .local := by rfl)
    (hw : swappedStores [.Tuple [.Name x px, .Name y py, .Name z pz] kt pt] (.Tuple [a, b, c] k2 pt2) X.env = pure (some [x, y, z]) := by rfl)
    (hs : swapsWithSole [.Tuple [.Name x px, .Name y py, .Name z pz] kt pt] (.Tuple [a, b, c] k2 pt2) pos.line X.env = pure false := by rfl) :
    SC X (.Assign [.Tuple [.Name x px, .Name y py, .Name z pz] kt pt] (.Tuple [a, b, c] k2 pt2) pos) (sUnp (eFn dTup fa) (tgTup (tgsCons (tgName i) (tgsCons (tgName j) (tgsCons (tgName l) tgsNil))))) := by
  have hll := ha.1
  obtain ⟨_, t, pt', hq⟩ := ha
  refine ⟨_, ps_par3 hc hN hi hj hl hij hil hjl hx hy hz pt' hw hs, fun G α ow σ H ρ g out g' Dn s e w => ?_⟩
  unfold sUnp at e
  split at e
  · rename_i d g1 e1
    split at e
    · rename_i as has
      cases e
      obtain ⟨xs, g2, e2, e3⟩ := bindM_some e1
      obtain ⟨e4, rfl⟩ := liftM_some e3
      unfold dTup at e4
      split at e4
      · cases e4
        have ll := hll _ _ _ _ e2
        match xs, ll with
        | [u, v, o], _ =>
          cases has
          refine hq G α ow σ H ρ g [u, v, o] g2 _ s e2 fun vs H1 α1 x1 s1 r1 => ?_
          have l1 := r1.1
          match vs, l1 with
          | [p, q, m], _ =>
            refine ⟨p, q, m, rfl, ?_⟩
            have rs : RepSets (Al G.B α1 ow) α1 X.K H1 [(i, p), (j, q), (l, m)] [(i, u), (j, v), (l, o)] := by
              exact ⟨rfl, r1⟩
            obtain ⟨ow2, s2, z2⟩ := s1.sets rs
            exact w _ _ _ _ s2 (x1.fz.trans z2)
      · cases e4
    · cases e
  · cases e
end
end L3

/-! L4i: zip of two tuples, the pairs known to the object. -/
namespace L3
open PySem PySem.Spec PyProof.Rows L2 TL
def ItzZ (K : PySem.W.Frag) (p q : Addr) : It where
  go := (RZ.ItzT K p q).go
  stop := (RZ.ItzT K p q).stop
  yld := fun n H v H2 => ∃ T o x y, v = .ref T ∧ H T = none ∧ TO o ∧ H2 = upd H T (.frz o (.tup [x, y])) ∧ (∀ l, SqT K H p l → l[n]? = some x) ∧ ∀ l, SqT K H q l → l[n]? = some y
section
variable {P : Program} {w : World} {K : PySem.W.Frag} {elts : List Expr} {kk : Nat} {tp : Pos} {p q z TI TO' i1 i2 : Addr}
theorem turn_zipZ (D : ZipApart z TI TO' i1 i2 p q) :
    Turn P w K (.Tuple elts kk tp) (ItzZ K p q) [z, TI, TO', i1, i2] z (fun n h => IsZip h z TI TO' .none ∧ IsPair h TI (.ref i1) (.ref i2) ∧ (∃ x y, IsPair h TO' x y) ∧ h.IsTupleIter i1 p n ∧ h.IsTupleIter i2 q n) where
  mem := (RZ.turn_zipT (P := P) (w := w) (K := K) (elts := elts) (kk := kk) (tpos := tp) D).mem
  obj := (RZ.turn_zipT (P := P) (w := w) (K := K) (elts := elts) (kk := kk) (tpos := tp) D).obj
  keep := (RZ.turn_zipT (P := P) (w := w) (K := K) (elts := elts) (kk := kk) (tpos := tp) D).keep
  done := (RZ.turn_zipT (P := P) (w := w) (K := K) (elts := elts) (kk := kk) (tpos := tp) D).done
  self := (RZ.turn_zipT (P := P) (w := w) (K := K) (elts := elts) (kk := kk) (tpos := tp) D).self
  item := by
    intro X eP ew eK cm n pins s σ H E I fk ⟨z1, z2, ⟨u0, v0, z3⟩, z4, z5⟩ ⟨xs, ys, x, y, sx, sy, gx, gy⟩
    subst eP ew eK
    obtain ⟨l1, rv1, t1, _⟩ := I.tuple sx
    obtain ⟨l2, rv2, t2, _⟩ := I.tuple sy
    obtain ⟨u, hu, ru⟩ := rv1.get gx
    obtain ⟨v, hv, rv⟩ := rv2.get gy
    have zl := Heap.lt_size z1
    have ff : ∀ c ∈ [z, TI, TO', i1, i2], c < s.heap.objs.size := by
      obtain ⟨_, q4, _⟩ := id z4
      obtain ⟨_, q5, _⟩ := id z5
      have a2 := Heap.lt_size z2
      have a3 := Heap.lt_size z3
      have a4 := Heap.lt_size q4
      have a5 := Heap.lt_size q5
      simp only [List.mem_cons, List.not_mem_nil, or_false]
      rintro c (rfl | rfl | rfl | rfl | rfl) <;> assumption
    refine RZ.pyNext_zipT_item D z1 z2 z3 z4 z5 t1 t2 (x := u) (y := v) (by simpa using hu) (by simpa using hv) fun h1 y1 y3 y4 y5 nT _ kp => ?_
    refine ⟨_, rfl, wpAny_letOwnedTupleGo_zip (s := { s with heap := h1 }) y1 fun h2 w1 sb => ?_⟩
    have oT : h2.get? s.heap.objs.size = some { cls := .type "tuple", data := .seq #[u, v] } := (sb.2 _ (Nat.ne_of_gt zl)).trans nT
    have I2 : Inv X pins σ (upd H s.heap.objs.size (.frz { cls := .type "tuple", data := .seq #[u, v] } (.tup [x, y]))) { s with heap := h2 } := by
      refine I.turnedNew (t' := s.toks) (ch := [z, TI, TO', i1, i2]) (fun c o nc g => ?_) fk (Nat.le_refl _) ⟨oT, by show 2 ≤ sizeLine; decide, [u, v], .cons ru (.cons rv .nil), ⟨_, oT, rfl, _, rfl⟩⟩
      simp only [List.mem_cons, List.not_mem_nil, or_false, not_or] at nc
      exact (sb.2 c nc.1).trans (kp c o nc.1 nc.2.2.1 nc.2.2.2.1 nc.2.2.2.2 g)
    refine ⟨.ref s.heap.objs.size, _, I2, rfl, ⟨_, _, x, y, rfl, I.hok.fresh (Nat.le_refl _), ⟨rfl, rfl, rfl⟩, rfl, fun l hl => ?_, fun l hl => ?_⟩, ⟨w1, ?_, ⟨u, v, ?_⟩, ?_, ?_⟩, fun c hc => ?_⟩
    · rw [I.tuple_inj hl sx]
      exact gx
    · rw [I.tuple_inj hl sy]
      exact gy
    · exact (sb.2 TI D.TIz).trans (kp TI _ D.TIz D.TITO D.TIi1 D.TIi2 z2)
    · exact (sb.2 TO' D.TOz).trans y3
    · exact y4.at fun o g => (sb.2 i1 D.i1z).trans g
    · exact y5.at fun o g => (sb.2 i2 D.i2z).trans g
    · rw [upd_ne (Nat.ne_of_lt (ff c hc))]
      exact (fk c hc).1
end
def iZipZ (K : PySem.W.Frag) (ta : TA) : TI := fun σ H R => ta σ H fun vs H1 => ∃ p q xs ys, vs = [.ref p, .ref q] ∧ SqT K H1 p xs ∧ SqT K H1 q ys ∧ R (ItzZ K p q) H1
section
variable {X : Cx} {e1 e2 : Expr} {p0 pos tp : Pos} {elts : List Expr} {kk : Nat}
theorem pi_zipZ {ta : TA} (hg : Gl X "zip") (hm : X.mg "zip" = none) (ha : PA X [e1, e2] ta) (ns : starEach [e1, e2] X.env = (false, eval e1 X.env) :: starEach [e2] X.env := by rfl) (np : (backTo pos (starEach [e2] X.env)).any (·.1) = false := by rfl) :
    PI X (.Tuple elts kk tp) (.Call (.Name "zip" p0) [e1, e2] [] pos) (iZipZ X.K ta) := by
  refine ⟨fun pins s σ H R I h => Call_ (ld_blt I hg hm PyProof.Rows.boot_zip (PyProof.Rows.callWith_type1 (thn (ha.run pos pins s σ H _ I h) fun us s1 ⟨vs, H1, I1, r1, q1⟩ => ?_) ns np))⟩
  obtain ⟨p, q, xs, ys, rfl, sx, sy, q1⟩ := q1
  obtain ⟨u1, u2, rfl, ra, rb⟩ : ∃ u1 u2, us = [u1, u2] ∧ RelV (.ref p) u1 ∧ RelV (.ref q) u2 := by
    cases r1 with
    | cons c1 c2 => cases c2 with | cons d1 d2 => cases d2; exact ⟨_, _, rfl, c1, d1⟩
  cases ra
  cases rb
  obtain ⟨l1, rv1, t1, _⟩ := I1.tuple sx
  obtain ⟨l2, rv2, t2, _⟩ := I1.tuple sy
  obtain ⟨o1, g1, _⟩ := id t1
  obtain ⟨o2, g2, _⟩ := id t2
  generalize hb : s1.heap.objs.size = B at *
  refine RZ.call_zipT (show s1.heap.IsTuple p l1.toArray from t1) (show s1.heap.IsTuple q l2.toArray from t2) fun h2 y1 y2 y3 y4 y5 _ kp => wpAny_pyIter_zip y1 ?_
  refine ⟨B + 4, [B + 4, B + 2, B + 3, B, B + 1], _, _, H1, by rw [hb], I1.kept (t' := s1.toks) kp, turn_zipZ (PySem.W.ktu_apart B p q (hb ▸ Heap.lt_size g1) (hb ▸ Heap.lt_size g2)), ?_, fun c hc => ?_, q1⟩
  · exact hb ▸ ⟨y1, y2, ⟨_, _, y3⟩, y4, y5⟩
  · have le : s1.heap.objs.size ≤ c := by
      rw [hb]
      simp only [List.mem_cons, List.not_mem_nil, or_false] at hc
      rcases hc with rfl | rfl | rfl | rfl | rfl <;> omega
    exact I1.fpOk le (I1.hok.fresh le)
def twoD (x y : D) : D := .tup [x, y]
def dZip : List D → Option (List D)
  | [.tup xs, .tup ys] => some (List.zipWith twoD xs ys)
  | _ => none
theorem ST.fzb {B B' : Addr → Prop} {α α' : List Addr} {ow ow' : Nat → Option Addr} {K : PySem.W.Frag} {H H' : Hp} {a : Addr} {l : List V} (h : ST (Al B α ow) K H a l) (z : FzB B α ow H B' α' ow' H') : SqT K H' a l := by
  rcases h with ⟨ha, o, ho, h⟩ | h
  · exact .inl (Rd.fzb z ha (.inr ⟨o, h⟩))
  · exact ST.sq (A := fun _ => True) (.inr h)
theorem dZip_tt (xs ys : List D) : dZip [.tup xs, .tup ys] = some (List.zipWith twoD xs ys) := rfl
theorem ic_zip {fa : DA} (hm : X.mg "zip" = none) (ha : AC X [e1, e2] fa) (hg : Gl X "zip" := by rfl) (ns : starEach [e1, e2] X.env = (false, eval e1 X.env) :: starEach [e2] X.env := by rfl) (np : (backTo pos (starEach [e2] X.env)).any (·.1) = false := by rfl) :
    IC X (.Tuple elts kk tp) (.Call (.Name "zip" p0) [e1, e2] [] pos) (aFn dZip fa) := by
  obtain ⟨_, t, pt, hq⟩ := ha
  refine ⟨_, pi_zipZ hg hm pt ns np, fun G α ow σ H ρ g ds g' R s e w => ?_⟩
  obtain ⟨as, g1, e1, e2⟩ := bindM_some e
  obtain ⟨e3, rfl⟩ := liftM_some e2
  unfold dZip at e3
  split at e3
  · rename_i xs ys
    cases e3
    refine hq G α ow σ H ρ g _ g1 _ s e1 fun vs H1 α1 x1 s1 r1 => ?_
    have l1 := r1.1
    match vs, l1 with
    | [v1, v2], _ =>
      have ra := r1.2 0 v1 _ rfl rfl
      have rb := r1.2 1 v2 _ rfl rfl
      cases ra with
      | tup ha hla hia =>
        cases rb with
        | tup hb hlb hib =>
          rename_i vx _ vy _
          refine ⟨_, _, vx, vy, rfl, ha.sq, hb.sq, w _ H1 α1 x1 s1 fun G2 α2 ow2 σ2 H2 ρ2 g2 i s2 z => ⟨fun hi => ?_, fun d hd => ?_⟩⟩
          · rw [List.length_zipWith] at hi
            refine ⟨vx, vy, ha.fzb z, hb.fzb z, ?_⟩
            rw [hla, hlb]
            omega
          · rw [List.getElem?_zipWith] at hd
            cases ex : xs[i]? with
            | none => rw [ex] at hd; cases hd
            | some dx =>
              cases ey : ys[i]? with
              | none => rw [ex, ey] at hd; cases hd
              | some dy =>
                rw [ex, ey] at hd
                cases hd
                obtain ⟨v, hv, rv⟩ := RepAll.get (show RepAll _ _ _ _ vx _ from ⟨hla, hia⟩) ex
                obtain ⟨u, hu, ru⟩ := RepAll.get (show RepAll _ _ _ _ vy _ from ⟨hlb, hib⟩) ey
                refine ⟨⟨vx, vy, v, u, ha.fzb z, hb.fzb z, hv, hu⟩, fun y H3 hy => ?_⟩
                obtain ⟨T, o, x', y', rfl, hT, ho, rfl, f1, f2⟩ := hy
                have ev : x' = v := Option.some.inj ((f1 vx (ha.fzb z)).symm.trans hv)
                have eu : y' = u := Option.some.inj ((f2 vy (hb.fzb z)).symm.trans hu)
                subst ev eu
                exact ⟨Ext.new hT, s2.new hT, s2.newT hT ho (RepAll.cons (rv.mono z.1 z.2) (RepAll.one (ru.mono z.1 z.2)))⟩
  · cases e3
end
end L3

/-! L4j: an owned list takes over a sequence's items (extend), takes one in between (insert), gives one away (pop). -/
namespace L3
open PySem PySem.Spec PyProof.Rows L2 TL
section
variable {X : Cx}
def rExtT (K : PySem.W.Frag) : V → List V → Hp → VK → Prop := fun x vs H Q => ∃ l b xs zs, x = .ref l ∧ vs = [.ref b] ∧ H l = some (.lst xs) ∧ SqZ K H b zs ∧ xs.length + zs.length ≤ sizeLine ∧ Q .non (upd H l (.lst (xs ++ zs)))
theorem plainTS {pins : List (Addr × Obj)} {σ : L2.St} {H : Hp} {s : Shared} {a : Addr} {xs : List V} (I : Inv X pins σ H s) (h : SqZ X.K H a xs) : ∃ (its : List Value) (n : Nat), Vals xs its ∧ s.heap.get? a = some { cls := .type "tuple", dict := none, data := .seq its.toArray n, slots := #[] } ∧ xs.length ≤ sizeLine := by
  rcases h with ⟨o, ⟨h1, h2, h3⟩, h⟩ | ⟨o, its, n, hk, ⟨h1, h2, h3⟩, h4, h5, h6⟩
  · obtain ⟨hg, hz, its, r, o', ho', hc', n, hd'⟩ := I.hok a _ h
    rw [hg] at ho'
    cases ho'
    refine ⟨its, n, r, ?_, hz⟩
    rw [hg]
    obtain ⟨c, d, dt, sl⟩ := o
    cases h1; cases h2; cases h3; cases hd'
    rfl
  · refine ⟨its.toList, n, h6, ?_, ?_⟩
    · rw [I.kIn a o hk]
      obtain ⟨c, d, dt, sl⟩ := o
      cases h1; cases h2; cases h3; cases h4
      simp
    · rw [h6.length, Array.length_toList]
      exact h5
theorem mt_extT : MtR X "list.extend" (rExtT X.K) := by
  intro pins s σ H x vs v us Q I rx rv h
  obtain ⟨l, b, xs, zs, rfl, rfl, hH, hB, hz, q⟩ := h
  cases rx
  obtain ⟨u, rfl, ru⟩ := rv.one
  cases ru
  obtain ⟨z, l1, n, r, hl, e⟩ := I.lstM hH
  obtain ⟨l2, n2, r2, e2, _⟩ := plainTS I hB
  have k1 := r.length
  have k2 := r2.length
  have sz : l1.toArray.size + l2.toArray.size ≤ sizeLine := by simp only [List.size_toArray]; omega
  have nl : ¬ (!l1.toArray.isEmpty && Builtin.List.listTooLong (l1.toArray.size + l2.toArray.size)) = true := by
    rw [notLongL sz, Bool.and_false]
    decide
  refine call_meets F.slot_list_extend ⟨_, e, rfl⟩ F.entry_list_extend (F.args_list_extend_2 _ _) (AutoSeq1.list_extend_list_tuple_0 l l1.toArray n b l2.toArray n2 nl (by simp only [List.size_toArray] at sz ⊢; omega) (by omega)) ⟨e, e2, ?_⟩
  exact ⟨.non, _, I.lset (its' := l1 ++ l2) hH e (by simp) (r.append r2) (by rw [List.length_append]; exact hz), rfl, q⟩
end
def sExt (i : Nat) (f : DE) : DS := fun ρ g => match ρ[i]? with
  | some (some (.own xs)) => match f ρ g with
    | some (.tup ys, g1) => if xs.length + ys.length ≤ BIG then some (.nx (ρ.set i (some (.own (xs ++ ys)))), g1) else none
    | _ => none
  | _ => none
section
variable {X : Cx} {e : Expr} {fe : DE} {pos : Pos}
theorem sc_ext {i : Nat} {x : Str} {p1 p2 p3 : Pos} (he : EC X e fe) (hN : X.N[i]? = some x := by rfl) (hv : Vis X.env.scope x := by first | exact Or.inl rfl | exact Or.inr (Or.inl rfl) | exact Or.inr (Or.inr rfl)) (hd : (x == ("__debug__" : Str)) = false := by decide) (hcd : (x == ("__classdict__" : Str)) = false := by decide)
    (hs1 : starEach [e] X.env = (false, eval e X.env) :: starEach [] X.env := by rfl)
    (hbase : attributeBase (.Name x p1) "extend" X.env (eval (.Name x p1) X.env) = eval (.Name x p1) X.env := by rfl)
    (hfew : ((backTo p3 (starEach [e] X.env)).all (fun x => !x.1) && (backToKw p3 (keywordEach [] X.env)).all (fun x => x.1.isSome)
      && decide ([e].length + ([] : List Keyword).length + (if ([] : List Keyword).isEmpty then 0 else 1) < 30)) = true := by rfl)
    (hline : (p2.endLine == p3.line) = true := by rfl) (hplain : (backTo p3 (starEach [] X.env)).any (·.1) = false := by rfl)
    (hs : swapsWith (.Call (.Attribute (.Name x p1) "extend" p2) [e] [] p3) none pos.line X.env = pure false := by rfl) :
    SC X (.Expr (.Call (.Attribute (.Name x p1) "extend" p2) [e] [] p3) pos) (sExt i fe) := by
  obtain ⟨t, pt, hq⟩ := he
  refine ⟨_, ps_expr (pe_bm PySem.F.plainAttrs_list PySem.F.slot_list_extend PySem.F.type_list_extend mt_extT (pe_var hN hv hd hcd) (pa_cons pt pa_nil hs1) hbase hfew hline hs1 hplain) hs, fun G α ow σ H ρ g out g' Dn s e p => ?_⟩
  unfold sExt at e
  split at e
  · rename_i xs hx
    split at e
    · rename_i ys g1 e1
      split at e
      · rename_i hl
        cases e
        obtain ⟨a, vs, h1, h2, h3, h4⟩ := s.slot i _ hx
        refine ⟨_, h2, .inl ⟨rfl, vs, .inl (.inl h3)⟩, ?_⟩
        refine hq G α ow σ H ρ g _ g' _ s e1 fun v H1 α1 x1 s1 r1 => ?_
        have h3' := x1.1 a _ h3 (s.own i a h1).2.1
        cases r1 with
        | tup ht hlt hit =>
          have r2 := (h4.ext x1).append (show RepAll _ _ _ _ _ _ from ⟨hlt, hit⟩)
          refine ⟨a, _, vs, _, rfl, rfl, h3', ht.z, ?_, ?_⟩
          · rw [h4.1, hlt]
            exact Nat.le_trans hl big_line
          · have m := s1.mut (xs := xs) h1 (List.getElem?_eq_some_iff.mp hx).1 h2 r2
            exact p _ _ _ _ m.1 (x1.fz.trans m.2)
      · cases e
    · cases e
  · cases e
end
theorem ok_sExt {ρ : Env3} {g : Store} (i : Nat) (f : DE) (Q : Out → Store → Prop) : Ok (sExt i f ρ g) Q ↔ OkO (ownOf ρ[i]?) fun xs => Ok (f ρ g) fun d g1 => ∃ ys, d = .tup ys ∧ xs.length + ys.length ≤ BIG ∧ Q (.nx (ρ.set i (some (.own (xs ++ ys))))) g1 := by
  constructor
  · rintro ⟨o, g1, e, q⟩
    unfold sExt at e
    split at e
    · rename_i xs hx
      split at e
      · rename_i ys g2 e1
        split at e
        · rename_i hl
          cases e
          exact ⟨xs, by rw [hx]; rfl, _, _, e1, ys, rfl, hl, q⟩
        · cases e
      · cases e
    · cases e
  · rintro ⟨xs, hx, d, g1, e1, ys, rfl, hl, q⟩
    refine ⟨_, g1, ?_, q⟩
    unfold sExt
    have : ρ[i]? = some (some (.own xs)) := by
      revert hx
      generalize ρ[i]? = o
      intro hx
      unfold ownOf at hx
      split at hx
      · cases hx; rfl
      · cases hx
    rw [this]
    dsimp only
    rw [e1]
    dsimp only
    rw [if_pos hl]
end L3

/-! L4k: an owned list takes one in between (insert), gives one away (pop), has one put in place (xs[i] = e). -/
namespace L3
open PySem PySem.Spec PyProof.Rows L2 TL
def sIns (i : Nat) (fa : DA) : DS := fun ρ g => match ρ[i]? with
  | some (some (.own xs)) => match fa ρ g with
    | some ([.int k, d], g1) => if (0 ≤ k ∧ k ≤ 1000000) ∧ xs.length < BIG then some (.nx (ρ.set i (some (.own (xs.take k.toNat ++ [d] ++ xs.drop k.toNat)))), g1) else none
    | _ => none
  | _ => none
def sPopI (i : Nat) (f : DE) : DS := fun ρ g => match ρ[i]? with
  | some (some (.own xs)) => match f ρ g with
    | some (.int k, g1) => if (0 ≤ k ∧ k < xs.length) ∧ k ≤ 1000000 then some (.nx (ρ.set i (some (.own (xs.eraseIdx k.toNat)))), g1) else none
    | _ => none
  | _ => none
section
variable {X : Cx} {e e2 : Expr} {fe : DE} {fa : DA} {pos : Pos}
theorem RepAll.eraseIdx {A : Addr → Prop} {α : List Addr} {K : PySem.W.Frag} {H : Hp} {vs : List V} {ds : List D} (h : RepAll A α K H vs ds) (k : Nat) : RepAll A α K H (vs.eraseIdx k) (ds.eraseIdx k) := by
  rw [List.eraseIdx_eq_take_drop_succ, List.eraseIdx_eq_take_drop_succ]
  exact (h.take k).append (h.drop (k + 1))
theorem sc_ins {i : Nat} {x : Str} {p1 p2 p3 : Pos} (ha : AC X [e, e2] fa) (hN : X.N[i]? = some x := by rfl) (hv : Vis X.env.scope x := by first | exact Or.inl rfl | exact Or.inr (Or.inl rfl) | exact Or.inr (Or.inr rfl)) (hd : (x == ("__debug__" : Str)) = false := by decide) (hcd : (x == ("__classdict__" : Str)) = false := by decide)
    (hs1 : starEach [e, e2] X.env = (false, eval e X.env) :: starEach [e2] X.env := by rfl)
    (hbase : attributeBase (.Name x p1) "insert" X.env (eval (.Name x p1) X.env) = eval (.Name x p1) X.env := by rfl)
    (hfew : ((backTo p3 (starEach [e, e2] X.env)).all (fun x => !x.1) && (backToKw p3 (keywordEach [] X.env)).all (fun x => x.1.isSome)
      && decide ([e, e2].length + ([] : List Keyword).length + (if ([] : List Keyword).isEmpty then 0 else 1) < 30)) = true := by rfl)
    (hline : (p2.endLine == p3.line) = true := by rfl) (hplain : (backTo p3 (starEach [e2] X.env)).any (·.1) = false := by rfl)
    (hs : swapsWith (.Call (.Attribute (.Name x p1) "insert" p2) [e, e2] [] p3) none pos.line X.env = pure false := by rfl) :
    SC X (.Expr (.Call (.Attribute (.Name x p1) "insert" p2) [e, e2] [] p3) pos) (sIns i fa) := by
  obtain ⟨_, t, pt, hq⟩ := ha
  refine ⟨_, ps_expr (pe_bm PySem.F.plainAttrs_list PySem.F.slot_list_insert PySem.F.type_list_insert mt_insert (pe_var hN hv hd hcd) pt hbase hfew hline hs1 hplain) hs, fun G α ow σ H ρ g out g' Dn s e p => ?_⟩
  unfold sIns at e
  split at e
  · rename_i xs hx
    split at e
    · rename_i k d g1 e1
      split at e
      · rename_i hl
        cases e
        obtain ⟨a, vs, h1, h2, h3, h4⟩ := s.slot i _ hx
        refine ⟨_, h2, .inl ⟨rfl, vs, .inl (.inl h3)⟩, ?_⟩
        refine hq G α ow σ H ρ g _ g' _ s e1 fun us H1 α1 x1 s1 r1 => ?_
        have h3' := x1.1 a _ h3 (s.own i a h1).2.1
        match us, r1.1 with
        | [v1, v2], _ =>
          have ra := r1.2 0 v1 _ rfl rfl
          have rb := r1.2 1 v2 _ rfl rfl
          cases ra
          have r2 := (((h4.ext x1).take k.toNat).append (RepAll.one rb)).append ((h4.ext x1).drop k.toNat)
          refine ⟨a, vs, k, v2, rfl, rfl, h3', by rw [h4.1]; exact Nat.lt_of_lt_of_le hl.2 big_line, hl.1.1, by omega, ?_⟩
          have m := s1.mut (xs := xs) h1 (List.getElem?_eq_some_iff.mp hx).1 h2 r2
          exact p _ _ _ _ m.1 (x1.fz.trans m.2)
      · cases e
    · cases e
  · cases e
theorem sc_popI {i : Nat} {x : Str} {p1 p2 p3 : Pos} (he : EC X e fe) (hN : X.N[i]? = some x := by rfl) (hv : Vis X.env.scope x := by first | exact Or.inl rfl | exact Or.inr (Or.inl rfl) | exact Or.inr (Or.inr rfl)) (hd : (x == ("__debug__" : Str)) = false := by decide) (hcd : (x == ("__classdict__" : Str)) = false := by decide)
    (hs1 : starEach [e] X.env = (false, eval e X.env) :: starEach [] X.env := by rfl)
    (hbase : attributeBase (.Name x p1) "pop" X.env (eval (.Name x p1) X.env) = eval (.Name x p1) X.env := by rfl)
    (hfew : ((backTo p3 (starEach [e] X.env)).all (fun x => !x.1) && (backToKw p3 (keywordEach [] X.env)).all (fun x => x.1.isSome)
      && decide ([e].length + ([] : List Keyword).length + (if ([] : List Keyword).isEmpty then 0 else 1) < 30)) = true := by rfl)
    (hline : (p2.endLine == p3.line) = true := by rfl) (hplain : (backTo p3 (starEach [] X.env)).any (·.1) = false := by rfl)
    (hs : swapsWith (.Call (.Attribute (.Name x p1) "pop" p2) [e] [] p3) none pos.line X.env = pure false := by rfl) :
    SC X (.Expr (.Call (.Attribute (.Name x p1) "pop" p2) [e] [] p3) pos) (sPopI i fe) := by
  obtain ⟨t, pt, hq⟩ := he
  refine ⟨_, ps_expr (pe_bm PySem.F.plainAttrs_list PySem.F.slot_list_pop PySem.F.type_list_pop mt_popAt (pe_var hN hv hd hcd) (pa_cons pt pa_nil hs1) hbase hfew hline hs1 hplain) hs, fun G α ow σ H ρ g out g' Dn s e p => ?_⟩
  unfold sPopI at e
  split at e
  · rename_i xs hx
    split at e
    · rename_i k g1 e1
      split at e
      · rename_i hl
        cases e
        obtain ⟨a, vs, h1, h2, h3, h4⟩ := s.slot i _ hx
        refine ⟨_, h2, .inl ⟨rfl, vs, .inl (.inl h3)⟩, ?_⟩
        refine hq G α ow σ H ρ g _ g' _ s e1 fun v H1 α1 x1 s1 r1 => ?_
        have h3' := x1.1 a _ h3 (s.own i a h1).2.1
        cases r1
        have hk : k.toNat < vs.length := by rw [h4.1]; omega
        refine ⟨a, vs, k, k.toNat, vs[k.toNat], rfl, rfl, h3', by omega, ?_, ?_, List.getElem?_eq_getElem hk, ?_⟩
        · omega
        · have nk : ¬ k < 0 := by omega
          have hk2 : k < (vs.length : Int) := by rw [h4.1]; exact hl.1.2
          unfold seqIndex?
          simp only [if_neg nk]
          rw [if_pos (by simp only [Bool.and_eq_true, decide_eq_true_eq]; exact ⟨hl.1.1, hk2⟩)]
        · have r2 := (h4.ext x1).eraseIdx k.toNat
          have m := s1.mut (xs := xs) h1 (List.getElem?_eq_some_iff.mp hx).1 h2 r2
          exact p _ _ _ _ m.1 (x1.fz.trans m.2)
      · cases e
    · cases e
  · cases e
end
theorem own_at {ρ : Env3} {i : Nat} {xs : List D} (hx : ownOf ρ[i]? = some xs) : ρ[i]? = some (some (.own xs)) := by
  revert hx
  generalize ρ[i]? = o
  intro hx
  unfold ownOf at hx
  split at hx
  · cases hx; rfl
  · cases hx
theorem ok_sIns {ρ : Env3} {g : Store} (i : Nat) (f : DA) (Q : Out → Store → Prop) : Ok (sIns i f ρ g) Q ↔ OkO (ownOf ρ[i]?) fun xs => Ok (f ρ g) fun ds g1 => ∃ k d, ds = [.int k, d] ∧ ((0 ≤ k ∧ k ≤ 1000000) ∧ xs.length < BIG) ∧ Q (.nx (ρ.set i (some (.own (xs.take k.toNat ++ [d] ++ xs.drop k.toNat))))) g1 := by
  constructor
  · rintro ⟨o, g1, e, q⟩
    unfold sIns at e
    split at e
    · rename_i xs hx
      split at e
      · rename_i k d g2 e1
        split at e
        · rename_i hl
          cases e
          exact ⟨xs, by rw [hx]; rfl, _, _, e1, k, d, rfl, hl, q⟩
        · cases e
      · cases e
    · cases e
  · rintro ⟨xs, hx, ds, g1, e1, k, d, rfl, hl, q⟩
    refine ⟨_, g1, ?_, q⟩
    unfold sIns
    rw [own_at hx]
    dsimp only
    rw [e1]
    dsimp only
    rw [if_pos hl]
theorem ok_sPopI {ρ : Env3} {g : Store} (i : Nat) (f : DE) (Q : Out → Store → Prop) : Ok (sPopI i f ρ g) Q ↔ OkO (ownOf ρ[i]?) fun xs => Ok (f ρ g) fun d g1 => ∃ k, d = .int k ∧ ((0 ≤ k ∧ k < xs.length) ∧ k ≤ 1000000) ∧ Q (.nx (ρ.set i (some (.own (xs.eraseIdx k.toNat))))) g1 := by
  constructor
  · rintro ⟨o, g1, e, q⟩
    unfold sPopI at e
    split at e
    · rename_i xs hx
      split at e
      · rename_i k g2 e1
        split at e
        · rename_i hl
          cases e
          exact ⟨xs, by rw [hx]; rfl, _, _, e1, k, rfl, hl, q⟩
        · cases e
      · cases e
    · cases e
  · rintro ⟨xs, hx, d, g1, e1, k, rfl, hl, q⟩
    refine ⟨_, g1, ?_, q⟩
    unfold sPopI
    rw [own_at hx]
    dsimp only
    rw [e1]
    dsimp only
    rw [if_pos hl]
def sSetI (i : Nat) (fk fe : DE) : DS := fun ρ g => match fe ρ g with
  | some (d, g1) => match ρ[i]? with
    | some (some (.own xs)) => match fk ρ g1 with
      | some (.int k, g2) => match ixN xs.length k with
        | some j => some (.nx (ρ.set i (some (.own (xs.set j d)))), g2)
        | none => none
      | _ => none
    | _ => none
  | none => none
section
variable {X : Cx} {e b : Expr} {fe fb : DE} {pos : Pos}
theorem sc_setI {i : Nat} {x : Str} {p1 p2 : Pos} (he : EC X e fe) (hb : EC X b fb) (hN : X.N[i]? = some x := by rfl) (hv : Vis X.env.scope x := by first | exact Or.inl rfl | exact Or.inr (Or.inl rfl) | exact Or.inr (Or.inr rfl)) (hd : (x == ("__debug__" : Str)) = false := by decide) (hcd : (x == ("__classdict__" : Str)) = false := by decide)
    (has : ∀ v, assign (.Subscript (.Name x p1) b p2) X.env v = (do
      let ov ← holding [v] (eval (.Name x p1) X.env)
      let iv ← holding [v, ov] (eval b X.env)
      standAt p2
      holding [v, ov, iv] (setItem ov iv v)
      release [v, ov, iv] []) := by intro _; rfl)
    (hs : swapsWithSole [.Subscript (.Name x p1) b p2] e pos.line X.env = pure false := by rfl) (hw : swappedStores [.Subscript (.Name x p1) b p2] e X.env = pure none := by rfl)
    (h1 : (assignEach [.Subscript (.Name x p1) b p2] X.env).map (·.2) = [assign (.Subscript (.Name x p1) b p2) X.env] := by rfl) : SC X (.Assign [.Subscript (.Name x p1) b p2] e pos) (sSetI i fb fe) := by
  obtain ⟨te, pe, qe⟩ := he
  obtain ⟨tb, pb, qb⟩ := hb
  refine ⟨_, ps_asg pe (pg_sub (pe_var hN hv hd hcd) pb set_list has) hs hw h1, fun G α ow σ H ρ g out g' Dn s e w => ?_⟩
  unfold sSetI at e
  split at e
  · rename_i d g1 e1
    split at e
    · rename_i xs hx
      split at e
      · rename_i k g2 e2
        split at e
        · rename_i j hj
          cases e
          refine qe G α ow σ H ρ g d g1 _ s e1 fun v H1 α1 x1 s1 r1 => ?_
          obtain ⟨a, vs, o1, o2, o3, o4⟩ := s1.slot i _ hx
          refine ⟨_, o2, ?_⟩
          refine qb G α1 ow σ H1 ρ g1 _ g' _ s1 e2 fun kv H2 α2 x2 s2 r2 => ?_
          cases r2
          have o3' := x2.1 a _ o3 (s1.own i a o1).2.1
          have r3 := (o4.ext x2).set j (r1.ext x2)
          refine ⟨a, vs, k, j, rfl, rfl, o3', by rw [o4.1]; exact hj, ?_⟩
          have m := s2.mut (xs := xs) o1 (List.getElem?_eq_some_iff.mp hx).1 o2 r3
          exact w _ _ _ _ m.1 ((x1.trans x2).fz.trans m.2)
        · cases e
      · cases e
    · cases e
  · cases e
end
theorem ok_sSetI {ρ : Env3} {g : Store} (i : Nat) (fk fe : DE) (Q : Out → Store → Prop) : Ok (sSetI i fk fe ρ g) Q ↔ Ok (fe ρ g) fun d g1 => OkO (ownOf ρ[i]?) fun xs => Ok (fk ρ g1) fun y g2 => ∃ k, y = .int k ∧ OkO (ixN xs.length k) fun j => Q (.nx (ρ.set i (some (.own (xs.set j d))))) g2 := by
  constructor
  · rintro ⟨o, g1, e, q⟩
    unfold sSetI at e
    split at e
    · rename_i d g2 e1
      split at e
      · rename_i xs hx
        split at e
        · rename_i k g3 e2
          split at e
          · rename_i j hj
            cases e
            exact ⟨_, _, e1, xs, by rw [hx]; rfl, _, _, e2, k, rfl, j, hj, q⟩
          · cases e
        · cases e
      · cases e
    · cases e
  · rintro ⟨d, g1, e1, xs, hx, y, g2, e2, k, rfl, j, hj, q⟩
    refine ⟨_, g2, ?_, q⟩
    unfold sSetI
    rw [e1]
    dsimp only
    rw [own_at hx]
    dsimp only
    rw [e2]
    dsimp only
    rw [hj]
end L3

/-! L4l: dict comprehensions. -/
namespace L3
open PySem PySem.Spec PyProof.Rows L2 TL
section
variable {K : PySem.W.Frag} {G : Gh} {α α' : List Addr} {ow : Nat → Option Addr} {σ : L2.St} {H H' : Hp} {ρ : Env3} {g g' : Store} {i : Nat}
theorem Sat.shutO (s : Sat K G α ow σ H ρ g) {p : Addr} (hp : H p = none) (ob : HO) : Sat K ⟨fun a => G.B a ∨ a = p, G.H0, G.α0⟩ α ow σ (upd H p ob) ρ g := by
  have ne : ∀ {a : Addr} {o : HO}, H a = some o → a ≠ p := fun e => ne_of_none e hp
  have hA : ∀ a (o : HO), Al G.B α ow a → H a = some o → Al (fun a => G.B a ∨ a = p) α ow a ∧ upd H p ob a = some o := fun a o h e => ⟨⟨h.1, fun z => z.elim h.2.1 (ne e), h.2.2⟩, by rw [upd_ne (ne e)]; exact e⟩
  have al := s.al hp
  refine ⟨s.ext.trans (Ext.new hp), fun a h => ?_, s.len, s.gok.mono hA fun a o _ e => by rw [upd_ne (ne e)]; exact e, fun j a h => ?_, s.oinj, fun j x hx => ?_⟩
  · rcases h with h | h
    · obtain ⟨⟨o, h1⟩, h2⟩ := s.blk a h
      exact ⟨⟨o, by rw [upd_ne (ne h1)]; exact h1⟩, h2⟩
    · rw [h]
      exact ⟨⟨_, upd_same⟩, al.1⟩
  · obtain ⟨h1, h2, h3, ⟨o, h4⟩, h5⟩ := s.own j a h
    exact ⟨h1, h2, fun z => z.elim h3 (ne h4), ⟨o, by rw [upd_ne (ne h4)]; exact h4⟩, h5⟩
  · exact (s.slot j x hx).mono hA fun a u _ e => by rw [upd_ne (ne e)]; exact e
theorem Sat.shutMutO {p : Addr} (s : Sat K ⟨fun a => G.B a ∨ a = p, G.H0, G.α0⟩ α ow σ H ρ g) (h0 : G.H0 p = none) (ob : HO) : Sat K ⟨fun a => G.B a ∨ a = p, G.H0, G.α0⟩ α ow σ (upd H p ob) ρ g := by
  have hA : ∀ a (o : HO), Al (fun a => G.B a ∨ a = p) α ow a → H a = some o → Al (fun a => G.B a ∨ a = p) α ow a ∧ upd H p ob a = some o := fun a o h e => ⟨h, by rw [upd_ne fun z => h.2.1 (.inr z)]; exact e⟩
  have tr : ∀ {b : Addr}, (∃ o, H b = some o) → ∃ o, upd H p ob b = some o := fun {b} ⟨o, h⟩ => by
    by_cases e : b = p
    · rw [e]; exact ⟨_, upd_same⟩
    · exact ⟨o, by rw [upd_ne e]; exact h⟩
  have pn : p ∉ α := (s.blk p (.inr rfl)).2
  refine ⟨⟨fun b o h hn => ?_, s.ext.2.1, s.ext.2.2⟩, fun a h => ⟨tr (s.blk a h).1, (s.blk a h).2⟩, s.len, s.gok.mono hA fun a o ha e => by rw [upd_ne fun z => pn (by rw [← z]; exact ha)]; exact e, fun j a h => ?_, s.oinj, fun j x hx => ?_⟩
  · rw [upd_ne fun z => by rw [z] at h; rw [show (Gh.mk (fun a => G.B a ∨ a = p) G.H0 G.α0).H0 p = none from h0] at h; cases h]
    exact s.ext.1 b o h hn
  · obtain ⟨h1, h2, h3, h4, h5⟩ := s.own j a h
    exact ⟨h1, h2, h3, tr h4, h5⟩
  · exact (s.slot j x hx).mono hA fun a u ha e => by
      rw [upd_ne fun z => (s.own j a ha).2.2.1 (.inr z)]
      exact e
end
/-- a dict comprehension's pairs, put one behind another -/
def dcD (tg : D → Option (List (Nat × D))) (c : DT) (ek ev : DE) : List D → List (DKey × D) → DDc
  | [], acc, _, g => some (acc, g)
  | d :: ds, acc, ρ, g => match tg d with
    | none => none
    | some as => match c (sets ρ as) g with
      | some (true, g1) => match ek (sets ρ as) g1 with
        | some (kd, g2) => match dkOf kd with
          | some k => match ev (sets ρ as) g2 with
            | some (v, g3) => dcD tg c ek ev ds (putD acc k v) ρ g3
            | none => none
          | none => none
        | none => none
      | some (false, g1) => dcD tg c ek ev ds acc ρ g1
      | none => none
def cDc (it : DA) (vs : List Nat) (tg : D → Option (List (Nat × D))) (c : DT) (ek ev : DE) : DDc := fun ρ g => match it ρ g with
  | some (ds, g1) => if ds.length ≤ BIG ∧ noOwn ρ vs = true then dcD tg c ek ev ds [] (wipe3 ρ vs) g1 else none
  | none => none
theorem putD_le {β : Type} (kvs : List (DKey × β)) (k : DKey) (v : β) : (putD kvs k v).length ≤ kvs.length + 1 := by
  unfold putD
  split
  · rw [List.length_map]; omega
  · rw [List.length_append]; exact Nat.le_refl _
section
variable {X : Cx} {kx vx tg iter : Expr} {ifs : List Expr} {it : DA} {p : D → Option (List (Nat × D))} {fc : DT} {fk fv : DE} {pos : Pos} {scope : Scope} {own : List (Str × Nat)}
theorem dc_read {wi : TI} {g1 : TG} {tt : TT} {tk tv : TE} {vs : List Nat}
    (qi : ∀ G α ow σ H ρ g ds g' (R : It → Hp → Prop), Sat X.K G α ow σ H ρ g → it ρ g = some (ds, g') → (∀ J H' α', Ext α H α' H' → Sat X.K G α' ow σ H' ρ g' → WalkD X.K G.B α' ow H' J ds → R J H') → wi σ H R)
    (qg : ∀ A α σ H v d as Q, Rep A α X.K H v d → p d = some as → (∀ ws, RepSets A α X.K H ws as → Q (setsV σ ws) H) → g1 v σ H Q)
    (qt : ∀ G α ow σ H ρ g b g' Q, Sat X.K G α ow σ H ρ g → fc ρ g = some (b, g') → WantsT X.K G α ow σ H ρ g' b Q → tt σ H Q)
    (qk : ∀ G α ow σ H ρ g d g' Q, Sat X.K G α ow σ H ρ g → fk ρ g = some (d, g') → WantsG X.K G α ow σ H ρ g' d Q → tk σ H Q)
    (qv : ∀ G α ow σ H ρ g d g' Q, Sat X.K G α ow σ H ρ g → fv ρ g = some (d, g') → WantsG X.K G α ow σ H ρ g' d Q → tv σ H Q) (hv : TgIn p vs)
    {G α ow σ H ρ g ds g' Q} (s : Sat X.K G α ow σ H ρ g) (e : cDc it vs p fc fk fv ρ g = some (ds, g')) (w : WantsFD X.K G α ow σ H ρ g' ds Q) : tDc wi g1 tt tk tv vs σ H Q := by
  unfold cDc at e
  split at e
  · rename_i xs g1' e1
    split at e
    · rename_i hh
      obtain ⟨hbig, hno⟩ := hh
      refine qi G α ow σ H ρ g xs g1' _ s e1 fun J H1 α1 x1 s1 wk => fun Dp hD => ?_
      have hD0 : G.H0 Dp = none := s1.ext.fresh hD (s1.al hD).1
      have hDb : ¬ G.B Dp := (s1.al hD).2.1
      have s2 := (s1.shutO hD (.dK [])).wipe (vs := vs) hno
      have fz0 : ∀ a (o : HO), Al G.B α1 ow a → H1 a = some o → Al (fun a => G.B a ∨ a = Dp) α1 ow a ∧ upd H1 Dp (.dK []) a = some o := fun a o h e => ⟨⟨h.1, fun z => z.elim h.2.1 (ne_of_none e hD), h.2.2⟩, by rw [upd_ne (ne_of_none e hD)]; exact e⟩
      refine ⟨fun i m H2 => m = xs.length - i ∧ i ≤ xs.length ∧ ∃ α2 g2 kvs done, Sat X.K ⟨fun a => G.B a ∨ a = Dp, G.H0, G.α0⟩ α2 ow (L2.wipe σ vs) H2 (wipe3 ρ vs) g2 ∧
          FzB G.B α1 ow H1 (fun a => G.B a ∨ a = Dp) α2 ow H2 ∧ Ext α1 H1 α2 H2 ∧ H2 Dp = some (.dK kvs) ∧ RepKV (Al (fun a => G.B a ∨ a = Dp) α2 ow) α2 X.K H2 kvs done ∧ done.length ≤ i ∧ dcD p fc fk fv (xs.drop i) done (wipe3 ρ vs) g2 = some (ds, g'),
        ⟨xs.length, by simp, Nat.zero_le _, α1, g1', [], [], s2, ⟨fz0, List.prefix_refl _⟩, Ext.new hD, upd_same, RepKV.nil, Nat.le_refl _, e⟩, ?_⟩
      rintro i m H2 ⟨rfl, hi, α2, g2, kvs, done, s2, z2, x2, hacc, racc, hal, e2⟩
      have wk2 := wk _ α2 ow _ H2 _ g2 i s2 z2
      by_cases hlt : i < xs.length
      · have ed : xs[i]? = some xs[i] := List.getElem?_eq_getElem hlt
        obtain ⟨go, yl⟩ := wk2.2 _ ed
        rw [List.drop_eq_getElem_cons hlt] at e2
        refine .inr ⟨go, fun H3 => ∃ α3 g3 kvs done, Sat X.K ⟨fun a => G.B a ∨ a = Dp, G.H0, G.α0⟩ α3 ow (L2.wipe σ vs) H3 (wipe3 ρ vs) g3 ∧
          FzB G.B α1 ow H1 (fun a => G.B a ∨ a = Dp) α3 ow H3 ∧ Ext α1 H1 α3 H3 ∧ H3 Dp = some (.dK kvs) ∧ RepKV (Al (fun a => G.B a ∨ a = Dp) α3 ow) α3 X.K H3 kvs done ∧ done.length ≤ i + 1 ∧ dcD p fc fk fv (xs.drop (i + 1)) done (wipe3 ρ vs) g3 = some (ds, g'),
          fun H3 h3 => ⟨xs.length - (i + 1), by omega, rfl, hlt, h3⟩, fun x H3 hy => ?_⟩
        obtain ⟨x3, s3, r3⟩ := yl x H3 hy
        have nD : ∀ {α' : List Addr} {H' : Hp}, Ext α2 H3 α' H' → H' Dp = some (.dK kvs) := fun {α' H'} xx => xx.1 _ _ (x3.1 _ _ hacc (s2.blk Dp (.inr rfl)).2) (s3.blk Dp (.inr rfl)).2
        unfold dcD at e2
        split at e2
        · cases e2
        · rename_i as has
          refine qg _ _ (L2.wipe σ vs) H3 x _ as _ r3 has fun ws rs => ⟨?_, ?_⟩
          · rw [wipe_sets fun j hj => hv _ _ has j (by rw [← rs.1]; exact hj), wipe_wipe]
          · have s4 := s3.setsN rs fun j hj => noOwn_ow s1 hno (hv _ _ has j hj)
            have fzx : ∀ {α' : List Addr} {H' : Hp}, Ext α2 H3 α' H' → FzB G.B α1 ow H1 (fun a => G.B a ∨ a = Dp) α' ow H' := fun {α' H'} xx => ⟨fun a o h e => by
                have q := z2.1 a o h e
                have q2 := x3.al a o q.1 q.2
                exact xx.al a o q2.1 q2.2, z2.2.trans xx.2.1⟩
            split at e2
            · rename_i g5 e5
              split at e2
              · rename_i kd g6 e6
                split at e2
                · rename_i k' hk'
                  split at e2
                  · rename_i vd g7 e7
                    refine qt _ α2 ow _ H3 _ g2 true g5 _ s4 e5 fun H5 α5 x5 s5 => ?_
                    rw [if_pos rfl]
                    refine qk _ α5 ow _ H5 _ g5 kd g6 _ s5 e6 fun kv H6 α6 x6 s6 r6 => ?_
                    refine qv _ α6 ow _ H6 _ g6 vd g7 _ s6 e7 fun v H7 α7 x7 s7 r7 => ?_
                    have xx := (x5.trans x6).trans x7
                    have hD7 := nD xx
                    have rk : RepKV (Al (fun a => G.B a ∨ a = Dp) α7 ow) α7 X.K H7 kvs done := ⟨racc.1, ((racc.2.ext x3).ext xx)⟩
                    refine ⟨kvs, dkey k', kV_dkey r6 hk', hD7, by rw [rk.len]; exact Nat.lt_of_lt_of_le (Nat.lt_of_lt_of_le (Nat.lt_of_le_of_lt hal hlt) hbig) big_line, ?_⟩
                    have g7k : GOk (Al (fun a => G.B a ∨ a = Dp) α7 ow) α7 g7 X.K H7 := s7.gok
                    have s8 : Sat X.K ⟨fun a => G.B a ∨ a = Dp, G.H0, G.α0⟩ α7 ow (L2.wipe σ vs) H7 (wipe3 ρ vs) g7 := s2.step (x3.trans xx) g7k
                    have s9 := s8.shutMutO hD0 (.dK (putK kvs (dkey k') v))
                    have hA8 : ∀ a (o : HO), Al (fun a => G.B a ∨ a = Dp) α7 ow a → H7 a = some o → Al (fun a => G.B a ∨ a = Dp) α7 ow a ∧ upd H7 Dp (.dK (putK kvs (dkey k') v)) a = some o := fun a o h e => ⟨h, by rw [upd_ne fun z => h.2.1 (.inr z)]; exact e⟩
                    refine ⟨α7, g7, _, putD done k' vd, s9, ⟨fun a o h e => hA8 a o ((fzx xx).1 a o h e).1 ((fzx xx).1 a o h e).2, (fzx xx).2⟩, ?_, upd_same, (rk.put (k := k') r7).mono hA8 (List.prefix_refl _), Nat.le_trans (putD_le _ _ _) (Nat.succ_le_succ hal), e2⟩
                    have xa := (x2.trans x3).trans xx
                    exact ⟨fun a o h hn => by rw [upd_ne (ne_of_none h hD)]; exact xa.1 a o h hn, xa.2.1, xa.2.2⟩
                  · cases e2
                · cases e2
              · cases e2
            · rename_i g5 e5
              refine qt _ α2 ow _ H3 _ g2 false g5 _ s4 e5 fun H5 α5 x5 s5 => ?_
              rw [if_neg (by decide)]
              exact ⟨α5, g5, kvs, done, s2.step (x3.trans x5) s5.gok, fzx x5, (x2.trans x3).trans x5, nD x5, ⟨racc.1, (racc.2.ext x3).ext x5⟩, Nat.le_succ_of_le hal, e2⟩
            · cases e2
      · have ei : i = xs.length := by omega
        subst ei
        rw [List.drop_length] at e2
        cases e2
        refine .inl ⟨wk2.1 (Nat.le_refl _), ?_⟩
        have so := s2.open hD0 hDb
        have xc : Ext α1 H1 α2 (cutH H2 Dp) := ⟨fun a o h hn => by
          unfold cutH
          rw [if_neg (ne_of_none h hD)]
          exact x2.1 a o h hn, x2.2.1, x2.2.2⟩
        have hA : ∀ a (o : HO), Al (fun a => G.B a ∨ a = Dp) α2 ow a → H2 a = some o → Al G.B α2 ow a ∧ cutH H2 Dp a = some o := fun a o h e => ⟨⟨h.1, fun z => h.2.1 (.inl z), h.2.2⟩, by unfold cutH; rw [if_neg fun z => h.2.1 (.inr z)]; exact e⟩
        exact w Dp kvs (cutH H2 Dp) α2 (x1.trans xc) (s1.step xc so.gok) (by unfold cutH; rw [if_pos rfl]) (racc.mono hA (List.prefix_refl _)) H2 (cutH_upd hacc)
    · cases e
  · cases e
theorem efd_dc (hN : X.N.Nodup) (own : List (Str × Nat)) (hi : IC X tg iter it) (hv : TgIn p (own.map (·.2)))
    (hg : ∀ (s : Shared) (H : Hp) (C : Addr) (cl : List (Str × Addr)) (fp : List Addr), GC (X.blk s H scope (compEnvC scope cl C X.env) fp) tg p)
    (ht : ∀ (s : Shared) (H : Hp) (C : Addr) (cl : List (Str × Addr)) (fp : List Addr), TCs (X.blk s H scope (compEnvC scope cl C X.env) fp) ifs fc)
    (hk : ∀ (s : Shared) (H : Hp) (C : Addr) (cl : List (Str × Addr)) (fp : List Addr), EC (X.blk s H scope (compEnvC scope cl C X.env) fp) kx fk)
    (he : ∀ (s : Shared) (H : Hp) (C : Addr) (cl : List (Str × Addr)) (fp : List Addr), EC (X.blk s H scope (compEnvC scope cl C X.env) fp) vx fv)
    (ok : BlkOk X.N X.env.scope scope own) (hc : X.calm = true := by rfl) (hs : ∀ x, foldedSetIterable iter X.env x = pure x := by intro _; rfl) :
    EFD X (.DictComp kx vx [⟨tg, iter, ifs, 0⟩] scope pos) (cDc it (own.map (·.2)) p fc fk fv) := by
  obtain ⟨wi, pi, qi⟩ := hi
  refine ⟨_, pe_dc (g := tGs X.K p) (tt := tTs X.K fc) (tk := tE X.K fk) (tv := tE X.K fv) hc hN pi ok (fun s H C cl fp => (hg s H C cl fp).canon) (fun s H C cl fp => (ht s H C cl fp).canon) (fun s H C cl fp => (hk s H C cl fp).canon) (fun s H C cl fp => (he s H C cl fp).canon) hs, fun G α ow σ H ρ g ds g' Q s e w => ?_⟩
  refine dc_read (X := X) (g1 := tGs X.K p) (tt := tTs X.K fc) (tk := tE X.K fk) (tv := tE X.K fv) qi (fun A α σ H v d as Q h1 h2 h3 => ⟨A, α, d, as, h1, h2, h3⟩) (fun G α ow σ H ρ g b g' Q h1 h2 h3 => ⟨G, α, ow, ρ, g, b, g', h1, h2, h3⟩) (fun G α ow σ H ρ g d g' Q h1 h2 h3 => ⟨G, α, ow, ρ, g, d, g', h1, h2, h3⟩) (fun G α ow σ H ρ g d g' Q h1 h2 h3 => ⟨G, α, ow, ρ, g, d, g', h1, h2, h3⟩) hv s e w
theorem ps_setDc {i : Nat} {y : Str} {py : Pos} {kx vx tg iter : Expr} {ifs : List Expr} {scope : Scope} {own : List (Str × Nat)} {pos spos : Pos} {wi : TI} {g : TG} {tt : TT} {tk tv : TE} (hc : X.calm = true) (hN : X.N.Nodup) (hy : X.N[i]? = some y) (hyl : X.env.scope.names.lookup y = some .local)
    (hsw : swapsWith (.DictComp kx vx [⟨tg, iter, ifs, 0⟩] scope pos) (some (.Name y py)) spos.line X.env = pure true) (hi : PI X tg iter wi) (ok : BlkOk X.N X.env.scope scope own)
    (hg : ∀ (s : Shared) (H : Hp) (C : Addr) (cl : List (Str × Addr)) (fp : List Addr), PG (X.blk s H scope (compEnvC scope cl C X.env) fp) tg g) (ht : ∀ (s : Shared) (H : Hp) (C : Addr) (cl : List (Str × Addr)) (fp : List Addr), PTs (X.blk s H scope (compEnvC scope cl C X.env) fp) ifs tt)
    (hk : ∀ (s : Shared) (H : Hp) (C : Addr) (cl : List (Str × Addr)) (fp : List Addr), PE (X.blk s H scope (compEnvC scope cl C X.env) fp) kx tk)
    (he : ∀ (s : Shared) (H : Hp) (C : Addr) (cl : List (Str × Addr)) (fp : List Addr), PE (X.blk s H scope (compEnvC scope cl C X.env) fp) vx tv) (hs : ∀ x, foldedSetIterable iter X.env x = pure x := by intro _; rfl) :
    PS X (.Assign [.Name y py] (.DictComp kx vx [⟨tg, iter, ifs, 0⟩] scope pos) spos) (tAsg (tDc wi g tt tk tv (own.map (·.2))) (gName i)) := by
  refine ⟨fun pins s σ H D I h => ?_⟩
  rw [exec_Assign_Name_used _ _ _ _ hsw]
  refine wpAny_bind (wpAny_standAt (wpAny_bind ?_))
  show wpAny _ X.A (do let _ ← comprehension (.DictComp kx vx [⟨tg, iter, ifs, 0⟩] scope pos) scope X.env (firstIterPos [⟨tg, iter, ifs, 0⟩] pos) newDict false (eval iter X.env) (some (assign (.Name y py) X.env))) _ _ s
  have h : tDc wi g tt tk tv (own.map (·.2)) σ H (fun x H1 => gName i x σ H1 D.nx) := h
  refine wpAny_bind (thn (dc_core (Qf := fun _ s' => SP X pins D .next s') hc hN I hi ok hg ht hk he hs h fun L C s' m H' I' q hn f => ?_) fun _ s' hq => wpAny_pure (wpAny_pure hq))
  show wpAny _ _ (assign (.Name y py) X.env (.ref L)) _ _ _
  refine wpAny_assign_Name (store_ok2 (v := V.ref L) I' hN hy (.inl hyl) rfl (fun s2 I2 ⟨a, sb, ha⟩ => ?_) (.inr hyl))
  obtain ⟨f0, f1, f2, f3, f4, f5⟩ := f
  have haC : C ≠ a := by
    rcases ha with z | z
    · rw [z]; exact f1
    · exact fun e => f4 y a z e.symm
  refine ⟨m, hn.sameBut sb haC, fun h3 sb3 => ?_⟩
  exact ⟨_, H', I2.turned (t' := s2.toks) (fun b o hb e => (sb3.2 b hb).trans e) f0 f1 f3 f4 f5, q⟩
theorem sw_trueD {gs : List Comprehension} {pos py : Pos} {y : Str} {l : Nat} {env : Env} (hk : env.scope.kind = .function) (hy : env.scope.names.lookup y = some .local) (hl : (py.line == pos.line) = true)
    (ha : (scope.names.any fun (n, k) => n == y && (k == .local || k == .cell)) = false) : swapsWith (.DictComp kx vx gs scope pos) (some (.Name y py)) l env = pure true := by
  have ky : env.kindOf y = some .local := hy
  have hb : env.blockKind = .function := by unfold Env.blockKind; rw [hk]; rfl
  unfold swapsWith
  simp only [hb, ky, ha, Expr.pos, hl]
  rfl
/-- d = {..} on one line, d the slot's own -/
theorem sc_owndDc {i : Nat} {y : Str} {py spos : Pos} (hN : X.N.Nodup) (own : List (Str × Nat)) (hi : IC X tg iter it) (hv : TgIn p (own.map (·.2)))
    (hg : ∀ (s : Shared) (H : Hp) (C : Addr) (cl : List (Str × Addr)) (fp : List Addr), GC (X.blk s H scope (compEnvC scope cl C X.env) fp) tg p)
    (ht : ∀ (s : Shared) (H : Hp) (C : Addr) (cl : List (Str × Addr)) (fp : List Addr), TCs (X.blk s H scope (compEnvC scope cl C X.env) fp) ifs fc)
    (hk : ∀ (s : Shared) (H : Hp) (C : Addr) (cl : List (Str × Addr)) (fp : List Addr), EC (X.blk s H scope (compEnvC scope cl C X.env) fp) kx fk)
    (he : ∀ (s : Shared) (H : Hp) (C : Addr) (cl : List (Str × Addr)) (fp : List Addr), EC (X.blk s H scope (compEnvC scope cl C X.env) fp) vx fv)
    (ok : BlkOk X.N X.env.scope scope own) (hsw : swapsWith (.DictComp kx vx [⟨tg, iter, ifs, 0⟩] scope pos) (some (.Name y py)) spos.line X.env = pure true)
    (hy : X.N[i]? = some y := by rfl) (hyl : X.env.scope.names.lookup y = some .local := by rfl) (hc : X.calm = true := by rfl) (hs : ∀ x, foldedSetIterable iter X.env x = pure x := by intro _; rfl) :
    SC X (.Assign [.Name y py] (.DictComp kx vx [⟨tg, iter, ifs, 0⟩] scope pos) spos) (sOwnD i (cDc it (own.map (·.2)) p fc fk fv)) := by
  obtain ⟨wi, pwi, qi⟩ := hi
  refine ⟨_, ps_setDc (g := tGs X.K p) (tt := tTs X.K fc) (tk := tE X.K fk) (tv := tE X.K fv) hc hN hy hyl hsw pwi ok (fun s H C cl fp => (hg s H C cl fp).canon) (fun s H C cl fp => (ht s H C cl fp).canon) (fun s H C cl fp => (hk s H C cl fp).canon) (fun s H C cl fp => (he s H C cl fp).canon) hs, fun G α ow σ H ρ g out g' Dn s e w => ?_⟩
  unfold sOwnD at e
  split at e
  · rename_i ds g1 e1
    split at e
    · rename_i hi
      cases e
      refine dc_read (X := X) (g1 := tGs X.K p) (tt := tTs X.K fc) (tk := tE X.K fk) (tv := tE X.K fv) qi (fun A α σ H v d as Q h1 h2 h3 => ⟨A, α, d, as, h1, h2, h3⟩) (fun G α ow σ H ρ g b g' Q h1 h2 h3 => ⟨G, α, ow, ρ, g, b, g', h1, h2, h3⟩) (fun G α ow σ H ρ g b g' Q h1 h2 h3 => ⟨G, α, ow, ρ, g, b, g', h1, h2, h3⟩) (fun G α ow σ H ρ g b g' Q h1 h2 h3 => ⟨G, α, ow, ρ, g, b, g', h1, h2, h3⟩) hv s e1 fun q vs H1 α1 x1 s1 hp r H2 eH => ?_
      subst eH
      exact w _ _ _ _ (s1.ownd1 hi hp r).1 (x1.fz.trans (s1.ownd1 hi hp r).2)
    · cases e
  · cases e
end
section
variable {ρ : Env3} {g : Store}
theorem ok_cDc (it : DA) (vs : List Nat) (tg : D → Option (List (Nat × D))) (c : DT) (ek ev : DE) (Q : List (DKey × D) → Store → Prop) : Ok (cDc it vs tg c ek ev ρ g) Q ↔ Ok (it ρ g) fun ds g1 => (ds.length ≤ BIG ∧ noOwn ρ vs = true) ∧ Ok (dcD tg c ek ev ds [] (wipe3 ρ vs) g1) Q := by
  unfold cDc
  constructor
  · rintro ⟨d, g1, e, q⟩
    split at e
    · rename_i ds g2 e1
      split at e
      · rename_i h
        exact ⟨ds, g2, e1, h, d, g1, e, q⟩
      · cases e
    · cases e
  · rintro ⟨ds, g2, e1, h, d, g1, e, q⟩
    refine ⟨d, g1, ?_, q⟩
    rw [e1]
    dsimp only
    rw [if_pos h]
    exact e
/-- pairs with unlike keys, some left out -/
theorem dc_filter {tg : D → Option (List (Nat × D))} {c : DT} {ek ev : DE} {fk : D → DKey} {fv : D → D} {p : D → Bool} : ∀ {ds : List D} {acc : List (DKey × D)}, (∀ d ∈ ds, ∃ as, tg d = some as ∧ c (sets ρ as) g = some (p d, g) ∧ (p d = true → ek (sets ρ as) g = some (kD (fk d), g) ∧ ev (sets ρ as) g = some (fv d, g))) →
    dcD tg c ek ev ds acc ρ g = some ((ds.filter p).foldl (fun acc d => putD acc (fk d) (fv d)) acc, g)
  | [], acc, _ => rfl
  | d :: ds, acc, h => by
    obtain ⟨as, h1, h2, h3⟩ := h d List.mem_cons_self
    have ih := fun acc => dc_filter (acc := acc) fun d hd => h d (List.mem_cons_of_mem _ hd)
    unfold dcD
    rw [h1]
    dsimp only
    rw [h2]
    cases hp : p d with
    | false =>
      dsimp only
      rw [ih, List.filter_cons_of_neg (by simp [hp])]
    | true =>
      dsimp only
      rw [(h3 hp).1]
      dsimp only
      have hk : dkOf (kD (fk d)) = some (fk d) := by cases fk d <;> rfl
      rw [hk]
      dsimp only
      rw [(h3 hp).2]
      dsimp only
      rw [ih, List.filter_cons_of_pos hp, List.foldl_cons]
end
end L3

/-! L4m: or by truth, += of tuples, rpartition, pop of a slot's own dict. -/
namespace L3
open PySem PySem.Spec PyProof.Rows L2 TL HT
def eOrV (a b : DE) : DE := bindM a fun x => match truD x with
  | some true => fun _ g => some (x, g)
  | some false => b
  | none => fun _ _ => none
section
variable {X : Cx} {a b : Expr} {fa fb : DE} {rest : List Expr} {pos : Pos}
theorem ec_orV (ha : EC X a fa) (hb : EC X (.BoolOp .Or (b :: rest) pos) fb) : EC X (.BoolOp .Or (a :: b :: rest) pos) (eOrV fa fb) := by
  obtain ⟨t, pt, hq⟩ := ha
  obtain ⟨t2, pt2, hq2⟩ := hb
  refine ⟨_, pe_orT pt pt2, fun G α ow σ H ρ g k g' Q s e w => ?_⟩
  obtain ⟨c, g1, e1, e2⟩ := bindM_some e
  refine hq G α ow σ H ρ g c g1 _ s e1 fun v H1 α1 x1 s1 r => ?_
  cases ht : truD c with
  | none => rw [ht] at e2; cases e2
  | some b =>
    rw [ht] at e2
    cases b with
    | true =>
      cases e2
      exact ⟨true, truD_read (.of r) ht, by rw [if_pos rfl]; exact w v H1 α1 x1 s1 r⟩
    | false =>
      exact ⟨false, truD_read (.of r) ht, by rw [if_neg (by decide)]; exact hq2 G α1 ow σ H1 ρ g1 k g' Q s1 e2 fun v H2 α2 x2 s2 => w v H2 α2 (x1.trans x2) s2⟩
end
section
variable {ρ : Env3} {g : Store}
theorem ok_eOrV (a b : DE) (Q : D → Store → Prop) : Ok (eOrV a b ρ g) Q ↔ Ok (a ρ g) fun x g1 => OkO (truD x) fun c => if c = true then Q x g1 else Ok (b ρ g1) Q := by
  unfold eOrV
  constructor
  · rintro ⟨d, g1, e, q⟩
    obtain ⟨x, g2, e1, e2⟩ := bindM_some e
    refine ⟨x, g2, e1, ?_⟩
    cases ht : truD x with
    | none => rw [ht] at e2; cases e2
    | some b =>
      rw [ht] at e2
      cases b with
      | true =>
        cases e2
        exact ⟨true, ht, by show (if true = true then _ else _); rw [if_pos rfl]; exact q⟩
      | false => exact ⟨false, ht, by show (if false = true then _ else _); rw [if_neg (by decide)]; exact ⟨d, g1, e2, q⟩⟩
  · rintro ⟨x, g2, e1, c, ht, h⟩
    cases c with
    | true =>
      rw [if_pos rfl] at h
      refine ⟨x, g2, ?_, h⟩
      unfold bindM
      rw [e1]
      dsimp only
      rw [ht]
    | false =>
      rw [if_neg (by decide)] at h
      obtain ⟨d, g1, e2, q⟩ := h
      refine ⟨d, g1, ?_, q⟩
      unfold bindM
      rw [e1]
      dsimp only
      rw [ht]
      exact e2
end
/-! ### t += u -/
theorem noI_tuple_add : typeLookup (.type "tuple") (dunderI "add") = pure none := by rw [typeLookup_type, builtinLookup_eq_fast]; kernel_rfl
section
variable {prog : Program} {w : World} {A : Around} {E : Value → Shared → Prop} {s : Shared}
theorem icat_tup0 {t b : Addr} {ws : List Value} {Q : Value → Shared → Prop} (ht : IsTup s.heap t ([] : List Value).toArray) (hb : IsTup s.heap b ws.toArray) (h : Q (.ref b) s) : wpAny (model prog w) A (inplaceOp .Add (.ref t) (.ref b)) Q E s := by
  obtain ⟨⟨cls, dd, data, sl⟩, ho, hc, n, hd⟩ := id ht
  obtain ⟨⟨cls2, dd2, data2, sl2⟩, ho2, hc2, n2, hd2⟩ := id hb
  simp only at hc hd hc2 hd2
  subst hc hd hc2 hd2
  exact wpAny_inplaceOp_concat ⟨_, ho, rfl⟩ ⟨_, ho2, rfl⟩ noI_tuple_add noFill_tuple_add seq_tuple_add (call_meets PySem.F.slot_tuple_add ⟨_, ho, rfl⟩ PySem.F.entry_tuple_add (PySem.F.args_tuple_add_2 _ _)
    (tuple_addW0 t b ([] : List Value).toArray ws.toArray n n2 dd dd2 sl sl2 (by simp)) ⟨ho, ho2, h⟩)
theorem icat_tup {t b : Addr} {vs ws : List Value} {Q : Value → Shared → Prop} (ht : IsTup s.heap t vs.toArray) (hb : IsTup s.heap b ws.toArray) (hv : vs ≠ [])
    (h1 : ws = [] → Q (.ref t) s) (h2 : ws ≠ [] → Q (.ref s.heap.objs.size) { s with heap := s.heap.push { cls := .type "tuple", data := .seq (vs ++ ws).toArray } })
    (hsz : vs.length + ws.length ≤ sizeLine) : wpAny (model prog w) A (inplaceOp .Add (.ref t) (.ref b)) Q E s := by
  obtain ⟨⟨cls, dd, data, sl⟩, ho, hc, n, hd⟩ := id ht
  obtain ⟨⟨cls2, dd2, data2, sl2⟩, ho2, hc2, n2, hd2⟩ := id hb
  simp only at hc hd hc2 hd2
  subst hc hd hc2 hd2
  have e : vs.toArray ++ ws.toArray = (vs ++ ws).toArray := by simp
  by_cases hw : ws = []
  · exact wpAny_inplaceOp_concat ⟨_, ho, rfl⟩ ⟨_, ho2, rfl⟩ noI_tuple_add noFill_tuple_add seq_tuple_add (call_meets PySem.F.slot_tuple_add ⟨_, ho, rfl⟩ PySem.F.entry_tuple_add (PySem.F.args_tuple_add_2 _ _)
      (tuple_addW1 t b vs.toArray ws.toArray n n2 dd dd2 sl sl2 (by simpa using hv) (by simp [hw])) ⟨ho, ho2, h1 hw⟩)
  · refine wpAny_inplaceOp_concat ⟨_, ho, rfl⟩ ⟨_, ho2, rfl⟩ noI_tuple_add noFill_tuple_add seq_tuple_add (call_meets PySem.F.slot_tuple_add ⟨_, ho, rfl⟩ PySem.F.entry_tuple_add (PySem.F.args_tuple_add_2 _ _)
      (tuple_addW2 t b vs.toArray ws.toArray n n2 dd dd2 sl sl2 (by simpa using hv) (by simpa using hw) (by rw [List.size_toArray, List.size_toArray]; exact hsz)) ⟨ho, ho2, ?_⟩)
    rw [e]
    exact h2 hw
end
section
variable {X : Cx}
theorem iop_catZ : OpR X (inplaceOp .Add) (rCatZ X.K) := by
  intro pins s σ H x y v u Q I rx ry ⟨a, b, xs, ys, ex, ey, ha, hb, hz, q0, q1, q2⟩
  subst ex; subst ey; cases rx; cases ry; obtain ⟨its, r1, p1, _⟩ := I.tuple ha; obtain ⟨its2, r2, p2, _⟩ := I.tuple hb
  by_cases hx : xs = []
  · subst hx
    cases r1
    exact icat_tup0 p1 p2 ⟨.ref b, H, I, rfl, q0 rfl⟩
  · refine icat_tup p1 p2 (fun z => hx (r1.nil_iff.mp z)) (fun z => ⟨.ref a, H, I, rfl, q1 hx (r2.nil_iff.mp z)⟩) (fun z => ?_) (by rw [← r1.length, ← r2.length]; exact hz)
    exact laidT I (r1.append r2) (by rw [List.length_append]; exact hz) (q2 hx fun w => z (r2.nil_iff.mpr w))
/-- += of ints, texts, tuples -/
def dIAdd : D → D → Option D
  | .tup a, .tup b => if a.length + b.length ≤ BIG then some (.tup (a ++ b)) else none
  | a, b => dAdd a b
theorem dIAdd_ii (a b : Int) : dIAdd (.int a) (.int b) = some (.int (a + b)) := rfl
theorem dIAdd_ss (a b : List Nat) : dIAdd (.str a) (.str b) = if a.length + b.length ≤ BIG then some (.str (a ++ b)) else none := rfl
theorem dIAdd_tt (a b : List D) : dIAdd (.tup a) (.tup b) = if a.length + b.length ≤ BIG then some (.tup (a ++ b)) else none := rfl
theorem opd_iaddA : OpD X (inplaceOp .Add) dIAdd := by
  obtain ⟨r0, h0, q0⟩ := opd_iadd (X := X)
  refine ⟨_, h0.or iop_catZ, fun G α ow σ H ρ g x y dx dy d Q s rx ry e w => ?_⟩
  unfold dIAdd at e
  split at e
  · split at e
    · rename_i xs ys hl
      cases e
      obtain ⟨p, vs, rfl, h1, h2⟩ := rx.tup
      obtain ⟨q, us, rfl, h3, h4⟩ := ry.tup
      have cx : ∀ {v : V} {xs : List D}, BRep G.B α ow X.K H v (.tup xs) → Rep (Al G.B α ow) α X.K H v (.tup xs) := fun h => by cases h with | of h => exact h
      refine .inr ⟨p, q, vs, us, rfl, rfl, h1, h3, by rw [h2.1, h4.1]; exact Nat.le_trans hl big_line, fun hn => ?_, fun _ hn => ?_, fun _ _ l o hl ho => w _ _ (Ext.new hl) (s.new hl) (s.newT hl ho (h2.append h4))⟩
      · have : xs = [] := List.eq_nil_of_length_eq_zero (by rw [← h2.1, hn]; rfl)
        subst this
        exact w _ H Ext.refl s (cx ry)
      · have : ys = [] := List.eq_nil_of_length_eq_zero (by rw [← h4.1, hn]; rfl)
        subst this
        rw [List.append_nil] at w
        exact w _ H Ext.refl s (cx rx)
    · cases e
  · exact .inl (q0 G α ow σ H ρ g x y _ _ d Q s rx ry e w)
/-! ### rpartition -/
theorem mt_rpart : MtR X "str.rpartition" (fun x xs H Q => ∃ a b, x = .str a ∧ xs = [.str b] ∧ (b.length == 0) = false ∧ a.length ≤ sizeLine ∧ NewT H [.str (Txt.rpartition a b).1, .str (Txt.rpartition a b).2.1, .str (Txt.rpartition a b).2.2] Q) := by
  intro pins s σ H x xs v us Q I rx rs h
  obtain ⟨a, b, rfl, rfl, hb, hz, h⟩ := h
  obtain ⟨t, rfl⟩ := rx
  cases rs with
  | cons r1 rs =>
    cases rs
    obtain ⟨u, rfl⟩ := r1
    refine call_meets F.slot_str_rpartition (typeIs_str _ _ _) F.entry_str_rpartition (F.args_str_rpartition_2 _ _) (meets_str_rpartition a b t u hb hz) ?_
    unfold Txt.rpartition at h
    revert h
    cases Builtin.Str.lastOccurrence a b 0 a.length with
    | none => intro h; exact laidT (s := { s with toks := s.toks + 1 }) (ys := [.str Str.empty, .str Str.empty, .str a]) (I.tok _) (.cons ⟨_, rfl⟩ (.cons ⟨_, rfl⟩ (.cons ⟨_, rfl⟩ .nil))) (show 3 ≤ sizeLine by decide) h
    | some i => intro h; exact laidT (s := { s with toks := s.toks + 1 + 1 }) (ys := [.str (Builtin.Str.strSub a 0 i), .str b, .str (Builtin.Str.strSub a (i + b.length) a.length)]) (I.tok _) (.cons ⟨_, rfl⟩ (.cons ⟨_, rfl⟩ (.cons ⟨_, rfl⟩ .nil))) (show 3 ≤ sizeLine by decide) h
def rpT (a : Tx) (c : Nat) : Tx × Tx × Tx := (tlS (Txt.rpartition (S a) (S [c])).1, tlS (Txt.rpartition (S a) (S [c])).2.1, tlS (Txt.rpartition (S a) (S [c])).2.2)
def dRpart : D → List D → Option D
  | .str a, [.str [c]] => if a.length ≤ BIG then some (.tup [.str (rpT a c).1, .str (rpT a c).2.1, .str (rpT a c).2.2]) else none
  | _, _ => none
theorem dRpart_s (a : List Nat) (c : Nat) : dRpart (.str a) [.str [c]] = if a.length ≤ BIG then some (.tup [.str (rpT a c).1, .str (rpT a c).2.1, .str (rpT a c).2.2]) else none := rfl
theorem md_rpart : MtD X "str.rpartition" dRpart := by
  refine ⟨_, mt_rpart, fun G α ow σ H ρ g x vs dx ds d Q s rx r e w => ?_⟩
  unfold dRpart at e
  split at e
  · rename_i a c
    split at e
    · rename_i hl
      cases e
      obtain ⟨v, rfl, r1⟩ := BRepAll.one1 r
      rw [rx.str, r1.str]
      refine ⟨_, _, rfl, rfl, by rw [S_len]; rfl, by rw [S_len]; exact Nat.le_trans hl big_line, fun p o hp ho => w _ _ (Ext.new hp) (s.new hp) (s.newT hp ho ?_)⟩
      refine RepAll.cons ?_ (RepAll.cons ?_ (RepAll.cons ?_ RepAll.nil))
      · have := Rep.str (A := Al G.B α ow) (α := α) (K := X.K) (H := H) (rpT a c).1; unfold rpT at this; rw [S_tl] at this; exact this
      · have := Rep.str (A := Al G.B α ow) (α := α) (K := X.K) (H := H) (rpT a c).2.1; unfold rpT at this; rw [S_tl] at this; exact this
      · have := Rep.str (A := Al G.B α ow) (α := α) (K := X.K) (H := H) (rpT a c).2.2; unfold rpT at this; rw [S_tl] at this; exact this
    · cases e
  · cases e
end
/-! ### d.pop(k), d a slot's own dict -/
theorem RepKV.drop {A : Addr → Prop} {α : List Addr} {K : PySem.W.Frag} {H : Hp} (k : DKey) : ∀ {ds : List (DKey × D)} {kvs : List (Key × V)}, RepKV A α K H kvs ds → RepKV A α K H (dropK kvs (dkey k)) (ds.filter fun p => decide (p.1 ≠ k))
  | [], kvs, h => by rw [h.unnil]; exact RepKV.nil
  | (j, d) :: ds, kvs, h => by
    obtain ⟨v, r, rfl, h1, h2⟩ := h.uncons
    have ih := RepKV.drop k h2
    unfold dropK at ih ⊢
    by_cases e : j = k
    · rw [List.filter_cons_of_neg (by simp [e]), List.filter_cons_of_neg (by simp [e])]
      exact ih
    · rw [List.filter_cons_of_pos (by simp [dkey_iff, e]), List.filter_cons_of_pos (by simp [e])]
      exact RepKV.cons h1 ih
def sPopD (i : Nat) (fk : DE) : DS := fun ρ g => match ρ[i]? with
  | some (some (.ownd ds)) => match fk ρ g with
    | some (k, g2) => match dkOf k with
      | some k => if (valK ds k).isSome = true then some (.nx (ρ.set i (some (.ownd (ds.filter fun p => decide (p.1 ≠ k))))), g2) else none
      | none => none
    | none => none
  | _ => none
section
variable {X : Cx} {k : Expr} {fk : DE} {pos : Pos}
theorem sc_popD {i : Nat} {x : Str} {p1 ap cp : Pos} (hk : EC X k fk) (m : M1 X (.Name x p1) "pop" ap k cp := by exact ⟨rfl, rfl, rfl, rfl⟩) (hN : X.N[i]? = some x := by rfl) (hvs : Vis X.env.scope x := by first | exact Or.inl rfl | exact Or.inr (Or.inl rfl) | exact Or.inr (Or.inr rfl)) (hd : (x == ("__debug__" : Str)) = false := by decide) (hcd : (x == ("__classdict__" : Str)) = false := by decide)
    (hs : swapsWith (.Call (.Attribute (.Name x p1) "pop" ap) [k] [] cp) none pos.line X.env = pure false := by rfl) : SC X (.Expr (.Call (.Attribute (.Name x p1) "pop" ap) [k] [] cp) pos) (sPopD i fk) := by
  obtain ⟨tk, pk, qk⟩ := hk
  refine ⟨_, ps_expr (pe_dpop1 (pe_var hN hvs hd hcd) pk m) hs, fun G α ow σ H ρ g out g' Dn s e p => ?_⟩
  unfold sPopD at e
  split at e
  · rename_i ds hx
    split at e
    · rename_i kd g2 e2
      split at e
      · rename_i k' hk'
        split at e
        · rename_i hl
          cases e
          obtain ⟨a, kvs, h1, h2, h3, h4, h5⟩ := s.slot i _ hx
          refine ⟨_, h2, a, rfl, .inl ⟨kvs, .inl h3⟩, qk G α ow σ H ρ g kd g' _ s e2 fun y H2 α2 x2 s2 r2 => ?_⟩
          have h32 := x2.1 a _ h3 (s.own i a h1).2.1
          have rk : RepKV (Al G.B α2 ow) α2 X.K H2 kvs ds := ⟨h4, h5.ext x2⟩
          obtain ⟨dv, hdv⟩ := Option.isSome_iff_exists.mp hl
          have hv := rk.val k'
          rw [hdv] at hv
          obtain ⟨v, hv1, _⟩ := hv
          refine ⟨kvs, dkey k', v, h32, kV_dkey r2 hk', hv1, ?_⟩
          have m := s2.mutd h1 (List.getElem?_eq_some_iff.mp hx).1 h2 (rk.drop k')
          exact p _ _ _ _ m.1 (x2.fz.trans m.2)
        · cases e
      · cases e
    · cases e
  · cases e
end
theorem ownd_at {ρ : Env3} {i : Nat} {xs : List (DKey × D)} (hx : owndOf ρ[i]? = some xs) : ρ[i]? = some (some (.ownd xs)) := by
  revert hx
  generalize ρ[i]? = o
  intro hx
  unfold owndOf at hx
  split at hx
  · cases hx; rfl
  · cases hx
theorem ok_sPopD {ρ : Env3} {g : Store} (i : Nat) (fk : DE) (Q : Out → Store → Prop) : Ok (sPopD i fk ρ g) Q ↔ OkO (owndOf ρ[i]?) fun ds => Ok (fk ρ g) fun k g2 => OkO (dkOf k) fun k => (valK ds k).isSome = true ∧ Q (.nx (ρ.set i (some (.ownd (ds.filter fun p => decide (p.1 ≠ k)))))) g2 := by
  constructor
  · rintro ⟨o, g1, e, q⟩
    unfold sPopD at e
    split at e
    · rename_i ds hx
      split at e
      · rename_i k g2 e2
        split at e
        · rename_i k' hk
          split at e
          · rename_i hl
            cases e
            exact ⟨ds, by rw [hx]; rfl, k, g1, e2, k', hk, hl, q⟩
          · cases e
        · cases e
      · cases e
    · cases e
  · rintro ⟨ds, hx, k, g2, e2, k', hk, hl, q⟩
    refine ⟨_, _, ?_, q⟩
    unfold sPopD
    rw [ownd_at hx]
    dsimp only
    rw [e2]
    dsimp only
    rw [hk]
    dsimp only
    rw [if_pos hl]
end L3

/-! L4n: comprehensions over a dict: the dict is locked meanwhile. -/
namespace L3
open PySem PySem.Spec PyProof.Rows L2 TL
structure Sim (H H' : Hp) : Prop where
  lst : ∀ {b : Addr} {xs : List V}, Rd H b (.lst xs) → Rd H' b (.lst xs)
  dk : ∀ {b : Addr} {kvs : List (Key × V)}, Rd H b (.dK kvs) → Rd H' b (.dK kvs)
  tp : ∀ {b : Addr} {o : Obj} {xs : List V}, H b = some (.frz o (.tup xs)) → H' b = some (.frz o (.tup xs))
section
variable {K : PySem.W.Frag} {A : Addr → Prop} {α : List Addr} {H H' : Hp} {v : V} {d : D}
theorem Rep.sim (h : Rep A α K H v d) (m : Sim H H') : Rep A α K H' v d := by
  induction h with
  | non => exact .non
  | bl b => exact .bl b
  | int i => exact .int i
  | str s => exact .str s
  | lst ha h hl _ ih => exact .lst ha (m.lst h) hl ih
  | tup h hl _ ih =>
    refine .tup ?_ hl ih
    rcases h with ⟨ha, o, ho, h⟩ | h
    · exact .inl ⟨ha, o, ho, m.tp h⟩
    · exact .inr h
  | dic ha h hk _ ih => exact .dic ha (m.dk h) hk ih
  | obj h => exact .obj h
  | sta x => exact .sta x
theorem RepAll.sim {vs : List V} {ds : List D} (h : RepAll A α K H vs ds) (m : Sim H H') : RepAll A α K H' vs ds := ⟨h.1, fun i v d a b => (h.2 i v d a b).sim m⟩
theorem Sim.lockd {a : Addr} {od : Obj} {kvs : List (Key × V)} (h : H a = some (.dK kvs)) : Sim H (upd H a (.frz od (.dK kvs))) := by
  refine ⟨fun {b xs} r => ?_, fun {b l} r => ?_, fun {b o xs} r => ?_⟩
  · have : b ≠ a := fun z => by
      rw [z] at r
      rcases r with r | ⟨o, r⟩ <;> (rw [h] at r; cases r)
    rcases r with r | ⟨o, r⟩
    · exact .inl (by rw [upd_ne this]; exact r)
    · exact .inr ⟨o, by rw [upd_ne this]; exact r⟩
  · by_cases e : b = a
    · subst e
      rcases r with r | ⟨o, r⟩
      · rw [h] at r; cases r; exact .inr ⟨od, upd_same⟩
      · rw [h] at r; cases r
    · rcases r with r | ⟨o, r⟩
      · exact .inl (by rw [upd_ne e]; exact r)
      · exact .inr ⟨o, by rw [upd_ne e]; exact r⟩
  · rw [upd_ne fun z => by rw [z, h] at r; cases r]
    exact r
theorem Sim.unlockd {a : Addr} {od : Obj} {kvs : List (Key × V)} (h : H a = some (.frz od (.dK kvs))) : Sim H (upd H a (.dK kvs)) := by
  refine ⟨fun {b xs} r => ?_, fun {b l} r => ?_, fun {b o xs} r => ?_⟩
  · have : b ≠ a := fun z => by
      rw [z] at r
      rcases r with r | ⟨o, r⟩ <;> (rw [h] at r; cases r)
    rcases r with r | ⟨o, r⟩
    · exact .inl (by rw [upd_ne this]; exact r)
    · exact .inr ⟨o, by rw [upd_ne this]; exact r⟩
  · by_cases e : b = a
    · subst e
      rcases r with r | ⟨o, r⟩
      · rw [h] at r; cases r
      · rw [h] at r; cases r; exact .inl upd_same
    · rcases r with r | ⟨o, r⟩
      · exact .inl (by rw [upd_ne e]; exact r)
      · exact .inr ⟨o, by rw [upd_ne e]; exact r⟩
  · rw [upd_ne fun z => by rw [z, h] at r; cases r]
    exact r
end
section
variable {K : PySem.W.Frag} {G G' : Gh} {α : List Addr} {ow : Nat → Option Addr} {σ : L2.St} {H : Hp} {ρ : Env3} {g : Store}
theorem Sat.simO (s : Sat K G α ow σ H ρ g) {a : Addr} {ob : HO} (hal : Al G.B α ow a) (m : Sim H (upd H a ob)) (hB : G'.B = G.B) (hα : G'.α0 = G.α0) (h0 : ∀ b, b ≠ a → G'.H0 b = G.H0 b) (h1 : ∀ o, G'.H0 a = some o → o = ob) : Sat K G' α ow σ (upd H a ob) ρ g := by
  obtain ⟨B', H0', α0'⟩ := G'
  dsimp only at hB hα h0 h1
  subst hB hα
  have ne : ∀ {b : Addr}, b ∈ α → b ≠ a := fun hb z => hal.1 (by rw [← z]; exact hb)
  have tr : ∀ {b : Addr}, (∃ o, H b = some o) → ∃ o, upd H a ob b = some o := fun {b} ⟨o, h⟩ => by
    by_cases e : b = a
    · rw [e]; exact ⟨_, upd_same⟩
    · exact ⟨o, by rw [upd_ne e]; exact h⟩
  refine ⟨⟨fun b o h hn => ?_, s.ext.2.1, fun b hb => ?_⟩, fun b h => ⟨tr (s.blk b h).1, (s.blk b h).2⟩, s.len, ⟨s.gok.len, s.gok.nd, fun n b o h1 h2 => ?_⟩, fun j b h => ?_, s.oinj, fun j x hx => ?_⟩
  · by_cases e : b = a
    · subst e
      rw [h1 o h]
      exact upd_same
    · rw [upd_ne e]
      exact s.ext.1 b o (by rw [← h0 b e]; exact h) hn
  · rcases s.ext.2.2 b hb with z | z
    · exact .inl z
    · exact .inr (by rw [show (Gh.mk G.B H0' G.α0).H0 b = H0' b from rfl, h0 b (ne hb)]; exact z)
  · exact (s.gok.so n b o h1 h2).map (fun u q1 => by rw [upd_ne (ne (List.mem_of_getElem? h1))]; exact q1) fun _ _ _ r => r.sim m
  · obtain ⟨q1, q2, q3, q4, q5⟩ := s.own j b h
    have hb : b ≠ a := fun z => hal.2.2 j (by rw [← z]; exact h)
    exact ⟨by rw [show (Gh.mk G.B H0' G.α0).H0 b = H0' b from rfl, h0 b hb]; exact q1, q2, q3, tr q4, q5⟩
  · have q := s.slot j x hx
    cases x with
    | d x => obtain ⟨y, q1, q2⟩ := q; exact ⟨y, q1, q2.sim m⟩
    | own xs =>
      obtain ⟨b, vs, q1, q2, q3, q4⟩ := q
      exact ⟨b, vs, q1, q2, by rw [upd_ne fun z => hal.2.2 j (by rw [← z]; exact q1)]; exact q3, q4.sim m⟩
    | ownd ds =>
      obtain ⟨b, kvs, q1, q2, q3, q4, q5⟩ := q
      exact ⟨b, kvs, q1, q2, by rw [upd_ne fun z => hal.2.2 j (by rw [← z]; exact q1)]; exact q3, q4, q5.sim m⟩
end
/-- the keys of a dict that stands in a slot -/
def dicOf : Option (Option SV) → Option (List (DKey × D))
  | some (some (.d (.dic ds))) => some ds
  | _ => none
theorem dicOf_d (ds : List (DKey × D)) : dicOf (some (some (.d (.dic ds)))) = some ds := rfl
def aKeys (i : Nat) : DA := fun ρ g => match dicOf ρ[i]? with
  | some ds => some (ds.map (fun p => kD p.1), g)
  | none => none
theorem ok_aKeys {ρ : Env3} {g : Store} (i : Nat) (Q : List D → Store → Prop) : Ok (aKeys i ρ g) Q ↔ OkO (dicOf ρ[i]?) fun ds => Q (ds.map fun p => kD p.1) g := by
  unfold aKeys
  constructor
  · rintro ⟨xs, g1, e, q⟩
    cases h : dicOf ρ[i]? with
    | none => rw [h] at e; cases e
    | some ds => rw [h] at e; cases e; exact ⟨ds, rfl, q⟩
  · rintro ⟨ds, h, q⟩
    exact ⟨_, _, by rw [h], q⟩
section
variable {X : Cx} {elt tg iter : Expr} {ifs : List Expr} {it : DA} {p : D → Option (List (Nat × D))} {fc : DT} {fe : DE} {pos : Pos} {scope : Scope} {own : List (Str × Nat)}
theorem lc_readAt {wi : TI} {g1 : TG} {tt : TT} {te : TE} {vs : List Nat}
    (qg : ∀ A α σ H v d as Q, Rep A α X.K H v d → p d = some as → (∀ ws, RepSets A α X.K H ws as → Q (setsV σ ws) H) → g1 v σ H Q)
    (qt : ∀ G α ow σ H ρ g b g' Q, Sat X.K G α ow σ H ρ g → fc ρ g = some (b, g') → WantsT X.K G α ow σ H ρ g' b Q → tt σ H Q)
    (qe : ∀ G α ow σ H ρ g d g' Q, Sat X.K G α ow σ H ρ g → fe ρ g = some (d, g') → WantsG X.K G α ow σ H ρ g' d Q → te σ H Q) (hv : TgIn p vs)
    {G α ow σ H ρ g ds g' Q} (s : Sat X.K G α ow σ H ρ g) (qi : ∀ xs g1 (R : It → Hp → Prop), it ρ g = some (xs, g1) → (∀ J H' α', Ext α H α' H' → Sat X.K G α' ow σ H' ρ g1 → WalkD X.K G.B α' ow H' J xs → R J H') → wi σ H R) (e : aLc it vs p fc fe ρ g = some (ds, g')) (w : WantsF X.K G α ow σ H ρ g' ds Q) : tLc wi g1 tt te vs σ H Q := by
  unfold aLc at e
  split at e
  · rename_i xs g1' e1
    split at e
    · rename_i hh
      obtain ⟨hbig, hno⟩ := hh
      refine qi xs g1' _ e1 fun J H1 α1 x1 s1 wk => fun Dp hD => ?_
      have hD0 : G.H0 Dp = none := s1.ext.fresh hD (s1.al hD).1
      have hDb : ¬ G.B Dp := (s1.al hD).2.1
      have s2 := (s1.shut hD []).wipe (vs := vs) hno
      have fz0 : ∀ a (o : HO), Al G.B α1 ow a → H1 a = some o → Al (fun a => G.B a ∨ a = Dp) α1 ow a ∧ upd H1 Dp (.lst []) a = some o := fun a o h e => ⟨⟨h.1, fun z => z.elim h.2.1 (ne_of_none e hD), h.2.2⟩, by rw [upd_ne (ne_of_none e hD)]; exact e⟩
      refine ⟨fun i m H2 => m = xs.length - i ∧ i ≤ xs.length ∧ ∃ α2 g2 acc done rest, Sat X.K ⟨fun a => G.B a ∨ a = Dp, G.H0, G.α0⟩ α2 ow (L2.wipe σ vs) H2 (wipe3 ρ vs) g2 ∧
          FzB G.B α1 ow H1 (fun a => G.B a ∨ a = Dp) α2 ow H2 ∧ Ext α1 H1 α2 H2 ∧ H2 Dp = some (.lst acc) ∧ RepAll (Al (fun a => G.B a ∨ a = Dp) α2 ow) α2 X.K H2 acc done ∧ acc.length ≤ i ∧ lcD p fc fe (xs.drop i) (wipe3 ρ vs) g2 = some (rest, g') ∧ ds = done ++ rest,
        ⟨xs.length, by simp, Nat.zero_le _, α1, g1', [], [], ds, s2, ⟨fz0, List.prefix_refl _⟩, Ext.new hD, upd_same, RepAll.nil, Nat.le_refl _, e, rfl⟩, ?_⟩
      rintro i m H2 ⟨rfl, hi, α2, g2, acc, done, rest, s2, z2, x2, hacc, racc, hal, e2, eds⟩
      have wk2 := wk _ α2 ow _ H2 _ g2 i s2 z2
      by_cases hlt : i < xs.length
      · have ed : xs[i]? = some xs[i] := List.getElem?_eq_getElem hlt
        obtain ⟨go, yl⟩ := wk2.2 _ ed
        rw [List.drop_eq_getElem_cons hlt] at e2
        refine .inr ⟨go, fun H3 => ∃ α3 g3 acc done rest, Sat X.K ⟨fun a => G.B a ∨ a = Dp, G.H0, G.α0⟩ α3 ow (L2.wipe σ vs) H3 (wipe3 ρ vs) g3 ∧
          FzB G.B α1 ow H1 (fun a => G.B a ∨ a = Dp) α3 ow H3 ∧ Ext α1 H1 α3 H3 ∧ H3 Dp = some (.lst acc) ∧ RepAll (Al (fun a => G.B a ∨ a = Dp) α3 ow) α3 X.K H3 acc done ∧ acc.length ≤ i + 1 ∧ lcD p fc fe (xs.drop (i + 1)) (wipe3 ρ vs) g3 = some (rest, g') ∧ ds = done ++ rest,
          fun H3 h3 => ⟨xs.length - (i + 1), by omega, rfl, hlt, h3⟩, fun x H3 hy => ?_⟩
        obtain ⟨x3, s3, r3⟩ := yl x H3 hy
        have nD : ∀ {α' : List Addr} {H' : Hp}, Ext α2 H3 α' H' → H' Dp = some (.lst acc) := fun {α' H'} xx => xx.1 _ _ (x3.1 _ _ hacc (s2.blk Dp (.inr rfl)).2) (s3.blk Dp (.inr rfl)).2
        unfold lcD at e2
        split at e2
        · cases e2
        · rename_i as has
          refine qg _ _ (L2.wipe σ vs) H3 x _ as _ r3 has fun ws rs => ⟨?_, ?_⟩
          · rw [wipe_sets fun j hj => hv _ _ has j (by rw [← rs.1]; exact hj), wipe_wipe]
          · have s4 := s3.setsN rs fun j hj => noOwn_ow s1 hno (hv _ _ has j hj)
            have fzx : ∀ {α' : List Addr} {H' : Hp}, Ext α2 H3 α' H' → FzB G.B α1 ow H1 (fun a => G.B a ∨ a = Dp) α' ow H' := fun {α' H'} xx => ⟨fun a o h e => by
                have q := z2.1 a o h e
                have q2 := x3.al a o q.1 q.2
                exact xx.al a o q2.1 q2.2, z2.2.trans xx.2.1⟩
            split at e2
            · rename_i g5 e5
              split at e2
              · rename_i y g6 e6
                split at e2
                · rename_i ys g7 e7
                  cases e2
                  refine qt _ α2 ow _ H3 _ g2 true g5 _ s4 e5 fun H5 α5 x5 s5 => ?_
                  rw [if_pos rfl]
                  refine qe _ α5 ow _ H5 _ g5 y g6 _ s5 e6 fun v H6 α6 x6 s6 r6 => ?_
                  have xx := x5.trans x6
                  have hD6 := nD xx
                  refine ⟨acc, hD6, Nat.lt_of_lt_of_le (Nat.lt_of_lt_of_le (Nat.lt_of_le_of_lt hal hlt) hbig) big_line, ?_⟩
                  have g6k : GOk (Al (fun a => G.B a ∨ a = Dp) α6 ow) α6 g6 X.K H6 := s6.gok
                  have s7 : Sat X.K ⟨fun a => G.B a ∨ a = Dp, G.H0, G.α0⟩ α6 ow (L2.wipe σ vs) H6 (wipe3 ρ vs) g6 := s2.step (x3.trans xx) g6k
                  have s8 := s7.shutMut hD0 (acc ++ [v])
                  have hA8 : ∀ a (o : HO), Al (fun a => G.B a ∨ a = Dp) α6 ow a → H6 a = some o → Al (fun a => G.B a ∨ a = Dp) α6 ow a ∧ upd H6 Dp (.lst (acc ++ [v])) a = some o := fun a o h e => ⟨h, by rw [upd_ne fun z => h.2.1 (.inr z)]; exact e⟩
                  refine ⟨α6, g6, acc ++ [v], done ++ [y], ys, s8, ⟨fun a o h e => hA8 a o ((fzx xx).1 a o h e).1 ((fzx xx).1 a o h e).2, (fzx xx).2⟩, ?_, upd_same, (((racc.ext x3).ext xx).append (RepAll.one r6)).mono hA8 (List.prefix_refl _), by rw [List.length_append]; exact Nat.succ_le_succ hal, e7, by rw [eds, List.append_assoc]; rfl⟩
                  have xa := (x2.trans x3).trans xx
                  exact ⟨fun a o h hn => by rw [upd_ne (ne_of_none h hD)]; exact xa.1 a o h hn, xa.2.1, xa.2.2⟩
                · cases e2
              · cases e2
            · rename_i g5 e5
              refine qt _ α2 ow _ H3 _ g2 false g5 _ s4 e5 fun H5 α5 x5 s5 => ?_
              rw [if_neg (by decide)]
              exact ⟨α5, g5, acc, done, rest, s2.step (x3.trans x5) s5.gok, fzx x5, (x2.trans x3).trans x5, nD x5, (racc.ext x3).ext x5, Nat.le_succ_of_le hal, e2, eds⟩
            · cases e2
      · have ei : i = xs.length := by omega
        subst ei
        rw [List.drop_length] at e2
        cases e2
        rw [List.append_nil] at eds
        subst eds
        refine .inl ⟨wk2.1 (Nat.le_refl _), ?_⟩
        have so := s2.open hD0 hDb
        have xc : Ext α1 H1 α2 (cutH H2 Dp) := ⟨fun a o h hn => by
          unfold cutH
          rw [if_neg (ne_of_none h hD)]
          exact x2.1 a o h hn, x2.2.1, x2.2.2⟩
        have hA : ∀ a (o : HO), Al (fun a => G.B a ∨ a = Dp) α2 ow a → H2 a = some o → Al G.B α2 ow a ∧ cutH H2 Dp a = some o := fun a o h e => ⟨⟨h.1, fun z => h.2.1 (.inl z), h.2.2⟩, by unfold cutH; rw [if_neg fun z => h.2.1 (.inr z)]; exact e⟩
        exact w Dp acc (cutH H2 Dp) α2 (x1.trans xc) (s1.step xc so.gok) (by unfold cutH; rw [if_pos rfl]) (racc.mono hA (List.prefix_refl _)) H2 (cutH_upd hacc)
    · cases e
  · cases e
/-- the walk over the keys of a locked dict -/
theorem walk_keys {K : PySem.W.Frag} {G : Gh} {α : List Addr} {ow : Nat → Option Addr} {H : Hp} {a : Addr} {o : Obj} {kvs : List (Key × V)} {ds : List (DKey × D)} (hA : Al G.B α ow a) (h : H a = some (.frz o (.dK kvs))) (hk : kvs.map (·.1) = ds.map (fun p => dkey p.1)) : WalkD K G.B α ow H (Itk a o kvs) (ds.map fun p => kD p.1) := fun G2 α2 ow2 σ2 H2 ρ2 g2 i s2 z => by
  have hl : kvs.length = ds.length := by have := congrArg List.length hk; rw [List.length_map, List.length_map] at this; exact this
  have h2 := (z.1 a _ hA h).2
  refine ⟨fun hi => ⟨h2, by rw [List.length_map] at hi; omega⟩, fun d hd => ?_⟩
  rw [List.getElem?_map, Option.map_eq_some_iff] at hd
  obtain ⟨q, hq, rfl⟩ := hd
  have hi := (List.getElem?_eq_some_iff.mp hq).1
  refine ⟨⟨h2, by omega⟩, fun x H3 hy => ?_⟩
  obtain ⟨rfl, k, v, hkv, rfl⟩ := hy
  have e1 : (kvs.map (·.1))[i]? = some k := by rw [List.getElem?_map, hkv]; rfl
  rw [hk, List.getElem?_map, hq] at e1
  cases e1
  exact ⟨Ext.refl, s2, rep_kD _⟩
theorem ef_lcK {i : Nat} {x : Str} {p1 : Pos} (hN : X.N.Nodup) (own : List (Str × Nat)) (hi : X.N[i]? = some x) (hv : TgIn p (own.map (·.2)))
    (hg : ∀ (s : Shared) (H : Hp) (C : Addr) (cl : List (Str × Addr)) (fp : List Addr), GC (X.blk s H scope (compEnvC scope cl C X.env) fp) tg p)
    (ht : ∀ (s : Shared) (H : Hp) (C : Addr) (cl : List (Str × Addr)) (fp : List Addr), TCs (X.blk s H scope (compEnvC scope cl C X.env) fp) ifs fc)
    (he : ∀ (s : Shared) (H : Hp) (C : Addr) (cl : List (Str × Addr)) (fp : List Addr), EC (X.blk s H scope (compEnvC scope cl C X.env) fp) elt fe)
    (ok : BlkOk X.N X.env.scope scope own) (hvs : Vis X.env.scope x := by first | exact Or.inl rfl | exact Or.inr (Or.inl rfl) | exact Or.inr (Or.inr rfl)) (hd : (x == ("__debug__" : Str)) = false := by decide) (hcd : (x == ("__classdict__" : Str)) = false := by decide) (hc : X.calm = true := by rfl) (hs : ∀ y, foldedSetIterable (.Name x p1) X.env y = pure y := by intro _; rfl) :
    EF X (.ListComp elt [⟨tg, .Name x p1, ifs, 0⟩] scope pos) (aLc (aKeys i) (own.map (·.2)) p fc fe) := by
  have pe := pe_lc (elt := elt) (pos := pos) (g := tGs X.K p) (tt := tTs X.K fc) (te := tE X.K fe) hc hN (pi_keys (tg := tg) (pe_var (pos := p1) hi hvs hd hcd)) ok (fun s H C cl fp => (hg s H C cl fp).canon) (fun s H C cl fp => (ht s H C cl fp).canon) (fun s H C cl fp => (he s H C cl fp).canon) hs
  have core : ∀ {G : Gh} {α : List Addr} {ow : Nat → Option Addr} {σ : L2.St} {H : Hp} {ρ : Env3} {g : Store} {ds : List D} {g' : Store} {Q : VK} {a : Addr} {o : Obj} {kvs : List (Key × V)} {es : List (DKey × D)}, Sat X.K G α ow σ H ρ g → Al G.B α ow a → σ[i]? = some (some (.ref a)) → H a = some (.frz o (.dK kvs)) → kvs.map (·.1) = es.map (fun p => dkey p.1) → dicOf ρ[i]? = some es → aLc (aKeys i) (own.map (·.2)) p fc fe ρ g = some (ds, g') → WantsF X.K G α ow σ H ρ g' ds Q → tLc (iKeys (tVar i)) (tGs X.K p) (tTs X.K fc) (tE X.K fe) (own.map (·.2)) σ H Q := by
    intro G α ow σ H ρ g ds g' Q a o kvs es s hA hσ hH hk hρ e w
    refine lc_readAt (X := X) (g1 := tGs X.K p) (tt := tTs X.K fc) (te := tE X.K fe) (fun A α σ H v d as Q h1 h2 h3 => ⟨A, α, d, as, h1, h2, h3⟩) (fun G α ow σ H ρ g b g' Q h1 h2 h3 => ⟨G, α, ow, ρ, g, b, g', h1, h2, h3⟩) (fun G α ow σ H ρ g b g' Q h1 h2 h3 => ⟨G, α, ow, ρ, g, b, g', h1, h2, h3⟩) hv s (fun xs g1 R e1 hR => ?_) e w
    unfold aKeys at e1
    rw [hρ] at e1
    cases e1
    exact ⟨_, hσ, a, o, rfl, .inl ⟨kvs, hH, hR _ H α Ext.refl s (walk_keys hA hH hk)⟩⟩
  refine ⟨fun σ H Q => tLc (iKeys (tVar i)) (tGs X.K p) (tTs X.K fc) (tE X.K fe) (own.map (·.2)) σ H Q ∨ tLockE (tLc (iKeys (tVar i)) (tGs X.K p) (tTs X.K fc) (tE X.K fe) (own.map (·.2))) σ H Q, ⟨fun pins s σ H Q I h => h.elim (pe.run pins s σ H Q I) ((pe_lock pe).run pins s σ H Q I)⟩, fun G α ow σ H ρ g ds g' Q s e w => ?_⟩
  have hρ : ∃ es, dicOf ρ[i]? = some es := by
    cases hz : dicOf ρ[i]? with
    | some es => exact ⟨es, rfl⟩
    | none =>
      unfold aLc aKeys at e
      rw [hz] at e
      cases e
  obtain ⟨es, hρ⟩ := hρ
  have hr : ρ[i]? = some (some (.d (.dic es))) := by
    revert hρ
    unfold dicOf
    split
    · rename_i h; intro z; cases z; exact h
    · intro z; cases z
  obtain ⟨y, hy, rep⟩ := s.slot i _ hr
  cases rep with
  | dic hA h hk hi2 =>
    rename_i a kvs
    rcases h with h | ⟨o, h⟩
    · refine .inr ⟨a, .dK kvs, h, trivial, fun od => ?_⟩
      let G1 : Gh := ⟨G.B, fun b => if b = a then (G.H0 a).map fun _ => HO.frz od (.dK kvs) else G.H0 b, G.α0⟩
      have s1 : Sat X.K G1 α ow σ (upd H a (.frz od (.dK kvs))) ρ g := s.simO hA (Sim.lockd h) rfl rfl (fun b hb => by show (if b = a then _ else _) = _; rw [if_neg hb]) (fun o ho => by
        have ho : (if a = a then (G.H0 a).map fun _ => HO.frz od (.dK kvs) else G.H0 a) = some o := ho
        rw [if_pos rfl, Option.map_eq_some_iff] at ho
        obtain ⟨_, _, z⟩ := ho
        exact z.symm)
      refine core s1 hA hy upd_same hk hρ e fun q vs H1 α1 x1 s2 hq r H2 e2 => ?_
      subst e2
      have ha1 : H1 a = some (.frz od (.dK kvs)) := x1.1 a _ upd_same hA.1
      have qa : q ≠ a := fun z => by rw [z, ha1] at hq; cases hq
      have a1 : a ∉ α1 := fun z => by
        rcases x1.2.2 a z with z | z
        · exact hA.1 z
        · rw [upd_same] at z; cases z
      refine ⟨by rw [upd_ne (Ne.symm qa)]; exact ha1, ?_⟩
      have hA1 : Al G1.B α1 ow a := ⟨a1, hA.2⟩
      have m := Sim.unlockd ha1
      have s3 : Sat X.K G α1 ow σ (upd H1 a (.dK kvs)) ρ g' := s2.simO (G' := G) hA1 m rfl rfl (fun b hb => by show _ = (if b = a then _ else _); rw [if_neg hb]) (fun o ho => by
        have := s.ext.1 a o ho (fun z => hA.1 (s.ext.2.1.subset z))
        rw [h] at this
        cases this
        rfl)
      refine w q vs (upd H1 a (.dK kvs)) α1 ⟨fun b o hb hn => ?_, x1.2.1, fun b hb => ?_⟩ s3 (by rw [upd_ne qa]; exact hq) (r.sim m) _ ?_
      · by_cases eb : b = a
        · subst eb; rw [h] at hb; cases hb; exact upd_same
        · rw [upd_ne eb]
          exact x1.1 b o (by rw [upd_ne eb]; exact hb) hn
      · rcases x1.2.2 b hb with z | z
        · exact .inl z
        · refine .inr ?_
          by_cases eb : b = a
          · subst eb; rw [upd_same] at z; cases z
          · rw [upd_ne eb] at z; exact z
      · funext b
        unfold upd
        by_cases e1 : b = a
        · by_cases e2 : b = q
          · exact absurd (e2.symm.trans e1) qa
          · simp [e1, Ne.symm qa]
        · by_cases e2 : b = q
          · simp [e2, qa]
          · simp [e1, e2]
    · exact .inl (core s hA hy h hk hρ e w)
end
end L3

/-! L4o: a dict that a def made and told is the caller's own. -/
namespace L3
open PySem PySem.Spec PyProof.Rows L2 TL
theorem Rep.undic3 {A A' : Addr → Prop} {α : List Addr} {K : PySem.W.Frag} {H H' : Hp} {v : V} {d : D} (h : Rep A α K H v d) (hA : ∀ a o, A a → H a = some o → (∀ kvs, ¬ Rd H a (.dK kvs)) → A' a ∧ H' a = some o) : noDic d = true → Rep A' α K H' v d := by
  have nl : ∀ {a : Addr} {xs : List V}, Rd H a (.lst xs) → ∀ kvs, ¬ Rd H a (.dK kvs) := fun {a xs} h kvs z => by
    rcases h with h | ⟨o, h⟩ <;> rcases z with z | ⟨o', z⟩ <;> (rw [h] at z; cases z)
  induction h with
  | non => exact fun _ => .non
  | bl b => exact fun _ => .bl b
  | int i => exact fun _ => .int i
  | str s => exact fun _ => .str s
  | lst ha h hl _ ih =>
    intro hn
    unfold noDic at hn
    have q := nl h
    rcases h with h | ⟨o, h⟩
    · exact .lst (hA _ _ ha h q).1 (.inl (hA _ _ ha h q).2) hl fun i v d e1 e2 => ih i v d e1 e2 (noDics_at hn e2)
    · exact .lst (hA _ _ ha h q).1 (.inr ⟨o, (hA _ _ ha h q).2⟩) hl fun i v d e1 e2 => ih i v d e1 e2 (noDics_at hn e2)
  | tup h hl _ ih =>
    intro hn
    unfold noDic at hn
    refine .tup ?_ hl fun i v d e1 e2 => ih i v d e1 e2 (noDics_at hn e2)
    rcases h with ⟨ha, o, ho, h⟩ | h
    · have q : ∀ kvs, ¬ Rd H _ (.dK kvs) := fun kvs z => by
        rcases z with z | ⟨o', z⟩ <;> (rw [h] at z; cases z)
      exact .inl ⟨(hA _ _ ha h q).1, o, ho, (hA _ _ ha h q).2⟩
    · exact .inr h
  | dic => intro hn; unfold noDic at hn; cases hn
  | obj h => exact fun _ => .obj h
  | sta x => exact fun _ => .sta x
def cApp (φ : List D → Store → Option (D × Store)) (a : DA) : DDc := bindM a fun xs => fun _ g => if noDics xs = true ∧ g.all soNoDic = true then (match φ xs g with
    | some (.dic kvs, g') => if noDics (kvs.map (·.2)) = true ∧ g'.all soNoDic = true then some (kvs, g') else none
    | _ => none) else none
theorem ok_cApp {ρ : Env3} {g : Store} (φ : List D → Store → Option (D × Store)) (a : DA) (Q : List (DKey × D) → Store → Prop) (h : Ok (a ρ g) fun xs g1 => (noDics xs = true ∧ g1.all soNoDic = true) ∧ Ok (φ xs g1) fun d g2 => ∃ kvs, d = .dic kvs ∧ (noDics (kvs.map (·.2)) = true ∧ g2.all soNoDic = true) ∧ Q kvs g2) : Ok (cApp φ a ρ g) Q := by
  obtain ⟨xs, g1, e1, h1, d, g2, e2, kvs, rfl, h2, q⟩ := h
  refine ⟨kvs, g2, ?_, q⟩
  unfold cApp bindM
  rw [e1]
  dsimp only
  rw [if_pos h1, e2]
  dsimp only
  rw [if_pos h2]
section
variable {X : Cx} {e : Expr} {es : List Expr} {f : DE} {fs : DA} {pos p : Pos} {x : Str}
/-- a value that is locked and new may be unlocked -/
theorem pe_unl {e : Expr} {t : TE} (h : PE X e t) : PE X e (fun σ H Q => t σ H fun v H2 => Q v H2 ∨ ∃ d od u, v = .ref d ∧ H2 d = some (.frz od u) ∧ H d = none ∧ Q v (upd H2 d u)) := by
  refine ⟨fun pins s σ H Q I hw => ?_⟩
  refine thn (h.run pins s σ H _ I hw) fun v s1 ⟨y, H1, I1, r, q⟩ => ?_
  rcases q with q | ⟨d, od, u, rfl, h1, h2, q⟩
  · exact ⟨y, H1, I1, r, q⟩
  · exact ⟨_, _, I1.unlock h1 (fun o' u' z => by have := I.base.frzs d o' u' z; rw [h2] at this; cases this), r, q⟩
theorem efd_call {k j n : Nat} {ps : List Str} {φ : List D → Store → Option (D × Store)}
    (F : FnAt X.prog X.w X.K X.mg X.base k x ps (spD X.K n φ)) (hr : Room j X.A) (ha : AC X (e :: es) fs) (hk : k ≤ j := by decide)
    (hg : Gl X x := by rfl) (hdb : (x == ("__debug__" : Str)) = false := by decide) (he : starEach (e :: es) X.env = (false, eval e X.env) :: starEach es X.env := by rfl) (hpl : (backTo pos (starEach es X.env)).any (·.1) = false := by rfl) (hl : (e :: es).length = n := by rfl) :
    EFD X (.Call (.Name x p) (e :: es) [] pos) (cApp φ fs) := by
  obtain ⟨⟨fd, F, hb, _⟩, gg, kp⟩ := F
  obtain ⟨hal, t, pt, q⟩ := ha
  refine ⟨_, pe_unl (pe_call F (hr.mono hk) hg gg kp hb .nil pass0 pt hdb he hpl), fun G α ow σ H ρ g ds g' Q s e w => ?_⟩
  obtain ⟨xs, g1, e1, e2⟩ := bindM_some e
  split at e2
  · rename_i hin
    split at e2
    · rename_i kvs g0 e3
      split at e2
      · rename_i hout
        cases e2
        refine q G α ow σ H ρ g xs g1 _ s e1 fun vs H1 α1 x1 s1 r1 => ?_
        let B' : Addr → Prop := fun a => G.B a ∨ (∃ i, ow i = some a) ∨ (a ∉ α1 ∧ ∃ kv, Rd H1 a (.dK kv))
        have hA : ∀ a (o : HO), Al G.B α1 ow a → H1 a = some o → (∀ kv, ¬ Rd H1 a (.dK kv)) → Al B' α1 no a ∧ H1 a = some o := fun a o h e hno => ⟨⟨h.1, fun z => by
          rcases z with z | ⟨i, z⟩ | ⟨_, kv, z⟩
          · exact h.2.1 z
          · exact h.2.2 i z
          · exact hno kv z, fun i z => by cases z⟩, e⟩
        rw [List.append_nil]
        refine ⟨B', α1, g1, xs, .dic ds, g', by rw [r1.1, hal _ _ _ _ e1]; exact hl, fun a h => ?_, ⟨s1.gok.len, s1.gok.nd, fun n a o h1 h2 => ?_⟩, ⟨r1.1, fun i v d h1 h2 => (r1.2 i v d h1 h2).undic3 hA (noDics_at hin.1 h2)⟩, e3, fun v H2 α2 x2 gk2 r2 => ?_⟩
        · rcases h with h | ⟨i, h⟩ | ⟨h, kv, r⟩
          · exact s1.blk a h
          · obtain ⟨_, h2, _, h4, _⟩ := s1.own i a h
            exact ⟨h4, h2⟩
          · exact ⟨r.elim (fun r => ⟨_, r⟩) fun ⟨o, r⟩ => ⟨_, r⟩, h⟩
        · have q := s1.gok.so n a o h1 h2
          have hz := List.all_eq_true.mp hin.2 o (List.mem_of_getElem? h2)
          exact q.map (fun _ e => e) fun v d hd r => r.undic3 hA (noDics_mem hz hd)
        · cases r2 with
          | dic hA2 h hk2 hi2 =>
            rename_i a kv
            have a2 : a ∉ α2 := hA2.1
            have a1 : a ∉ α1 := fun z => a2 (x2.2.1.subset z)
            have a0 : a ∉ α := fun z => a1 (x1.2.1.subset z)
            have fresh : H1 a = none := by
              cases hz : H1 a with
              | none => rfl
              | some o =>
                have := x2.1 a o hz a1
                exact absurd (show B' a from .inr (.inr ⟨a1, kv, by
                  rcases h with h | ⟨o', h⟩
                  · rw [this] at h; exact .inl (by rw [hz]; exact h)
                  · rw [this] at h; exact .inr ⟨o', by rw [hz]; exact h⟩⟩)) hA2.2.1
            have fresh0 : H a = none := by
              cases hz : H a with
              | none => rfl
              | some o => rw [x1.1 a o hz a0] at fresh; cases fresh
            have xc : Ext α1 H1 α2 (cutH H2 a) := ⟨fun b o hb hn => by
              unfold cutH
              rw [if_neg fun z => by rw [z, fresh] at hb; cases hb]
              exact x2.1 b o hb hn, x2.2.1, x2.2.2⟩
            have hA3 : ∀ b (o : HO), Al B' α2 no b → H2 b = some o → (∀ kv, ¬ Rd H2 b (.dK kv)) → Al G.B α2 ow b ∧ cutH H2 a b = some o := fun b o hb e hno => ⟨⟨hb.1, fun z => hb.2.1 (.inl z), fun i z => hb.2.1 (.inr (.inl ⟨i, z⟩))⟩, by
              unfold cutH
              rw [if_neg fun z => hno kv (by rw [z]; exact h)]
              exact e⟩
            have gk3 : GOk (Al G.B α2 ow) α2 g' X.K (cutH H2 a) := ⟨gk2.len, gk2.nd, fun n b o h1 h2 => by
              have q := gk2.so n b o h1 h2
              have hz := List.all_eq_true.mp hout.2 o (List.mem_of_getElem? h2)
              refine q.map (fun u e => ?_) fun v d hd r => r.undic3 hA3 (noDics_mem hz hd)
              unfold cutH
              rw [if_neg fun z => a2 (by rw [← z]; exact List.mem_of_getElem? h1)]
              exact e⟩
            have hlen : kv.length = ds.length := by have := congrArg List.length hk2; rw [List.length_map, List.length_map] at this; exact this
            have rk : RepKV (Al G.B α2 ow) α2 X.K (cutH H2 a) kv ds := ⟨hk2, by rw [List.length_map, List.length_map]; exact hlen, fun i v d h1 h2 => by
              have hd := noDics_at hout.1 h2
              rw [List.getElem?_map, Option.map_eq_some_iff] at h1 h2
              obtain ⟨p1, h1, rfl⟩ := h1
              obtain ⟨p2, h2, rfl⟩ := h2
              exact (hi2 i p1 p2 h1 h2).undic3 hA3 hd⟩
            have fin := w a kv (cutH H2 a) α2 (x1.trans xc) (s1.step xc gk3) (by unfold cutH; rw [if_pos rfl]) rk
            rcases h with h | ⟨o, h⟩
            · exact .inl (fin H2 (cutH_upd h))
            · refine .inr ⟨a, o, .dK kv, rfl, h, fresh0, fin _ ?_⟩
              funext b
              unfold upd cutH
              by_cases eb : b = a
              · rw [if_pos eb, if_pos eb]
              · rw [if_neg eb, if_neg eb, if_neg eb]
      · cases e2
    · cases e2
  · cases e2
end
/-! ### len(d) -/
section
variable {X : Cx}
theorem call_lenD : CallR X (.builtin "len") (fun xs H Q => ∃ a kvs, xs = [.ref a] ∧ Rd H a (.dK kvs) ∧ Q (.int kvs.length) H) := by
  intro pins s σ H xs us Q I r h
  obtain ⟨a, kvs, rfl, h1, q⟩ := h
  obtain ⟨u, rfl, rx⟩ := vals1 r
  cases rx
  exact d_len I h1 fun t s' I' => ⟨.int kvs.length, H, I', ⟨t, rfl⟩, q⟩
def dLenA : List D → Option D
  | [.dic ds] => some (.int ds.length)
  | xs => dLen xs
theorem dLenA_d (ds : List (DKey × D)) : dLenA [.dic ds] = some (.int ds.length) := rfl
theorem cd_lenA : CallD X (.builtin "len") dLenA := by
  obtain ⟨r0, c0, q0⟩ := cd_len (X := X)
  refine ⟨_, OrR c0 call_lenD, fun G α ow σ H ρ g vs ds d Q s r e w => ?_⟩
  unfold dLenA at e
  split at e
  · cases e
    obtain ⟨v, rfl, r1⟩ := BRepAll.one1 r
    obtain ⟨a, kvs, rfl, h1, h2⟩ := r1.dicKV
    refine .inr ⟨a, kvs, rfl, h1, ?_⟩
    rw [h2.len]
    exact w _ H Ext.refl s (.int _)
  · exact .inl (q0 G α ow σ H ρ g vs ds d Q s r e w)
end
end L3

/-! L4p: t[::-1] of a tuple; own list += list. -/
namespace L3
open PySem PySem.Spec PyProof.Rows L2 TL HT
theorem fm_congr {β γ : Type} {f g : β → Option γ} : ∀ {l : List β}, (∀ x ∈ l, f x = g x) → l.filterMap f = l.filterMap g
  | [], _ => rfl
  | x :: r, h => by rw [List.filterMap_cons, List.filterMap_cons, h x List.mem_cons_self, fm_congr fun y hy => h y (List.mem_cons_of_mem _ hy)]
theorem fm_range {β : Type} : ∀ l : List β, (List.range l.length).filterMap (fun m => l[m]?) = l
  | [] => rfl
  | x :: r => by
    rw [List.length_cons, List.range_succ_eq_map, List.filterMap_cons]
    simp only [List.getElem?_cons_zero]
    rw [List.filterMap_map]
    have e : ((fun m => (x :: r)[m]?) ∘ Nat.succ) = fun m => r[m]? := by funext m; simp
    rw [e, fm_range r]
theorem valsRev {xs : List V} {its : List Value} (r : Vals xs its) : Vals xs.reverse its.reverse := by
  induction r with
  | nil => exact .nil
  | cons h t ih =>
    rw [List.reverse_cons, List.reverse_cons]
    exact ih.append (.cons h .nil)
section
variable {prog : Program} {w : World} {A : Around} {E : Value → Shared → Prop} {s : Shared}
theorem places_rev (n : Nat) : Builtin.Slice.slicePlaces ((n : Int) - 1) (-1) (-1) = n := by
  unfold Builtin.Slice.slicePlaces
  rw [if_neg (by decide)]
  by_cases h : 0 < n
  · rw [if_pos (by omega)]
    have : ((n : Int) - 1 - -1 - 1) / (- -1) + 1 = n := by
      rw [show (- -1 : Int) = 1 by decide, Int.ediv_one]
      omega
    rw [this]
    simp
  · rw [if_neg (by omega)]
    simp
    omega
theorem sliceApplied_rev {sl : Addr} {t : Tok} {n : Nat} {Q : Int × Int × Nat → Shared → Prop} (hs : s.heap.IsSliceOf sl .none .none (.int (-1) t))
    (h : Q ((n : Int) - 1, -1, n) s) : wpAny (model prog w) A (Builtin.Slice.sliceApplied (.ref sl) (pure (n : Int))) Q E s := by
  obtain ⟨os, hos, hcs, hds⟩ := id hs
  unfold Builtin.Slice.sliceApplied Builtin.Slice.sliceFields
  refine wpAny_bind (wpAny_bind (wpAny_field hos hds (x := .none) rfl (wpAny_bind (wpAny_field hos hds (x := .none) rfl (wpAny_bind (wpAny_field hos hds (x := .int (-1) t) rfl (wpAny_pure ?_)))))))
  refine wpAny_bind (slicePart_int ?_)
  show wpAny _ _ (if ((-1 : Int) == 0) = true then _ else _) _ _ s
  rw [if_neg (by decide)]
  refine wpAny_bind (slicePart_none (wpAny_bind (slicePart_none (wpAny_bind (wpAny_pure ?_)))))
  show wpAny _ _ (pure ((n : Int) - 1, (-1 : Int), Builtin.Slice.slicePlaces ((n : Int) - 1) (-1) (-1))) _ _ s
  rw [places_rev]
  exact wpAny_pure h
theorem pick_rev (xs : Array Value) : ((List.range xs.size).filterMap fun (m : Nat) => xs[((xs.size : Int) - 1 + (m : Int) * (-1)).toNat]?).toArray = xs.toList.reverse.toArray := by
  congr 1
  have e : ∀ m, m ∈ List.range xs.size → xs[((xs.size : Int) - 1 + (m : Int) * (-1)).toNat]? = xs.toList.reverse[m]? := fun m hm => by
    rw [List.mem_range] at hm
    have e1 : ((xs.size : Int) - 1 + (m : Int) * (-1)).toNat = xs.size - 1 - m := by omega
    rw [e1, List.getElem?_reverse (by simpa using hm)]
    simp
  rw [fm_congr e]
  have h2 := fm_range xs.toList.reverse
  rw [List.length_reverse, Array.length_toList] at h2
  exact h2
theorem getItem_tuple_rev {t sl : Addr} {items : Array Value} {tk : Tok} {Q : Value → Shared → Prop} (ht : IsTup s.heap t items) (hs : s.heap.IsSliceOf sl .none .none (.int (-1) tk))
    (h : Q (.ref s.heap.objs.size) { s with heap := s.heap.push { cls := .type "tuple", data := .seq items.toList.reverse.toArray } })
    (hsz : items.size ≤ sizeLine) : wpAny (model prog w) A (getItem (.ref t) (.ref sl)) Q E s := by
  have htake : sizeOk (.seq items.toList.reverse.toArray) := by
    show items.toList.reverse.toArray.size ≤ sizeLine
    rw [List.size_toArray, List.length_reverse, Array.length_toList]
    exact hsz
  obtain ⟨os, hos, hcs, hds⟩ := id hs
  have hTs : s.TypeIs (.ref sl) "slice" := ⟨os, hos, hcs⟩
  unfold getItem
  try with_reducible refine wpAny_holding ?_
  first | refine wpAny_bind (wpAny_pure ?_) | skip
  refine wpAny_bind (wpAny_sequenceKey ht.typeIs (by decide) ?_)
  refine wpAny_bind (wpAny_callSpecial?_slot (name := Str.ofString "__getitem__") ht.typeIs PyProof.Rows.slot_tuple_getitem
    (wpAny_call_entry PyProof.Rows.slot_tuple_getitem ht.typeIs entry_tuple_getitem ?_ (args_tuple_getitem _ _)))
  show wpAny _ _ (Builtin.Tuple.tupleItemsOf (.ref t) >>= _) _ _ s
  refine wpAny_bind (tupleItemsOf_ ht ?_)
  refine wpAny_bind (wpAny_typeOf hTs ?_)
  rw [if_pos (by decide)]
  refine wpAny_bind (sliceApplied_rev hs ?_)
  have hno : ¬ ((((items.size : Int) - 1) == 0 && (-1 : Int) == 1 && items.size == items.size) = true) := by
    intro q
    rw [Bool.and_eq_true, Bool.and_eq_true] at q
    exact absurd q.1.2 (by decide)
  show wpAny _ _ (if (((items.size : Int) - 1) == 0 && (-1 : Int) == 1 && items.size == items.size) = true then _ else _) _ _ s
  rw [if_neg hno, pick_rev]
  first
    | exact wpAny_bind (m := Builtin.Tuple.tupleExact _) (wpAny_newObj_type (wpAny_pure ⟨_, rfl, wpAny_pure h⟩) htake)
    | exact wpAny_bind (m := Builtin.Tuple.tupleExact _) (wpAny_newObj_type (wpAny_bind (wpAny_pure (wpAny_pure ⟨_, rfl, wpAny_pure h⟩))) htake)
    | exact wpAny_bind (wpAny_bind (m := Builtin.Tuple.tupleExact _) (wpAny_newObj_type (wpAny_pure (wpAny_pure ⟨_, rfl, wpAny_pure h⟩)) htake))
    | exact wpAny_bind (wpAny_bind (m := Builtin.Tuple.tupleExact _) (wpAny_newObj_type (wpAny_pure ⟨_, rfl, wpAny_pure h⟩) htake))
end
section
variable {X : Cx} {e st : Expr} {te : TE} {th : L2.TO} {fa fs : DE} {pos p2 : Pos}
theorem pe_rev (he : PE X e te) (hst : PO X (some st) th) : PE X (.Subscript e (.Slice none none (some st) p2) pos) (fun σ H Q => te σ H fun x H1 => th σ H1 fun l H2 => l = some (-1) ∧ ∃ a xs, x = .ref a ∧ SqT X.K H2 a xs ∧ NewT H2 xs.reverse Q) := by
  refine ⟨fun pins s σ H Q I h => ?_⟩
  refine Subscript_ (thn (he.run pins s σ H _ I h) fun v s1 ⟨x, H1, I1, r1, q1⟩ => ?_)
  refine wpAny_Slice ?_
  rw [evalPart_none]
  refine wpAny_pure (wpAny_pure ?_)
  refine thn (hst.run pins s1 σ H1 _ I1 q1) fun vs s3 ⟨l, H3, I3, pl, el, a, xs, ex, hx, q3⟩ => ?_
  subst el ex
  cases pl with
  | int _ tk =>
  have I4 : Inv X pins σ H3 { s3 with heap := s3.heap.push { cls := .type "slice", data := .fields #[.none, .none, .int (-1) tk] } } := I3.kept (t' := s3.toks) fun b ob q => Heap.get?_push_of_some _ q
  cases r1
  obtain ⟨its, r, ht, hz⟩ := I4.tuple hx
  have ln : its.toArray.size = xs.length := by rw [List.size_toArray]; exact r.length.symm
  show wpAny (model X.prog X.w) X.A (subscriptTail e (.Slice none none (some st) p2) (.ref a) (.ref s3.heap.objs.size)) (EP X pins σ Q) X.xe { s3 with heap := s3.heap.push { cls := .type "slice", data := .fields #[.none, .none, .int (-1) tk] } }
  refine tail_any (ops := [.ref a, .ref s3.heap.objs.size]) ht.typeIs PyProof.Rows.slot_tuple_getitem.lookup (getItem_tuple_rev ht (Heap.IsSliceOf.new ..) ?_ (by rw [ln]; exact hz)) (by with_unfolding_all rfl)
  exact laidT I4 (valsRev r) (by rw [List.length_reverse]; exact hz) q3
def dRev : D → Option D
  | .tup xs => some (.tup xs.reverse)
  | _ => none
theorem dRev_t (xs : List D) : dRev (.tup xs) = some (.tup xs.reverse) := rfl
def eRev (f : DE) (fo : DO) : DE := bindM f fun x => bindM fo fun o => liftM (if o = some (-1) then dRev x else none)
theorem RepAll.rev {A : Addr → Prop} {α : List Addr} {K : PySem.W.Frag} {H : Hp} {vs : List V} {ds : List D} (h : RepAll A α K H vs ds) : RepAll A α K H vs.reverse ds.reverse := by
  refine ⟨by rw [List.length_reverse, List.length_reverse, h.1], fun i v d e1 e2 => ?_⟩
  have l1 := (List.getElem?_eq_some_iff.mp e1).1
  rw [List.length_reverse] at l1
  rw [List.getElem?_reverse l1] at e1
  rw [List.getElem?_reverse (by rw [← h.1]; exact l1), ← h.1] at e2
  exact h.2 _ v d e1 e2
theorem ec_rev (ha : EC X e fa) {fo : DO} (ho : OC X (some st) fo) : EC X (.Subscript e (.Slice none none (some st) p2) pos) (eRev fa fo) := by
  obtain ⟨t, pt, hq⟩ := ha
  obtain ⟨tl, pl, ql⟩ := ho
  refine ⟨_, pe_rev pt pl, fun G α ow σ H ρ g d g' Q s e w => ?_⟩
  obtain ⟨x, g1, e1, e2⟩ := bindM_some e
  obtain ⟨o, g2, e3, e4⟩ := bindM_some e2
  obtain ⟨e5, rfl⟩ := liftM_some e4
  split at e5
  · rename_i ho
    subst ho
    unfold dRev at e5
    split at e5
    · cases e5
      refine hq G α ow σ H ρ g _ g1 _ s e1 fun v H1 α1 x1 s1 r1 => ?_
      refine ql G α1 ow σ H1 ρ g1 _ g2 _ s1 e3 fun H2 α2 x2 s2 => ?_
      obtain ⟨p, vs, rfl, h1, h2⟩ := (BRep.of (r1.ext x2)).tup
      exact ⟨rfl, p, vs, rfl, h1, fun q o hq ho => w _ _ α2 ((x1.trans x2).trans (Ext.new hq)) (s2.new hq) (s2.newT hq ho h2.rev)⟩
    · cases e5
  · cases e5
theorem ok_eRev {ρ : Env3} {g : Store} (f : DE) (fo : DO) (Q : D → Store → Prop) : Ok (eRev f fo ρ g) Q ↔ Ok (f ρ g) fun x g1 => Ok (fo ρ g1) fun o g2 => OkO (if o = some (-1) then dRev x else none) fun z => Q z g2 := by
  unfold eRev; simp only [okb, okl]
end
/-! ### xs += ys, xs a slot's own list, ys a new one -/
theorem seqI_list_add : seqSlot? (.type "list") (dunderI "add") = pure (some (.builtin "list.__iadd__")) := PySem.seqSlot_of PySem.F.slot_list_iadd.lookup (by decide +kernel)
section
variable {prog : Program} {w : World} {A : Around} {E : Value → Shared → Prop} {s : Shared}
theorem inplaceOp_iconcat {a b : Value} {T id : String} {Q : Value → Shared → Prop} (ha : s.TypeIs a T) (hb : s.TypeIs b T) (slot : typeLookup (.type T) (dunderI "add") = pure (some (.builtin id))) (hq : isSeqSlot (some (.builtin id)) = true)
    (hfill : fillsNumberSlot (.type T) "add" = pure false) (hseq : seqSlot? (.type T) (dunderI "add") = pure (some (.builtin id)))
    (hc : wpAny (model prog w) A (call (.builtin id) [a, b]) Q E s) : wpAny (model prog w) A (inplaceOp .Add a b) Q E s := by
  unfold inplaceOp
  refine wpAny_holding ?_
  have hfi : fillsInplaceSlot (.type T) "add" (Operator.Add == .Add) = pure false := by
    unfold fillsInplaceSlot
    show (typeLookup (.type T) (dunderI "add") >>= fun fi => pure (fi.isSome && !isSeqSlot fi)) = pure false
    rw [slot]
    show (pure (true && !isSeqSlot (some (.builtin id))) : Sem Bool) = pure false
    rw [hq]
    rfl
  refine wpAny_bind (wpAny_typeOf ha (wpAny_bind (wpAny_of_eq hfi ?_)))
  show wpAny _ A (if false = true then _ else _) Q E s
  rw [if_neg Bool.false_ne_true]
  refine wpAny_bind (PyProof.Rows.binaryOp1_none (nm := "add") ha hb hfill ?_)
  refine wpAny_bind (wpAny_of_eq hseq ?_)
  exact wpAny_bind (wpAny_rule hc)
end
section
variable {X : Cx}
def rExtL : R2 := fun x y H Q => ∃ l b xs ys, x = .ref l ∧ y = .ref b ∧ H l = some (.lst xs) ∧ H b = some (.lst ys) ∧ xs.length + ys.length ≤ sizeLine ∧ Q (.ref l) (upd H l (.lst (xs ++ ys)))
theorem iop_extL : OpR X (inplaceOp .Add) rExtL := by
  intro pins s σ H x y v u Q I rx ry h
  obtain ⟨l, b, xs, ys, rfl, rfl, hl, hb, hz, q⟩ := h
  cases rx
  cases ry
  obtain ⟨z, l1, n, r, hl1, e⟩ := I.lstM hl
  obtain ⟨z2, l2, n2, r2, hl2, e2⟩ := I.lstM hb
  have sz : l1.toArray.size + l2.toArray.size ≤ sizeLine := by simp only [List.size_toArray]; omega
  have nl : ¬ (!l1.toArray.isEmpty && Builtin.List.listTooLong (l1.toArray.size + l2.toArray.size)) = true := by
    rw [notLongL sz, Bool.and_false]
    decide
  refine inplaceOp_iconcat ⟨_, e, rfl⟩ ⟨_, e2, rfl⟩ PySem.F.slot_list_iadd.lookup (by decide +kernel) noFill_list_add seqI_list_add ?_
  refine call_meets PySem.F.slot_list_iadd ⟨_, e, rfl⟩ PySem.F.entry_list_iadd (PySem.F.args_list_iadd_2 _ _) (AutoSeq1.list___iadd___list_list_0 l l1.toArray n b l2.toArray n2 nl (by simp only [List.size_toArray] at sz ⊢; omega) (by omega)) ⟨e, e2, ?_⟩
  exact ⟨.ref l, _, I.lset (its' := l1 ++ l2) hl e (by simp) (r.append r2) (by rw [List.length_append]; exact hz), rfl, q⟩
end
def sExtL (i : Nat) (f : DA) : DS := fun ρ g => match ρ[i]? with
  | some (some (.own xs)) => match f ρ g with
    | some (ys, g1) => if xs.length + ys.length ≤ BIG then some (.nx (ρ.set i (some (.own (xs ++ ys)))), g1) else none
    | none => none
  | _ => none
section
variable {X : Cx} {e : Expr} {fe : DA} {pos : Pos}
theorem sc_augL {i : Nat} {x : Str} {pos' : Pos} (hN : X.N.Nodup) (he : EF X e fe) (hi : X.N[i]? = some x := by rfl) (hx : Loc X.env.scope x := by first | exact Or.inl rfl | exact Or.inr rfl)
    (hf : X.fn x = true ∨ X.env.scope.names.lookup x = some .local := by first | exact .inl rfl | exact .inr rfl | assumption) : SC X (.AugAssign (.Name x pos') .Add e pos) (sExtL i fe) := by
  obtain ⟨t, pt, hq⟩ := he
  refine ⟨_, ps_aug hN hi hx pt (ti := rExtL) iop_extL hf, fun G α ow σ H ρ g out g' Dn s e w => ?_⟩
  unfold sExtL at e
  split at e
  · rename_i xs hx0
    split at e
    · rename_i ys g1 e1
      split at e
      · rename_i hl
        cases e
        obtain ⟨a, vs, h1, h2, h3, h4⟩ := s.slot i _ hx0
        refine ⟨_, h2, hq G α ow σ H ρ g ys g' _ s e1 fun q us H1 α1 x1 s1 hqn r H2 eH => ?_⟩
        subst eH
        have h31 := x1.1 a _ h3 (s.own i a h1).2.1
        have ne : a ≠ q := fun z => by rw [z, hqn] at h31; cases h31
        refine ⟨a, q, vs, us, rfl, rfl, by rw [upd_ne ne]; exact h31, upd_same, by rw [h4.1, r.1]; exact Nat.le_trans hl big_line, ?_⟩
        have s2 := s1.new (o := .lst us) hqn
        have r2 := ((h4.ext x1).append r).ext (Ext.new (α := α1) (o := .lst us) hqn)
        have m := s2.mut (xs := xs ++ ys) h1 (List.getElem?_eq_some_iff.mp hx0).1 h2 r2
        have es : σ.set i (some (.ref a)) = σ := by
          apply List.ext_getElem?
          intro j
          by_cases hj : j = i
          · subst hj
            rw [List.getElem?_set_self (List.getElem?_eq_some_iff.mp h2).1, h2]
          · rw [List.getElem?_set_ne (Ne.symm hj)]
        show Dn.nx (σ.set i (some (.ref a))) _
        rw [es]
        exact w _ _ _ _ m.1 ((x1.trans (Ext.new hqn)).fz.trans m.2)
      · cases e
    · cases e
  · cases e
end
theorem ok_sExtL {ρ : Env3} {g : Store} (i : Nat) (f : DA) (Q : Out → Store → Prop) : Ok (sExtL i f ρ g) Q ↔ OkO (ownOf ρ[i]?) fun xs => Ok (f ρ g) fun ys g1 => xs.length + ys.length ≤ BIG ∧ Q (.nx (ρ.set i (some (.own (xs ++ ys))))) g1 := by
  constructor
  · rintro ⟨o, g1, e, q⟩
    unfold sExtL at e
    split at e
    · rename_i xs hx
      split at e
      · rename_i ys g2 e1
        split at e
        · rename_i hl
          cases e
          exact ⟨xs, by rw [hx]; rfl, ys, g1, e1, hl, q⟩
        · cases e
      · cases e
    · cases e
  · rintro ⟨xs, hx, ys, g1, e1, hl, q⟩
    refine ⟨_, _, ?_, q⟩
    unfold sExtL
    rw [own_at hx]
    dsimp only
    rw [e1]
    dsimp only
    rw [if_pos hl]
theorem dLenA_t (xs : List D) : dLenA [.tup xs] = some (.int xs.length) := rfl
theorem dLenA_l (xs : List D) : dLenA [.lst xs] = some (.int xs.length) := rfl
theorem aListA_t (xs : List D) : aListA [.tup xs] = some xs := rfl
theorem aListA_l (xs : List D) : aListA [.lst xs] = some xs := rfl
end L3

/-! L4q: a, b = a list. -/
namespace L3
open PySem PySem.Spec PyProof.Rows L2 TL HT
def tgTL (ts : List D → Option (List (Nat × D))) : D → Option (List (Nat × D))
  | .tup xs => ts xs
  | .lst xs => ts xs
  | _ => none
section
variable {X : Cx} {pos : Pos}
def gLst (K : PySem.W.Frag) (n : Nat) (t : TGs) : TG := fun v σ H Q => ∃ a xs, v = .ref a ∧ SqL K H a xs ∧ xs.length = n ∧ t xs σ H Q
theorem pg_lst {es : List Expr} {k : Nat} {t : TGs} {n : Nat} (hc : X.calm = true) (h : PGs X es t)
    (hn : (assignEach es X.env).length = n := by rfl) (hst : (assignEach es X.env).findIdx? (·.1) = none := by rfl) : PG X (.Tuple es k pos) (gLst X.K n t) := by
  refine ⟨fun pins s σ H v u Q I r hw => ?_⟩
  obtain ⟨a, xs, e1, hq, hl, hw⟩ := hw
  subst e1
  cases r
  obtain ⟨its, rv, ht, hz⟩ := I.list hq
  rw [assign_Tuple]
  refine wpAny_bind (wpAny_standAt ?_)
  unfold unpack
  rw [show (assignEach es X.env).length = its.toArray.size by simp [hn, ← hl, rv.length], hst]
  refine wpAny_bind (wpAny_holding (PySem.W.kun_itemsOf (I.ok.hd hc) ht.isList fun h' hx => ?_))
  have I1 : Inv X pins σ H { s with heap := h' } := I.kept (t' := s.toks) fun b o e => hx b o (Nat.ne_of_lt (Heap.lt_size e)) e
  exact h.run pins _ σ H xs _ Q I1 (by simpa using rv) hw
theorem pg_or {e : Expr} {t1 t2 : TG} (h1 : PG X e t1) (h2 : PG X e t2) : PG X e (fun v σ H Q => t1 v σ H Q ∨ t2 v σ H Q) :=
  ⟨fun pins s σ H v u Q I r h => h.elim (h1.run pins s σ H v u Q I r) (h2.run pins s σ H v u Q I r)⟩
theorem gc_tupL {es : List Expr} {k : Nat} {ps : List D → Option (List (Nat × D))} (hc : X.calm = true) (h : GCs X es ps) (hst : (assignEach es X.env).findIdx? (·.1) = none := by rfl) : GC X (.Tuple es k pos) (tgTL ps) := by
  obtain ⟨l, t, pt, q⟩ := h
  refine ⟨_, pg_or (pg_tup hc pt rfl hst) (pg_lst hc pt rfl hst), fun A α σ H v d as Q r e w => ?_⟩
  unfold tgTL at e
  split at e
  · cases r with
    | tup hs hl hi => exact .inl ⟨_, _, rfl, hs.sq, by rw [hl]; exact l _ _ e, q A α σ H _ _ as Q ⟨hl, hi⟩ e w⟩
  · cases r with
    | lst hA h hl hi => exact .inr ⟨_, _, rfl, .inl h, by rw [hl]; exact l _ _ e, q A α σ H _ _ as Q ⟨hl, hi⟩ e w⟩
  · cases e
end
end L3

/-! L4r: zip of two lists. -/
namespace L3
open PySem PySem.Spec PyProof.Rows L2 TL
def ItzL (K : PySem.W.Frag) (p q : Addr) : It where
  go := (Itz K p q).go
  stop := (Itz K p q).stop
  yld := fun n H v H2 => ∃ T o x y, v = .ref T ∧ H T = none ∧ TO o ∧ H2 = upd H T (.frz o (.tup [x, y])) ∧ (∀ l, SqL K H p l → l[n]? = some x) ∧ ∀ l, SqL K H q l → l[n]? = some y
section
variable {P : Program} {w : World} {K : PySem.W.Frag} {elts : List Expr} {kk : Nat} {tp : Pos} {p q z TI TO' i1 i2 : Addr}
theorem turn_zipL (D : ZipApart z TI TO' i1 i2 p q) :
    Turn P w K (.Tuple elts kk tp) (ItzL K p q) [z, TI, TO', i1, i2] z (fun n h => IsZip h z TI TO' .none ∧ IsPair h TI (.ref i1) (.ref i2) ∧ (∃ x y, IsPair h TO' x y) ∧ h.IsListIter i1 p n ∧ h.IsListIter i2 q n) where
  mem := (turn_zip (P := P) (w := w) (K := K) (elts := elts) (kk := kk) (tpos := tp) D).mem
  obj := (turn_zip (P := P) (w := w) (K := K) (elts := elts) (kk := kk) (tpos := tp) D).obj
  keep := (turn_zip (P := P) (w := w) (K := K) (elts := elts) (kk := kk) (tpos := tp) D).keep
  done := (turn_zip (P := P) (w := w) (K := K) (elts := elts) (kk := kk) (tpos := tp) D).done
  self := (turn_zip (P := P) (w := w) (K := K) (elts := elts) (kk := kk) (tpos := tp) D).self
  item := by
    intro X eP ew eK cm n pins s σ H E I fk ⟨z1, z2, ⟨u0, v0, z3⟩, z4, z5⟩ ⟨xs, ys, x, y, sx, sy, gx, gy⟩
    subst eP ew eK
    obtain ⟨l1, rv1, t1, _⟩ := I.list sx
    obtain ⟨l2, rv2, t2, _⟩ := I.list sy
    obtain ⟨u, hu, ru⟩ := rv1.get gx
    obtain ⟨v, hv, rv⟩ := rv2.get gy
    have zl := Heap.lt_size z1
    have ff : ∀ c ∈ [z, TI, TO', i1, i2], c < s.heap.objs.size := by
      obtain ⟨_, q4, _⟩ := id z4
      obtain ⟨_, q5, _⟩ := id z5
      have a2 := Heap.lt_size z2
      have a3 := Heap.lt_size z3
      have a4 := Heap.lt_size q4
      have a5 := Heap.lt_size q5
      simp only [List.mem_cons, List.not_mem_nil, or_false]
      rintro c (rfl | rfl | rfl | rfl | rfl) <;> assumption
    refine wpAny_pyNext_zip_item D z1 z2 z3 z4 z5 t1.isList t2.isList (x := u) (y := v) (by simpa using hu) (by simpa using hv) fun h1 y1 y3 y4 y5 nT _ kp => ?_
    refine ⟨_, rfl, wpAny_letOwnedTupleGo_zip (s := { s with heap := h1 }) y1 fun h2 w1 sb => ?_⟩
    have oT : h2.get? s.heap.objs.size = some { cls := .type "tuple", data := .seq #[u, v] } := (sb.2 _ (Nat.ne_of_gt zl)).trans nT
    have I2 : Inv X pins σ (upd H s.heap.objs.size (.frz { cls := .type "tuple", data := .seq #[u, v] } (.tup [x, y]))) { s with heap := h2 } := by
      refine I.turnedNew (t' := s.toks) (ch := [z, TI, TO', i1, i2]) (fun c o nc g => ?_) fk (Nat.le_refl _) ⟨oT, by show 2 ≤ sizeLine; decide, [u, v], .cons ru (.cons rv .nil), ⟨_, oT, rfl, _, rfl⟩⟩
      simp only [List.mem_cons, List.not_mem_nil, or_false, not_or] at nc
      exact (sb.2 c nc.1).trans (kp c o nc.1 nc.2.2.1 nc.2.2.2.1 nc.2.2.2.2 g)
    refine ⟨.ref s.heap.objs.size, _, I2, rfl, ⟨_, _, x, y, rfl, I.hok.fresh (Nat.le_refl _), ⟨rfl, rfl, rfl⟩, rfl, fun l hl => ?_, fun l hl => ?_⟩, ⟨w1, ?_, ⟨u, v, ?_⟩, ?_, ?_⟩, fun c hc => ?_⟩
    · rw [I.list_inj hl sx]
      exact gx
    · rw [I.list_inj hl sy]
      exact gy
    · exact (sb.2 TI D.TIz).trans (kp TI _ D.TIz D.TITO D.TIi1 D.TIi2 z2)
    · exact (sb.2 TO' D.TOz).trans y3
    · exact y4.at fun o g => (sb.2 i1 D.i1z).trans g
    · exact y5.at fun o g => (sb.2 i2 D.i2z).trans g
    · rw [upd_ne (Nat.ne_of_lt (ff c hc))]
      exact (fk c hc).1
end
def iZipL (K : PySem.W.Frag) (ta : TA) : TI := fun σ H R => ta σ H fun vs H1 => ∃ p q xs ys, vs = [.ref p, .ref q] ∧ SqL K H1 p xs ∧ SqL K H1 q ys ∧ R (ItzL K p q) H1
section
variable {X : Cx} {e1 e2 : Expr} {p0 pos tp : Pos} {elts : List Expr} {kk : Nat}
theorem pi_zipL {ta : TA} (hg : Gl X "zip") (hm : X.mg "zip" = none) (ha : PA X [e1, e2] ta) (ns : starEach [e1, e2] X.env = (false, eval e1 X.env) :: starEach [e2] X.env := by rfl) (np : (backTo pos (starEach [e2] X.env)).any (·.1) = false := by rfl) :
    PI X (.Tuple elts kk tp) (.Call (.Name "zip" p0) [e1, e2] [] pos) (iZipL X.K ta) := by
  refine ⟨fun pins s σ H R I h => Call_ (ld_blt I hg hm PyProof.Rows.boot_zip (PyProof.Rows.callWith_type1 (thn (ha.run pos pins s σ H _ I h) fun us s1 ⟨vs, H1, I1, r1, q1⟩ => ?_) ns np))⟩
  obtain ⟨p, q, xs, ys, rfl, sx, sy, q1⟩ := q1
  obtain ⟨u1, u2, rfl, ra, rb⟩ : ∃ u1 u2, us = [u1, u2] ∧ RelV (.ref p) u1 ∧ RelV (.ref q) u2 := by
    cases r1 with
    | cons c1 c2 => cases c2 with | cons d1 d2 => cases d2; exact ⟨_, _, rfl, c1, d1⟩
  cases ra
  cases rb
  obtain ⟨l1, rv1, t1, _⟩ := I1.list sx
  obtain ⟨l2, rv2, t2, _⟩ := I1.list sy
  have g1 := t1.lt
  have g2 := t2.lt
  generalize hb : s1.heap.objs.size = B at *
  refine call_zip_2 t1.isList t2.isList fun h2 y1 y2 y3 y4 y5 _ kp => wpAny_pyIter_zip y1 ?_
  refine ⟨B + 4, [B + 4, B + 2, B + 3, B, B + 1], _, _, H1, by rw [hb], I1.kept (t' := s1.toks) kp, turn_zipL (PySem.W.ktu_apart B p q g1 g2), ?_, fun c hc => ?_, q1⟩
  · exact hb ▸ ⟨y1, y2, ⟨_, _, y3⟩, y4, y5⟩
  · have le : s1.heap.objs.size ≤ c := by
      rw [hb]
      simp only [List.mem_cons, List.not_mem_nil, or_false] at hc
      rcases hc with rfl | rfl | rfl | rfl | rfl <;> omega
    exact I1.fpOk le (I1.hok.fresh le)
def dZipL : List D → Option (List D)
  | [.lst xs, .lst ys] => some (List.zipWith twoD xs ys)
  | _ => none
theorem dZipL_l (xs ys : List D) : dZipL [.lst xs, .lst ys] = some (List.zipWith twoD xs ys) := rfl
theorem ic_zipL {fa : DA} (hm : X.mg "zip" = none) (ha : AC X [e1, e2] fa) (hg : Gl X "zip" := by rfl) (ns : starEach [e1, e2] X.env = (false, eval e1 X.env) :: starEach [e2] X.env := by rfl) (np : (backTo pos (starEach [e2] X.env)).any (·.1) = false := by rfl) :
    IC X (.Tuple elts kk tp) (.Call (.Name "zip" p0) [e1, e2] [] pos) (aFn dZipL fa) := by
  obtain ⟨_, t, pt, hq⟩ := ha
  refine ⟨_, pi_zipL hg hm pt ns np, fun G α ow σ H ρ g ds g' R s e w => ?_⟩
  obtain ⟨as, g1, e1, e2⟩ := bindM_some e
  obtain ⟨e3, rfl⟩ := liftM_some e2
  unfold dZipL at e3
  split at e3
  · rename_i xs ys
    cases e3
    refine hq G α ow σ H ρ g _ g1 _ s e1 fun vs H1 α1 x1 s1 r1 => ?_
    have l1 := r1.1
    match vs, l1 with
    | [v1, v2], _ =>
      have ra := r1.2 0 v1 _ rfl rfl
      have rb := r1.2 1 v2 _ rfl rfl
      cases ra with
      | @lst _ vx _ ha h1 hla hia =>
        cases rb with
        | @lst _ vy _ hb h2 hlb hib =>
          refine ⟨_, _, vx, vy, rfl, .inl h1, .inl h2, w _ H1 α1 x1 s1 fun G2 α2 ow2 σ2 H2 ρ2 g2 i s2 z => ⟨fun hi => ?_, fun d hd => ?_⟩⟩
          · rw [List.length_zipWith] at hi
            refine ⟨vx, vy, .inl (Rd.fzb z ha h1), .inl (Rd.fzb z hb h2), ?_⟩
            rw [hla, hlb]
            omega
          · rw [List.getElem?_zipWith] at hd
            cases ex : xs[i]? with
            | none => rw [ex] at hd; cases hd
            | some dx =>
              cases ey : ys[i]? with
              | none => rw [ex, ey] at hd; cases hd
              | some dy =>
                rw [ex, ey] at hd
                cases hd
                obtain ⟨v, hv, rv⟩ := RepAll.get (show RepAll _ _ _ _ vx _ from ⟨hla, hia⟩) ex
                obtain ⟨u, hu, ru⟩ := RepAll.get (show RepAll _ _ _ _ vy _ from ⟨hlb, hib⟩) ey
                refine ⟨⟨vx, vy, v, u, .inl (Rd.fzb z ha h1), .inl (Rd.fzb z hb h2), hv, hu⟩, fun y H3 hy => ?_⟩
                obtain ⟨T, o, x', y', rfl, hT, ho, rfl, f1, f2⟩ := hy
                have ev : x' = v := Option.some.inj ((f1 vx (.inl (Rd.fzb z ha h1))).symm.trans hv)
                have eu : y' = u := Option.some.inj ((f2 vy (.inl (Rd.fzb z hb h2))).symm.trans hu)
                subst ev eu
                exact ⟨Ext.new hT, s2.new hT, s2.newT hT ho (RepAll.cons (rv.mono z.1 z.2) (RepAll.one (ru.mono z.1 z.2)))⟩
  · cases e3
end
/-! two dicts of texts, alike: != -/
def txKV : List (DKey × D) → Option (List (DKey × List Nat))
  | [] => some []
  | (k, .str s) :: r => (txKV r).map ((k, s) :: ·)
  | _ => none
def dNeDic : D → D → Option D
  | .dic a, .dic b => match txKV a, txKV b with
    | some x, some y => if x = y ∧ (x.map (·.1)).Nodup then some (.bl false) else none
    | _, _ => none
  | _, _ => none
def kvT (x : List (DKey × List Nat)) : List (Key × V) := x.map fun p => (dkey p.1, V.str (S p.2))
section
variable {X : Cx} {B : Addr → Prop} {α : List Addr} {ow : Nat → Option Addr} {K : PySem.W.Frag} {H : Hp}
theorem kvT_of : ∀ {ds : List (DKey × D)} {kvs : List (Key × V)} {x : List (DKey × List Nat)}, kvs.map (·.1) = ds.map (fun p => dkey p.1) → RepAll (Al B α ow) α K H (kvs.map (·.2)) (ds.map (·.2)) → txKV ds = some x → kvs = kvT x
  | [], kvs, x, hk, hr, e => by
    cases e
    cases kvs with
    | nil => rfl
    | cons p r => cases hk
  | (k, d) :: ds, kvs, x, hk, hr, e => by
    cases d <;> try (simp only [txKV, reduceCtorEq] at e)
    rename_i s
    rw [Option.map_eq_some_iff] at e
    obtain ⟨y, e, rfl⟩ := e
    cases kvs with
    | nil => cases hk
    | cons p kvs =>
      rw [List.map_cons, List.map_cons] at hk hr
      injection hk with h1 h2
      obtain ⟨v, r, ev, r1, r2⟩ := hr.uncons
      injection ev with e1 e2
      subst e1 e2
      have e3 : p.2 = V.str (S s) := by
        generalize p.2 = v at r1
        cases r1
        rfl
      rw [kvT_of h2 r2 e]
      show p :: kvT y = (dkey k, V.str (S s)) :: kvT y
      rw [← e3, ← h1]
theorem kvT_val : ∀ {x : List (DKey × List Nat)}, (x.map (·.1)).Nodup → ∀ p ∈ kvT x, valV (kvT x) p.1 = some p.2 ∧ flatB p.2 = true
  | [], _, p, hp => by cases hp
  | q :: x, nd, p, hp => by
    rw [List.map_cons, List.nodup_cons] at nd
    rw [show kvT (q :: x) = (dkey q.1, V.str (S q.2)) :: kvT x from rfl, List.mem_cons] at hp
    rcases hp with rfl | hp
    · refine ⟨?_, rfl⟩
      unfold valV
      rw [show kvT (q :: x) = (dkey q.1, V.str (S q.2)) :: kvT x from rfl, List.find?_cons_of_pos (by simp)]
      rfl
    · obtain ⟨i1, i2⟩ := kvT_val nd.2 p hp
      refine ⟨?_, i2⟩
      have ne : dkey q.1 ≠ p.1 := by
        obtain ⟨z, hz, rfl⟩ := List.mem_map.mp hp
        intro e
        exact nd.1 (List.mem_map.mpr ⟨z, hz, (dkey_inj e).symm⟩)
      unfold valV at i1 ⊢
      rw [show kvT (q :: x) = (dkey q.1, V.str (S q.2)) :: kvT x from rfl, List.find?_cons_of_neg (by simpa using ne)]
      exact i1
theorem op_ne_dictR (hu : X.A.units < cLine) : OpR X (compareOp .NotEq) (fun x y H Q => ∃ a b ks ls, x = .ref a ∧ y = .ref b ∧ Rd H a (.dK ks) ∧ Rd H b (.dK ls) ∧ ks.length = ls.length ∧ (∀ p ∈ ks, valV ls p.1 = some p.2 ∧ flatB p.2 = true) ∧ Q (.bl false) H) := by
  intro pins s σ H x y v u Q I rx ry h
  obtain ⟨a, b, ks, ls, rfl, rfl, ea, eb, hlen, hp, q⟩ := h
  obtain rfl : v = Value.ref a := rx
  obtain rfl : u = Value.ref b := ry
  obtain ⟨_, ya, va, ra, da⟩ := (show ObjOk X.prog X.w H s.heap a (.dK ks) from ea.ok I.hok)
  obtain ⟨_, yb, vb, rb, db⟩ := (show ObjOk X.prog X.w H s.heap b (.dK ls) from eb.ok I.hok)
  have hl : va.length = vb.length := by rw [← ra.length, ← rb.length]; exact hlen
  exact PySem.W.keq_ne (knd := mixKind X.prog X.w) (r := true) ya yb da db hu (fun _ => hits_all rb ra hp) (fin_bl I q (by simp [hl]))
theorem opd_neDic (hu : X.A.units + 64 < cLine) : OpD X (compareOp .NotEq) dNeDic := by
  refine ⟨_, op_ne_dictR (by omega), fun G α ow σ H ρ g x y dx dy d Q s rx ry e w => ?_⟩
  unfold dNeDic at e
  split at e
  · rename_i a b
    split at e
    · rename_i x' y' h1 h2
      split at e
      · rename_i hh
        obtain ⟨rfl, nd⟩ := hh
        cases e
        obtain ⟨pa, ka, rfl, ra, k1, q1⟩ := rx.dic
        obtain ⟨pb, kb, rfl, rb, k2, q2⟩ := ry.dic
        have e1 := kvT_of k1 q1 h1
        have e2 := kvT_of k2 q2 h2
        rw [e1] at ra
        rw [e2] at rb
        exact ⟨pa, pb, _, _, rfl, rfl, ra, rb, rfl, kvT_val nd, w _ H Ext.refl s (.bl _)⟩
      · cases e
    · cases e
  · cases e
end
end L3

/-! L4s: for x in d, d a dict in a slot, as a statement that is never left before its end. -/
namespace L3
open PySem PySem.Spec PyProof.Rows L2 TL
def sForK (i : Nat) (p : D → Option (List (Nat × D))) (fb : DS) : DS := fun ρ g => match sFor (aKeys i) p fb ρ g with
  | some (.nx ρ', g') => some (.nx ρ', g')
  | _ => none
section
variable {X : Cx} {tg iter : Expr} {it : DA} {p : D → Option (List (Nat × D))} {fb : DS} {body : List Stmt} {pos : Pos}
theorem for_readAt {wi : TI} {tg' : TG} {tb : TS}
    (qg : ∀ A α σ H v d as Q, Rep A α X.K H v d → p d = some as → (∀ ws, RepSets A α X.K H ws as → Q (setsV σ ws) H) → tg' v σ H Q)
    (qb : ∀ G α ow σ H ρ g out g' Dn, Sat X.K G α ow σ H ρ g → fb ρ g = some (out, g') → Post X.K G α ow H out g' Dn → tb Dn σ H)
    {G α ow σ H ρ g ρ' g' Dn} (s : Sat X.K G α ow σ H ρ g) (qi : ∀ xs g1 (R : It → Hp → Prop), it ρ g = some (xs, g1) → (∀ J H' α', Ext α H α' H' → Sat X.K G α' ow σ H' ρ g1 → WalkD X.K G.B α' ow H' J xs → R J H') → wi σ H R)
    (e : sFor it p fb ρ g = some (.nx ρ', g')) (w : WantsN X.K G α ow H ρ' g' Dn.nx) : tFor wi tg' tb Dn σ H := by
  unfold sFor at e
  split at e
  · rename_i ds g1 e1
    refine qi ds g1 _ e1 fun J H1 α1 x1 s1 wk => ?_
    have w1 : WantsN X.K G α1 ow H1 ρ' g' Dn.nx := fun σ' H' α' ow' s f => w σ' H' α' ow' s (x1.fz.trans f)
    refine ⟨fun i m σ2 H2 => m = ds.length - i ∧ i ≤ ds.length ∧ ∃ α2 ow2 ρ2 g2, Sat X.K G α2 ow2 σ2 H2 ρ2 g2 ∧ Fz G.B α1 ow H1 α2 ow2 H2 ∧ forD p fb (ds.drop i) ρ2 g2 = some (.nx ρ', g'),
      ⟨_, rfl, Nat.zero_le _, α1, ow, ρ, g1, s1, Fz.refl, e⟩, ?_⟩
    rintro i m σ2 H2 ⟨rfl, hi, α2, ow2, ρ2, g2, s2, z2, e2⟩
    have wk2 := wk G α2 ow2 σ2 H2 ρ2 g2 i s2 z2
    by_cases hlt : i < ds.length
    · have ed : ds[i]? = some ds[i] := List.getElem?_eq_getElem hlt
      obtain ⟨go, yl⟩ := wk2.2 _ ed
      rw [List.drop_eq_getElem_cons hlt] at e2
      refine .inr ⟨go, fun σ3 H3 => ∃ α3 ow3 ρ3 g3, Sat X.K G α3 ow3 σ3 H3 ρ3 g3 ∧ Fz G.B α1 ow H1 α3 ow3 H3 ∧ forD p fb (ds.drop (i + 1)) ρ3 g3 = some (.nx ρ', g'), fun σ3 H3 ⟨α3, ow3, ρ3, g3, s3, z3, e3⟩ => ⟨ds.length - (i + 1), by omega, rfl, hlt, α3, ow3, ρ3, g3, s3, z3, e3⟩, fun x H3 hy => ?_⟩
      obtain ⟨x3, s3, r3⟩ := yl x H3 hy
      unfold forD at e2
      split at e2
      · cases e2
      · rename_i as has
        refine qg _ _ σ2 H3 x _ as _ r3 has fun ws rs => ?_
        obtain ⟨ow4, s4, z4⟩ := s3.sets rs
        have z34 : Fz G.B α1 ow H1 α2 ow4 H3 := (z2.trans x3.fz).trans z4
        split at e2
        · rename_i ρ5 g5 e5
          exact qb G α2 ow4 _ H3 _ g2 _ g5 _ s4 e5 fun σ' H' α' ow' s' z' => ⟨α', ow', ρ5, g5, s', z34.trans z', e2⟩
        · rename_i ρ5 g5 e5
          exact qb G α2 ow4 _ H3 _ g2 _ g5 _ s4 e5 fun σ' H' α' ow' s' z' => ⟨α', ow', ρ5, g5, s', z34.trans z', e2⟩
        · rename_i ρ5 g5 e5
          cases e2
          exact qb G α2 ow4 _ H3 _ g2 _ _ _ s4 e5 fun σ' H' α' ow' s' z' => w1 σ' H' α' ow' s' (z34.trans z')
        · rename_i d5 g5 e5
          cases e2
        · cases e2
    · have ei : i = ds.length := by omega
      subst ei
      rw [List.drop_length] at e2
      cases e2
      exact .inl ⟨wk2.1 (Nat.le_refl _), w1 σ2 H2 α2 ow2 s2 z2⟩
  · cases e
theorem sc_forK {i : Nat} {x : Str} {p1 : Pos} (hi : X.N[i]? = some x) (hg : GC X tg p) (hb : BC X body fb)
    (hvs : Vis X.env.scope x := by first | exact Or.inl rfl | exact Or.inr (Or.inl rfl) | exact Or.inr (Or.inr rfl)) (hd : (x == ("__debug__" : Str)) = false := by decide) (hcd : (x == ("__classdict__" : Str)) = false := by decide)
    (hp : PassesOwn (model X.prog X.w) X.A X.env X.xe := by exact PassesOwn.never) (hc : X.calm = true := by rfl) (hs : ∀ y, foldedSetIterable (.Name x p1) X.env y = pure y := by intro _; rfl) :
    SC X (.For tg (.Name x p1) body [] pos) (sForK i p fb) := by
  obtain ⟨tg', pg, qg⟩ := hg
  obtain ⟨tb, pb, qb⟩ := hb
  have ps := ps_for (pos := pos) hp hc (pi_keys (tg := tg) (pe_var (pos := p1) hi hvs hd hcd)) pg pb hs
  refine ⟨fun Dn σ H => tFor (iKeys (tVar i)) tg' tb Dn σ H ∨ tLock (tFor (iKeys (tVar i)) tg' tb) Dn σ H, ⟨fun pins s σ H Dn I h => h.elim (ps.run pins s σ H Dn I) ((ps_lock ps).run pins s σ H Dn I)⟩, fun G α ow σ H ρ g out g' Dn s e w => ?_⟩
  unfold sForK at e
  split at e
  · rename_i ρ' g2 e1
    cases e
    have core : ∀ {G : Gh} {α : List Addr} {ow : Nat → Option Addr} {H : Hp} {Dn : Ends} {a : Addr} {o : Obj} {kvs : List (Key × V)} {es : List (DKey × D)}, Sat X.K G α ow σ H ρ g → Al G.B α ow a → σ[i]? = some (some (.ref a)) → H a = some (.frz o (.dK kvs)) → kvs.map (·.1) = es.map (fun p => dkey p.1) → dicOf ρ[i]? = some es → WantsN X.K G α ow H ρ' g' Dn.nx → tFor (iKeys (tVar i)) tg' tb Dn σ H := by
      intro G α ow H Dn a o kvs es s hA hσ hH hk hρ w
      refine for_readAt qg qb s (fun xs g1 R e1 hR => ?_) e1 w
      unfold aKeys at e1
      rw [hρ] at e1
      cases e1
      exact ⟨_, hσ, a, o, rfl, .inl ⟨kvs, hH, hR _ H α Ext.refl s (walk_keys hA hH hk)⟩⟩
    have hρ : ∃ es, dicOf ρ[i]? = some es := by
      cases hz : dicOf ρ[i]? with
      | some es => exact ⟨es, rfl⟩
      | none =>
        unfold sFor aKeys at e1
        rw [hz] at e1
        cases e1
    obtain ⟨es, hρ⟩ := hρ
    have hr : ρ[i]? = some (some (.d (.dic es))) := by
      revert hρ
      unfold dicOf
      split
      · rename_i h; intro z; cases z; exact h
      · intro z; cases z
    obtain ⟨y, hy, rep⟩ := s.slot i _ hr
    cases rep with
    | dic hA h hk hi2 =>
      rename_i a kvs
      rcases h with h | ⟨o, h⟩
      · refine .inr ⟨a, .dK kvs, h, trivial, fun od => ?_⟩
        let G1 : Gh := ⟨G.B, fun b => if b = a then (G.H0 a).map fun _ => HO.frz od (.dK kvs) else G.H0 b, G.α0⟩
        have s1 : Sat X.K G1 α ow σ (upd H a (.frz od (.dK kvs))) ρ g := s.simO hA (Sim.lockd h) rfl rfl (fun b hb => by show (if b = a then _ else _) = _; rw [if_neg hb]) (fun o ho => by
          have ho : (if a = a then (G.H0 a).map fun _ => HO.frz od (.dK kvs) else G.H0 a) = some o := ho
          rw [if_pos rfl, Option.map_eq_some_iff] at ho
          obtain ⟨_, _, z⟩ := ho
          exact z.symm)
        refine core s1 hA hy upd_same hk hρ fun σ' H1 α1 ow1 s2 z => ?_
        obtain ⟨hA1, ha1⟩ := z.1 a _ hA upd_same
        refine ⟨ha1, ?_⟩
        have m := Sim.unlockd ha1
        have s3 : Sat X.K G α1 ow1 σ' (upd H1 a (.dK kvs)) ρ' g' := s2.simO (G' := G) hA1 m rfl rfl (fun b hb => by show _ = (if b = a then _ else _); rw [if_neg hb]) (fun o ho => by
          have := s.ext.1 a o ho (fun z => hA.1 (s.ext.2.1.subset z))
          rw [h] at this
          cases this
          rfl)
        refine w σ' (upd H1 a (.dK kvs)) α1 ow1 s3 ⟨fun b o hb ho => ?_, z.2⟩
        by_cases eb : b = a
        · subst eb
          rw [h] at ho
          cases ho
          exact ⟨hA1, upd_same⟩
        · obtain ⟨q1, q2⟩ := z.1 b o hb (by rw [upd_ne eb]; exact ho)
          exact ⟨q1, by rw [upd_ne eb]; exact q2⟩
      · exact .inl (core s hA hy h hk hρ w)
  · cases e
theorem ok_sForK {ρ : Env3} {g : Store} (i : Nat) (p : D → Option (List (Nat × D))) (fb : DS) (Q : Out → Store → Prop) (h : OkO (dicOf ρ[i]?) fun ds => Ok (forD p fb (ds.map fun q => kD q.1) ρ g) fun o g' => ∃ ρ', o = .nx ρ' ∧ Q (.nx ρ') g') : Ok (sForK i p fb ρ g) Q := by
  obtain ⟨ds, e, o, g', e2, ρ', rfl, q⟩ := h
  refine ⟨_, g', ?_, q⟩
  unfold sForK sFor aKeys
  rw [e]
  dsimp only
  rw [e2]
end
end L3

/-! L4t: isinstance(x, (A, B)). -/
namespace L3
open PySem PySem.Spec PyProof.Rows L2 TL
def dIsi2 (S T : String) (x : D) : Option D := match tyName x with
  | some n => match kitB n S, kitB n T with
    | some a, some b => some (.bl (a || b))
    | _, _ => none
  | none => none
section
variable {X : Cx} {a : Expr} {fa : DE} {pos : Pos}
theorem ec_isi2 {S T : String} {x y : Str} {p p2 p3 pt : Pos} {k : Nat} (hm : X.mg "isinstance" = none) (hmS : X.mg x = none) (hvS : bootBuiltins x = some (.type S)) (hmT : X.mg y = none) (hvT : bootBuiltins y = some (.type T)) (ha : EB X a fa) (hg : Gl X "isinstance" := by rfl) (hgS : Gl X x := by rfl) (hgT : Gl X y := by rfl) (hn : x ≠ "__name__" := by decide) (hdb : (x == ("__debug__" : Str)) = false := by decide) (hn' : y ≠ "__name__" := by decide) (hdb' : (y == ("__debug__" : Str)) = false := by decide)
    (he : starEach [a, .Tuple [.Name x p2, .Name y p3] k pt] X.env = (false, eval a X.env) :: starEach [.Tuple [.Name x p2, .Name y p3] k pt] X.env := by rfl) (he2 : starEach [.Tuple [.Name x p2, .Name y p3] k pt] X.env = (false, eval (.Tuple [.Name x p2, .Name y p3] k pt) X.env) :: starEach [] X.env := by rfl)
    (he3 : starEach [.Name x p2, .Name y p3] X.env = (false, eval (.Name x p2) X.env) :: starEach [.Name y p3] X.env := by rfl) (he4 : starEach [.Name y p3] X.env = (false, eval (.Name y p3) X.env) :: starEach [] X.env := by rfl)
    (hpl : (backTo pos (starEach [.Tuple [.Name x p2, .Name y p3] k pt] X.env)).any (·.1) = false := by rfl) :
    EC X (.Call (.Name "isinstance" p) [a, .Tuple [.Name x p2, .Name y p3] k pt] [] pos) (eUn (dIsi2 S T) fa) := by
  obtain ⟨t, pt', hq⟩ := ha
  refine ⟨_, pe_callB call_isiT hg hm (by decide +kernel) (pa_cons pt' (pa_cons (pe_tup (pa_cons (pe_bltn (v := .ty S) hgS hmS hvS rfl hn hdb) (pa_cons (pe_bltn (v := .ty T) hgT hmT hvT rfl hn' hdb') pa_nil he4) he3)) pa_nil he2) he) (by decide) (by decide) he hpl, fun G α ow σ H ρ g d g' Q s e w => ?_⟩
  obtain ⟨dx, g1, e1, e2⟩ := bindM_some e
  obtain ⟨e3, rfl⟩ := liftM_some e2
  refine hq G α ow σ H ρ g dx g1 _ s e1 fun v H1 α1 x1 s1 r1 => ?_
  unfold dIsi2 at e3
  split at e3
  · rename_i n hn'
    split at e3
    · rename_i b1 b2 k1 k2
      cases e3
      refine ⟨show 2 ≤ sizeLine by decide, fun tp hT => ?_⟩
      have xx := Ext.new (α := α1) (o := HO.tup [.ty S, .ty T]) hT
      refine ⟨v, tp, [.ty S, .ty T], .type n, [.type S, .type T], b1 || b2, rfl, upd_same, .cons (.ty S) (.cons (.ty T) .nil), (r1.ext xx).ty hn', ?_, w _ _ α1 (x1.trans xx) (s1.new hT) (.bl _)⟩
      refine kitAny_cons (kit_ty k1) (fun hb => ?_) (fun hb => by rw [hb]; rfl)
      refine kitAny_cons (kit_ty k2) (fun hb2 => ?_) (fun hb2 => by rw [hb2]; simp)
      rw [hb, hb2]
      exact kitAny_nil
    · cases e3
  · cases e3
end
theorem isi2_tl_n : dIsi2 "tuple" "list" .non = some (.bl false) := by first | rfl | decide +kernel
theorem isi2_tl_b (b : Bool) : dIsi2 "tuple" "list" (.bl b) = some (.bl false) := by first | rfl | decide +kernel
theorem isi2_tl_i (i : Int) : dIsi2 "tuple" "list" (.int i) = some (.bl false) := by first | rfl | decide +kernel
theorem isi2_tl_s (s : List Nat) : dIsi2 "tuple" "list" (.str s) = some (.bl false) := by first | rfl | decide +kernel
theorem isi2_tl_l (s : List D) : dIsi2 "tuple" "list" (.lst s) = some (.bl true) := by first | rfl | decide +kernel
theorem isi2_tl_t (s : List D) : dIsi2 "tuple" "list" (.tup s) = some (.bl true) := by first | rfl | decide +kernel
end L3

/-! L5a: objects of the store: instances of the program's own classes, their fields and methods. -/
namespace L3
open PySem PySem.Spec PyProof.Rows L2 TL

section
variable {K : PySem.W.Frag} {G : Gh} {α : List Addr} {ow : Nat → Option Addr} {σ : L2.St} {H H' : Hp} {ρ : Env3} {g : Store}
/-- a new object of the store, whatever it is -/
theorem Sat.storedO (s : Sat K G α ow σ H ρ g) {p : Addr} {o : SO} (hp : H p = none) (hh : ∀ a u, H a = some u → H' a = some u)
    (ok : Ext α H (α ++ [p]) H' → SOk (Al G.B (α ++ [p]) ow) (α ++ [p]) K H' p o) :
    Ext α H (α ++ [p]) H' ∧ GOk (Al G.B (α ++ [p]) ow) (α ++ [p]) (g ++ [o]) K H' ∧ (α ++ [p])[g.length]? = some p := by
  have al := s.al hp
  have x : Ext α H (α ++ [p]) H' := ⟨fun a o h hn => hh a o h, List.prefix_append _ _, fun a ha => by
    rcases List.mem_append.mp ha with h | h
    · exact .inl h
    · rw [List.mem_singleton.mp h]; exact .inr hp⟩
  refine ⟨x, ⟨by rw [List.length_append, List.length_append, s.gok.len]; rfl, ?_, fun n a o' h1 h2 => ?_⟩, ?_⟩
  · rw [List.nodup_append]
    exact ⟨s.gok.nd, by simp, fun a ha b hb => by rw [List.mem_singleton.mp hb]; exact fun z => al.1 (by rw [← z]; exact ha)⟩
  · by_cases hn : n < α.length
    · rw [List.getElem?_append_left hn] at h1
      rw [List.getElem?_append_left (by rw [← s.gok.len]; exact hn)] at h2
      exact (s.gok.so n a o' h1 h2).ext x fun o e => hh a o e
    · have hl : n < (α ++ [p]).length := (List.getElem?_eq_some_iff.mp h1).1
      rw [List.length_append, List.length_singleton] at hl
      have en : n = α.length := by omega
      subst en
      rw [List.getElem?_append_right (Nat.le_refl _), Nat.sub_self] at h1
      rw [s.gok.len, List.getElem?_append_right (Nat.le_refl _), Nat.sub_self] at h2
      cases h1
      cases h2
      exact ok x
  · rw [← s.gok.len, List.getElem?_append_right (Nat.le_refl _), Nat.sub_self]
    rfl
/-- an object of the store is changed, whatever it is -/
theorem Sat.storeO (s : Sat K G α ow σ H ρ g) {n : Nat} {p : Addr} {u : HO} {o : SO} (hn : α[n]? = some p) (ok : Ext α H α (upd H p u) → SOk (Al G.B α ow) α K (upd H p u) p o) :
    Ext α H α (upd H p u) ∧ GOk (Al G.B α ow) α (g.set n o) K (upd H p u) := by
  have hm : p ∈ α := List.mem_of_getElem? hn
  have x : Ext α H α (upd H p u) := ⟨fun a o h hn => by rw [upd_ne fun z => hn (by rw [z]; exact hm)]; exact h, List.prefix_refl _, fun a ha => .inl ha⟩
  refine ⟨x, ⟨by rw [List.length_set]; exact s.gok.len, s.gok.nd, fun m a o' h1 h2 => ?_⟩⟩
  have hl : n < g.length := by rw [← s.gok.len]; exact (List.getElem?_eq_some_iff.mp hn).1
  by_cases hm' : m = n
  · subst hm'
    rw [List.getElem?_set_self hl] at h2
    rw [hn] at h1
    cases h1
    cases h2
    exact ok x
  · rw [List.getElem?_set_ne (Ne.symm hm')] at h2
    refine (s.gok.so m a o' h1 h2).ext x fun o e => ?_
    rw [upd_ne fun z => hm' ?_]
    · exact e
    · obtain ⟨i1, j1⟩ := List.getElem?_eq_some_iff.mp h1
      obtain ⟨i2, j2⟩ := List.getElem?_eq_some_iff.mp hn
      exact (List.getElem_inj s.gok.nd).mp (j1.trans (z.trans j2.symm))
end

/-! ### fields -/
theorem fldT_nd : fldT.Nodup := by decide +kernel
theorem fldN_inj {i j : Nat} (hi : i < fldT.length) (hj : j < fldT.length) (h : fldN i = fldN j) : i = j := by
  unfold fldN at h
  rw [List.getD_eq_getElem?_getD, List.getD_eq_getElem?_getD, List.getElem?_eq_getElem hi, List.getElem?_eq_getElem hj] at h
  exact (List.getElem_inj fldT_nd).mp h
def putFD (f : Nat) (d : D) : List (Nat × D) → List (Nat × D)
  | [] => [(f, d)]
  | (k, x) :: r => if k = f then (k, d) :: r else (k, x) :: putFD f d r
def lookF (f : Nat) : List (Nat × D) → Option D
  | [] => none
  | (k, x) :: r => if k = f then some x else lookF f r
section
variable {A : Addr → Prop} {α : List Addr} {K : PySem.W.Frag} {H : Hp} {f : Nat}
theorem repF_look (hf : f < fldT.length) : ∀ {fs : List (Nat × D)} {vs : List (Str × V)}, vs.map (·.1) = fs.map (fun p => fldN p.1) → (∀ p ∈ fs, p.1 < fldT.length) → RepAll A α K H (vs.map (·.2)) (fs.map (·.2)) → (∀ d, lookF f fs = some d → ∃ v, vs.lookup (fldN f) = some v ∧ Rep A α K H v d) ∧ (lookF f fs = none → vs.lookup (fldN f) = none)
  | [], vs, hk, hc, r => by
    have : vs = [] := by cases vs with
      | nil => rfl
      | cons a b => simp at hk
    subst this
    exact ⟨fun d e => (by cases e), fun _ => rfl⟩
  | (k, x) :: fs, vs, hk, hc, r => by
    cases vs with
    | nil => simp at hk
    | cons a vs =>
      obtain ⟨n, v⟩ := a
      rw [List.map_cons, List.map_cons] at hk r
      injection hk with hk1 hk2
      dsimp only at hk1
      obtain ⟨v', r', e', r1, r2⟩ := r.uncons
      injection e' with e1 e2
      subst e1 e2
      have hkk := hc (k, x) List.mem_cons_self
      obtain ⟨i1, i2⟩ := repF_look hf hk2 (fun p hp => hc p (List.mem_cons_of_mem _ hp)) r2
      subst hk1
      unfold lookF
      by_cases q : k = f
      · subst q
        rw [if_pos rfl]
        refine ⟨fun d e => ?_, fun e => by cases e⟩
        cases e
        exact ⟨v, by simp [List.lookup], r1⟩
      · rw [if_neg q]
        have : (fldN f == fldN k) = false := by
          rw [beq_eq_false_iff_ne]
          exact fun z => q (fldN_inj hkk hf z.symm)
        have e0 : List.lookup (fldN f) ((fldN k, v) :: vs) = List.lookup (fldN f) vs := by simp [List.lookup, this]
        rw [e0]
        exact ⟨i1, i2⟩
theorem repF_put (hf : f < fldT.length) {d : D} {v : V} (rv : Rep A α K H v d) : ∀ {fs : List (Nat × D)} {vs : List (Str × V)}, vs.map (·.1) = fs.map (fun p => fldN p.1) → (∀ p ∈ fs, p.1 < fldT.length) → RepAll A α K H (vs.map (·.2)) (fs.map (·.2)) →
    ((putF (fldN f) v vs).map (·.1) = (putFD f d fs).map (fun p => fldN p.1) ∧ ∀ p ∈ putFD f d fs, p.1 < fldT.length) ∧ RepAll A α K H ((putF (fldN f) v vs).map (·.2)) ((putFD f d fs).map (·.2))
  | [], vs, hk, hc, r => by
    have : vs = [] := by cases vs with
      | nil => rfl
      | cons a b => simp at hk
    subst this
    refine ⟨⟨rfl, fun p hp => ?_⟩, RepAll.one rv⟩
    unfold putFD at hp
    rw [List.mem_singleton.mp hp]
    exact hf
  | (k, x) :: fs, vs, hk, hc, r => by
    cases vs with
    | nil => simp at hk
    | cons a vs =>
      obtain ⟨n, y⟩ := a
      rw [List.map_cons, List.map_cons] at hk r
      injection hk with hk1 hk2
      dsimp only at hk1
      obtain ⟨v', r', e', r1, r2⟩ := r.uncons
      injection e' with e1 e2
      subst e1 e2
      have hkk := hc (k, x) List.mem_cons_self
      obtain ⟨⟨i1, i2⟩, i3⟩ := repF_put hf rv hk2 (fun p hp => hc p (List.mem_cons_of_mem _ hp)) r2
      subst hk1
      unfold putFD
      by_cases q : k = f
      · subst q
        rw [if_pos rfl, show putF (fldN k) v ((fldN k, y) :: vs) = (if fldN k = fldN k then (fldN k, v) :: vs else (fldN k, y) :: putF (fldN k) v vs) from rfl, if_pos rfl]
        refine ⟨⟨by rw [List.map_cons, List.map_cons, hk2], fun p hp => ?_⟩, ?_⟩
        · rcases List.mem_cons.mp hp with rfl | hp
          · exact hkk
          · exact hc p (List.mem_cons_of_mem _ hp)
        · rw [List.map_cons, List.map_cons]
          exact RepAll.cons rv r2
      · have ne : ¬ fldN k = fldN f := fun z => q (fldN_inj hkk hf z)
        rw [if_neg q, show putF (fldN f) v ((fldN k, y) :: vs) = (if fldN k = fldN f then (fldN k, v) :: vs else (fldN k, y) :: putF (fldN f) v vs) from rfl, if_neg ne]
        refine ⟨⟨by rw [List.map_cons, List.map_cons, i1], fun p hp => ?_⟩, ?_⟩
        · rcases List.mem_cons.mp hp with rfl | hp
          · exact hkk
          · exact i2 p hp
        · rw [List.map_cons, List.map_cons]
          exact RepAll.cons r1 i3
end
def insOf (g : Store) : D → Option (Nat × Nat × List (Nat × D))
  | .obj n => match g[n]? with
    | some (.ins C fs) => some (n, C, fs)
    | _ => none
  | _ => none
theorem insOf_some {g : Store} {x : D} {n C : Nat} {fs : List (Nat × D)} (h : insOf g x = some (n, C, fs)) : x = .obj n ∧ g[n]? = some (.ins C fs) := by
  unfold insOf at h
  split at h
  · split at h
    · cases h; exact ⟨rfl, ‹_›⟩
    · cases h
  · cases h
/-- the classes cs have no name f of their own -/
def ClsF (K : PySem.W.Frag) (f : Nat) : List Nat → Prop
  | [] => True
  | C :: r => (Cls K (He.ga K (clsN C)) ∧ NoAttr K (He.ga K (clsN C)) (fldN f)) ∧ ClsF K f r
theorem ClsF.at {K : PySem.W.Frag} {f C : Nat} : ∀ {cs : List Nat}, ClsF K f cs → C ∈ cs → Cls K (He.ga K (clsN C)) ∧ NoAttr K (He.ga K (clsN C)) (fldN f)
  | [], _, h => by cases h
  | _ :: _, ⟨h1, h2⟩, h => by
    rcases List.mem_cons.mp h with rfl | h
    · exact h1
    · exact h2.at h
def eFld (cs : List Nat) (f : Nat) (fo : DE) : DE := bindM fo fun x => fun _ g => match insOf g x with
  | some (_, C, fs) => if C ∈ cs then (lookF f fs).map fun d => (d, g) else none
  | none => none
def sFldD (cs : List Nat) (f : Nat) (fo fe : DE) : DS := fun ρ g => match fe ρ g with
  | some (d, g1) => match fo ρ g1 with
    | some (x, g2) => match insOf g2 x with
      | some (n, C, fs) => if C ∈ cs ∧ fs.length < 900 then some (.nx ρ, g2.set n (.ins C (putFD f d fs))) else none
      | none => none
    | none => none
  | none => none
section
variable {X : Cx} {e a b o : Expr} {es : List Expr} {fe fa fb fo : DE} {fs : DA} {pos p p2 apos : Pos} {cs : List Nat} {f : Nat}
theorem ec_fld {x : Str} (hc : ClsF X.K f cs) (ho : EB X o fo) (hx : x = fldN f := by rfl) (hf : f < fldT.length := by decide) (hb : attributeBase o x X.env (eval o X.env) = eval o X.env := by rfl) : EC X (.Attribute o x pos) (eFld cs f fo) := by
  subst hx
  obtain ⟨t, pt, hq⟩ := ho
  refine ⟨_, pe_fld pt hb, fun G α ow σ H ρ g d g' Q s e w => ?_⟩
  obtain ⟨y, g1, e1, e2⟩ := bindM_some e
  refine hq G α ow σ H ρ g y g1 _ s e1 fun v H1 α1 x1 s1 r1 => ?_
  split at e2
  · rename_i n C fs hi
    obtain ⟨rfl, hg⟩ := insOf_some hi
    split at e2
    · rename_i hC
      rw [Option.map_eq_some_iff] at e2
      obtain ⟨d', hl, e3⟩ := e2
      cases e3
      obtain ⟨q, rfl, hp⟩ := r1.obj
      obtain ⟨dx, vs, h1, ⟨h2, h3⟩, h4⟩ := s1.gok.so n q _ hp hg
      obtain ⟨v', hv, rv⟩ := (repF_look hf h2 h3 h4).1 _ hl
      exact ⟨q, _, dx, vs, v', rfl, h1, (hc.at hC).1, (hc.at hC).2, hv, w v' H1 α1 x1 s1 rv⟩
    · cases e2
  · cases e2
theorem sc_fld {x : Str} (hc : ClsF X.K f cs) (ho : EB X o fo) (he : EC X e fe) (hx : x = fldN f := by rfl) (hf : f < fldT.length := by decide) (hs : swapsWith e (some (.Attribute o x p2)) pos.line X.env = pure false := by rfl) : SC X (.Assign [.Attribute o x p2] e pos) (sFldD cs f fo fe) := by
  subst hx
  obtain ⟨t, pt, hq⟩ := ho
  obtain ⟨te, pe, qe⟩ := he
  refine ⟨_, ps_fld pt pe hs, fun G α ow σ H ρ g out g' Dn s e w => ?_⟩
  unfold sFldD at e
  split at e
  · rename_i d g1 e1
    split at e
    · rename_i y g2 e2
      split at e
      · rename_i n C fs hi
        obtain ⟨rfl, hg⟩ := insOf_some hi
        split at e
        · rename_i hC
          cases e
          refine qe G α ow σ H ρ g d g1 _ s e1 fun v H1 α1 x1 s1 r1 => ?_
          refine hq G α1 ow σ H1 ρ g1 _ g2 _ s1 e2 fun u H2 α2 x2 s2 r2 => ?_
          obtain ⟨q, rfl, hp⟩ := r2.obj
          obtain ⟨dx, vs, h1, ⟨h2, h3⟩, h4⟩ := s2.gok.so n q _ hp hg
          have hlen : vs.length = fs.length := by have := congrArg List.length h2; rw [List.length_map, List.length_map] at this; exact this
          refine ⟨q, _, dx, vs, rfl, h1, (hc.at hC.1).1, (hc.at hC.1).2, by omega, ?_⟩
          obtain ⟨x3, gk⟩ := s2.storeO (o := .ins C (putFD f d fs)) (u := .ins (He.ga X.K (clsN C)) dx (putF (fldN f) v vs)) hp fun x3 => by
            obtain ⟨k1, k2⟩ := repF_put hf ((r1.ext x2).ext x3) h2 h3 (h4.ext x3)
            exact ⟨dx, _, upd_same, k1, k2⟩
          exact w _ _ _ _ (s2.step x3 gk) ((x1.trans x2).trans x3).fz
        · cases e
      · cases e
    · cases e
  · cases e
/-- e.f op= v by ints -/
def sFldAugD (cs : List Nat) (f : Nat) (op : Int → Int → Int) (fo fe : DE) : DS := fun ρ g => match fo ρ g with
  | some (x, g1) => match insOf g1 x with
    | some (n, C, fs) => match lookF f fs with
      | some (.int i) => match fe ρ g1 with
        | some (.int j, g2) => match g2[n]? with
          | some (.ins C2 fs2) => if C ∈ cs ∧ C2 = C ∧ fs2.length < 900 then some (.nx ρ, g2.set n (.ins C (putFD f (.int (op i j)) fs2))) else none
          | _ => none
        | _ => none
      | _ => none
    | none => none
  | none => none
theorem sc_fldAug {x : Str} {op : Operator} {rd : V → V → Hp → VK → Prop} {io : Int → Int → Int} (hop : InOp X op rd) (hrd : ∀ i j H (Q : VK), Q (.int (io i j)) H → rd (.int i) (.int j) H Q) (hc : ClsF X.K f cs) (ho : EB X o fo) (he : EC X e fe) (hx : x = fldN f := by rfl) (hf : f < fldT.length := by decide) : SC X (.AugAssign (.Attribute o x p2) op e pos) (sFldAugD cs f io fo fe) := by
  subst hx
  obtain ⟨t, pt, hq⟩ := ho
  obtain ⟨te, pe, qe⟩ := he
  refine ⟨_, ps_fldaug pt pe hop, fun G α ow σ H ρ g out g' Dn s e w => ?_⟩
  unfold sFldAugD at e
  split at e
  · rename_i y g1 e1
    split at e
    · rename_i n C fs hi
      obtain ⟨rfl, hg⟩ := insOf_some hi
      split at e
      · rename_i i hl
        split at e
        · rename_i j g2 e2
          split at e
          · rename_i C2 fs2 hg2
            split at e
            · rename_i hC
              obtain ⟨hC, rfl, hlen2⟩ := hC
              cases e
              refine hq G α ow σ H ρ g _ g1 _ s e1 fun u H1 α1 x1 s1 r1 => ?_
              obtain ⟨q, rfl, hp⟩ := r1.obj
              obtain ⟨dx, vs, h1, ⟨h2, h3⟩, h4⟩ := s1.gok.so n q _ hp hg
              obtain ⟨v', hv, rv⟩ := (repF_look hf h2 h3 h4).1 _ hl
              refine ⟨q, _, dx, vs, v', rfl, h1, (hc.at hC).1, (hc.at hC).2, hv, ?_⟩
              refine qe G α1 ow σ H1 ρ g1 _ g2 _ s1 e2 fun v H2 α2 x2 s2 r2 => ?_
              cases rv
              cases r2
              refine hrd i j H2 _ ?_
              have hp2 := prefix_get x2.2.1 hp
              obtain ⟨dx2, vs2, h1', ⟨h2', h3'⟩, h4'⟩ := s2.gok.so n q _ hp2 hg2
              have hlen : vs2.length = fs2.length := by have := congrArg List.length h2'; rw [List.length_map, List.length_map] at this; exact this
              refine ⟨dx2, vs2, h1', by omega, ?_⟩
              obtain ⟨x3, gk⟩ := s2.storeO (o := .ins C2 (putFD f (.int (io i j)) fs2)) (u := .ins (He.ga X.K (clsN C2)) dx2 (putF (fldN f) (.int (io i j)) vs2)) hp2 fun x3 => by
                obtain ⟨k1, k2⟩ := repF_put hf (Rep.int (io i j)) h2' h3' (h4'.ext x3)
                exact ⟨dx2, _, upd_same, k1, k2⟩
              exact w _ _ _ _ (s2.step x3 gk) ((x1.trans x2).trans x3).fz
            · cases e
          · cases e
        · cases e
      · cases e
    · cases e
  · cases e
theorem sc_fldAdd {x : Str} (hc : ClsF X.K f cs) (ho : EB X o fo) (he : EC X e fe) (hx : x = fldN f := by rfl) (hf : f < fldT.length := by decide) : SC X (.AugAssign (.Attribute o x p2) .Add e pos) (sFldAugD cs f (· + ·) fo fe) := sc_fldAug in_add (fun i j H Q q => ⟨i, j, rfl, rfl, q⟩) hc ho he hx hf
theorem sc_fldSub {x : Str} (hc : ClsF X.K f cs) (ho : EB X o fo) (he : EC X e fe) (hx : x = fldN f := by rfl) (hf : f < fldT.length := by decide) : SC X (.AugAssign (.Attribute o x p2) .Sub e pos) (sFldAugD cs f (· - ·) fo fe) := sc_fldAug in_sub (fun i j H Q q => ⟨i, j, rfl, rfl, q⟩) hc ho he hx hf
end
end L3

/-! L5b: methods, new instances, calls of a class's def. -/
namespace L3
open PySem PySem.Spec PyProof.Rows L2 TL

/-- a def at an address keeps a promise -/
structure FnA (P : Program) (w : World) (K : PySem.W.Frag) (mg : Str → Option Value) (base : Heap) (k : Nat) (a : Addr) (ps : List Str) (sp : Sp) : Prop where
  ex : ∃ fd, FnOk P w K mg base CX0 k a fd ps sp ∧ Binds K fd ps []
  kp : PySem.W.keepIn K (.ref a) = true
/-- a def of the text stands at an address -/
structure FunM (K : PySem.W.Frag) (a : Addr) (m qual : Str) (st : Stmt) (ps : List Str) : Prop where
  ex : ∃ fd, FunD K m qual (defArgs st) (defBody st) (defScope st) [] [] a fd ∧ Binds K fd ps []
theorem fnm {P : Program} {w : World} {K : PySem.W.Frag} {mg : Str → Option Value} {base : Heap} {a : Addr} {m qual : Str} {st : Stmt} {N ps : List Str} {k : Nat} {fB : DS} (F : FunM K a m qual st ps) (Sc : FnScope N ps (defScope st))
    (hb : ∀ (cdv : Value) (A : Around) (outer : List Env) (s : Shared) (H : Hp) (E : XK), Room k (A.deeper (envOfC qual (defScope st) s.heap.objs.size a cdv)) → BC (cxOf CX0 P w K mg base N qual (defScope st) a cdv A outer s H E).nox (defBody st) fB) :
    FnA P w K mg base (k + 1) a ps (spD K ps.length (runD N.length fB)) := by
  obtain ⟨fd, Fd, b⟩ := F.ex
  refine ⟨⟨fd, ?_, b⟩, Fd.kp⟩
  refine Fd.ok Sc (fun vs H Q E h => ?_) (fun cdv A outer s H vs Q E hr h => ?_)
  · obtain ⟨_, _, _, _, _, _, h, _⟩ := h
    exact h
  · obtain ⟨B, α, g, ds, d, g', hl, hB, gk, r, e, q⟩ := h
    obtain ⟨t, pt, qt⟩ := hb cdv A outer s H E hr
    refine ⟨t, pt.nox, ?_⟩
    have s0 := start_sat (N := N) hB gk r
    unfold runD at e
    split at e
    · rename_i d' g1 e1
      cases e
      exact qt _ α no _ H _ g _ _ _ s0 e1 fun v H' α' x _ gk' r' => q v H' α' x gk' r'
    · rename_i ρ1 g1 e1
      cases e
      exact qt _ α no _ H _ g _ _ _ s0 e1 fun σ' H' α' ow' s' z => q .non H' α' s'.ext s'.ret .non
    · cases e
abbrev Phi := List D → Store → Option (D × Store)
section
variable {K : PySem.W.Frag} {G : Gh} {α : List Addr} {ow : Nat → Option Addr} {σ : L2.St} {H : Hp} {ρ : Env3} {g : Store}
/-- a callee's promise from what stands ahead of the call -/
theorem sp_call (s : Sat K G α ow σ H ρ g) {φ : Phi} {n : Nat} {xs : List D} {vs : List V} {d : D} {g' : Store} {Q : VK} {E : XK} (r : RepAll (Al G.B α ow) α K H vs xs) (hl : vs.length = n) (e : φ xs g = some (d, g'))
    (w : ∀ v H' α', Ext α H α' H' → Sat K G α' ow σ H' ρ g' → Rep (Al G.B α' ow) α' K H' v d → Q v H') : spD K n φ vs H Q E := by
  have hA : ∀ a (o : HO), Al G.B α ow a → H a = some o → Al (fun a => G.B a ∨ ∃ i, ow i = some a) α no a ∧ H a = some o := fun a o h e => ⟨⟨h.1, fun z => z.elim h.2.1 fun ⟨i, hi⟩ => h.2.2 i hi, fun i z => by cases z⟩, e⟩
  refine ⟨fun a => G.B a ∨ ∃ i, ow i = some a, α, g, xs, d, g', hl, fun a h => ?_, s.gok.mono hA fun _ _ _ e => e, r.mono hA (List.prefix_refl _), e, fun v H2 α2 x2 gk2 r2 => ?_⟩
  · rcases h with h | ⟨i, h⟩
    · exact s.blk a h
    · obtain ⟨_, h2, _, h4, _⟩ := s.own i a h
      exact ⟨h4, h2⟩
  · have hA2 : ∀ a (o : HO), Al (fun a => G.B a ∨ ∃ i, ow i = some a) α2 no a → H2 a = some o → Al G.B α2 ow a ∧ H2 a = some o := fun a o h e => ⟨⟨h.1, fun z => h.2.1 (.inl z), fun i z => h.2.1 (.inr ⟨i, z⟩)⟩, e⟩
    exact w v H2 α2 x2 (s.step x2 (gk2.mono hA2 fun _ _ _ e => e)) (r2.mono hA2 (List.prefix_refl _))
end
/-! ### new instances -/
def eMake (C : Nat) (φ : Phi) (a : DA) : DE := bindM a fun xs => fun _ g => match φ (.obj g.length :: xs) (g ++ [.ins C []]) with
  | some (.non, g') => some (.obj g.length, g')
  | _ => none
def lookM (C : Nat) : List (Nat × Phi) → Option Phi
  | [] => none
  | (k, φ) :: r => if k = C then some φ else lookM C r
def eMeth (tb : List (Nat × Phi)) (fo : DE) (fs : DA) : DE := bindM fo fun x => fun ρ g => match insOf g x with
  | some (_, C, _) => match lookM C tb with
    | some φ => bindM fs (fun xs => fun _ g => φ (x :: xs) g) ρ g
    | none => none
  | none => none
/-- what a method is, of the class C -/
structure MethE (P : Program) (w : World) (K : PySem.W.Frag) (mg : Str → Option Value) (base : Heap) (j n : Nat) (m : Str) (C : Nat) (φ : Phi) : Prop where
  c : Cls K (He.ga K (clsN C))
  ex : ∃ f k ps, Meth K (He.ga K (clsN C)) m f ∧ FnA P w K mg base k f ps (spD K n φ) ∧ k ≤ j
def MethT (P : Program) (w : World) (K : PySem.W.Frag) (mg : Str → Option Value) (base : Heap) (j n : Nat) (m : Str) : List (Nat × Phi) → Prop
  | [] => True
  | (C, φ) :: r => MethE P w K mg base j n m C φ ∧ MethT P w K mg base j n m r
theorem MethT.at {P : Program} {w : World} {K : PySem.W.Frag} {mg : Str → Option Value} {base : Heap} {j n : Nat} {m : Str} {C : Nat} {φ : Phi} : ∀ {tb : List (Nat × Phi)}, MethT P w K mg base j n m tb → lookM C tb = some φ → MethE P w K mg base j n m C φ
  | [], _, h => by cases h
  | (k, ψ) :: r, ⟨h1, h2⟩, h => by
    unfold lookM at h
    split at h
    · rename_i e; cases h; subst e; exact h1
    · exact h2.at h
section
variable {P : Program} {w : World} {K : PySem.W.Frag} {mg : Str → Option Value} {base : Heap} {j k n C f0 : Nat} {m : Str} {φ : Phi} {f : Addr} {ps : List Str} {tb : List (Nat × Phi)} {cs : List Nat}
theorem methT_nil : MethT P w K mg base j n m [] := trivial
theorem methT_cons (c : Cls K (He.ga K (clsN C))) (hm : Meth K (He.ga K (clsN C)) m f) (F : FnA P w K mg base k f ps (spD K n φ)) (r : MethT P w K mg base j n m tb) (hk : k ≤ j := by decide) : MethT P w K mg base j n m ((C, φ) :: tb) := ⟨⟨c, f, k, ps, hm, F, hk⟩, r⟩
theorem clsF_nil : ClsF K f0 [] := trivial
theorem clsF_cons (c : Cls K (He.ga K (clsN C))) (hn : NoAttr K (He.ga K (clsN C)) (fldN f0)) (r : ClsF K f0 cs) : ClsF K f0 (C :: cs) := ⟨⟨c, hn⟩, r⟩
theorem FnA.at {a b : Addr} {sp : Sp} (h : a = b) (F : FnA P w K mg base k b ps sp) : FnA P w K mg base k a ps sp := by rw [h]; exact F
end
theorem PE.ex {X : Cx} {e : Expr} {ι : Type} {S : ι → Prop} {t : ι → TE} (h : ∀ i, S i → PE X e (t i)) : PE X e (fun σ H Q => ∃ i, S i ∧ t i σ H Q) := ⟨fun pins s σ H Q I ⟨i, hi, q⟩ => (h i hi).run pins s σ H Q I q⟩
theorem lookup_notin {m : Str} {fs : List (Nat × D)} : ∀ {vs : List (Str × V)}, vs.map (·.1) = fs.map (fun p => fldN p.1) → (∀ p ∈ fs, p.1 < fldT.length) → m ∉ fldT → vs.lookup m = none := by
  intro vs hk hc hm
  rw [List.lookup_eq_none_iff]
  intro p hp
  rw [bne_iff_ne]
  intro z
  have : p.1 ∈ vs.map (·.1) := List.mem_map_of_mem hp
  rw [hk] at this
  obtain ⟨q, hq, e⟩ := List.mem_map.mp this
  have hq' := hc q hq
  apply hm
  rw [z, ← e]
  unfold fldN
  rw [List.getD_eq_getElem?_getD, List.getElem?_eq_getElem hq']
  exact List.getElem_mem _
section
variable {X : Cx} {e o : Expr} {es : List Expr} {fo : DE} {fs : DA} {pos p apos : Pos} {φ : Phi} {C k j n : Nat} {x m : Str} {f : Addr} {ps : List Str}
theorem ec_make (M : Mk X.K (He.ga X.K (clsN C)) f) (F : FnA X.prog X.w X.K X.mg X.base k f ps (spD X.K n φ)) (hr : Room j X.A) (hm : X.mg x = some (.ref (He.ga X.K (clsN C)))) (ha : AC X (e :: es) fs) (hk : k + 1 ≤ j := by decide)
    (hg : Gl X x := by rfl) (hdb : (x == ("__debug__" : Str)) = false := by decide) (he : starEach (e :: es) X.env = (false, eval e X.env) :: starEach es X.env := by rfl) (hpl : (backTo pos (starEach es X.env)).any (·.1) = false := by rfl) (hl : (e :: es).length + 1 = n := by rfl) :
    EC X (.Call (.Name x p) (e :: es) [] pos) (eMake C φ fs) := by
  obtain ⟨⟨fd, F, b⟩, kp⟩ := F
  obtain ⟨hal, t, pt, q⟩ := ha
  refine ⟨_, pe_make M F (hr.mono hk) hg hm b .nil pass0 pt hdb he hpl, fun G α ow σ H ρ g d g' Q s e w => ?_⟩
  obtain ⟨xs, g1, e1, e2⟩ := bindM_some e
  refine q G α ow σ H ρ g xs g1 _ s e1 fun vs H1 α1 x1 s1 r1 => ?_
  intro y dx hy hdx hne
  split at e2
  · rename_i g3 e3
    cases e2
    obtain ⟨x2, gk2, hg2⟩ := s1.storedO (H' := upd (upd H1 dx (.own y)) y (.ins (He.ga X.K (clsN C)) dx [])) (o := .ins C []) hy (fun a u h => by rw [upd_ne (ne_of_none h hy), upd_ne (ne_of_none h hdx)]; exact h) (fun _ => ⟨dx, [], upd_same, ⟨rfl, by simp⟩, RepAll.nil⟩)
    have s2 := s1.step x2 gk2
    rw [List.append_nil]
    refine sp_call s2 (RepAll.cons (.obj hg2) (r1.ext x2)) (by rw [List.length_cons, r1.1, hal _ _ _ _ e1]; exact hl) e3 fun v H3 α3 x3 s3 r3 => ?_
    cases r3
    exact ⟨rfl, w _ H3 α3 ((x1.trans x2).trans x3) s3 (.obj (prefix_get x3.2.1 hg2))⟩
  · cases e2
/-- o.m(e, ..) by the class of o -/
theorem ec_meth {tb : List (Nat × Phi)} {pl : Sem Bool} (T : MethT X.prog X.w X.K X.mg X.base j n m tb) (hr : Room j X.A) (ho : EB X o fo) (ha : AC X (e :: es) fs) (hmn : m ∉ fldT := by decide +kernel)
    (hst : starEach (e :: es) X.env = (false, eval e X.env) :: starEach es X.env := by rfl) (hpl : (backTo pos (starEach es X.env)).any (·.1) = false := by rfl)
    (ht : eval (.Call (.Attribute o m apos) (e :: es) [] pos) X.env = (do
      let ov ← eval o X.env
      standAt apos.atName
      let (f, first) ← holding [ov] (getMethod ov m pl)
      callWith pos f first (backTo pos (starEach (e :: es) X.env)) (backToKw pos (keywordEach [] X.env))) := by rfl) (hl : (e :: es).length + 1 = n := by rfl) :
    EC X (.Call (.Attribute o m apos) (e :: es) [] pos) (eMeth tb fo fs) := by
  obtain ⟨to, po, qo⟩ := ho
  obtain ⟨hal, t, pt, q⟩ := ha
  refine ⟨_, PE.ex (ι := Nat × Phi) (S := fun i => lookM i.1 tb = some i.2) (t := fun i => tMeth (He.ga X.K (clsN i.1)) m (spD X.K n i.2) [] (fun _ _ _ => False) to t) fun i hi => ?_, fun G α ow σ H ρ g d g' Q s e w => ?_⟩
  · obtain ⟨c, f, k, ps, hm, ⟨⟨fd, F, b⟩, _⟩, hk⟩ := T.at hi
    exact pe_meth po c hm F (hr.mono hk) b .nil pass0 pt hst hpl ht
  · obtain ⟨y, g1, e1, e2⟩ := bindM_some e
    split at e2
    · rename_i i C fs' hi
      obtain ⟨rfl, hg⟩ := insOf_some hi
      split at e2
      · rename_i φ hφ
        refine ⟨(C, φ), hφ, ?_⟩
        refine qo G α ow σ H ρ g _ g1 _ s e1 fun v H1 α1 x1 s1 r1 => ?_
        obtain ⟨a, rfl, hp⟩ := r1.obj
        obtain ⟨dx, vs, h1, ⟨h2, h3⟩, h4⟩ := s1.gok.so _ a _ hp hg
        refine ⟨a, dx, vs, rfl, h1, lookup_notin h2 h3 hmn, ?_⟩
        obtain ⟨xs, g2, e3, e4⟩ := bindM_some e2
        refine q G α1 ow σ H1 ρ g1 xs g2 _ s1 e3 fun us H2 α2 x2 s2 r2 => ?_
        rw [List.append_nil]
        exact sp_call s2 (RepAll.cons (.obj (prefix_get x2.2.1 hp)) r2) (by rw [List.length_cons, r2.1, hal _ _ _ _ e3]; exact hl) e4 fun v H3 α3 x3 s3 r3 => w v H3 α3 ((x1.trans x2).trans x3) s3 r3
      · cases e2
    · cases e2
/-- o.m() by the class of o -/
theorem ec_meth0 {tb : List (Nat × Phi)} {pl : Sem Bool} (T : MethT X.prog X.w X.K X.mg X.base j 1 m tb) (hr : Room j X.A) (ho : EB X o fo) (hmn : m ∉ fldT := by decide +kernel)
    (ht : eval (.Call (.Attribute o m apos) [] [] pos) X.env = (do
      let ov ← eval o X.env
      standAt apos.atName
      let (f, first) ← holding [ov] (getMethod ov m pl)
      callWith pos f first (backTo pos (starEach [] X.env)) (backToKw pos (keywordEach [] X.env))) := by rfl) :
    EC X (.Call (.Attribute o m apos) [] [] pos) (eMeth tb fo aNil) := by
  obtain ⟨to, po, qo⟩ := ho
  refine ⟨_, PE.ex (ι := Nat × Phi) (S := fun i => lookM i.1 tb = some i.2) (t := fun i => tMeth (He.ga X.K (clsN i.1)) m (spD X.K 1 i.2) [] (fun _ _ _ => False) to tNil) fun i hi => ?_, fun G α ow σ H ρ g d g' Q s e w => ?_⟩
  · obtain ⟨c, f, k, ps, hm, ⟨⟨fd, F, b⟩, _⟩, hk⟩ := T.at hi
    exact pe_meth0 po c hm F (hr.mono hk) b .nil pass0 ht
  · obtain ⟨y, g1, e1, e2⟩ := bindM_some e
    split at e2
    · rename_i i C fs' hi
      obtain ⟨rfl, hg⟩ := insOf_some hi
      split at e2
      · rename_i φ hφ
        refine ⟨(C, φ), hφ, ?_⟩
        refine qo G α ow σ H ρ g _ g1 _ s e1 fun v H1 α1 x1 s1 r1 => ?_
        obtain ⟨a, rfl, hp⟩ := r1.obj
        obtain ⟨dx, vs, h1, ⟨h2, h3⟩, h4⟩ := s1.gok.so _ a _ hp hg
        refine ⟨a, dx, vs, rfl, h1, lookup_notin h2 h3 hmn, ?_⟩
        obtain ⟨xs, g2, e3, e4⟩ := bindM_some e2
        cases e3
        exact sp_call (E := fun _ _ _ => False) s1 (RepAll.one (.obj hp)) rfl e4 fun v H3 α3 x3 s3 r3 => w v H3 α3 (x1.trans x3) s3 r3
      · cases e2
    · cases e2
/-! ### C.m(self, ..) -/
theorem ec_cfn {y : Str} {C : Addr} {pl : Sem Bool} (c : CFn X.K C m f) (F : FnA X.prog X.w X.K X.mg X.base k f ps (spD X.K n φ)) (hr : Room j X.A) (hm : X.mg y = some (.ref C)) (ha : AC X (e :: es) fs) (hk : k ≤ j := by decide)
    (hg : Gl X y := by rfl) (hdb : (y == ("__debug__" : Str)) = false := by decide) (he : starEach (e :: es) X.env = (false, eval e X.env) :: starEach es X.env := by rfl) (hpl : (backTo pos (starEach es X.env)).any (·.1) = false := by rfl)
    (ht : eval (.Call (.Attribute (.Name y p) m apos) (e :: es) [] pos) X.env = (do
      let ov ← eval (.Name y p) X.env
      standAt apos.atName
      let (f, first) ← holding [ov] (getMethod ov m pl)
      callWith pos f first (backTo pos (starEach (e :: es) X.env)) (backToKw pos (keywordEach [] X.env))) := by rfl) (hl : (e :: es).length = n := by rfl) :
    EC X (.Call (.Attribute (.Name y p) m apos) (e :: es) [] pos) (eApp φ fs) := by
  obtain ⟨⟨fd, F, b⟩, kp⟩ := F
  obtain ⟨hal, t, pt, q⟩ := ha
  have po : PE X (.Name y p) (tC (.ref C)) := pe_glob (v := .ref C) hg hm rfl hdb
  have pe : PE X (.Call (.Attribute (.Name y p) m apos) (e :: es) [] pos) (tCall (spD X.K n φ) [] (fun _ _ _ => False) t) := by
    refine ⟨fun pins s σ H Q I h => ?_⟩
    refine PySem.W.methodCall_KW (pl := pl) (thn (po.run pins s σ H (fun v H1 => v = .ref C ∧ H1 = H) I ⟨rfl, rfl⟩) fun u s1 ⟨x, H1, I1, rx, ex, eH⟩ => ?_) ht
    subst ex eH
    obtain rfl : u = Value.ref C := rx
    refine PySem.W.method_cls I1.kIn c.r.ga (PySem.W.cls_value I1.kIn c.r.rd c.at_ rfl ?_)
    refine PySem.W.callWith_K (first := []) (h₀ := X.base) I.ok.mod.kin kp (thn (pt.run pos pins _ σ H1 _ (I1.tok _) h) fun us s2 ⟨vs, H2, I2, r, q2⟩ => ⟨I2.kIn, ?_⟩) he hpl
    exact run_fn (us := us) (vs := vs) F (hr.mono hk) b .nil pass0 I2 r q2
  refine ⟨_, pe, fun G α ow σ H ρ g d g' Q s e w => ?_⟩
  obtain ⟨xs, g1, e1, e2⟩ := bindM_some e
  refine q G α ow σ H ρ g xs g1 _ s e1 fun vs H1 α1 x1 s1 r1 => ?_
  rw [List.append_nil]
  exact sp_call s1 r1 (by rw [r1.1, hal _ _ _ _ e1]; exact hl) e2 fun v H2 α2 x2 s2 r2 => w v H2 α2 (x1.trans x2) s2 r2
end
end L3

/-! L5c: lists of the store: append, comprehensions over them (they must stay meanwhile); extend by a list. -/
namespace L3
open PySem PySem.Spec PyProof.Rows L2 TL
def lstOf (g : Store) : D → Option (Nat × List D)
  | .obj n => match g[n]? with
    | some (.lst xs) => some (n, xs)
    | _ => none
  | _ => none
theorem lstOf_some {g : Store} {x : D} {n : Nat} {xs : List D} (h : lstOf g x = some (n, xs)) : x = .obj n ∧ g[n]? = some (.lst xs) := by
  unfold lstOf at h
  split at h
  · split at h
    · cases h; exact ⟨rfl, ‹_›⟩
    · cases h
  · cases h
def sAppO (fo fe : DE) : DS := fun ρ g => match fo ρ g with
  | some (x, g1) => match lstOf g1 x with
    | some (n, _) => match fe ρ g1 with
      | some (d, g2) => match g2[n]? with
        | some (.lst xs) => if xs.length < BIG then some (.nx ρ, g2.set n (.lst (xs ++ [d]))) else none
        | _ => none
      | none => none
    | none => none
  | none => none
section
variable {X : Cx} {e o : Expr} {fe fo : DE} {pos : Pos}
theorem sc_appO {p2 p3 : Pos} (ho : EB X o fo) (he : EC X e fe)
    (hs1 : starEach [e] X.env = (false, eval e X.env) :: starEach [] X.env := by rfl)
    (hbase : attributeBase o "append" X.env (eval o X.env) = eval o X.env := by rfl)
    (hfew : ((backTo p3 (starEach [e] X.env)).all (fun x => !x.1) && (backToKw p3 (keywordEach [] X.env)).all (fun x => x.1.isSome)
      && decide ([e].length + ([] : List Keyword).length + (if ([] : List Keyword).isEmpty then 0 else 1) < 30)) = true := by rfl)
    (hline : (p2.endLine == p3.line) = true := by rfl) (hplain : (backTo p3 (starEach [] X.env)).any (·.1) = false := by rfl)
    (hs : swapsWith (.Call (.Attribute o "append" p2) [e] [] p3) none pos.line X.env = pure false := by rfl) :
    SC X (.Expr (.Call (.Attribute o "append" p2) [e] [] p3) pos) (sAppO fo fe) := by
  obtain ⟨t, pt, hq⟩ := he
  obtain ⟨to, po, ho⟩ := ho
  refine ⟨_, ps_expr (pe_bm PySem.F.plainAttrs_list PySem.F.slot_list_append PySem.F.type_list_append mt_append po (pa_cons pt pa_nil hs1) hbase hfew hline hs1 hplain) hs, fun G α ow σ H ρ g out g' Dn s e w => ?_⟩
  unfold sAppO at e
  split at e
  · rename_i x g1 e1
    split at e
    · rename_i n ys hl
      obtain ⟨rfl, hg1⟩ := lstOf_some hl
      split at e
      · rename_i d g2 e2
        split at e
        · rename_i xs hg
          split at e
          · rename_i hb
            cases e
            refine ho G α ow σ H ρ g _ g1 _ s e1 fun v H1 α1 x1 s1 r1 => ?_
            obtain ⟨a, rfl, hp⟩ := r1.obj
            obtain ⟨vs, q1, q2⟩ := s1.gok.so n a _ hp hg1
            refine ⟨.inl ⟨rfl, vs, .inl (.inl q1)⟩, ?_⟩
            refine hq G α1 ow σ H1 ρ g1 d g2 _ s1 e2 fun u H2 α2 x2 s2 r2 => ?_
            have hp2 := prefix_get x2.2.1 hp
            obtain ⟨vs2, q3, q4⟩ := s2.gok.so n a _ hp2 hg
            refine ⟨a, vs2, u, rfl, rfl, q3, by rw [q4.1]; exact Nat.lt_of_lt_of_le hb big_line, ?_⟩
            obtain ⟨x4, gk⟩ := s2.store hp2 (q4.append (RepAll.one r2))
            exact w _ _ _ _ (s2.step x4 gk) ((x1.trans x2).trans x4).fz
          · cases e
        · cases e
      · cases e
    · cases e
  · cases e
end
/-! ### walks over lists of the store -/
abbrev DI := M (List D × List (Nat × List D))
def stay (gs : List (Nat × List D)) (g : Store) : Prop := ∀ p ∈ gs, g[p.1]? = some (.lst p.2)
def WalkG (K : PySem.W.Frag) (P : Store → Prop) (B : Addr → Prop) (α : List Addr) (ow : Nat → Option Addr) (H : Hp) (J : It) (ds : List D) : Prop :=
  ∀ G2 α2 ow2 σ2 H2 ρ2 g2 (i : Nat), Sat K G2 α2 ow2 σ2 H2 ρ2 g2 → FzB B α ow H G2.B α2 ow2 H2 → P g2 → (i = ds.length → J.stop i H2) ∧
    ∀ d, ds[i]? = some d → J.go i H2 ∧ ∀ x H3, J.yld i H2 x H3 → Ext α2 H2 α2 H3 ∧ Sat K G2 α2 ow2 σ2 H3 ρ2 g2 ∧ Rep (Al G2.B α2 ow2) α2 K H3 x d
def ICG (X : Cx) (tg iter : Expr) (f : DI) : Prop := ∃ wi, PI X tg iter wi ∧ ∀ G α ow σ H ρ g ds gs g' (R : It → Hp → Prop), Sat X.K G α ow σ H ρ g → f ρ g = some ((ds, gs), g') →
  (∀ J H' α', Ext α H α' H' → Sat X.K G α' ow σ H' ρ g' → WalkG X.K (stay gs) G.B α' ow H' J ds → R J H') → wi σ H R
open Classical in
noncomputable def gdT (gs : List (Nat × List D)) (c : DT) : DT := fun ρ g => if stay gs g then c ρ g else none
theorem gdT_some {gs : List (Nat × List D)} {c : DT} {ρ : Env3} {g : Store} {z : Bool × Store} (h : gdT gs c ρ g = some z) : c ρ g = some z := by
  unfold gdT at h
  split at h
  · exact h
  · cases h
open Classical in
noncomputable def aLcG (it : DI) (vs : List Nat) (tg : D → Option (List (Nat × D))) (c : DT) (e : DE) : DA := fun ρ g => match it ρ g with
  | some ((ds, gs), g1) => if ds.length ≤ BIG ∧ noOwn ρ vs = true then (match lcD tg (gdT gs c) e ds (wipe3 ρ vs) g1 with
    | some (ys, g2) => if stay gs g2 then some (ys, g2) else none
    | none => none) else none
  | none => none
open Classical in
theorem endG {o : Option (List D × Store)} {gs : List (Nat × List D)} {z : List D × Store} (h : (match o with
    | some (ys, g2) => if stay gs g2 then some (ys, g2) else none
    | none => none) = some z) : o = some z ∧ stay gs z.2 := by
  split at h
  · split at h
    · rename_i hs; cases h; exact ⟨rfl, hs⟩
    · cases h
  · cases h
theorem lcD_stay {p : D → Option (List (Nat × D))} {gs : List (Nat × List D)} {fc : DT} {fe : DE} {d : D} {r : List D} {ρ : Env3} {g : Store} {z : List D × Store} (h : lcD p (gdT gs fc) fe (d :: r) ρ g = some z) : stay gs g := by
  unfold lcD at h
  split at h
  · cases h
  · rename_i as _
    by_cases q : stay gs g
    · exact q
    · have : gdT gs fc (sets ρ as) g = none := by unfold gdT; rw [if_neg q]
      rw [this] at h
      cases h
/-- a list of the store -/
def iObj (f : DE) : DI := bindM f fun x => fun _ g => match lstOf g x with
  | some (n, xs) => some ((xs, [(n, xs)]), g)
  | none => none
section
variable {X : Cx} {tg e : Expr} {f : DE}
theorem ic_obj (he : EB X e f) : ICG X tg e (iObj f) := by
  obtain ⟨t, pt, q⟩ := he
  refine ⟨_, pi_list pt, fun G α ow σ H ρ g ds gs g' R s e w => ?_⟩
  obtain ⟨x, g1, e1, e2⟩ := bindM_some e
  split at e2
  · rename_i n xs hl
    obtain ⟨rfl, hg⟩ := lstOf_some hl
    cases e2
    refine q G α ow σ H ρ g _ g' _ s e1 fun v H1 α1 x1 s1 r1 => ?_
    obtain ⟨a, rfl, hp⟩ := r1.obj
    obtain ⟨vs, q1, q2⟩ := s1.gok.so n a _ hp hg
    refine ⟨a, rfl, ⟨vs, .inl (.inl q1)⟩, w _ H1 α1 x1 s1 fun G2 α2 ow2 σ2 H2 ρ2 g2 i s2 z st => ?_⟩
    obtain ⟨us, k1, k2⟩ := s2.gok.so n a _ (prefix_get z.2 hp) (st _ List.mem_cons_self)
    refine ⟨fun hi => ⟨us, .inl (.inl k1), by rw [k2.1, hi]; exact Nat.le_refl _⟩, fun d hd => ?_⟩
    obtain ⟨v, hv, rv⟩ := k2.get hd
    refine ⟨⟨us, v, .inl (.inl k1), hv⟩, fun y H3 hy => ?_⟩
    obtain ⟨rfl, hy⟩ := hy
    have ey : y = v := Option.some.inj ((hy us (.inl (.inl k1))).symm.trans hv)
    subst ey
    exact ⟨Ext.refl, s2, rv⟩
  · cases e2
end
section
variable {X : Cx} {elt tg iter : Expr} {ifs : List Expr} {p : D → Option (List (Nat × D))} {fc : DT} {fe : DE} {pos : Pos} {scope : Scope} {own : List (Str × Nat)}
theorem lc_readG {it : DI} {wi : TI} {g1 : TG} {tt : TT} {te : TE} {vs : List Nat}
    (qg : ∀ A α σ H v d as Q, Rep A α X.K H v d → p d = some as → (∀ ws, RepSets A α X.K H ws as → Q (setsV σ ws) H) → g1 v σ H Q)
    (qt : ∀ G α ow σ H ρ g b g' Q, Sat X.K G α ow σ H ρ g → fc ρ g = some (b, g') → WantsT X.K G α ow σ H ρ g' b Q → tt σ H Q)
    (qe : ∀ G α ow σ H ρ g d g' Q, Sat X.K G α ow σ H ρ g → fe ρ g = some (d, g') → WantsG X.K G α ow σ H ρ g' d Q → te σ H Q) (hv : TgIn p vs)
    {G α ow σ H ρ g ds g' Q} (s : Sat X.K G α ow σ H ρ g) (qi : ∀ xs gs g1 (R : It → Hp → Prop), it ρ g = some ((xs, gs), g1) → (∀ J H' α', Ext α H α' H' → Sat X.K G α' ow σ H' ρ g1 → WalkG X.K (stay gs) G.B α' ow H' J xs → R J H') → wi σ H R) (e : aLcG it vs p fc fe ρ g = some (ds, g')) (w : WantsF X.K G α ow σ H ρ g' ds Q) : tLc wi g1 tt te vs σ H Q := by
  unfold aLcG at e
  split at e
  · rename_i xs gs g1' e1
    split at e
    · rename_i hh
      obtain ⟨hbig, hno⟩ := hh
      obtain ⟨e, hend⟩ := endG e
      refine qi xs gs g1' _ e1 fun J H1 α1 x1 s1 wk => fun Dp hD => ?_
      have hD0 : G.H0 Dp = none := s1.ext.fresh hD (s1.al hD).1
      have hDb : ¬ G.B Dp := (s1.al hD).2.1
      have s2 := (s1.shut hD []).wipe (vs := vs) hno
      have fz0 : ∀ a (o : HO), Al G.B α1 ow a → H1 a = some o → Al (fun a => G.B a ∨ a = Dp) α1 ow a ∧ upd H1 Dp (.lst []) a = some o := fun a o h e => ⟨⟨h.1, fun z => z.elim h.2.1 (ne_of_none e hD), h.2.2⟩, by rw [upd_ne (ne_of_none e hD)]; exact e⟩
      refine ⟨fun i m H2 => m = xs.length - i ∧ i ≤ xs.length ∧ ∃ α2 g2 acc done rest, Sat X.K ⟨fun a => G.B a ∨ a = Dp, G.H0, G.α0⟩ α2 ow (L2.wipe σ vs) H2 (wipe3 ρ vs) g2 ∧
          FzB G.B α1 ow H1 (fun a => G.B a ∨ a = Dp) α2 ow H2 ∧ Ext α1 H1 α2 H2 ∧ H2 Dp = some (.lst acc) ∧ RepAll (Al (fun a => G.B a ∨ a = Dp) α2 ow) α2 X.K H2 acc done ∧ acc.length ≤ i ∧ lcD p (gdT gs fc) fe (xs.drop i) (wipe3 ρ vs) g2 = some (rest, g') ∧ ds = done ++ rest,
        ⟨xs.length, by simp, Nat.zero_le _, α1, g1', [], [], ds, s2, ⟨fz0, List.prefix_refl _⟩, Ext.new hD, upd_same, RepAll.nil, Nat.le_refl _, e, rfl⟩, ?_⟩
      rintro i m H2 ⟨rfl, hi, α2, g2, acc, done, rest, s2, z2, x2, hacc, racc, hal, e2, eds⟩
      by_cases hlt : i < xs.length
      · have hst : stay gs g2 := by
          rw [List.drop_eq_getElem_cons hlt] at e2
          exact lcD_stay e2
        have wk2 := wk _ α2 ow _ H2 _ g2 i s2 z2 hst
        have ed : xs[i]? = some xs[i] := List.getElem?_eq_getElem hlt
        obtain ⟨go, yl⟩ := wk2.2 _ ed
        rw [List.drop_eq_getElem_cons hlt] at e2
        refine .inr ⟨go, fun H3 => ∃ α3 g3 acc done rest, Sat X.K ⟨fun a => G.B a ∨ a = Dp, G.H0, G.α0⟩ α3 ow (L2.wipe σ vs) H3 (wipe3 ρ vs) g3 ∧
          FzB G.B α1 ow H1 (fun a => G.B a ∨ a = Dp) α3 ow H3 ∧ Ext α1 H1 α3 H3 ∧ H3 Dp = some (.lst acc) ∧ RepAll (Al (fun a => G.B a ∨ a = Dp) α3 ow) α3 X.K H3 acc done ∧ acc.length ≤ i + 1 ∧ lcD p (gdT gs fc) fe (xs.drop (i + 1)) (wipe3 ρ vs) g3 = some (rest, g') ∧ ds = done ++ rest,
          fun H3 h3 => ⟨xs.length - (i + 1), by omega, rfl, hlt, h3⟩, fun x H3 hy => ?_⟩
        obtain ⟨x3, s3, r3⟩ := yl x H3 hy
        have nD : ∀ {α' : List Addr} {H' : Hp}, Ext α2 H3 α' H' → H' Dp = some (.lst acc) := fun {α' H'} xx => xx.1 _ _ (x3.1 _ _ hacc (s2.blk Dp (.inr rfl)).2) (s3.blk Dp (.inr rfl)).2
        unfold lcD at e2
        split at e2
        · cases e2
        · rename_i as has
          refine qg _ _ (L2.wipe σ vs) H3 x _ as _ r3 has fun ws rs => ⟨?_, ?_⟩
          · rw [wipe_sets fun j hj => hv _ _ has j (by rw [← rs.1]; exact hj), wipe_wipe]
          · have s4 := s3.setsN rs fun j hj => noOwn_ow s1 hno (hv _ _ has j hj)
            have fzx : ∀ {α' : List Addr} {H' : Hp}, Ext α2 H3 α' H' → FzB G.B α1 ow H1 (fun a => G.B a ∨ a = Dp) α' ow H' := fun {α' H'} xx => ⟨fun a o h e => by
                have q := z2.1 a o h e
                have q2 := x3.al a o q.1 q.2
                exact xx.al a o q2.1 q2.2, z2.2.trans xx.2.1⟩
            split at e2
            · rename_i g5 e5
              split at e2
              · rename_i y g6 e6
                split at e2
                · rename_i ys g7 e7
                  cases e2
                  refine qt _ α2 ow _ H3 _ g2 true g5 _ s4 (gdT_some e5) fun H5 α5 x5 s5 => ?_
                  rw [if_pos rfl]
                  refine qe _ α5 ow _ H5 _ g5 y g6 _ s5 e6 fun v H6 α6 x6 s6 r6 => ?_
                  have xx := x5.trans x6
                  have hD6 := nD xx
                  refine ⟨acc, hD6, Nat.lt_of_lt_of_le (Nat.lt_of_lt_of_le (Nat.lt_of_le_of_lt hal hlt) hbig) big_line, ?_⟩
                  have g6k : GOk (Al (fun a => G.B a ∨ a = Dp) α6 ow) α6 g6 X.K H6 := s6.gok
                  have s7 : Sat X.K ⟨fun a => G.B a ∨ a = Dp, G.H0, G.α0⟩ α6 ow (L2.wipe σ vs) H6 (wipe3 ρ vs) g6 := s2.step (x3.trans xx) g6k
                  have s8 := s7.shutMut hD0 (acc ++ [v])
                  have hA8 : ∀ a (o : HO), Al (fun a => G.B a ∨ a = Dp) α6 ow a → H6 a = some o → Al (fun a => G.B a ∨ a = Dp) α6 ow a ∧ upd H6 Dp (.lst (acc ++ [v])) a = some o := fun a o h e => ⟨h, by rw [upd_ne fun z => h.2.1 (.inr z)]; exact e⟩
                  refine ⟨α6, g6, acc ++ [v], done ++ [y], ys, s8, ⟨fun a o h e => hA8 a o ((fzx xx).1 a o h e).1 ((fzx xx).1 a o h e).2, (fzx xx).2⟩, ?_, upd_same, (((racc.ext x3).ext xx).append (RepAll.one r6)).mono hA8 (List.prefix_refl _), by rw [List.length_append]; exact Nat.succ_le_succ hal, e7, by rw [eds, List.append_assoc]; rfl⟩
                  have xa := (x2.trans x3).trans xx
                  exact ⟨fun a o h hn => by rw [upd_ne (ne_of_none h hD)]; exact xa.1 a o h hn, xa.2.1, xa.2.2⟩
                · cases e2
              · cases e2
            · rename_i g5 e5
              refine qt _ α2 ow _ H3 _ g2 false g5 _ s4 (gdT_some e5) fun H5 α5 x5 s5 => ?_
              rw [if_neg (by decide)]
              exact ⟨α5, g5, acc, done, rest, s2.step (x3.trans x5) s5.gok, fzx x5, (x2.trans x3).trans x5, nD x5, (racc.ext x3).ext x5, Nat.le_succ_of_le hal, e2, eds⟩
            · cases e2
      · have ei : i = xs.length := by omega
        subst ei
        rw [List.drop_length] at e2
        cases e2
        rw [List.append_nil] at eds
        subst eds
        have wk2 := wk _ α2 ow _ H2 _ _ xs.length s2 z2 hend
        refine .inl ⟨wk2.1 rfl, ?_⟩
        have so := s2.open hD0 hDb
        have xc : Ext α1 H1 α2 (cutH H2 Dp) := ⟨fun a o h hn => by
          unfold cutH
          rw [if_neg (ne_of_none h hD)]
          exact x2.1 a o h hn, x2.2.1, x2.2.2⟩
        have hA : ∀ a (o : HO), Al (fun a => G.B a ∨ a = Dp) α2 ow a → H2 a = some o → Al G.B α2 ow a ∧ cutH H2 Dp a = some o := fun a o h e => ⟨⟨h.1, fun z => h.2.1 (.inl z), h.2.2⟩, by unfold cutH; rw [if_neg fun z => h.2.1 (.inr z)]; exact e⟩
        exact w Dp acc (cutH H2 Dp) α2 (x1.trans xc) (s1.step xc so.gok) (by unfold cutH; rw [if_pos rfl]) (racc.mono hA (List.prefix_refl _)) H2 (cutH_upd hacc)
    · cases e
  · cases e
theorem ef_lcG {it : DI} (hN : X.N.Nodup) (own : List (Str × Nat)) (hi : ICG X tg iter it) (hv : TgIn p (own.map (·.2)))
    (hg : ∀ (s : Shared) (H : Hp) (C : Addr) (cl : List (Str × Addr)) (fp : List Addr), GC (X.blk s H scope (compEnvC scope cl C X.env) fp) tg p)
    (ht : ∀ (s : Shared) (H : Hp) (C : Addr) (cl : List (Str × Addr)) (fp : List Addr), TCs (X.blk s H scope (compEnvC scope cl C X.env) fp) ifs fc)
    (he : ∀ (s : Shared) (H : Hp) (C : Addr) (cl : List (Str × Addr)) (fp : List Addr), EC (X.blk s H scope (compEnvC scope cl C X.env) fp) elt fe)
    (ok : BlkOk X.N X.env.scope scope own) (hc : X.calm = true := by rfl) (hs : ∀ x, foldedSetIterable iter X.env x = pure x := by intro _; rfl) : EF X (.ListComp elt [⟨tg, iter, ifs, 0⟩] scope pos) (aLcG it (own.map (·.2)) p fc fe) := by
  obtain ⟨wi, pwi, qi⟩ := hi
  exact ⟨_, pe_lc (g := tGs X.K p) (tt := tTs X.K fc) (te := tE X.K fe) hc hN pwi ok (fun s H C cl fp => (hg s H C cl fp).canon) (fun s H C cl fp => (ht s H C cl fp).canon) (fun s H C cl fp => (he s H C cl fp).canon) hs, fun G α ow σ H ρ g ds g' Q s e w =>
    lc_readG (X := X) (g1 := tGs X.K p) (tt := tTs X.K fc) (te := tE X.K fe) (fun A α σ H v d as Q h1 h2 h3 => ⟨A, α, d, as, h1, h2, h3⟩) (fun G α ow σ H ρ g b g' Q h1 h2 h3 => ⟨G, α, ow, ρ, g, b, g', h1, h2, h3⟩) (fun G α ow σ H ρ g b g' Q h1 h2 h3 => ⟨G, α, ow, ρ, g, b, g', h1, h2, h3⟩) hv s (fun xs gs g1 R e1 hR => qi G α ow σ H ρ g xs gs g1 R s e1 hR) e w⟩
end
/-! ### extend by a list or a tuple -/
theorem MtR.or {X : Cx} {id : String} {r1 r2 : V → List V → Hp → VK → Prop} (h1 : MtR X id r1) (h2 : MtR X id r2) : MtR X id (fun x xs H Q => r1 x xs H Q ∨ r2 x xs H Q) := fun pins s σ H x xs v us Q I rx rv h => h.elim (h1 pins s σ H x xs v us Q I rx rv) (h2 pins s σ H x xs v us Q I rx rv)
def rExtR : V → List V → Hp → VK → Prop := fun x vs H Q => ∃ l b xs zs, x = .ref l ∧ vs = [.ref b] ∧ H l = some (.lst xs) ∧ Rd H b (.lst zs) ∧ xs.length + zs.length ≤ sizeLine ∧ Q .non (upd H l (.lst (xs ++ zs)))
theorem mt_extR {X : Cx} : MtR X "list.extend" rExtR := by
  intro pins s σ H x vs v us Q I rx rv h
  obtain ⟨l, b, xs, zs, rfl, rfl, hH, hB, hz, q⟩ := h
  cases rx
  obtain ⟨u, rfl, ru⟩ := rv.one
  cases ru
  obtain ⟨z, l1, n, r, hl, e⟩ := I.lstM hH
  have hB' : ∃ (l2 : List Value) (n2 : Nat), Vals zs l2 ∧ s.heap.get? b = some { cls := .type "list", data := .seq l2.toArray n2 } := by
    rcases hB with hB | ⟨o, hB⟩
    · obtain ⟨_, its, n2, r2, e2⟩ := I.hok b _ hB
      exact ⟨its, n2, r2, e2⟩
    · obtain ⟨_, _, its, n2, r2, e2⟩ := I.hok b _ hB
      exact ⟨its, n2, r2, e2⟩
  obtain ⟨l2, n2, r2, e2⟩ := hB'
  have k1 := r.length
  have k2 := r2.length
  have sz : l1.toArray.size + l2.toArray.size ≤ sizeLine := by simp only [List.size_toArray]; omega
  have nl : ¬ (!l1.toArray.isEmpty && Builtin.List.listTooLong (l1.toArray.size + l2.toArray.size)) = true := by
    rw [notLongL sz, Bool.and_false]
    decide
  refine call_meets F.slot_list_extend ⟨_, e, rfl⟩ F.entry_list_extend (F.args_list_extend_2 _ _) (AutoSeq1.list_extend_list_list_0 l l1.toArray n b l2.toArray n2 nl (by simp only [List.size_toArray] at sz ⊢; omega) (by simp only [List.size_toArray] at sz ⊢; omega)) ⟨e, e2, ?_⟩
  exact ⟨.non, _, I.lset (its' := l1 ++ l2) hH e (by simp) (r.append r2) (by rw [List.length_append]; exact hz), rfl, q⟩
def sExtA (i : Nat) (f : DE) : DS := fun ρ g => match ρ[i]? with
  | some (some (.own xs)) => match f ρ g with
    | some (.lst ys, g1) => if xs.length + ys.length ≤ BIG then some (.nx (ρ.set i (some (.own (xs ++ ys)))), g1) else none
    | _ => none
  | _ => none
section
variable {X : Cx} {e : Expr} {fe : DE} {fs : DA} {pos : Pos}
/-- x.extend(e), e a new list -/
theorem sc_extA {i : Nat} {x : Str} {p1 p2 p3 : Pos} (he : EC X e fe) (hN : X.N[i]? = some x := by rfl) (hv : Vis X.env.scope x := by first | exact Or.inl rfl | exact Or.inr (Or.inl rfl) | exact Or.inr (Or.inr rfl)) (hd : (x == ("__debug__" : Str)) = false := by decide) (hcd : (x == ("__classdict__" : Str)) = false := by decide)
    (hs1 : starEach [e] X.env = (false, eval e X.env) :: starEach [] X.env := by rfl)
    (hbase : attributeBase (.Name x p1) "extend" X.env (eval (.Name x p1) X.env) = eval (.Name x p1) X.env := by rfl)
    (hfew : ((backTo p3 (starEach [e] X.env)).all (fun x => !x.1) && (backToKw p3 (keywordEach [] X.env)).all (fun x => x.1.isSome)
      && decide ([e].length + ([] : List Keyword).length + (if ([] : List Keyword).isEmpty then 0 else 1) < 30)) = true := by rfl)
    (hline : (p2.endLine == p3.line) = true := by rfl) (hplain : (backTo p3 (starEach [] X.env)).any (·.1) = false := by rfl)
    (hs : swapsWith (.Call (.Attribute (.Name x p1) "extend" p2) [e] [] p3) none pos.line X.env = pure false := by rfl) :
    SC X (.Expr (.Call (.Attribute (.Name x p1) "extend" p2) [e] [] p3) pos) (sExtA i fe) := by
  obtain ⟨t, pt, hq⟩ := he
  refine ⟨_, ps_expr (pe_bm PySem.F.plainAttrs_list PySem.F.slot_list_extend PySem.F.type_list_extend mt_extR (pe_var hN hv hd hcd) (pa_cons pt pa_nil hs1) hbase hfew hline hs1 hplain) hs, fun G α ow σ H ρ g out g' Dn s e p => ?_⟩
  unfold sExtA at e
  split at e
  · rename_i xs hx
    split at e
    · rename_i ys g1 e1
      split at e
      · rename_i hl
        cases e
        obtain ⟨a, vs, h1, h2, h3, h4⟩ := s.slot i _ hx
        refine ⟨_, h2, .inl ⟨rfl, vs, .inl (.inl h3)⟩, ?_⟩
        refine hq G α ow σ H ρ g _ g' _ s e1 fun v H1 α1 x1 s1 r1 => ?_
        have h3' := x1.1 a _ h3 (s.own i a h1).2.1
        cases r1 with
        | lst hA ht hlt hit =>
          have r2 := (h4.ext x1).append (show RepAll _ _ _ _ _ _ from ⟨hlt, hit⟩)
          refine ⟨a, _, vs, _, rfl, rfl, h3', ht, ?_, ?_⟩
          · rw [h4.1, hlt]
            exact Nat.le_trans hl big_line
          · have m := s1.mut (xs := xs) h1 (List.getElem?_eq_some_iff.mp hx).1 h2 r2
            exact p _ _ _ _ m.1 (x1.fz.trans m.2)
      · cases e
    · cases e
  · cases e
end
end L3

/-! L5d: list(a text). -/
namespace L3
open PySem PySem.Spec PyProof.Rows L2 TL
section
variable {X : Cx}
theorem signs_vals (z : List Nat) (acc : Array Value) (h : ItemsOf (SignAt (S z)) acc (S z).cps.size) : Vals (z.map fun c => V.str (S [c])) acc.toList := by
  obtain ⟨hs, hi⟩ := h
  have hl : acc.toList.length = z.length := by rw [Array.length_toList, hs]; simp [S]
  have hi' : ∀ j v, acc.toList[j]? = some v → SignAt (S z) j v := fun j v e => hi j v (by rw [← Array.getElem?_toList]; exact e)
  generalize acc.toList = l at hl hi'
  have key : ∀ (l : List Value) (u : List Nat) (k : Nat), l.length = u.length → (∀ (j : Nat) (v : Value), l[j]? = some v → ∃ c t, u[j]? = some c ∧ v = Value.str ⟨#[c]⟩ t) → Vals (u.map fun c => V.str (S [c])) l := by
    intro l
    induction l with
    | nil => intro u k e _; cases u with
      | nil => exact .nil
      | cons => simp at e
    | cons v r ih => intro u k e h; cases u with
      | nil => simp at e
      | cons c u =>
        obtain ⟨c', t, e1, e2⟩ := h 0 v rfl
        cases e1
        exact .cons ⟨t, e2⟩ (ih u k (by simpa using e) fun j v' e' => h (j + 1) v' (by simpa using e'))
  refine key l z 0 hl fun j v e => ?_
  obtain ⟨c, t, e1, e2⟩ := hi' j v e
  exact ⟨c, t, by simpa [S] using e1, e2⟩
theorem cr_listS (hc : X.calm = true) : CallR X (.type "list") (fun xs H Q => ∃ z : List Nat, xs = [.str (S z)] ∧ z.length ≤ sizeLine ∧ ∀ p, H p = none → Q (.ref p) (upd H p (.lst (z.map fun c => V.str (S [c]))))) := by
  intro pins s σ H xs us Q I r q
  obtain ⟨z, rfl, hz, q⟩ := q
  obtain ⟨u, rfl, rx⟩ := vals1 r
  obtain ⟨t, rfl⟩ := rx
  refine call_list_str (I.ok.hd hc) (S z) t (fun h' tk acc' c' kp e it => ?_) (by simpa [S] using hz)
  refine ⟨.ref s.heap.objs.size, _, I.laid (t' := tk) kp (Nat.le_refl _) (show ObjOk X.prog X.w _ h' _ (.lst (z.map fun c => V.str (S [c]))) from ⟨by rw [List.length_map]; exact hz, acc'.toList, c', signs_vals z acc' it, by rw [Array.toArray_toList]; exact e⟩), rfl, q _ (I.hok.fresh (Nat.le_refl _))⟩
end
def aListQ : List D → Option (List D)
  | [.lst xs] => some xs
  | [.tup xs] => some xs
  | [.str z] => if z.length ≤ BIG then some (z.map fun c => .str [c]) else none
  | _ => none
theorem aListQ_l (xs : List D) : aListQ [.lst xs] = some xs := rfl
theorem aListQ_t (xs : List D) : aListQ [.tup xs] = some xs := rfl
theorem aListQ_s (z : List Nat) : aListQ [.str z] = if z.length ≤ BIG then some (z.map fun c => .str [c]) else none := rfl
theorem RepAll.signs {A : Addr → Prop} {α : List Addr} {K : PySem.W.Frag} {H : Hp} (z : List Nat) : RepAll A α K H (z.map fun c => V.str (S [c])) (z.map fun c => D.str [c]) := by
  refine ⟨by rw [List.length_map, List.length_map], fun i v d h1 h2 => ?_⟩
  rw [List.getElem?_map, Option.map_eq_some_iff] at h1 h2
  obtain ⟨c, h1, rfl⟩ := h1
  obtain ⟨c', h2, rfl⟩ := h2
  rw [h1] at h2
  cases h2
  exact .str [c]
theorem cf_listQ {X : Cx} (hc : X.calm = true) : CallF X (.type "list") aListQ := by
  obtain ⟨r, hr, q⟩ := cf_list (X := X)
  refine ⟨_, hr.or (cr_listS hc), fun G α ow σ H ρ g vs ds d Q s rr e w => ?_⟩
  unfold aListQ at e
  split at e
  · exact .inl (q G α ow σ H ρ g vs _ d Q s rr e w)
  · exact .inl (q G α ow σ H ρ g vs _ d Q s rr e w)
  · rename_i z
    split at e
    · rename_i hz
      cases e
      obtain ⟨v, rfl, r1⟩ := BRepAll.one1 rr
      rw [r1.str]
      exact .inr ⟨z, rfl, Nat.le_trans hz big_line, fun p hp => w p _ hp (RepAll.signs z)⟩
    · cases e
  · cases e
end L3

/-! L5e: the parts of L5a-d as equations, for simp. -/
namespace L3
open L2 (atI ixN)
section
variable {ρ : Env3} {g : Store}
def catL : D → D → Option (List D)
  | .lst xs, .lst ys => if xs.length + ys.length ≤ BIG then some (xs ++ ys) else none
  | _, _ => none
theorem catL_ll (xs ys : List D) : catL (.lst xs) (.lst ys) = if xs.length + ys.length ≤ BIG then some (xs ++ ys) else none := rfl
theorem ok_aCatE (a b : DE) (Q : List D → Store → Prop) : Ok (aCat a b ρ g) Q ↔ Ok (a ρ g) fun x g1 => Ok (b ρ g1) fun y g2 => OkO (catL x y) fun z => Q z g2 := by
  unfold aCat; simp only [okb, okl]; rfl
def repL (xs : List D) : D → Option (List D)
  | .int k => if 0 ≤ k ∧ k ≤ 1000000 ∧ xs.length * k.toNat ≤ BIG then some (List.replicate k.toNat xs).flatten else none
  | _ => none
theorem repL_i (xs : List D) (k : Int) : repL xs (.int k) = if 0 ≤ k ∧ k ≤ 1000000 ∧ xs.length * k.toNat ≤ BIG then some (List.replicate k.toNat xs).flatten else none := rfl
theorem ok_aRepE (a : DA) (b : DE) (Q : List D → Store → Prop) : Ok (aRep a b ρ g) Q ↔ Ok (a ρ g) fun xs g1 => Ok (b ρ g1) fun y g2 => OkO (repL xs y) fun z => Q z g2 := by
  unfold aRep; simp only [okb, okl]; rfl
theorem ok_eMake (C : Nat) (φ : Phi) (a : DA) (Q : D → Store → Prop) : Ok (eMake C φ a ρ g) Q ↔ Ok (a ρ g) fun xs g1 => Ok (φ (.obj g1.length :: xs) (g1 ++ [.ins C []])) fun d g2 => d = .non ∧ Q (.obj g1.length) g2 := by
  unfold eMake
  rw [okb]
  constructor
  · rintro ⟨xs, g1, e1, d, g2, e2, q⟩
    refine ⟨xs, g1, e1, ?_⟩
    split at e2
    · rename_i g3 e3; cases e2; exact ⟨_, _, e3, rfl, q⟩
    · cases e2
  · rintro ⟨xs, g1, e1, d, g2, e2, rfl, q⟩
    refine ⟨xs, g1, e1, _, g2, ?_, q⟩
    rw [e2]
def fldD (cs : List Nat) (f : Nat) (g : Store) (x : D) : Option D := match insOf g x with
  | some (_, C, fs) => if C ∈ cs then lookF f fs else none
  | none => none
theorem ok_eFld (cs : List Nat) (f : Nat) (fo : DE) (Q : D → Store → Prop) : Ok (eFld cs f fo ρ g) Q ↔ Ok (fo ρ g) fun x g1 => OkO (fldD cs f g1 x) fun d => Q d g1 := by
  unfold eFld
  rw [okb]
  have key : ∀ x g1, (match insOf g1 x with
      | some (_, C, fs) => if C ∈ cs then (lookF f fs).map fun d => (d, g1) else none
      | none => none) = (fldD cs f g1 x).map fun d => (d, g1) := fun x g1 => by
    unfold fldD
    cases insOf g1 x with
    | none => rfl
    | some p =>
      dsimp only
      by_cases hc : p.2.1 ∈ cs
      · rw [if_pos hc, if_pos hc]
      · rw [if_neg hc, if_neg hc]; rfl
  constructor
  · rintro ⟨x, g1, e1, d, g2, e2, q⟩
    have e3 := (key x g1).symm.trans e2
    rw [Option.map_eq_some_iff] at e3
    obtain ⟨z, h1, h2⟩ := e3
    cases h2
    exact ⟨x, g1, e1, _, h1, q⟩
  · rintro ⟨x, g1, e1, d, e2, q⟩
    exact ⟨x, g1, e1, d, g1, (key x g1).trans (by rw [e2]; rfl), q⟩
def setFD (cs : List Nat) (f : Nat) (g : Store) (x d : D) : Option Store := match insOf g x with
  | some (n, C, fs) => if C ∈ cs ∧ fs.length < 900 then some (g.set n (.ins C (putFD f d fs))) else none
  | none => none
theorem ok_sFldD (cs : List Nat) (f : Nat) (fo fe : DE) (Q : Out → Store → Prop) : Ok (sFldD cs f fo fe ρ g) Q ↔ Ok (fe ρ g) fun d g1 => Ok (fo ρ g1) fun x g2 => OkO (setFD cs f g2 x d) fun g3 => Q (.nx ρ) g3 := by
  have key : ∀ x d g2, (match insOf g2 x with
      | some (n, C, fs) => if C ∈ cs ∧ fs.length < 900 then some (Out.nx ρ, g2.set n (.ins C (putFD f d fs))) else none
      | none => none) = (setFD cs f g2 x d).map fun g3 => (Out.nx ρ, g3) := fun x d g2 => by
    unfold setFD
    cases insOf g2 x with
    | none => rfl
    | some p =>
      dsimp only
      by_cases hc : p.2.1 ∈ cs ∧ p.2.2.length < 900
      · rw [if_pos hc, if_pos hc]; rfl
      · rw [if_neg hc, if_neg hc]; rfl
  unfold sFldD
  constructor
  · rintro ⟨o, g1, e, q⟩
    cases e1 : fe ρ g with
    | none => rw [e1] at e; cases e
    | some p =>
      obtain ⟨d, g2⟩ := p
      rw [e1] at e
      dsimp only at e
      cases e2 : fo ρ g2 with
      | none => rw [e2] at e; cases e
      | some p =>
        obtain ⟨x, g3⟩ := p
        rw [e2] at e
        dsimp only at e
        have e3 := (key x d g3).symm.trans e
        rw [Option.map_eq_some_iff] at e3
        obtain ⟨z, h1, h2⟩ := e3
        cases h2
        exact ⟨d, g2, rfl, x, g3, e2, _, h1, q⟩
  · rintro ⟨d, g1, e1, x, g2, e2, g3, e3, q⟩
    refine ⟨_, g3, ?_, q⟩
    rw [e1]
    dsimp only
    rw [e2]
    exact (key x d g2).trans (by rw [e3]; rfl)
def methD (tb : List (Nat × Phi)) (g : Store) (x : D) : Option Phi := match insOf g x with
  | some (_, C, _) => lookM C tb
  | none => none
theorem ok_eMeth (tb : List (Nat × Phi)) (fo : DE) (fs : DA) (Q : D → Store → Prop) : Ok (eMeth tb fo fs ρ g) Q ↔ Ok (fo ρ g) fun x g1 => OkO (methD tb g1 x) fun φ => Ok (fs ρ g1) fun xs g2 => Ok (φ (x :: xs) g2) Q := by
  unfold eMeth
  rw [okb]
  have key : ∀ x g1, (match insOf g1 x with
      | some (_, C, _) => match lookM C tb with
        | some φ => bindM fs (fun xs => fun _ g => φ (x :: xs) g) ρ g1
        | none => none
      | none => none) = (methD tb g1 x).bind fun φ => bindM fs (fun xs => fun _ g => φ (x :: xs) g) ρ g1 := fun x g1 => by
    unfold methD
    cases insOf g1 x with
    | none => rfl
    | some p =>
      dsimp only
      cases lookM p.2.1 tb with
      | none => rfl
      | some φ => rfl
  constructor
  · rintro ⟨x, g1, e1, d, g2, e2, q⟩
    have e3 := (key x g1).symm.trans e2
    rw [Option.bind_eq_some_iff] at e3
    obtain ⟨φ, h1, h2⟩ := e3
    obtain ⟨xs, g3, e3, e4⟩ := bindM_some h2
    exact ⟨x, g1, e1, φ, h1, xs, g3, e3, d, g2, e4, q⟩
  · rintro ⟨x, g1, e1, φ, e2, xs, g2, e3, d, g3, e4, q⟩
    refine ⟨x, g1, e1, d, g3, (key x g1).trans ?_, q⟩
    rw [e2, Option.bind_some]
    unfold bindM
    rw [e3]
    exact e4
theorem ok_sAppO (fo fe : DE) (Q : Out → Store → Prop) : Ok (sAppO fo fe ρ g) Q ↔ Ok (fo ρ g) fun x g1 => OkO (lstOf g1 x) fun p => Ok (fe ρ g1) fun d g2 => OkO (lstOf g2 (.obj p.1)) fun q => q.2.length < BIG ∧ Q (.nx ρ) (g2.set p.1 (.lst (q.2 ++ [d]))) := by
  unfold sAppO
  constructor
  · rintro ⟨o, g1, e, q⟩
    split at e
    · rename_i x g2 e1
      refine ⟨x, g2, e1, ?_⟩
      split at e
      · rename_i n ys h
        refine ⟨_, h, ?_⟩
        split at e
        · rename_i d g3 e2
          refine ⟨d, g3, e2, ?_⟩
          split at e
          · rename_i xs hg
            split at e
            · rename_i hl
              cases e
              exact ⟨(n, xs), by unfold lstOf; dsimp only; rw [hg], hl, q⟩
            · cases e
          · cases e
        · cases e
      · cases e
    · cases e
  · rintro ⟨x, g1, e1, ⟨n, ys⟩, h, d, g2, e2, ⟨n', xs⟩, h2, hl, q⟩
    refine ⟨_, _, ?_, q⟩
    obtain ⟨e3, hg⟩ := lstOf_some h2
    cases e3
    rw [e1]
    dsimp only
    rw [h]
    dsimp only
    rw [e2]
    dsimp only
    rw [hg]
    dsimp only
    rw [if_pos hl]
theorem ok_sExtA (i : Nat) (f : DE) (Q : Out → Store → Prop) : Ok (sExtA i f ρ g) Q ↔ OkO (ownOf ρ[i]?) fun xs => Ok (f ρ g) fun d g1 => ∃ ys, d = .lst ys ∧ xs.length + ys.length ≤ BIG ∧ Q (.nx (ρ.set i (some (.own (xs ++ ys))))) g1 := by
  constructor
  · rintro ⟨o, g1, e, q⟩
    unfold sExtA at e
    split at e
    · rename_i xs hx
      split at e
      · rename_i ys g2 e1
        split at e
        · rename_i hl
          cases e
          exact ⟨xs, by rw [hx]; rfl, _, _, e1, ys, rfl, hl, q⟩
        · cases e
      · cases e
    · cases e
  · rintro ⟨xs, hx, d, g1, e1, ys, rfl, hl, q⟩
    refine ⟨_, g1, ?_, q⟩
    unfold sExtA
    have : ρ[i]? = some (some (.own xs)) := by
      revert hx
      generalize ρ[i]? = o
      intro hx
      unfold ownOf at hx
      split at hx
      · cases hx; rfl
      · cases hx
    rw [this]
    dsimp only
    rw [e1]
    dsimp only
    rw [if_pos hl]
def iObjD (g : Store) (x : D) : Option (List D × List (Nat × List D)) := (lstOf g x).map fun p => (p.2, [p])
theorem ok_iObj (f : DE) (Q : (List D × List (Nat × List D)) → Store → Prop) : Ok (iObj f ρ g) Q ↔ Ok (f ρ g) fun x g1 => OkO (lstOf g1 x) fun p => Q (p.2, [p]) g1 := by
  unfold iObj
  rw [okb]
  constructor
  · rintro ⟨x, g1, e1, z, g2, e2, q⟩
    refine ⟨x, g1, e1, ?_⟩
    split at e2
    · rename_i n xs h; cases e2; exact ⟨_, h, q⟩
    · cases e2
  · rintro ⟨x, g1, e1, ⟨n, xs⟩, h, q⟩
    exact ⟨x, g1, e1, _, g1, by rw [h], q⟩
theorem gdT_pos {gs : List (Nat × List D)} {c : DT} (h : stay gs g) : gdT gs c ρ g = c ρ g := by unfold gdT; rw [if_pos h]
theorem ok_aLcG (it : DI) (vs : List Nat) (tg : D → Option (List (Nat × D))) (c : DT) (e : DE) (Q : List D → Store → Prop) : Ok (aLcG it vs tg c e ρ g) Q ↔ Ok (it ρ g) fun z g1 => (z.1.length ≤ BIG ∧ noOwn ρ vs = true) ∧ Ok (lcD tg (gdT z.2 c) e z.1 (wipe3 ρ vs) g1) fun ys g2 => stay z.2 g2 ∧ Q ys g2 := by
  constructor
  · rintro ⟨o, g1, h, q⟩
    unfold aLcG at h
    split at h
    · rename_i ds gs g2 e1
      split at h
      · rename_i hh
        obtain ⟨h, he⟩ := endG h
        exact ⟨_, _, e1, hh, o, g1, h, he, q⟩
      · cases h
    · cases h
  · rintro ⟨⟨ds, gs⟩, g1, e1, hh, ys, g2, e2, hs, q⟩
    refine ⟨ys, g2, ?_, q⟩
    unfold aLcG
    rw [e1]
    dsimp only
    rw [if_pos hh, e2]
    dsimp only
    rw [if_pos hs]
theorem lstOf_at {n : Nat} {xs : List D} (h : g[n]? = some (.lst xs)) : lstOf g (.obj n) = some (n, xs) := by
  unfold lstOf
  dsimp only
  rw [h]
theorem insOf_at {n C : Nat} {fs : List (Nat × D)} (h : g[n]? = some (.ins C fs)) : insOf g (.obj n) = some (n, C, fs) := by
  unfold insOf
  dsimp only
  rw [h]
theorem fldD_at {n C f : Nat} {cs : List Nat} {fs : List (Nat × D)} {d : D} (h : g[n]? = some (.ins C fs)) (hc : C ∈ cs) (hl : lookF f fs = some d) : fldD cs f g (.obj n) = some d := by
  unfold fldD
  rw [insOf_at h]
  dsimp only
  rw [if_pos hc, hl]
theorem setFD_at {n C f : Nat} {cs : List Nat} {fs : List (Nat × D)} {d : D} (h : g[n]? = some (.ins C fs)) (hc : C ∈ cs) (hl : fs.length < 900) : setFD cs f g (.obj n) d = some (g.set n (.ins C (putFD f d fs))) := by
  unfold setFD
  rw [insOf_at h]
  dsimp only
  rw [if_pos ⟨hc, hl⟩]
theorem methD_at {n C : Nat} {tb : List (Nat × Phi)} {fs : List (Nat × D)} {φ : Phi} (h : g[n]? = some (.ins C fs)) (hl : lookM C tb = some φ) : methD tb g (.obj n) = some φ := by
  unfold methD
  rw [insOf_at h]
  exact hl
def augD (cs : List Nat) (f : Nat) (op : Int → Int → Int) (g1 g2 : Store) (x y : D) : Option Store := match insOf g1 x, y with
  | some (n, C, fs), .int j => match lookF f fs, g2[n]? with
    | some (.int i), some (.ins C2 fs2) => if C ∈ cs ∧ C2 = C ∧ fs2.length < 900 then some (g2.set n (.ins C (putFD f (.int (op i j)) fs2))) else none
    | _, _ => none
  | _, _ => none
theorem ok_sFldAugD (cs : List Nat) (f : Nat) (op : Int → Int → Int) (fo fe : DE) (Q : Out → Store → Prop) (h : Ok (fo ρ g) fun x g1 => Ok (fe ρ g1) fun y g2 => OkO (augD cs f op g1 g2 x y) fun g3 => Q (.nx ρ) g3) : Ok (sFldAugD cs f op fo fe ρ g) Q := by
  obtain ⟨x, g1, e1, y, g2, e2, g3, e3, q⟩ := h
  refine ⟨_, g3, ?_, q⟩
  unfold sFldAugD
  rw [e1]
  dsimp only
  unfold augD at e3
  split at e3
  · rename_i n C fs j hi
    rw [hi]
    dsimp only
    split at e3
    · rename_i i C2 fs2 h1 h2
      rw [h1, e2]
      dsimp only
      rw [h2]
      dsimp only
      split at e3
      · rename_i hc
        rw [if_pos hc]
        cases e3
        rfl
      · cases e3
    · cases e3
  · cases e3
theorem augD_at {n C f : Nat} {cs : List Nat} {op : Int → Int → Int} {fs fs2 : List (Nat × D)} {g2 : Store} {i j : Int} (h : g[n]? = some (.ins C fs)) (hl : lookF f fs = some (.int i)) (h2 : g2[n]? = some (.ins C fs2)) (hc : C ∈ cs) (hl2 : fs2.length < 900) : augD cs f op g g2 (.obj n) (.int j) = some (g2.set n (.ins C (putFD f (.int (op i j)) fs2))) := by
  unfold augD
  rw [insOf_at h]
  dsimp only
  rw [hl, h2]
  dsimp only
  rw [if_pos ⟨hc, rfl, hl2⟩]
end
end L3

/-! L5f: zip of any two of a list, a tuple, a list of the store. -/
namespace L3
open PySem PySem.Spec PyProof.Rows L2 TL
def SqK (k : Bool) (K : PySem.W.Frag) (H : Hp) (a : Addr) (xs : List V) : Prop := if k = true then SqL K H a xs else SqT K H a xs
def ItAt (k : Bool) (h : Heap) (it l : Addr) (n : Nat) : Prop := if k = true then h.IsListIter it l n else h.IsTupleIter it l n
def SeqAt (k : Bool) (h : Heap) (l : Addr) (its : Array Value) : Prop := if k = true then h.IsList l its else h.IsTuple l its
def itO (k : Bool) (l : Addr) : Obj := if k = true then { cls := .type "list_iterator", data := .fields #[.ref l, .int 0 0] } else { cls := .type "tuple_iterator", data := .fields #[.ref l, .int 0 0] }
theorem drawsM {P : Program} {w : World} {A : Around} (k : Bool) (hh : A.handled = none) (it l : Addr) (ne : l ≠ it) (its : Array Value) : Draws P w A it [it, l] its.size (fun i v => its[i]? = some v) (fun i h => ItAt k h it l i ∧ SeqAt k h l its) := by
  cases k
  · exact Draws.tuple hh it l ne its
  · exact Draws.list hh it l ne its
theorem beginsM (k : Bool) (l : Addr) (its : Array Value) : Begins (.ref l) (itO k l) fun h => SeqAt k h l its := by
  cases k
  · exact begins_tuple l its
  · exact begins_list l its
theorem itAt0 {k : Bool} {h : Heap} {it l : Addr} (e : h.get? it = some (itO k l)) : ItAt k h it l 0 := by
  cases k <;> exact ⟨_, e, rfl, rfl⟩
theorem itAt_obj {k : Bool} {h : Heap} {it l : Addr} {n : Nat} (t : ItAt k h it l n) : ∃ o, h.get? it = some o ∧ ∀ v, o.data ≠ .cell v := by
  cases k <;> (obtain ⟨o, e, _, d⟩ := t; exact ⟨o, e, fun v q => by rw [d] at q; cases q⟩)
theorem itAt_at {k : Bool} {h h' : Heap} {it l : Addr} {n : Nat} (t : ItAt k h it l n) (e : ∀ o, h.get? it = some o → h'.get? it = some o) : ItAt k h' it l n := by
  cases k <;> (obtain ⟨o, q, r⟩ := t; exact ⟨o, e o q, r⟩)
section
variable {X : Cx} {pins : List (Addr × Obj)} {σ : L2.St} {H : Hp} {s : Shared} {k : Bool} {a : Addr} {xs ys : List V}
theorem sqK_at (I : Inv X pins σ H s) (h : SqK k X.K H a xs) : ∃ its : List Value, Vals xs its ∧ SeqAt k s.heap a its.toArray := by
  cases k
  · obtain ⟨its, r, t, _⟩ := I.tuple h
    exact ⟨its, r, t⟩
  · obtain ⟨its, r, t, _⟩ := I.list h
    exact ⟨its, r, t.isList⟩
theorem sqK_inj (I : Inv X pins σ H s) (h : SqK k X.K H a xs) (h' : SqK k X.K H a ys) : xs = ys := by
  cases k
  · exact I.tuple_inj h h'
  · exact I.list_inj h h'
theorem seqAt_lt {h : Heap} {its : Array Value} (t : SeqAt k h a its) : a < h.objs.size := by
  cases k <;> (obtain ⟨o, e, _⟩ := t; exact Heap.lt_size e)
end
def ItzM (K : PySem.W.Frag) (k1 k2 : Bool) (p q : Addr) : It where
  go := fun n H => ∃ xs ys x y, SqK k1 K H p xs ∧ SqK k2 K H q ys ∧ xs[n]? = some x ∧ ys[n]? = some y
  stop := fun n H => ∃ xs ys, SqK k1 K H p xs ∧ SqK k2 K H q ys ∧ n = min xs.length ys.length
  yld := fun n H v H2 => ∃ T o x y, v = .ref T ∧ H T = none ∧ TO o ∧ H2 = upd H T (.frz o (.tup [x, y])) ∧ (∀ l, SqK k1 K H p l → l[n]? = some x) ∧ ∀ l, SqK k2 K H q l → l[n]? = some y
theorem turn_zipM {P : Program} {w : World} {K : PySem.W.Frag} {elts : List Expr} {kk : Nat} {tp : Pos} {k1 k2 : Bool} {p q z TI TO' i1 i2 : Addr} (S : ZipSep2 z TI TO' i1 i2 [i1, p] [i2, q]) (hp : p ≠ i1) (hq : q ≠ i2) :
    Turn P w K (.Tuple elts kk tp) (ItzM K k1 k2 p q) [z, TI, TO', i1, i2] z (fun n h => IsZip h z TI TO' .none ∧ IsTupOf2 h TI (.ref i1) (.ref i2) ∧ (∃ x y, IsTupOf2 h TO' x y) ∧ ItAt k1 h i1 p n ∧ ItAt k2 h i2 q n) where
  mem := List.mem_cons_self
  obj := fun n h ⟨a1, a2, ⟨x, y, a3⟩, a4, a5⟩ c hc => by
    simp only [List.mem_cons, List.not_mem_nil, or_false] at hc
    rcases hc with rfl | rfl | rfl | rfl | rfl
    · exact ⟨_, a1, fun v e => by cases e⟩
    · exact ⟨_, a2, fun v e => by cases e⟩
    · exact ⟨_, a3, fun v e => by cases e⟩
    · exact itAt_obj a4
    · exact itAt_obj a5
  keep := fun n h h' ⟨a1, a2, ⟨x, y, a3⟩, a4, a5⟩ kp => by
    refine ⟨kp z ?_ _ a1, kp TI ?_ _ a2, ⟨x, y, kp TO' ?_ _ a3⟩, itAt_at a4 fun o e => kp i1 ?_ o e, itAt_at a5 fun o e => kp i2 ?_ o e⟩ <;> simp
  item := by
    intro X eP ew eK cm n pins s σ H E I fk ⟨z1, z2, ⟨u0, v0, z3⟩, z4, z5⟩ ⟨xs, ys, x, y, sx, sy, gx, gy⟩
    subst eP ew eK
    obtain ⟨l1, rv1, t1⟩ := sqK_at I sx
    obtain ⟨l2, rv2, t2⟩ := sqK_at I sy
    obtain ⟨u, hu, ru⟩ := rv1.get gx
    obtain ⟨v, hv, rv⟩ := rv2.get gy
    have hh : X.A.in1.handled = none := I.ok.hd cm
    have zl := Heap.lt_size z1
    have ff : ∀ c ∈ [z, TI, TO', i1, i2], c < s.heap.objs.size := by
      obtain ⟨_, q4, _⟩ := itAt_obj z4
      obtain ⟨_, q5, _⟩ := itAt_obj z5
      have a2 := Heap.lt_size z2
      have a3 := Heap.lt_size z3
      have a4 := Heap.lt_size q4
      have a5 := Heap.lt_size q5
      simp only [List.mem_cons, List.not_mem_nil, or_false]
      rintro c (rfl | rfl | rfl | rfl | rfl) <;> assumption
    refine wpAny_pyNext_zipD2_item S (drawsM k1 hh i1 p hp l1.toArray) (drawsM k2 hh i2 q hq l2.toArray) z1 z2 z3 ⟨z4, t1⟩ ⟨z5, t2⟩ ?_ ?_ fun u' v' h1 tk pu pv y1 y3 y4 y5 nT _ kp => ?_
    · rw [List.size_toArray]; exact (List.getElem?_eq_some_iff.mp hu).1
    · rw [List.size_toArray]; exact (List.getElem?_eq_some_iff.mp hv).1
    have eu : u' = u := Option.some.inj (pu.symm.trans (by simpa using hu))
    have ev : v' = v := Option.some.inj (pv.symm.trans (by simpa using hv))
    subst eu ev
    refine ⟨_, rfl, wpAny_letOwnedTupleGo_zip (s := { s with heap := h1, toks := tk }) y1 fun h2 w1 sb => ?_⟩
    have oT : h2.get? s.heap.objs.size = some { cls := .type "tuple", data := .seq #[u', v'] } := (sb.2 _ (Nat.ne_of_gt zl)).trans nT
    have I2 : Inv X pins σ (upd H s.heap.objs.size (.frz { cls := .type "tuple", data := .seq #[u', v'] } (.tup [x, y]))) { s with heap := h2, toks := tk } := by
      refine I.turnedNew (t' := tk) (ch := [z, TI, TO', i1, i2]) (fun c o nc g => ?_) fk (Nat.le_refl _) ⟨oT, by show 2 ≤ sizeLine; decide, [u', v'], .cons ru (.cons rv .nil), ⟨_, oT, rfl, _, rfl⟩⟩
      simp only [List.mem_cons, List.not_mem_nil, or_false, not_or] at nc
      exact (sb.2 c nc.1).trans (kp c o nc.1 nc.2.2.1 nc.2.2.2.1 nc.2.2.2.2 g)
    refine ⟨.ref s.heap.objs.size, _, I2, rfl, ⟨_, _, x, y, rfl, I.hok.fresh (Nat.le_refl _), ⟨rfl, rfl, rfl⟩, rfl, fun l hl => ?_, fun l hl => ?_⟩, ⟨w1, ?_, ⟨u', v', ?_⟩, ?_, ?_⟩, fun c hc => ?_⟩
    · rw [sqK_inj I hl sx]
      exact gx
    · rw [sqK_inj I hl sy]
      exact gy
    · exact (sb.2 TI S.TIz).trans (kp TI _ S.TIz S.TITO S.TIi1 S.TIi2 z2)
    · exact (sb.2 TO' S.TOz).trans y3
    · exact itAt_at y4.1 fun o g => (sb.2 i1 S.zi1.symm).trans g
    · exact itAt_at y5.1 fun o g => (sb.2 i2 S.zi2.symm).trans g
    · rw [upd_ne (Nat.ne_of_lt (ff c hc))]
      exact (fk c hc).1
  done := by
    intro X eP ew eK cm n pins s σ H E I fk ⟨z1, z2, ⟨u0, v0, z3⟩, z4, z5⟩ ⟨xs, ys, sx, sy, hn⟩
    subst eP ew eK
    obtain ⟨l1, rv1, t1⟩ := sqK_at I sx
    obtain ⟨l2, rv2, t2⟩ := sqK_at I sy
    have hh : X.A.in1.handled = none := I.ok.hd cm
    have e1 := rv1.length
    have e2 := rv2.length
    refine wpAny_pyNext_zipD2_end S (drawsM k1 hh i1 p hp l1.toArray) (drawsM k2 hh i2 q hq l2.toArray) z1 z2 z3 ⟨z4, t1⟩ ⟨z5, t2⟩ (by rw [List.size_toArray]; omega) (by rw [List.size_toArray]; omega) (by rw [List.size_toArray, List.size_toArray]; omega) fun h' tk kp => ⟨rfl, ?_⟩
    refine I.turnedL (t' := tk) (ch := [z, TI, TO', i1, i2]) (fun c o nc g => ?_) fk
    simp only [List.mem_cons, List.not_mem_nil, or_false, not_or] at nc
    exact kp c o nc.1 nc.2.2.1 nc.2.2.2.1 nc.2.2.2.2 g
  self := fun A n s Q E st h => wpAny_pyIter_zip st.1 h
theorem sepM (B p q : Nat) (h1 : p < B) (h2 : q < B) : ZipSep2 (B + 4) (B + 2) (B + 3) B (B + 1) [B, p] [B + 1, q] where
  TIz := (by omega : B + 2 ≠ B + 4)
  TOz := (by omega : B + 3 ≠ B + 4)
  TITO := (by omega : B + 2 ≠ B + 3)
  TIi1 := (by omega : B + 2 ≠ B)
  mem1 := List.mem_cons_self
  zf1 := fun h => by
    rcases List.mem_cons.mp h with h | h
    · exact (by omega : B + 4 ≠ B) h
    · exact (by omega : B + 4 ≠ p) (List.mem_singleton.mp h)
  Tf1 := fun h => by
    rcases List.mem_cons.mp h with h | h
    · exact (by omega : B + 3 ≠ B) h
    · exact (by omega : B + 3 ≠ p) (List.mem_singleton.mp h)
  TIi2 := (by omega : B + 2 ≠ B + 1)
  mem2 := List.mem_cons_self
  zf2 := fun h => by
    rcases List.mem_cons.mp h with h | h
    · exact (by omega : B + 4 ≠ B + 1) h
    · exact (by omega : B + 4 ≠ q) (List.mem_singleton.mp h)
  Tf2 := fun h => by
    rcases List.mem_cons.mp h with h | h
    · exact (by omega : B + 3 ≠ B + 1) h
    · exact (by omega : B + 3 ≠ q) (List.mem_singleton.mp h)
  sep1_2 := fun h => by
    rcases List.mem_cons.mp h with h | h
    · exact (by omega : B ≠ B + 1) h
    · exact (by omega : B ≠ q) (List.mem_singleton.mp h)
  sep2_1 := fun h => by
    rcases List.mem_cons.mp h with h | h
    · exact (by omega : B + 1 ≠ B) h
    · exact (by omega : B + 1 ≠ p) (List.mem_singleton.mp h)
def iZipM (K : PySem.W.Frag) (ta : TA) : TI := fun σ H R => ta σ H fun vs H1 => ∃ k1 k2 p q xs ys, vs = [.ref p, .ref q] ∧ SqK k1 K H1 p xs ∧ SqK k2 K H1 q ys ∧ R (ItzM K k1 k2 p q) H1
section
variable {X : Cx} {e1 e2 : Expr} {p0 pos tp : Pos} {elts : List Expr} {kk : Nat}
theorem pi_zipM {ta : TA} (hg : Gl X "zip") (hm : X.mg "zip" = none) (ha : PA X [e1, e2] ta) (ns : starEach [e1, e2] X.env = (false, eval e1 X.env) :: starEach [e2] X.env := by rfl) (np : (backTo pos (starEach [e2] X.env)).any (·.1) = false := by rfl) :
    PI X (.Tuple elts kk tp) (.Call (.Name "zip" p0) [e1, e2] [] pos) (iZipM X.K ta) := by
  refine ⟨fun pins s σ H R I h => Call_ (ld_blt I hg hm PyProof.Rows.boot_zip (PyProof.Rows.callWith_type1 (thn (ha.run pos pins s σ H _ I h) fun us s1 ⟨vs, H1, I1, r1, q1⟩ => ?_) ns np))⟩
  obtain ⟨k1, k2, p, q, xs, ys, rfl, sx, sy, q1⟩ := q1
  obtain ⟨u1, u2, rfl, ra, rb⟩ : ∃ u1 u2, us = [u1, u2] ∧ RelV (.ref p) u1 ∧ RelV (.ref q) u2 := by
    cases r1 with
    | cons c1 c2 => cases c2 with | cons d1 d2 => cases d2; exact ⟨_, _, rfl, c1, d1⟩
  cases ra
  cases rb
  obtain ⟨l1, rv1, t1⟩ := sqK_at I1 sx
  obtain ⟨l2, rv2, t2⟩ := sqK_at I1 sy
  have g1 := seqAt_lt t1
  have g2 := seqAt_lt t2
  generalize hb : s1.heap.objs.size = B at *
  refine zip_begins2 (beginsM k1 p l1.toArray) (beginsM k2 q l2.toArray) t1 t2 fun h2 y1 y2 y3 y4 y5 _ kp => wpAny_pyIter_zip y1 ?_
  rw [hb] at y1 y2 y3 y4 y5
  have S : ZipSep2 (B + 4) (B + 2) (B + 3) B (B + 1) [B, p] [B + 1, q] := sepM B p q g1 g2
  refine ⟨B + 4, [B + 4, B + 2, B + 3, B, B + 1], _, _, H1, by rw [hb], I1.kept (t' := s1.toks) kp, turn_zipM S (Nat.ne_of_lt g1) (Nat.ne_of_lt (Nat.lt_succ_of_lt g2)), ⟨y1, y2, ⟨_, _, y3⟩, itAt0 y4, itAt0 y5⟩, fun c hc => ?_, q1⟩
  have le : s1.heap.objs.size ≤ c := by
    rw [hb]
    simp only [List.mem_cons, List.not_mem_nil, or_false] at hc
    rcases hc with rfl | rfl | rfl | rfl | rfl <;> omega
  exact I1.fpOk le (I1.hok.fresh le)
end
/-! ### what is walked by zip -/
def opz (g : Store) : D → Option (List D × List (Nat × List D))
  | .lst xs => some (xs, [])
  | .tup xs => some (xs, [])
  | .obj n => match g[n]? with
    | some (.lst xs) => some (xs, [(n, xs)])
    | _ => none
  | _ => none
theorem opz_l (g : Store) (xs : List D) : opz g (.lst xs) = some (xs, []) := rfl
theorem opz_t (g : Store) (xs : List D) : opz g (.tup xs) = some (xs, []) := rfl
theorem opz_o {g : Store} {n : Nat} {xs : List D} (h : g[n]? = some (.lst xs)) : opz g (.obj n) = some (xs, [(n, xs)]) := by unfold opz; dsimp only; rw [h]
def zip2 (g : Store) : List D → Option (List D × List (Nat × List D))
  | [x, y] => match opz g x, opz g y with
    | some a, some b => some (List.zipWith twoD a.1 b.1, a.2 ++ b.2)
    | _, _ => none
  | _ => none
def iZip (fa : DA) : DI := bindM fa fun as => fun _ g => match zip2 g as with
  | some z => some (z, g)
  | none => none
theorem ok_iZip {ρ : Env3} {g : Store} (fa : DA) (Q : (List D × List (Nat × List D)) → Store → Prop) : Ok (iZip fa ρ g) Q ↔ Ok (fa ρ g) fun as g1 => OkO (zip2 g1 as) fun z => Q z g1 := by
  unfold iZip
  rw [okb]
  constructor
  · rintro ⟨x, g1, e1, z, g2, e2, q⟩
    refine ⟨x, g1, e1, ?_⟩
    split at e2
    · rename_i h; cases e2; exact ⟨_, h, q⟩
    · cases e2
  · rintro ⟨x, g1, e1, z, h, q⟩
    exact ⟨x, g1, e1, _, g1, by rw [h], q⟩
def OpW (K : PySem.W.Frag) (B : Addr → Prop) (α : List Addr) (ow : Nat → Option Addr) (H : Hp) (k : Bool) (a : Addr) (gs : List (Nat × List D)) (xs : List D) : Prop :=
  ∀ G2 α2 ow2 σ2 H2 ρ2 g2, Sat K G2 α2 ow2 σ2 H2 ρ2 g2 → FzB B α ow H G2.B α2 ow2 H2 → stay gs g2 → ∃ vs, SqK k K H2 a vs ∧ RepAll (Al G2.B α2 ow2) α2 K H2 vs xs
theorem op_w {K : PySem.W.Frag} {G : Gh} {α : List Addr} {ow : Nat → Option Addr} {σ : L2.St} {H : Hp} {ρ : Env3} {g : Store} (s : Sat K G α ow σ H ρ g) {v : V} {d : D} {xs : List D} {gs : List (Nat × List D)} (r : Rep (Al G.B α ow) α K H v d) (h : opz g d = some (xs, gs)) :
    ∃ k a, v = .ref a ∧ OpW K G.B α ow H k a gs xs ∧ stay gs g := by
  unfold opz at h
  split at h
  · cases h
    cases r with
    | @lst a vs _ hA h1 hl hi =>
      exact ⟨true, a, rfl, fun G2 α2 ow2 σ2 H2 ρ2 g2 s2 z _ => ⟨vs, .inl (Rd.fzb z hA h1), (show RepAll _ _ _ _ vs _ from ⟨hl, hi⟩).mono z.1 z.2⟩, fun p hp => by cases hp⟩
  · cases h
    cases r with
    | @tup a vs _ h1 hl hi =>
      exact ⟨false, a, rfl, fun G2 α2 ow2 σ2 H2 ρ2 g2 s2 z _ => ⟨vs, h1.fzb z, (show RepAll _ _ _ _ vs _ from ⟨hl, hi⟩).mono z.1 z.2⟩, fun p hp => by cases hp⟩
  · split at h
    · rename_i n _ xs' hg
      cases h
      cases r with
      | @obj _ a ha =>
        refine ⟨true, a, rfl, fun G2 α2 ow2 σ2 H2 ρ2 g2 s2 z st => ?_, fun p hp => by rw [List.mem_singleton.mp hp]; exact hg⟩
        obtain ⟨us, k1, k2⟩ := s2.gok.so n a _ (prefix_get z.2 ha) (st _ List.mem_cons_self)
        exact ⟨us, .inl (.inl k1), k2⟩
    · cases h
  · cases h
section
variable {X : Cx} {e1 e2 : Expr} {p0 pos tp : Pos} {elts : List Expr} {kk : Nat}
theorem ic_zipG {fa : DA} (hm : X.mg "zip" = none) (ha : AC X [e1, e2] fa) (hg : Gl X "zip" := by rfl) (ns : starEach [e1, e2] X.env = (false, eval e1 X.env) :: starEach [e2] X.env := by rfl) (np : (backTo pos (starEach [e2] X.env)).any (·.1) = false := by rfl) :
    ICG X (.Tuple elts kk tp) (.Call (.Name "zip" p0) [e1, e2] [] pos) (iZip fa) := by
  obtain ⟨_, t, pt, hq⟩ := ha
  refine ⟨_, pi_zipM hg hm pt ns np, fun G α ow σ H ρ g ds gs g' R s e w => ?_⟩
  obtain ⟨as, g1, e1, e2⟩ := bindM_some e
  split at e2
  · rename_i z hz
    cases e2
    unfold zip2 at hz
    split at hz
    · rename_i x y
      split at hz
      · rename_i a b ea eb
        cases hz
        obtain ⟨xs, gx⟩ := a
        obtain ⟨ys, gy⟩ := b
        refine hq G α ow σ H ρ g _ g' _ s e1 fun vs H1 α1 x1 s1 r1 => ?_
        have l1 := r1.1
        match vs, l1 with
        | [v1, v2], _ =>
          obtain ⟨k1, a1, rfl, w1, st1⟩ := op_w s1 (r1.2 0 v1 _ rfl rfl) ea
          obtain ⟨k2, a2, rfl, w2, st2⟩ := op_w s1 (r1.2 1 v2 _ rfl rfl) eb
          have fz0 : FzB G.B α1 ow H1 G.B α1 ow H1 := ⟨fun a o h e => ⟨h, e⟩, List.prefix_refl _⟩
          obtain ⟨vx, q1, _⟩ := w1 G α1 ow σ H1 ρ g' s1 fz0 st1
          obtain ⟨vy, q2, _⟩ := w2 G α1 ow σ H1 ρ g' s1 fz0 st2
          refine ⟨k1, k2, a1, a2, vx, vy, rfl, q1, q2, w _ H1 α1 x1 s1 fun G2 α2 ow2 σ2 H2 ρ2 g2 i s2 z st => ?_⟩
          obtain ⟨ux, p1, p2⟩ := w1 G2 α2 ow2 σ2 H2 ρ2 g2 s2 z fun p hp => st p (List.mem_append_left _ hp)
          obtain ⟨uy, p3, p4⟩ := w2 G2 α2 ow2 σ2 H2 ρ2 g2 s2 z fun p hp => st p (List.mem_append_right _ hp)
          refine ⟨fun hi => ⟨ux, uy, p1, p3, by rw [hi, List.length_zipWith, p2.1, p4.1]⟩, fun d hd => ?_⟩
          rw [List.getElem?_zipWith] at hd
          cases ex : xs[i]? with
          | none => rw [ex] at hd; cases hd
          | some dx =>
            cases ey : ys[i]? with
            | none => rw [ex, ey] at hd; cases hd
            | some dy =>
              rw [ex, ey] at hd
              cases hd
              obtain ⟨v, hv, rv⟩ := p2.get ex
              obtain ⟨u, hu, ru⟩ := p4.get ey
              refine ⟨⟨ux, uy, v, u, p1, p3, hv, hu⟩, fun y H3 hy => ?_⟩
              obtain ⟨T, o, x', y', rfl, hT, ho, rfl, f1, f2⟩ := hy
              have ev : x' = v := Option.some.inj ((f1 ux p1).symm.trans hv)
              have eu : y' = u := Option.some.inj ((f2 uy p3).symm.trans hu)
              subst ev eu
              exact ⟨Ext.new hT, s2.new hT, s2.newT hT ho (RepAll.cons rv (RepAll.one ru))⟩
      · cases hz
    · cases hz
  · cases e2
end
theorem stay_nil (g : Store) : stay [] g := fun p hp => by cases hp
end L3

/-! L5g: a tuple * a number of two or more. -/
namespace L3
open PySem PySem.Spec PyProof.Rows L2 TL
def rRepZ (K : PySem.W.Frag) : R2 := fun x y H Q => ∃ l k xs, x = .ref l ∧ y = .int k ∧ SqT K H l xs ∧ (xs ≠ [] ∧ xs.length ≤ 1000) ∧ (2 ≤ k ∧ k ≤ 1000) ∧ NewT H (List.replicate k.toNat xs).flatten Q
theorem rep_size (k : Int) (m : Nat) (hk : 2 ≤ k ∧ k ≤ 1000) (hm : m ≤ 1000) : k.toNat * m ≤ 1000000 ∧ (m : Int) * k ≤ 1000000 := by
  have h1 : k.toNat * m ≤ 1000 * 1000 := Nat.mul_le_mul (by omega) hm
  refine ⟨h1, ?_⟩
  have h2 : (m : Int) * k = ((k.toNat * m : Nat) : Int) := by
    rw [Int.natCast_mul, Int.toNat_of_nonneg (by omega), Int.mul_comm]
  rw [h2]
  omega
section
variable {X : Cx}
theorem op_repZ : OpR X (binaryOp .Mult) (rRepZ X.K) := by
  intro pins s σ H x y v u Q I rx ry ⟨l, k, xs, ex, ey, hT, hx, hk, q⟩
  subst ex ey
  cases rx
  obtain ⟨t, rfl⟩ := ry
  obtain ⟨its, r, ⟨⟨cls, dd, data, sl⟩, ho, hc, n, hd⟩, _⟩ := I.tuple hT
  dsimp only at hc hd
  subst hc hd
  have le := r.length
  obtain ⟨z1, z2⟩ := rep_size k its.length hk (by omega)
  have ne : its.toArray.isEmpty = false := by
    cases its with
    | nil => exact absurd (List.eq_nil_of_length_eq_zero le) hx.1
    | cons _ _ => rfl
  have fl : (List.replicate k.toNat its).flatten.length ≤ sizeLine := by
    rw [lm_len_rep_flat, sizeLine_eq]
    omega
  have a0 : (decide (k < -(2 ^ 63)) || decide (k ≥ 2 ^ 63)) = false := Bool.or_eq_false_iff.mpr ⟨decide_eq_false (by omega), decide_eq_false (by omega)⟩
  have a1 : (its.toArray.isEmpty || k == 1) = false := Bool.or_eq_false_iff.mpr ⟨ne, beq_eq_false_iff_ne.mpr (by omega)⟩
  have a2 : (decide (k ≤ 0) || its.toArray.isEmpty) = false := Bool.or_eq_false_iff.mpr ⟨decide_eq_false (by omega), ne⟩
  have a4 : Builtin.Tuple.tupleTooMany (((its.toArray.size : Nat) : Int) * k) = false := by
    unfold Builtin.Tuple.tupleTooMany
    rw [sizeLine_eq, List.size_toArray]
    exact decide_eq_false (by omega)
  have a3 : ¬ ((its.toArray.size : Nat) : Int) * k > (2 ^ 63 - 1) / 8 := by rw [List.size_toArray]; omega
  have lt : s.TypeIs (.ref l) "tuple" := ⟨_, ho, rfl⟩
  have mul := tuple_mulW l its.toArray n dd sl k t a0 a1 a2 a3 a4 (by rw [size_rep, List.size_toArray]; exact fl)
  have fin : EP X pins σ Q (.ref s.heap.objs.size) { s with heap := s.heap.push { cls := .type "tuple", data := .seq (List.replicate k.toNat its).flatten.toArray } } := laidT I (r.rep k.toNat) (by
    rw [lm_len_rep_flat, sizeLine_eq, le]
    omega) q
  refine wpAny_binaryOp_repeat_ref (T := "tuple") (U := "int") (by decide) lt (fun s' => typeIs_int s' k t) noFill_tuple_mul F.fills_int_mul F.slot_int_rmul repeat_tuple F.slot_int_index.lookup ?_
  refine call_meets F.slot_int_rmul (typeIs_int s k t) F.entry_int_rmul (F.args_int_rmul_2 _ _) (int_rmul_tuple k t l its.toArray n dd sl) ⟨ho, rfl, lt, ?_⟩
  refine call_meets F.slot_tuple_mul lt F.entry_tuple_mul (F.args_tuple_mul_2 _ _) mul ⟨ho, ?_⟩
  rw [size_rep]
  exact fin
def dMulA : D → D → Option D
  | .tup xs, .int k => if (xs ≠ [] ∧ xs.length ≤ 1000) ∧ (2 ≤ k ∧ k ≤ 1000) then some (.tup (List.replicate k.toNat xs).flatten) else none
  | a, b => dMul a b
theorem opd_mulA : OpD X (binaryOp .Mult) dMulA := by
  obtain ⟨r0, h0, q0⟩ := opd_mul (X := X)
  refine ⟨_, h0.or op_repZ, fun G α ow σ H ρ g x y dx dy d Q s rx ry e w => ?_⟩
  unfold dMulA at e
  split at e
  · split at e
    · rename_i xs k hc
      cases e
      obtain ⟨p, vs, rfl, h1, h2⟩ := rx.tup
      rw [ry.int]
      refine .inr ⟨p, k, vs, rfl, rfl, h1, ⟨fun z => hc.1.1 (List.eq_nil_of_length_eq_zero (by rw [← h2.1, z]; rfl)), by rw [h2.1]; exact hc.1.2⟩, hc.2, fun l o hl ho => w _ _ (Ext.new hl) (s.new hl) (s.newT hl ho (h2.rep _))⟩
    · cases e
  · exact .inl (q0 G α ow σ H ρ g x y dx dy d Q s rx ry e w)
theorem dMulA_ti (xs : List D) (k : Int) : dMulA (.tup xs) (.int k) = if (xs ≠ [] ∧ xs.length ≤ 1000) ∧ (2 ≤ k ∧ k ≤ 1000) then some (.tup (List.replicate k.toNat xs).flatten) else none := rfl
theorem dMulA_ii (a b : Int) : dMulA (.int a) (.int b) = dMul (.int a) (.int b) := rfl
theorem dMulA_si (a : List Nat) (b : Int) : dMulA (.str a) (.int b) = dMul (.str a) (.int b) := rfl
end
end L3

namespace W
open PySem PySem.Spec PyProof.Rows L2 L3
noncomputable section
structure TopX (K : PySem.W.Frag) (w : World) (mg : Str → Option Value) : Prop where
  z_list : mg "list" = none
  z_len : mg "len" = none
  z_range : mg "range" = none
  z_str : mg "str" = none
  z_tuple : mg "tuple" = none
  z_isinstance : mg "isinstance" = none
  z_zip : mg "zip" = none
  z_all : mg "all" = none
  z_int : mg "int" = none
  z_bool : mg "bool" = none
  c_Count : Cls K (He.ga K "Count")
  n_Count_words : NoAttr K (He.ga K "Count") "words"
  c_Single : Cls K (He.ga K "Single")
  n_Single_words : NoAttr K (He.ga K "Single") "words"
  c_First : Cls K (He.ga K "First")
  n_First_words : NoAttr K (He.ga K "First") "words"
  g_Stream : mg "Stream" = some (.ref (He.ga K "Stream"))
  cf_Stream___init__ : CFn K (He.ga K "Stream") "__init__" (He.ma K (He.ga K "Stream") "__init__")
  n_Count_lines : NoAttr K (He.ga K "Count") "lines"
  g_Count : mg "Count" = some (.ref (He.ga K "Count"))
  mk_Count : Mk K (He.ga K "Count") (He.ma K (He.ga K "Count") "__init__")
  s_Count___init__ : He.ma K (He.ga K "Count") "__init__" = He.ma K (He.ga K "Gathering") "__init__"
  c_NUMBER : ∃ t, mg "NUMBER" = some (.int 18 t)
  c_FIGURES : ∃ t, mg "FIGURES" = some (.str (S [48, 49, 50, 51, 52, 53, 54, 55, 56, 57]) t)
  n_First_left : NoAttr K (He.ga K "First") "left"
  n_Single_last : NoAttr K (He.ga K "Single") "last"
  g_First : mg "First" = some (.ref (He.ga K "First"))
  mk_First : Mk K (He.ga K "First") (He.ma K (He.ga K "First") "__init__")
  g_Single : mg "Single" = some (.ref (He.ga K "Single"))
  mk_Single : Mk K (He.ga K "Single") (He.ma K (He.ga K "Single") "__init__")
  m_Count_feed : Meth K (He.ga K "Count") "feed" (He.ma K (He.ga K "Count") "feed")
  s_Count_feed : He.ma K (He.ga K "Count") "feed" = He.ma K (He.ga K "Gathering") "feed"
  m_Single_feed : Meth K (He.ga K "Single") "feed" (He.ma K (He.ga K "Single") "feed")
  m_First_feed : Meth K (He.ga K "First") "feed" (He.ma K (He.ga K "First") "feed")
  m_Count_close : Meth K (He.ga K "Count") "close" (He.ma K (He.ga K "Count") "close")
  m_Single_close : Meth K (He.ga K "Single") "close" (He.ma K (He.ga K "Single") "close")
  s_Single_close : He.ma K (He.ga K "Single") "close" = He.ma K (He.ga K "Stream") "close"
  m_First_close : Meth K (He.ga K "First") "close" (He.ma K (He.ga K "First") "close")
  s_First_close : He.ma K (He.ga K "First") "close" = He.ma K (He.ga K "Stream") "close"
  m_Count_ending : Meth K (He.ga K "Count") "ending" (He.ma K (He.ga K "Count") "ending")
  s_Count_ending : He.ma K (He.ga K "Count") "ending" = He.ma K (He.ga K "Stream") "ending"
  m_Single_ending : Meth K (He.ga K "Single") "ending" (He.ma K (He.ga K "Single") "ending")
  s_Single_ending : He.ma K (He.ga K "Single") "ending" = He.ma K (He.ga K "Stream") "ending"
  m_First_ending : Meth K (He.ga K "First") "ending" (He.ma K (He.ga K "First") "ending")
  s_First_ending : He.ma K (He.ga K "First") "ending" = He.ma K (He.ga K "Stream") "ending"
  c_MOST : ∃ t, mg "MOST" = some (.int 100 t)
  z_max : mg "max" = none
  z_min : mg "min" = none
  t_JOINED : TabAt K w mg "JOINED" tb_JOINED
  F__law_state : FunAt K mg "_law_state" (topS 86) ["_law_script"]
  F__law_next : FunAt K mg "_law_next" (topS 87) ["_law_state_here", "_law_below"]
  F__law_text : FunAt K mg "_law_text" (topS 89) ["_law_state_here", "_law_top"]
  F__law_figures : FunAt K mg "_law_figures" (topS 90) ["_law_state_here"]
  F__law_line : FunAt K mg "_law_line" (topS 91) ["_law_state_here"]
  F__law_lines : FunAt K mg "_law_lines" (topS 92) ["_law_state_here", "_law_top"]
  F__law_single : FunAt K mg "_law_single" (topS 93) ["_law_lines_here"]
  F__law_same : FunAt K mg "_law_same" (topS 88) ["_law_found", "_law_due"]
  F_Stream____init__ : FunM K (He.ma K (He.ga K "Stream") "__init__") "__init__" "Stream.__init__" (memS 28 0) ["self", "words"]
  F_Gathering____init__ : FunM K (He.ma K (He.ga K "Gathering") "__init__") "__init__" "Gathering.__init__" (memS 30 0) ["self", "words"]
  F_gathering_of : FunAt K mg "gathering_of" (topS 81) ["words"]
  F_number_in : FunAt K mg "number_in" (topS 8) ["text"]
  F_First____init__ : FunM K (He.ma K (He.ga K "First") "__init__") "__init__" "First.__init__" (memS 36 0) ["self", "words"]
  F_Single____init__ : FunM K (He.ma K (He.ga K "Single") "__init__") "__init__" "Single.__init__" (memS 37 0) ["self", "words"]
  F_stream_of : FunAt K mg "stream_of" (topS 82) ["words"]
  F_Stream__close : FunM K (He.ma K (He.ga K "Stream") "close") "close" "Stream.close" (memS 28 2) ["self"]
  F_Count__close : FunM K (He.ma K (He.ga K "Count") "close") "close" "Count.close" (memS 32 0) ["self"]
  F_Stream__ending : FunM K (He.ma K (He.ga K "Stream") "ending") "ending" "Stream.ending" (memS 28 3) ["self"]
  F_First__feed : FunM K (He.ma K (He.ga K "First") "feed") "feed" "First.feed" (memS 36 1) ["self", "line"]
  F_Single__feed : FunM K (He.ma K (He.ga K "Single") "feed") "feed" "Single.feed" (memS 37 1) ["self", "line"]
  F_Gathering__feed : FunM K (He.ma K (He.ga K "Gathering") "feed") "feed" "Gathering.feed" (memS 30 1) ["self", "line"]
  F_streamed : FunAt K mg "streamed" (topS 83) ["stream", "lines"]
  F_told : FunAt K mg "told" (topS 84) ["words", "inputs"]
  F__law_told_right : FunAt K mg "_law_told_right" (topS 94) ["_law_words", "_law_lines_here", "_law_due"]
  F_law : FunAt K mg "law" (topS 95) ["_law_script"]
theorem sc__law_state : FnScope ["_law_script", "_law_cells"] ["_law_script"] (defScope (topS 86)) := ⟨rfl, rfl, rfl, by decide +kernel, rfl, by decide +kernel, by decide +kernel⟩
theorem sc__law_next : FnScope ["_law_state_here", "_law_below", "_law_found", "_law_cells", "_law_cell", "_law_mixed"] ["_law_state_here", "_law_below"] (defScope (topS 87)) := ⟨rfl, rfl, rfl, by decide +kernel, rfl, by decide +kernel, by decide +kernel⟩
theorem sc__law_text : FnScope ["_law_state_here", "_law_top", "_law_signs", "_law_k"] ["_law_state_here", "_law_top"] (defScope (topS 89)) := ⟨rfl, rfl, rfl, by decide +kernel, rfl, by decide +kernel, by decide +kernel⟩
theorem sc__law_figures : FnScope ["_law_state_here", "_law_some"] ["_law_state_here"] (defScope (topS 90)) := ⟨rfl, rfl, rfl, by decide +kernel, rfl, by decide +kernel, by decide +kernel⟩
theorem sc__law_line : FnScope ["_law_state_here", "_law_way", "_law_found", "_law_k", "_law_word"] ["_law_state_here"] (defScope (topS 91)) := ⟨rfl, rfl, rfl, by decide +kernel, rfl, by decide +kernel, by decide +kernel⟩
theorem sc__law_lines : FnScope ["_law_state_here", "_law_top", "_law_found", "_law_k"] ["_law_state_here", "_law_top"] (defScope (topS 92)) := ⟨rfl, rfl, rfl, by decide +kernel, rfl, by decide +kernel, by decide +kernel⟩
theorem sc__law_single : FnScope ["_law_lines_here", "_law_found", "_law_k"] ["_law_lines_here"] (defScope (topS 93)) := ⟨rfl, rfl, rfl, by decide +kernel, rfl, by decide +kernel, by decide +kernel⟩
theorem sc__law_same : FnScope ["_law_found", "_law_due", "_law_one", "_law_other"] ["_law_found", "_law_due"] (defScope (topS 88)) := ⟨rfl, rfl, rfl, by decide +kernel, rfl, by decide +kernel, by decide +kernel⟩
theorem sc_Stream____init__ : FnScope ["self", "words"] ["self", "words"] (defScope (memS 28 0)) := ⟨rfl, rfl, rfl, by decide +kernel, rfl, by decide +kernel, by decide +kernel⟩
theorem sc_Gathering____init__ : FnScope ["self", "words"] ["self", "words"] (defScope (memS 30 0)) := ⟨rfl, rfl, rfl, by decide +kernel, rfl, by decide +kernel, by decide +kernel⟩
theorem sc_gathering_of : FnScope ["words"] ["words"] (defScope (topS 81)) := ⟨rfl, rfl, rfl, by decide +kernel, rfl, by decide +kernel, by decide +kernel⟩
theorem sc_number_in : FnScope ["text", "figures", "sign"] ["text"] (defScope (topS 8)) := ⟨rfl, rfl, rfl, by decide +kernel, rfl, by decide +kernel, by decide +kernel⟩
theorem sc_First____init__ : FnScope ["self", "words"] ["self", "words"] (defScope (memS 36 0)) := ⟨rfl, rfl, rfl, by decide +kernel, rfl, by decide +kernel, by decide +kernel⟩
theorem sc_Single____init__ : FnScope ["self", "words"] ["self", "words"] (defScope (memS 37 0)) := ⟨rfl, rfl, rfl, by decide +kernel, rfl, by decide +kernel, by decide +kernel⟩
theorem sc_stream_of : FnScope ["words", "name"] ["words"] (defScope (topS 82)) := ⟨rfl, rfl, rfl, by decide +kernel, rfl, by decide +kernel, by decide +kernel⟩
theorem sc_Stream__close : FnScope ["self"] ["self"] (defScope (memS 28 2)) := ⟨rfl, rfl, rfl, by decide +kernel, rfl, by decide +kernel, by decide +kernel⟩
theorem sc_Count__close : FnScope ["self"] ["self"] (defScope (memS 32 0)) := ⟨rfl, rfl, rfl, by decide +kernel, rfl, by decide +kernel, by decide +kernel⟩
theorem sc_Stream__ending : FnScope ["self"] ["self"] (defScope (memS 28 3)) := ⟨rfl, rfl, rfl, by decide +kernel, rfl, by decide +kernel, by decide +kernel⟩
theorem sc_First__feed : FnScope ["self", "line"] ["self", "line"] (defScope (memS 36 1)) := ⟨rfl, rfl, rfl, by decide +kernel, rfl, by decide +kernel, by decide +kernel⟩
theorem sc_Single__feed : FnScope ["self", "line", "is_like"] ["self", "line"] (defScope (memS 37 1)) := ⟨rfl, rfl, rfl, by decide +kernel, rfl, by decide +kernel, by decide +kernel⟩
theorem sc_Gathering__feed : FnScope ["self", "line"] ["self", "line"] (defScope (memS 30 1)) := ⟨rfl, rfl, rfl, by decide +kernel, rfl, by decide +kernel, by decide +kernel⟩
theorem sc_streamed : FnScope ["stream", "lines", "found", "line"] ["stream", "lines"] (defScope (topS 83)) := ⟨rfl, rfl, rfl, by decide +kernel, rfl, by decide +kernel, by decide +kernel⟩
theorem sc_told : FnScope ["words", "inputs", "stream", "joined", "outputs", "outcome", "lines"] ["words", "inputs"] (defScope (topS 84)) := ⟨rfl, rfl, rfl, by decide +kernel, rfl, by decide +kernel, by decide +kernel⟩
theorem sc__law_told_right : FnScope ["_law_words", "_law_lines_here", "_law_due", "_law_turn"] ["_law_words", "_law_lines_here", "_law_due"] (defScope (topS 94)) := ⟨rfl, rfl, rfl, by decide +kernel, rfl, by decide +kernel, by decide +kernel⟩
theorem sc_law : FnScope ["_law_script", "_law_state_here", "_law_lines_here", "_law_doubled", "_law_line_here", "_law_single_here", "_law_many", "_law_some", "_law_k"] ["_law_script"] (defScope (topS 95)) := ⟨rfl, rfl, rfl, by decide +kernel, rfl, by decide +kernel, by decide +kernel⟩
def d__law_state : DS :=
  (sSeq (sSet 1 (eL (aFn aList (aCons (eSl dSl (eVarB 0) oNone (oSome (eC (.int 60)))) aNil))))
  (sSeq (sIf (tOf (eOp dEq (eVarB 1) (eL (aFn dLst aNil)))) (sSet 1 (eL (aFn dLst (aCons (eC (.int 0)) aNil)))) sNext)
  (sRet (eSt (aFn dLst (aCons (eVar 1) (aCons (eC (.int 0)) (aCons (eC (.int 0)) (aCons (eC (.int 1700000000000000003)) aNil)))))))))
def f__law_state : List D → Store → Option (D × Store) := runD 2 d__law_state
def d__law_next : DS :=
  (sSeq (sIf (tOf (eOp dGt (eIxO (eVarB 0) (eC (.int 2))) (eC (.int 0)))) (sSeq (sSet 2 (eOp dMod (eIxO (eVarB 0) (eC (.int 2))) (eVarB 1)))
  (sSeq (sSetO (eVarB 0) (eC (.int 2)) (eOp dDiv (eIxO (eVarB 0) (eC (.int 2))) (eVarB 1)))
  (sRet (eVarB 2)))) sNext)
  (sSeq (sSet 3 (eIxO (eVarB 0) (eC (.int 0))))
  (sSeq (sSet 4 (eOp dIx (eVarB 3) (eOp dMod (eIxO (eVarB 0) (eC (.int 1))) (eFn dLen (aCons (eVarB 3) aNil)))))
  (sSeq (sSetO (eVarB 0) (eC (.int 1)) (eOp dAddA (eIxO (eVarB 0) (eC (.int 1))) (eC (.int 1))))
  (sSeq (sIf (tAndD (tOf (eOp dGe (eVarB 4) (eOp dPow (eC (.int 10)) (eC (.int 18))))) (tOf (eOp dLe (eIxO (eVarB 0) (eC (.int 1))) (eFn dLen (aCons (eVarB 3) aNil))))) (sSeq (sSetO (eVarB 0) (eC (.int 2)) (eOp dDiv (eVarB 4) (eVarB 1)))
  (sRet (eOp dMod (eVarB 4) (eVarB 1)))) sNext)
  (sSeq (sSet 5 (eOp dAddA (eOp dAddA (eOp dMul (eIxO (eVarB 0) (eC (.int 3))) (eC (.int 69621))) (eOp dMod (eVarB 4) (eC (.int 2305843009213693921)))) (eIxO (eVarB 0) (eC (.int 1)))))
  (sSeq (sSetO (eVarB 0) (eC (.int 3)) (eOp dMod (eVarB 5) (eC (.int 2305843009213693951))))
  (sRet (eOp dMod (eOp dDiv (eOp dMod (eOp dMul (eIxO (eVarB 0) (eC (.int 3))) (eIxO (eVarB 0) (eC (.int 3)))) (eC (.int 2305843009213693951))) (eC (.int 4096))) (eVarB 1))))))))))
def f__law_next : List D → Store → Option (D × Store) := runD 6 d__law_next
def le__law_text_0 : DE :=
  (eOp dIx (eVarB 2) (eApp f__law_next (aCons (eVar 0) (aCons (eFn dLen (aCons (eVarB 2) aNil)) aNil))))
def d__law_text : DS :=
  (sSeq (sSet 2 (eOp dIx (eL (aFn dLst (aCons (eC (.str [97, 98, 49, 32])) (aCons (eC (.str [97, 98, 49, 48, 45, 42, 63, 32, 59, 61, 46])) (aCons (eC (.str [65, 90, 97, 122, 48, 57, 32, 33, 44, 47, 58, 60, 62, 64, 94, 95, 123, 124, 125, 126, 36, 38, 39, 40, 41, 43, 91, 93])) aNil))))) (eApp f__law_next (aCons (eVar 0) (aCons (eC (.int 3)) aNil)))))
  (sRet (eM1 dJoin (eC (.str [])) (eL (aLc (aFn dRange1 (aCons (eApp f__law_next (aCons (eVar 0) (aCons (eOp dAddA (eVarB 1) (eC (.int 1))) aNil))) aNil)) [3] (tgName 3) tYesD le__law_text_0)))))
def f__law_text : List D → Store → Option (D × Store) := runD 4 d__law_text
def d__law_figures : DS :=
  (sSeq (sSet 1 (eL (aFn dLst (aCons (eC (.str [48])) (aCons (eC (.str [55])) (aCons (eC (.str [45, 51])) (aCons (eC (.str [49, 50])) (aCons (eC (.str [49, 48, 48])) (aCons (eC (.str [45, 48])) (aCons (eC (.str [48, 48, 55])) (aCons (eC (.str [43, 52])) (aCons (eC (.str [49, 46])) (aCons (eC (.str [45, 45, 50])) (aCons (eC (.str [45])) (aCons (eOp dMul (eC (.str [57])) (eC (.int 18))) (aCons (eOp dMul (eC (.str [57])) (eC (.int 19))) (aCons (eOp dAddA (eC (.str [45])) (eOp dMul (eC (.str [57])) (eC (.int 18)))) aNil)))))))))))))))))
  (sSeq (sSet 1 (eOp dAddA (eVarB 1) (eL (aFn dLst (aCons (eOp dAddA (eC (.str [49])) (eOp dMul (eC (.str [48])) (eC (.int 17)))) (aCons (eOp dAddA (eC (.str [49])) (eOp dMul (eC (.str [48])) (eC (.int 18)))) (aCons (eOp dAddA (eC (.str [45])) (eOp dMul (eC (.str [49])) (eC (.int 19)))) (aCons (eC (.str [48, 48])) aNil))))))))
  (sSeq (sIf (tOf (eOp dEq (eApp f__law_next (aCons (eVar 0) (aCons (eC (.int 2)) aNil))) (eC (.int 0)))) (sRet (eOp dIx (eVarB 1) (eApp f__law_next (aCons (eVar 0) (aCons (eC (.int 18)) aNil))))) sNext)
  (sRet (eFn dStr (aCons (eOp dSub (eApp f__law_next (aCons (eVar 0) (aCons (eC (.int 41)) aNil))) (eC (.int 20))) aNil))))))
def f__law_figures : List D → Store → Option (D × Store) := runD 2 d__law_figures
def lb__law_line_0 : DS :=
  (sSeq (sSet 4 (eOp dIx (eL (aFn dLst (aCons (eApp f__law_figures (aCons (eVar 0) aNil)) (aCons (eSl dSl (eC (.str [97, 98])) oNone (oSome (eOp dAddA (eC (.int 1)) (eApp f__law_next (aCons (eVar 0) (aCons (eC (.int 2)) aNil)))))) (aCons (eOp dAddA (eC (.str [120])) (eFn dStr (aCons (eVarB 3) aNil))) aNil))))) (eApp f__law_next (aCons (eVar 0) (aCons (eC (.int 3)) aNil)))))
  (sSet 2 (eOp dAddA (eOp dAddA (eVarB 2) (eVarB 4)) (eOp dMul (eC (.str [32])) (eOp dAddA (eC (.int 1)) (eApp f__law_next (aCons (eVar 0) (aCons (eC (.int 2)) aNil))))))))
def d__law_line : DS :=
  (sSeq (sSet 1 (eApp f__law_next (aCons (eVar 0) (aCons (eC (.int 8)) aNil))))
  (sSeq (sIf (tOf (eOp dLt (eVarB 1) (eC (.int 2)))) (sRet (eApp f__law_text (aCons (eVar 0) (aCons (eC (.int 6)) aNil)))) sNext)
  (sSeq (sIf (tOf (eOp dLt (eVarB 1) (eC (.int 4)))) (sRet (eApp f__law_figures (aCons (eVar 0) aNil))) sNext)
  (sSeq (sIf (tOf (eOp dLt (eVarB 1) (eC (.int 7)))) (sSeq (sSet 2 (eOp dMul (eC (.str [32])) (eApp f__law_next (aCons (eVar 0) (aCons (eC (.int 3)) aNil)))))
  (sSeq (sFor (aFn dRange1 (aCons (eApp f__law_next (aCons (eVar 0) (aCons (eC (.int 5)) aNil))) aNil)) (tgName 3) lb__law_line_0)
  (sRet (eSl dSl (eVarB 2) oNone (oSome (eC (.int 80))))))) sNext)
  (sSeq (sSet 4 (eOp dIx (eL (aFn dLst (aCons (eC (.str [97])) (aCons (eC (.str [97, 98])) (aCons (eC (.str [49, 32])) aNil))))) (eApp f__law_next (aCons (eVar 0) (aCons (eC (.int 3)) aNil)))))
  (sRet (eSl dSl (eOp dAddA (eApp f__law_text (aCons (eVar 0) (aCons (eC (.int 4)) aNil))) (eOp dMul (eVarB 4) (eC (.int 80)))) oNone (oSome (eOp dAddA (eC (.int 78)) (eApp f__law_next (aCons (eVar 0) (aCons (eC (.int 3)) aNil))))))))))))
def f__law_line : List D → Store → Option (D × Store) := runD 5 d__law_line
def lb__law_lines_0 : DS :=
  (sIf (tAndD (tOf (eOp dNe (eVarB 2) (eL (aFn dLst aNil)))) (tOf (eOp dEq (eApp f__law_next (aCons (eVar 0) (aCons (eC (.int 4)) aNil))) (eC (.int 0))))) (sApp 2 (eOp dIx (eVarB 2) (eApp f__law_next (aCons (eVar 0) (aCons (eFn dLen (aCons (eVarB 2) aNil)) aNil))))) (sApp 2 (eApp f__law_line (aCons (eVar 0) aNil))))
def d__law_lines : DS :=
  (sSeq (sOwn 2 (aFn dLst aNil))
  (sSeq (sFor (aFn dRange1 (aCons (eApp f__law_next (aCons (eVar 0) (aCons (eOp dAddA (eVarB 1) (eC (.int 1))) aNil))) aNil)) (tgName 3) lb__law_lines_0)
  (sRet (eFn dTuple (aCons (eVarB 2) aNil)))))
def f__law_lines : List D → Store → Option (D × Store) := runD 4 d__law_lines
def lb__law_single_0 : DS :=
  (sIf (tOrD (tOf (eOp dEq (eVarB 2) (eC (.int 0)))) (tOf (eOp dNe (eOp dIx (eVarB 0) (eVarB 2)) (eOp dIx (eVarB 0) (eOp dSub (eVarB 2) (eC (.int 1))))))) (sApp 1 (eOp dIx (eVarB 0) (eVarB 2))) sNext)
def d__law_single : DS :=
  (sSeq (sOwn 1 (aFn dLst aNil))
  (sSeq (sFor (aFn dRange1 (aCons (eFn dLen (aCons (eVarB 0) aNil)) aNil)) (tgName 2) lb__law_single_0)
  (sRet (eFn dTuple (aCons (eVarB 1) aNil)))))
def f__law_single : List D → Store → Option (D × Store) := runD 3 d__law_single
def le__law_same_0 (rec : List D → Store → Option (D × Store)) : DE :=
  (eApp rec (aCons (eVar 2) (aCons (eVar 3) aNil)))
def d__law_same (rec : List D → Store → Option (D × Store)) : DS :=
  (sSeq (sIf (tTru (eUn (dIsi2 "tuple" "list") (eVarB 1))) (sSeq (sIf (tOrD (tOf (eOp dNe (eUn (dIsi "tuple") (eVarB 0)) (eUn (dIsi "tuple") (eVarB 1)))) (tOf (eOp dNe (eUn (dIsi "list") (eVarB 0)) (eUn (dIsi "list") (eVarB 1))))) (sRet (eC (.bl false))) sNext)
  (sSeq (sIf (tOf (eOp dNe (eFn dLen (aCons (eVarB 0) aNil)) (eFn dLen (aCons (eVarB 1) aNil)))) (sRet (eC (.bl false))) sNext)
  (sRet (eFn dAll (aCons (eL (aLc (aFn dZip (aCons (eVar 0) (aCons (eVar 1) aNil))) [2, 3] (tgTup (tgsCons (tgName 2) (tgsCons (tgName 3) tgsNil))) tYesD (le__law_same_0 rec))) aNil))))) sNext)
  (sSeq (sIf (tOf (eOp dIs (eVarB 1) (eC .non))) (sRet (eOp dIs (eVarB 0) (eC .non))) sNext)
  (sSeq (sIf (tTru (eUn (dIsi "str") (eVarB 1))) (sRet (eAndD (eUn (dIsi "str") (eVarB 0)) (eOp dEq (eVarB 0) (eVarB 1)))) sNext)
  (sRet (eAndD (eUn (dIsi "int") (eVarB 0)) (eAndD (eOp dEq (eUn (dIsi "bool") (eVarB 0)) (eUn (dIsi "bool") (eVarB 1))) (eOp dEq (eVarB 0) (eVarB 1))))))))
def f__law_same : Nat → List D → Store → Option (D × Store)
  | 0 => runD 4 sDead
  | n + 1 => runD 4 (d__law_same (f__law_same n))
def d_Stream____init__ : DS :=
  (sFldD [7, 8, 4] 0 (eVarB 0) (eVar 1))
def f_Stream____init__ : List D → Store → Option (D × Store) := runD 2 d_Stream____init__
def d_Gathering____init__ : DS :=
  (sSeq (sDrop (eApp f_Stream____init__ (aCons (eVar 0) (aCons (eVar 1) aNil))))
  (sFldD [4] 3 (eVarB 0) (eSt (aFn dLst aNil))))
def f_Gathering____init__ : List D → Store → Option (D × Store) := runD 2 d_Gathering____init__
def d_gathering_of : DS :=
  (sSeq (sIf (tAndD (tOf (eOp dEq (eSl dSl (eVarB 0) oNone (oSome (eC (.int 2)))) (eFn dTup (aCons (eC (.str [112, 105, 99, 107])) (aCons (eC (.str [110, 101, 97, 114])) aNil))))) (tOf (eOp dEq (eFn dLen (aCons (eVarB 0) aNil)) (eC (.int 4))))) (sRet mDead) sNext)
  (sSeq (sIf (tOf (eOp dEq (eOp dIx (eVarB 0) (eC (.int 0))) (eC (.str [99, 111, 117, 110, 116])))) (sRet (eMake 4 f_Gathering____init__ (aCons (eVar 0) aNil))) sNext)
  (sSeq (sIf (tOf (eOp dEq (eOp dIx (eVarB 0) (eC (.int 0))) (eC (.str [115, 111, 114, 116])))) (sRet mDead) sNext)
  (sRet (eC .non)))))
def f_gathering_of : List D → Store → Option (D × Store) := runD 1 d_gathering_of
def le_number_in_0 : DE :=
  (eOp dIn (eVarB 2) (eC (.str [48, 49, 50, 51, 52, 53, 54, 55, 56, 57])))
def d_number_in : DS :=
  (sSeq (sSet 1 (eVar 0))
  (sSeq (sIf (tTru (eM1 dStarts (eVarB 0) (eC (.str [45])))) (sSet 1 (eSl dSl (eVarB 0) (oSome (eC (.int 1))) oNone)) sNext)
  (sSeq (sIf (tOrD (tNotD (tOf (eChain dLe dLe (eC (.int 1)) (eFn dLen (aCons (eVarB 1) aNil)) (eC (.int 18))))) (tNotD (tTru (eFn dAll (aCons (eL (aLc (aItems (eVar 1)) [2] (tgName 2) tYesD le_number_in_0)) aNil))))) (sRet (eC .non)) sNext)
  (sSeq (sIf (tAndD (tOf (eOp dEq (eOp dIx (eVarB 1) (eC (.int 0))) (eC (.str [48])))) (tOf (eOp dNe (eVarB 0) (eC (.str [48]))))) (sRet (eC .non)) sNext)
  (sRet (eFn dInt (aCons (eVarB 0) aNil)))))))
def f_number_in : List D → Store → Option (D × Store) := runD 3 d_number_in
def d_First____init__ : DS :=
  (sSeq (sDrop (eApp f_Stream____init__ (aCons (eVar 0) (aCons (eVar 1) aNil))))
  (sFldD [7] 4 (eVarB 0) (eApp f_number_in (aCons (eOp dIx (eVarB 1) (eC (.int 1))) aNil))))
def f_First____init__ : List D → Store → Option (D × Store) := runD 2 d_First____init__
def d_Single____init__ : DS :=
  (sSeq (sDrop (eApp f_Stream____init__ (aCons (eVar 0) (aCons (eVar 1) aNil))))
  (sFldD [8] 5 (eVarB 0) (eC .non)))
def f_Single____init__ : List D → Store → Option (D × Store) := runD 2 d_Single____init__
def d_stream_of : DS :=
  (sSeq (sSet 1 (eOp dIx (eVarB 0) (eC (.int 0))))
  (sSeq (sIf (tAndD (tOf (eOp dEq (eVarB 1) (eC (.str [112, 105, 99, 107])))) (tOf (eOp dLt (eFn dLen (aCons (eVarB 0) aNil)) (eC (.int 4))))) (sRet mDead) sNext)
  (sSeq (sIf (tOf (eOp dEq (eVarB 1) (eC (.str [99, 117, 116])))) (sRet mDead) sNext)
  (sSeq (sIf (tOf (eOp dEq (eVarB 1) (eC (.str [102, 105, 114, 115, 116])))) (sRet (eMake 7 f_First____init__ (aCons (eVar 0) aNil))) sNext)
  (sSeq (sIf (tOf (eOp dEq (eVarB 1) (eC (.str [115, 105, 110, 103, 108, 101])))) (sRet (eMake 8 f_Single____init__ (aCons (eVar 0) aNil))) sNext)
  (sSeq (sIf (tOf (eOp dEq (eVarB 1) (eC (.str [116, 101, 108, 108])))) (sRet mDead) sNext)
  (sSeq (sIf (tOf (eOp dEq (eVarB 1) (eC (.str [101, 100, 105, 116])))) (sRet mDead) sNext)
  (sRet (eApp f_gathering_of (aCons (eVar 0) aNil))))))))))
def f_stream_of : List D → Store → Option (D × Store) := runD 2 d_stream_of
def d_Stream__close : DS :=
  (sRet (eL (aFn dLst aNil)))
def f_Stream__close : List D → Store → Option (D × Store) := runD 1 d_Stream__close
def d_Count__close : DS :=
  (sRet (eL (aFn dLst (aCons (eFn dStr (aCons (eLenO (eFld [4] 3 (eVarB 0))) aNil)) aNil))))
def f_Count__close : List D → Store → Option (D × Store) := runD 1 d_Count__close
def d_Stream__ending : DS :=
  (sRet (eC (.int 0)))
def f_Stream__ending : List D → Store → Option (D × Store) := runD 1 d_Stream__ending
def d_First__feed : DS :=
  (sSeq (sIf (tOf (eOp dEq (eFld [7] 4 (eVarB 0)) (eC (.int 0)))) (sRet (eL (aFn dLst aNil))) sNext)
  (sSeq (sFldAugD [7] 4 (· - ·) (eVarB 0) (eC (.int 1)))
  (sRet (eL (aFn dLst (aCons (eVar 1) aNil))))))
def f_First__feed : List D → Store → Option (D × Store) := runD 2 d_First__feed
def d_Single__feed : DS :=
  (sSeq (sSet 2 (eOp dEq (eVarB 1) (eFld [8] 5 (eVarB 0))))
  (sSeq (sFldD [8] 5 (eVarB 0) (eVar 1))
  (sSeq (sIf (tTru (eVarB 2)) (sRet (eL (aFn dLst aNil))) sNext)
  (sRet (eL (aFn dLst (aCons (eVar 1) aNil)))))))
def f_Single__feed : List D → Store → Option (D × Store) := runD 3 d_Single__feed
def d_Gathering__feed : DS :=
  (sSeq (sAppO (eFld [4] 3 (eVarB 0)) (eVar 1))
  (sRet (eL (aFn dLst aNil))))
def f_Gathering__feed : List D → Store → Option (D × Store) := runD 2 d_Gathering__feed
def tbm_feed : List (Nat × Phi) := ((7, f_First__feed) :: ((8, f_Single__feed) :: ((4, f_Gathering__feed) :: [])))
def lb_streamed_0 : DS :=
  (sExtA 2 (eMeth tbm_feed (eVarB 0) (aCons (eVar 3) aNil)))
def tbm_close : List (Nat × Phi) := ((7, f_Stream__close) :: ((8, f_Stream__close) :: ((4, f_Count__close) :: [])))
def tbm_ending : List (Nat × Phi) := ((7, f_Stream__ending) :: ((8, f_Stream__ending) :: ((4, f_Stream__ending) :: [])))
def d_streamed : DS :=
  (sSeq (sOwn 2 (aFn dLst aNil))
  (sSeq (sFor (aItems (eVar 1)) (tgName 3) lb_streamed_0)
  (sSeq (sExtA 2 (eMeth tbm_close (eVarB 0) aNil))
  (sRet (eFn dTup (aCons (eFn dTup (aCons (eFn dTuple (aCons (eSl dSl (eVarB 2) oNone (oSome (eC (.int 100)))) aNil)) aNil)) (aCons (eMeth tbm_ending (eVarB 0) aNil) aNil)))))))
def f_streamed : List D → Store → Option (D × Store) := runD 4 d_streamed
def le_told_0 : DE :=
  (eFn dTuple (aCons (eSl dSl (eVarB 6) oNone (oSome (eC (.int 100)))) aNil))
def d_told : DS :=
  (sSeq (sIf (tOf (eOp dEq (eOp dIx (eVarB 0) (eC (.int 0))) (eC (.str [116, 101, 115, 116])))) (sRet (eFn dTup (aCons (eFn dTup aNil) (aCons (eFn dInt (aCons (eUn dNot mDead) aNil)) aNil)))) sNext)
  (sSeq (sSet 2 (eApp f_stream_of (aCons (eVar 0) aNil)))
  (sSeq (sIf (tOf (eOp dIsNot (eVarB 2) (eC .non))) (sRet (eApp f_streamed (aCons (eVar 2) (aCons (eOp dIx (eVarB 1) (eC (.int 0))) aNil)))) sNext)
  (sSeq (sSet 3 (eUn (dTabIx tb_JOINED) (eOp dIx (eVarB 0) (eC (.int 0)))))
  (sSeq (sUnp mDead (tgTup (tgsCons (tgName 4) (tgsCons (tgName 5) tgsNil))))
  (sRet (eFn dTup (aCons (eFn dTuple (aCons (eL (aLc (aItems (eVar 4)) [6] (tgName 6) tYesD le_told_0)) aNil)) (aCons (eVar 5) aNil)))))))))
def f_told : List D → Store → Option (D × Store) := runD 7 d_told
def lb__law_told_right_0 : DS :=
  (sIf (tNotD (tTru (eApp (f__law_same 8) (aCons (eApp f_told (aCons (eVar 0) (aCons (eFn dTup (aCons (eVar 1) aNil)) aNil))) (aCons (eFn dTup (aCons (eFn dTup (aCons (eVar 2) aNil)) (aCons (eC (.int 0)) aNil))) aNil))))) (sRet (eC (.bl false))) sNext)
def d__law_told_right : DS :=
  (sSeq (sFor (aFn dRange1 (aCons (eC (.int 2)) aNil)) (tgName 3) lb__law_told_right_0)
  (sRet (eC (.bl true))))
def f__law_told_right : List D → Store → Option (D × Store) := runD 4 d__law_told_right
def le_law_0 : DE :=
  (eApp f__law_text (aCons (eVar 1) (aCons (eC (.int 1)) aNil)))
def lb_law_0 : DS :=
  (sExtA 3 (eL (aRep (aFn dLst (aCons (eVar 4) aNil)) (eOp dAddA (eC (.int 1)) (eOp dMod (eFn dLen (aCons (eVarB 4) aNil)) (eC (.int 2)))))))
def lb_law_1 : DS :=
  (sSeq (sSet 7 (eSl dSl (eVarB 2) oNone (oSome (eVar 6))))
  (sSeq (sIf (tNotD (tTru (eApp f__law_told_right (aCons (eFn dTup (aCons (eC (.str [102, 105, 114, 115, 116])) (aCons (eFn dStr (aCons (eVarB 6) aNil)) aNil))) (aCons (eVar 2) (aCons (eVar 7) aNil)))))) (sRet (eC (.bl false))) sNext)
  (sIf (tNotD (tTru (eApp f__law_told_right (aCons (eFn dTup (aCons (eC (.str [99, 111, 117, 110, 116])) aNil)) (aCons (eVar 7) (aCons (eFn dTup (aCons (eFn dStr (aCons (eFn dMin2 (aCons (eVarB 6) (aCons (eFn dLen (aCons (eVarB 2) aNil)) aNil))) aNil)) aNil)) aNil)))))) (sRet (eC (.bl false))) sNext)))
def d_law : DS :=
  (sSeq (sSet 1 (eApp f__law_state (aCons (eVar 0) aNil)))
  (sSeq (sSet 2 (eApp f__law_lines (aCons (eVar 1) (aCons (eC (.int 20)) aNil))))
  (sSeq (sIf (tOf (eOp dEq (eApp f__law_next (aCons (eVar 1) (aCons (eC (.int 4)) aNil))) (eC (.int 0)))) (sSet 2 (eFn dTuple (aCons (eL (aLc (aFn dRange1 (aCons (eOp dAddA (eC (.int 90)) (eApp f__law_next (aCons (eVar 1) (aCons (eC (.int 11)) aNil)))) aNil)) [8] (tgName 8) tYesD le_law_0)) aNil))) sNext)
  (sSeq (sIf (tOf (eOp dEq (eApp f__law_next (aCons (eVar 1) (aCons (eC (.int 2)) aNil))) (eC (.int 0)))) (sSeq (sOwn 3 (aFn dLst aNil))
  (sSeq (sFor (aItems (eVar 2)) (tgName 4) lb_law_0)
  (sSet 2 (eFn dTuple (aCons (eSl dSl (eVarB 3) oNone (oSome (eC (.int 100)))) aNil))))) sNext)
  (sSeq (sSet 5 (eApp f__law_single (aCons (eVar 2) aNil)))
  (sSeq (sIf (tOrD (tNotD (tTru (eApp f__law_told_right (aCons (eFn dTup (aCons (eC (.str [115, 105, 110, 103, 108, 101])) aNil)) (aCons (eVar 2) (aCons (eVar 5) aNil)))))) (tNotD (tTru (eApp f__law_told_right (aCons (eFn dTup (aCons (eC (.str [115, 105, 110, 103, 108, 101])) aNil)) (aCons (eVar 5) (aCons (eVar 5) aNil))))))) (sRet (eC (.bl false))) sNext)
  (sSeq (sFor (aItems (eL (aFn dLst (aCons (eC (.int 0)) (aCons (eC (.int 1)) (aCons (eC (.int 99)) (aCons (eFn dMin2 (aCons (eC (.int 99)) (aCons (eFn dLen (aCons (eVarB 2) aNil)) aNil))) (aCons (eOp dMod (eFn dMax2 (aCons (eC (.int 0)) (aCons (eOp dSub (eFn dLen (aCons (eVarB 2) aNil)) (eC (.int 1))) aNil))) (eC (.int 100))) (aCons (eApp f__law_next (aCons (eVar 1) (aCons (eC (.int 100)) aNil))) aNil))))))))) (tgName 6) lb_law_1)
  (sRet (eApp f__law_told_right (aCons (eFn dTup (aCons (eC (.str [99, 111, 117, 110, 116])) aNil)) (aCons (eVar 2) (aCons (eFn dTup (aCons (eFn dStr (aCons (eFn dLen (aCons (eVarB 2) aNil)) aNil)) aNil)) aNil))))))))))))
def f_law : List D → Store → Option (D × Store) := runD 9 d_law
section
variable {P : Program} {w : World} {K : PySem.W.Frag} {mg : Str → Option Value} {base : Heap}
theorem ok__law_state (T : TopX K w mg) : FnAt P w K mg base 1 "_law_state" ["_law_script"] (spD K 1 f__law_state) :=
  fnat T.F__law_state sc__law_state fun cdv A outer s H E hr =>
  (bc_cons (sc_set (i := 1) sc__law_state.nd (EF.ec (ef_callT cf_list T.z_list b_list (ab_cons (EC.bo (ec_slice (eb_var 0) oc_none (oc_some ec_int))) ab_nil))))
  (bc_cons (sc_if (tc_cmp (opd_eq hr.units) (eb_var 1) (EC.bo (EF.ec (ef_lst ac_nil)))) (bc_one (sc_set (i := 1) sc__law_state.nd (EF.ec (ef_lst (ac_cons ec_int ac_nil))))) bc_nil)
  (bc_one (sc_ret (EC.bo (EF.st (ef_lst (ac_cons (ec_var 1) (ac_cons ec_int (ac_cons ec_int (ac_cons ec_int ac_nil)))))))))))
theorem ok__law_next (T : TopX K w mg) : FnAt P w K mg base 1 "_law_next" ["_law_state_here", "_law_below"] (spD K 2 f__law_next) :=
  fnat T.F__law_next sc__law_next fun cdv A outer s H E hr =>
  (bc_cons (sc_if (tc_cmp opd_gt (EC.bo (ec_ixO (eb_var 0) (EC.bo ec_int))) (EC.bo ec_int)) (bc_cons (sc_set (i := 2) sc__law_next.nd (ec_op opd_mod (EC.bo (ec_ixO (eb_var 0) (EC.bo ec_int))) (eb_var 1)))
  (bc_cons (sc_setO (ec_op opd_div (EC.bo (ec_ixO (eb_var 0) (EC.bo ec_int))) (eb_var 1)) (eb_var 0) (EC.bo ec_int))
  (bc_one (sc_ret (eb_var 2))))) bc_nil)
  (bc_cons (sc_set (i := 3) sc__law_next.nd (ec_ixO (eb_var 0) (EC.bo ec_int)))
  (bc_cons (sc_set (i := 4) sc__law_next.nd (ec_ix ixd (eb_var 3) (EC.bo (ec_op opd_mod (EC.bo (ec_ixO (eb_var 0) (EC.bo ec_int))) (EC.bo (ec_callB cd_len T.z_len b_len (ab_cons (eb_var 3) ab_nil)))))))
  (bc_cons (sc_setO (ec_op opd_addA (EC.bo (ec_ixO (eb_var 0) (EC.bo ec_int))) (EC.bo ec_int)) (eb_var 0) (EC.bo ec_int))
  (bc_cons (sc_if (TW.tc (tw_and (tc_cmp opd_ge (eb_var 4) (EC.bo (ec_op opd_pow (EC.bo ec_int) (EC.bo ec_int)))) (tw_and1 (tc_cmp opd_le (EC.bo (ec_ixO (eb_var 0) (EC.bo ec_int))) (EC.bo (ec_callB cd_len T.z_len b_len (ab_cons (eb_var 3) ab_nil))))))) (bc_cons (sc_setO (ec_op opd_div (eb_var 4) (eb_var 1)) (eb_var 0) (EC.bo ec_int))
  (bc_one (sc_ret (EC.bo (ec_op opd_mod (eb_var 4) (eb_var 1)))))) bc_nil)
  (bc_cons (sc_set (i := 5) sc__law_next.nd (ec_op opd_addA (EC.bo (ec_op opd_addA (EC.bo (ec_op opd_mul (EC.bo (ec_ixO (eb_var 0) (EC.bo ec_int))) (EC.bo ec_int))) (EC.bo (ec_op opd_mod (eb_var 4) (EC.bo ec_int))))) (EC.bo (ec_ixO (eb_var 0) (EC.bo ec_int)))))
  (bc_cons (sc_setO (ec_op opd_mod (eb_var 5) (EC.bo ec_int)) (eb_var 0) (EC.bo ec_int))
  (bc_one (sc_ret (EC.bo (ec_op opd_mod (EC.bo (ec_op opd_div (EC.bo (ec_op opd_mod (EC.bo (ec_op opd_mul (EC.bo (ec_ixO (eb_var 0) (EC.bo ec_int))) (EC.bo (ec_ixO (eb_var 0) (EC.bo ec_int))))) (EC.bo ec_int))) (EC.bo ec_int))) (eb_var 1))))))))))))
theorem ok__law_text (T : TopX K w mg) : FnAt P w K mg base 2 "_law_text" ["_law_state_here", "_law_top"] (spD K 2 f__law_text) :=
  fnat T.F__law_text sc__law_text fun cdv A outer s H E hr =>
  (bc_cons (sc_set (i := 2) sc__law_text.nd (ec_ix ixd (EC.bo (EF.ec (ef_lst (ac_cons (ec_str (s := [97, 98, 49, 32])) (ac_cons (ec_str (s := [97, 98, 49, 48, 45, 42, 63, 32, 59, 61, 46])) (ac_cons (ec_str (s := [65, 90, 97, 122, 48, 57, 32, 33, 44, 47, 58, 60, 62, 64, 94, 95, 123, 124, 125, 126, 36, 38, 39, 40, 41, 43, 91, 93])) ac_nil)))))) (EC.bo (ec_callA (ok__law_next T) hr (ac_cons (ec_var 0) (ac_cons ec_int ac_nil))))))
  (bc_one (sc_ret (EC.bo (ec_m1 PySem.F.slot_str_join PySem.F.type_str_join md_join (EC.bo (ec_str (s := []))) (EC.bo (EF.ec (ef_lc sc__law_text.nd [("_law_k", 3)] (ic_range1 T.z_range (ab_cons (EC.bo (ec_callA (ok__law_next T) hr (ac_cons (ec_var 0) (ac_cons (ec_op opd_addA (eb_var 1) (EC.bo ec_int)) ac_nil)))) ab_nil)) tgin_name (fun _ _ _ _ _ => (gc_name 3 sc__law_text.nd)) (fun _ _ _ _ _ => tcs_nil) (fun _ _ _ _ _ => (ec_ix ixd (eb_var 2) (EC.bo (ec_callA (ok__law_next T) hr (ac_cons (ec_var 0) (ac_cons (ec_callB cd_len T.z_len b_len (ab_cons (eb_var 2) ab_nil)) ac_nil)))))) (blkOk_by (N := ["_law_state_here", "_law_top", "_law_signs", "_law_k"]) (sc := defScope (topS 89)) (by decide +kernel))))))))))
theorem ok__law_figures (T : TopX K w mg) : FnAt P w K mg base 2 "_law_figures" ["_law_state_here"] (spD K 1 f__law_figures) :=
  fnat T.F__law_figures sc__law_figures fun cdv A outer s H E hr =>
  (bc_cons (sc_set (i := 1) sc__law_figures.nd (EF.ec (ef_lst (ac_cons (ec_str (s := [48])) (ac_cons (ec_str (s := [55])) (ac_cons (ec_str (s := [45, 51])) (ac_cons (ec_str (s := [49, 50])) (ac_cons (ec_str (s := [49, 48, 48])) (ac_cons (ec_str (s := [45, 48])) (ac_cons (ec_str (s := [48, 48, 55])) (ac_cons (ec_str (s := [43, 52])) (ac_cons (ec_str (s := [49, 46])) (ac_cons (ec_str (s := [45, 45, 50])) (ac_cons (ec_str (s := [45])) (ac_cons (ec_op opd_mul (EC.bo (ec_str (s := [57]))) (EC.bo ec_int)) (ac_cons (ec_op opd_mul (EC.bo (ec_str (s := [57]))) (EC.bo ec_int)) (ac_cons (ec_op opd_addA (EC.bo (ec_str (s := [45]))) (EC.bo (ec_op opd_mul (EC.bo (ec_str (s := [57]))) (EC.bo ec_int)))) ac_nil)))))))))))))))))
  (bc_cons (sc_set (i := 1) sc__law_figures.nd (ec_op opd_addA (eb_var 1) (EC.bo (EF.ec (ef_lst (ac_cons (ec_op opd_addA (EC.bo (ec_str (s := [49]))) (EC.bo (ec_op opd_mul (EC.bo (ec_str (s := [48]))) (EC.bo ec_int)))) (ac_cons (ec_op opd_addA (EC.bo (ec_str (s := [49]))) (EC.bo (ec_op opd_mul (EC.bo (ec_str (s := [48]))) (EC.bo ec_int)))) (ac_cons (ec_op opd_addA (EC.bo (ec_str (s := [45]))) (EC.bo (ec_op opd_mul (EC.bo (ec_str (s := [49]))) (EC.bo ec_int)))) (ac_cons (ec_str (s := [48, 48])) ac_nil)))))))))
  (bc_cons (sc_if (tc_cmp (opd_eq hr.units) (EC.bo (ec_callA (ok__law_next T) hr (ac_cons (ec_var 0) (ac_cons ec_int ac_nil)))) (EC.bo ec_int)) (bc_one (sc_ret (EC.bo (ec_ix ixd (eb_var 1) (EC.bo (ec_callA (ok__law_next T) hr (ac_cons (ec_var 0) (ac_cons ec_int ac_nil)))))))) bc_nil)
  (bc_one (sc_ret (EC.bo (ec_callT cd_str T.z_str b_str (ab_cons (EC.bo (ec_op opd_sub (EC.bo (ec_callA (ok__law_next T) hr (ac_cons (ec_var 0) (ac_cons ec_int ac_nil)))) (EC.bo ec_int))) ab_nil))))))))
theorem ok__law_line (T : TopX K w mg) : FnAt P w K mg base 3 "_law_line" ["_law_state_here"] (spD K 1 f__law_line) :=
  fnat T.F__law_line sc__law_line fun cdv A outer s H E hr =>
  (bc_cons (sc_set (i := 1) sc__law_line.nd (ec_callA (ok__law_next T) hr (ac_cons (ec_var 0) (ac_cons ec_int ac_nil))))
  (bc_cons (sc_if (tc_cmp opd_lt (eb_var 1) (EC.bo ec_int)) (bc_one (sc_ret (EC.bo (ec_callA (ok__law_text T) hr (ac_cons (ec_var 0) (ac_cons ec_int ac_nil)))))) bc_nil)
  (bc_cons (sc_if (tc_cmp opd_lt (eb_var 1) (EC.bo ec_int)) (bc_one (sc_ret (EC.bo (ec_callA (ok__law_figures T) hr (ac_cons (ec_var 0) ac_nil))))) bc_nil)
  (bc_cons (sc_if (tc_cmp opd_lt (eb_var 1) (EC.bo ec_int)) (bc_cons (sc_set (i := 2) sc__law_line.nd (ec_op opd_mul (EC.bo (ec_str (s := [32]))) (EC.bo (ec_callA (ok__law_next T) hr (ac_cons (ec_var 0) (ac_cons ec_int ac_nil))))))
  (bc_cons (sc_for (ic_range1 T.z_range (ab_cons (EC.bo (ec_callA (ok__law_next T) hr (ac_cons (ec_var 0) (ac_cons ec_int ac_nil)))) ab_nil)) (gc_name 3 sc__law_line.nd) (bc_cons (sc_set (i := 4) sc__law_line.nd (ec_ix ixd (EC.bo (EF.ec (ef_lst (ac_cons (ec_callA (ok__law_figures T) hr (ac_cons (ec_var 0) ac_nil)) (ac_cons (ec_slice (EC.bo (ec_str (s := [97, 98]))) oc_none (oc_some (ec_op opd_addA (EC.bo ec_int) (EC.bo (ec_callA (ok__law_next T) hr (ac_cons (ec_var 0) (ac_cons ec_int ac_nil))))))) (ac_cons (ec_op opd_addA (EC.bo (ec_str (s := [120]))) (EC.bo (ec_callT cd_str T.z_str b_str (ab_cons (eb_var 3) ab_nil)))) ac_nil)))))) (EC.bo (ec_callA (ok__law_next T) hr (ac_cons (ec_var 0) (ac_cons ec_int ac_nil))))))
  (bc_one (sc_set (i := 2) sc__law_line.nd (ec_op opd_addA (EC.bo (ec_op opd_addA (eb_var 2) (eb_var 4))) (EC.bo (ec_op opd_mul (EC.bo (ec_str (s := [32]))) (EC.bo (ec_op opd_addA (EC.bo ec_int) (EC.bo (ec_callA (ok__law_next T) hr (ac_cons (ec_var 0) (ac_cons ec_int ac_nil)))))))))))))
  (bc_one (sc_ret (EC.bo (ec_slice (eb_var 2) oc_none (oc_some ec_int))))))) bc_nil)
  (bc_cons (sc_set (i := 4) sc__law_line.nd (ec_ix ixd (EC.bo (EF.ec (ef_lst (ac_cons (ec_str (s := [97])) (ac_cons (ec_str (s := [97, 98])) (ac_cons (ec_str (s := [49, 32])) ac_nil)))))) (EC.bo (ec_callA (ok__law_next T) hr (ac_cons (ec_var 0) (ac_cons ec_int ac_nil))))))
  (bc_one (sc_ret (EC.bo (ec_slice (EC.bo (ec_op opd_addA (EC.bo (ec_callA (ok__law_text T) hr (ac_cons (ec_var 0) (ac_cons ec_int ac_nil)))) (EC.bo (ec_op opd_mul (eb_var 4) (EC.bo ec_int))))) oc_none (oc_some (ec_op opd_addA (EC.bo ec_int) (EC.bo (ec_callA (ok__law_next T) hr (ac_cons (ec_var 0) (ac_cons ec_int ac_nil)))))))))))))))
theorem ok__law_lines (T : TopX K w mg) : FnAt P w K mg base 4 "_law_lines" ["_law_state_here", "_law_top"] (spD K 2 f__law_lines) :=
  fnat T.F__law_lines sc__law_lines fun cdv A outer s H E hr =>
  (bc_cons (sc_own (i := 2) sc__law_lines.nd (ef_lst ac_nil))
  (bc_cons (sc_for (ic_range1 T.z_range (ab_cons (EC.bo (ec_callA (ok__law_next T) hr (ac_cons (ec_var 0) (ac_cons (ec_op opd_addA (eb_var 1) (EC.bo ec_int)) ac_nil)))) ab_nil)) (gc_name 3 sc__law_lines.nd) (bc_one (sc_if (TW.tc (tw_and (tc_cmp (opd_ne hr.units) (eb_var 2) (EC.bo (EF.ec (ef_lst ac_nil)))) (tw_and1 (tc_cmp (opd_eq hr.units) (EC.bo (ec_callA (ok__law_next T) hr (ac_cons (ec_var 0) (ac_cons ec_int ac_nil)))) (EC.bo ec_int))))) (bc_one (sc_app (i := 2) (ec_ix ixd (eb_var 2) (EC.bo (ec_callA (ok__law_next T) hr (ac_cons (ec_var 0) (ac_cons (ec_callB cd_len T.z_len b_len (ab_cons (eb_var 2) ab_nil)) ac_nil))))))) (bc_one (sc_app (i := 2) (ec_callA (ok__law_line T) hr (ac_cons (ec_var 0) ac_nil)))))))
  (bc_one (sc_ret (EC.bo (ec_callT cd_tuple T.z_tuple b_tuple (ab_cons (eb_var 2) ab_nil)))))))
theorem ok__law_single (T : TopX K w mg) : FnAt P w K mg base 1 "_law_single" ["_law_lines_here"] (spD K 1 f__law_single) :=
  fnat T.F__law_single sc__law_single fun cdv A outer s H E hr =>
  (bc_cons (sc_own (i := 1) sc__law_single.nd (ef_lst ac_nil))
  (bc_cons (sc_for (ic_range1 T.z_range (ab_cons (EC.bo (ec_callB cd_len T.z_len b_len (ab_cons (eb_var 0) ab_nil))) ab_nil)) (gc_name 2 sc__law_single.nd) (bc_one (sc_if (TW.tc (tw_or (tc_cmp (opd_eq hr.units) (eb_var 2) (EC.bo ec_int)) (tw_or1 (tc_cmp (opd_ne hr.units) (EC.bo (ec_ix ixd (eb_var 0) (eb_var 2))) (EC.bo (ec_ix ixd (eb_var 0) (EC.bo (ec_op opd_sub (eb_var 2) (EC.bo ec_int))))))))) (bc_one (sc_app (i := 1) (ec_ix ixd (eb_var 0) (eb_var 2)))) bc_nil)))
  (bc_one (sc_ret (EC.bo (ec_callT cd_tuple T.z_tuple b_tuple (ab_cons (eb_var 1) ab_nil)))))))
theorem ok__law_same (T : TopX K w mg) : ∀ n : Nat, FnAt P w K mg base (1 + n) "_law_same" ["_law_found", "_law_due"] (spD K 2 (f__law_same n))
  | 0 => fnat T.F__law_same sc__law_same fun cdv A outer s H E hr => bc_dead
  | n + 1 => fnat (k := 1 + n) T.F__law_same sc__law_same fun cdv A outer s H E hr =>
  (bc_cons (sc_if (tc_tru (EC.bo (ec_isi2 T.z_isinstance T.z_tuple b_tuple T.z_list b_list (eb_var 1)))) (bc_cons (sc_if (TW.tc (tw_or (tc_cmp (opd_ne hr.units) (EC.bo (ec_isi T.z_isinstance T.z_tuple b_tuple (eb_var 0))) (EC.bo (ec_isi T.z_isinstance T.z_tuple b_tuple (eb_var 1)))) (tw_or1 (tc_cmp (opd_ne hr.units) (EC.bo (ec_isi T.z_isinstance T.z_list b_list (eb_var 0))) (EC.bo (ec_isi T.z_isinstance T.z_list b_list (eb_var 1))))))) (bc_one (sc_ret (EC.bo ec_bl))) bc_nil)
  (bc_cons (sc_if (tc_cmp (opd_ne hr.units) (EC.bo (ec_callB cd_len T.z_len b_len (ab_cons (eb_var 0) ab_nil))) (EC.bo (ec_callB cd_len T.z_len b_len (ab_cons (eb_var 1) ab_nil)))) (bc_one (sc_ret (EC.bo ec_bl))) bc_nil)
  (bc_one (sc_ret (EC.bo (ec_callB (cd_all rfl) T.z_all b_all (ab_cons (EC.bo (EF.ec (ef_lc sc__law_same.nd [("_law_one", 2), ("_law_other", 3)] (ic_zip T.z_zip (ac_cons (ec_var 0) (ac_cons (ec_var 1) ac_nil))) (tgin_tup (tgsin_cons tgin_name (tgsin_cons tgin_name tgsin_nil))) (fun _ _ _ _ _ => (gc_tup rfl (gcs_cons (gc_name 2 sc__law_same.nd) (gcs_cons (gc_name 3 sc__law_same.nd) gcs_nil)))) (fun _ _ _ _ _ => tcs_nil) (fun _ _ _ _ _ => (ec_callA (ok__law_same T n) hr (ac_cons (ec_var 2) (ac_cons (ec_var 3) ac_nil)) (by omega))) (blkOk_by (N := ["_law_found", "_law_due", "_law_one", "_law_other"]) (sc := defScope (topS 88)) (by decide +kernel))))) ab_nil))))))) bc_nil)
  (bc_cons (sc_if (tc_cmp opd_is (eb_var 1) (EC.bo ec_non)) (bc_one (sc_ret (EC.bo (ec_cmp opd_is (eb_var 0) (EC.bo ec_non))))) bc_nil)
  (bc_cons (sc_if (tc_tru (EC.bo (ec_isi T.z_isinstance T.z_str b_str (eb_var 1)))) (bc_one (sc_ret (EC.bo (ec_and (ec_isi T.z_isinstance T.z_str b_str (eb_var 0)) (ec_one (ec_cmp (opd_eq hr.units) (eb_var 0) (eb_var 1))))))) bc_nil)
  (bc_one (sc_ret (EC.bo (ec_and (ec_isi T.z_isinstance T.z_int b_int (eb_var 0)) (ec_and (ec_cmp (opd_eq hr.units) (EC.bo (ec_isi T.z_isinstance T.z_bool b_bool (eb_var 0))) (EC.bo (ec_isi T.z_isinstance T.z_bool b_bool (eb_var 1)))) (ec_one (ec_cmp (opd_eq hr.units) (eb_var 0) (eb_var 1)))))))))))
theorem ok_Stream____init__ (T : TopX K w mg) : FnA P w K mg base 1 (He.ma K (He.ga K "Stream") "__init__") ["self", "words"] (spD K 2 f_Stream____init__) :=
  fnm T.F_Stream____init__ sc_Stream____init__ fun cdv A outer s H E hr =>
  (bc_one (sc_fld (clsF_cons T.c_First T.n_First_words (clsF_cons T.c_Single T.n_Single_words (clsF_cons T.c_Count T.n_Count_words clsF_nil))) (eb_var 0) (ec_var 1)))
theorem ok_Gathering____init__ (T : TopX K w mg) : FnA P w K mg base 2 (He.ma K (He.ga K "Gathering") "__init__") ["self", "words"] (spD K 2 f_Gathering____init__) :=
  fnm T.F_Gathering____init__ sc_Gathering____init__ fun cdv A outer s H E hr =>
  (bc_cons (sc_drop (EC.bo (ec_cfn T.cf_Stream___init__ (ok_Stream____init__ T) hr T.g_Stream (ac_cons (ec_var 0) (ac_cons (ec_var 1) ac_nil)))))
  (bc_one (sc_fld (clsF_cons T.c_Count T.n_Count_lines clsF_nil) (eb_var 0) (EF.st (ef_lst ac_nil)))))
theorem ok_gathering_of (T : TopX K w mg) : FnAt P w K mg base 4 "gathering_of" ["words"] (spD K 1 f_gathering_of) :=
  fnat T.F_gathering_of sc_gathering_of fun cdv A outer s H E hr =>
  (bc_cons (sc_if (TW.tc (tw_and (tc_cmp (opd_eq hr.units) (EC.bo (ec_slice (eb_var 0) oc_none (oc_some ec_int))) (EC.bo (ec_tup (ac_cons (ec_str (s := [112, 105, 99, 107])) (ac_cons (ec_str (s := [110, 101, 97, 114])) ac_nil))))) (tw_and1 (tc_cmp (opd_eq hr.units) (EC.bo (ec_callB cd_len T.z_len b_len (ab_cons (eb_var 0) ab_nil))) (EC.bo ec_int))))) (bc_one (sc_ret (EC.bo ec_dead))) bc_nil)
  (bc_cons (sc_if (tc_cmp (opd_eq hr.units) (EC.bo (ec_ix ixd (eb_var 0) (EC.bo ec_int))) (EC.bo (ec_str (s := [99, 111, 117, 110, 116])))) (bc_one (sc_ret (EC.bo (ec_make (C := 4) T.mk_Count (FnA.at T.s_Count___init__ (ok_Gathering____init__ T)) hr T.g_Count (ac_cons (ec_var 0) ac_nil))))) bc_nil)
  (bc_cons (sc_if (tc_cmp (opd_eq hr.units) (EC.bo (ec_ix ixd (eb_var 0) (EC.bo ec_int))) (EC.bo (ec_str (s := [115, 111, 114, 116])))) (bc_one (sc_ret (EC.bo ec_dead))) bc_nil)
  (bc_one (sc_ret (EC.bo ec_non))))))
theorem ok_number_in (T : TopX K w mg) : FnAt P w K mg base 1 "number_in" ["text"] (spD K 1 f_number_in) :=
  fnat T.F_number_in sc_number_in fun cdv A outer s H E hr =>
  (bc_cons (sc_set (i := 1) sc_number_in.nd (ec_var 0))
  (bc_cons (sc_if (tc_tru (EC.bo (ec_m1 PySem.F.slot_str_startswith PySem.F.type_str_startswith md_starts (eb_var 0) (EC.bo (ec_str (s := [45])))))) (bc_one (sc_set (i := 1) sc_number_in.nd (ec_slice (eb_var 0) (oc_some ec_int) oc_none))) bc_nil)
  (bc_cons (sc_if (TW.tc (tw_or (tc_not (tc_chain opd_le opd_le (EC.bo ec_int) (EC.bo (ec_callB cd_len T.z_len b_len (ab_cons (eb_var 1) ab_nil))) (EC.bo (ec_gintE T.c_NUMBER)))) (tw_or1 (tc_not (tc_tru (EC.bo (ec_callB (cd_all rfl) T.z_all b_all (ab_cons (EC.bo (EF.ec (ef_lc sc_number_in.nd [("sign", 2)] (ic_seq (ec_var 1)) tgin_name (fun _ _ _ _ _ => (gc_name 2 sc_number_in.nd)) (fun _ _ _ _ _ => tcs_nil) (fun _ _ _ _ _ => (ec_cmp opd_in (eb_var 2) (EC.bo (ec_gstrE T.c_FIGURES)))) (blkOk_by (N := ["text", "figures", "sign"]) (sc := defScope (topS 8)) (by decide +kernel))))) ab_nil)))))))) (bc_one (sc_ret (EC.bo ec_non))) bc_nil)
  (bc_cons (sc_if (TW.tc (tw_and (tc_cmp (opd_eq hr.units) (EC.bo (ec_ix ixd (eb_var 1) (EC.bo ec_int))) (EC.bo (ec_str (s := [48])))) (tw_and1 (tc_cmp (opd_ne hr.units) (eb_var 0) (EC.bo (ec_str (s := [48]))))))) (bc_one (sc_ret (EC.bo ec_non))) bc_nil)
  (bc_one (sc_ret (EC.bo (ec_callT cd_int T.z_int b_int (ab_cons (eb_var 0) ab_nil)))))))))
theorem ok_First____init__ (T : TopX K w mg) : FnA P w K mg base 2 (He.ma K (He.ga K "First") "__init__") ["self", "words"] (spD K 2 f_First____init__) :=
  fnm T.F_First____init__ sc_First____init__ fun cdv A outer s H E hr =>
  (bc_cons (sc_drop (EC.bo (ec_cfn T.cf_Stream___init__ (ok_Stream____init__ T) hr T.g_Stream (ac_cons (ec_var 0) (ac_cons (ec_var 1) ac_nil)))))
  (bc_one (sc_fld (clsF_cons T.c_First T.n_First_left clsF_nil) (eb_var 0) (ec_callA (ok_number_in T) hr (ac_cons (ec_ix ixd (eb_var 1) (EC.bo ec_int)) ac_nil)))))
theorem ok_Single____init__ (T : TopX K w mg) : FnA P w K mg base 2 (He.ma K (He.ga K "Single") "__init__") ["self", "words"] (spD K 2 f_Single____init__) :=
  fnm T.F_Single____init__ sc_Single____init__ fun cdv A outer s H E hr =>
  (bc_cons (sc_drop (EC.bo (ec_cfn T.cf_Stream___init__ (ok_Stream____init__ T) hr T.g_Stream (ac_cons (ec_var 0) (ac_cons (ec_var 1) ac_nil)))))
  (bc_one (sc_fld (clsF_cons T.c_Single T.n_Single_last clsF_nil) (eb_var 0) ec_non)))
theorem ok_stream_of (T : TopX K w mg) : FnAt P w K mg base 5 "stream_of" ["words"] (spD K 1 f_stream_of) :=
  fnat T.F_stream_of sc_stream_of fun cdv A outer s H E hr =>
  (bc_cons (sc_set (i := 1) sc_stream_of.nd (ec_ix ixd (eb_var 0) (EC.bo ec_int)))
  (bc_cons (sc_if (TW.tc (tw_and (tc_cmp (opd_eq hr.units) (eb_var 1) (EC.bo (ec_str (s := [112, 105, 99, 107])))) (tw_and1 (tc_cmp opd_lt (EC.bo (ec_callB cd_len T.z_len b_len (ab_cons (eb_var 0) ab_nil))) (EC.bo ec_int))))) (bc_one (sc_ret (EC.bo ec_dead))) bc_nil)
  (bc_cons (sc_if (tc_cmp (opd_eq hr.units) (eb_var 1) (EC.bo (ec_str (s := [99, 117, 116])))) (bc_one (sc_ret (EC.bo ec_dead))) bc_nil)
  (bc_cons (sc_if (tc_cmp (opd_eq hr.units) (eb_var 1) (EC.bo (ec_str (s := [102, 105, 114, 115, 116])))) (bc_one (sc_ret (EC.bo (ec_make (C := 7) T.mk_First (ok_First____init__ T) hr T.g_First (ac_cons (ec_var 0) ac_nil))))) bc_nil)
  (bc_cons (sc_if (tc_cmp (opd_eq hr.units) (eb_var 1) (EC.bo (ec_str (s := [115, 105, 110, 103, 108, 101])))) (bc_one (sc_ret (EC.bo (ec_make (C := 8) T.mk_Single (ok_Single____init__ T) hr T.g_Single (ac_cons (ec_var 0) ac_nil))))) bc_nil)
  (bc_cons (sc_if (tc_cmp (opd_eq hr.units) (eb_var 1) (EC.bo (ec_str (s := [116, 101, 108, 108])))) (bc_one (sc_ret (EC.bo ec_dead))) bc_nil)
  (bc_cons (sc_if (tc_cmp (opd_eq hr.units) (eb_var 1) (EC.bo (ec_str (s := [101, 100, 105, 116])))) (bc_one (sc_ret (EC.bo ec_dead))) bc_nil)
  (bc_one (sc_ret (EC.bo (ec_callA (ok_gathering_of T) hr (ac_cons (ec_var 0) ac_nil))))))))))))
theorem ok_Stream__close (T : TopX K w mg) : FnA P w K mg base 1 (He.ma K (He.ga K "Stream") "close") ["self"] (spD K 1 f_Stream__close) :=
  fnm T.F_Stream__close sc_Stream__close fun cdv A outer s H E hr =>
  (bc_one (sc_ret (EC.bo (EF.ec (ef_lst ac_nil)))))
theorem ok_Count__close (T : TopX K w mg) : FnA P w K mg base 1 (He.ma K (He.ga K "Count") "close") ["self"] (spD K 1 f_Count__close) :=
  fnm T.F_Count__close sc_Count__close fun cdv A outer s H E hr =>
  (bc_one (sc_ret (EC.bo (EF.ec (ef_lst (ac_cons (ec_callT cd_str T.z_str b_str (ab_cons (EC.bo (ec_lenO T.z_len (EC.bo (ec_fld (clsF_cons T.c_Count T.n_Count_lines clsF_nil) (eb_var 0))))) ab_nil)) ac_nil))))))
theorem ok_Stream__ending (T : TopX K w mg) : FnA P w K mg base 1 (He.ma K (He.ga K "Stream") "ending") ["self"] (spD K 1 f_Stream__ending) :=
  fnm T.F_Stream__ending sc_Stream__ending fun cdv A outer s H E hr =>
  (bc_one (sc_ret (EC.bo ec_int)))
theorem ok_First__feed (T : TopX K w mg) : FnA P w K mg base 1 (He.ma K (He.ga K "First") "feed") ["self", "line"] (spD K 2 f_First__feed) :=
  fnm T.F_First__feed sc_First__feed fun cdv A outer s H E hr =>
  (bc_cons (sc_if (tc_cmp (opd_eq hr.units) (EC.bo (ec_fld (clsF_cons T.c_First T.n_First_left clsF_nil) (eb_var 0))) (EC.bo ec_int)) (bc_one (sc_ret (EC.bo (EF.ec (ef_lst ac_nil))))) bc_nil)
  (bc_cons (sc_fldSub (clsF_cons T.c_First T.n_First_left clsF_nil) (eb_var 0) ec_int)
  (bc_one (sc_ret (EC.bo (EF.ec (ef_lst (ac_cons (ec_var 1) ac_nil))))))))
theorem ok_Single__feed (T : TopX K w mg) : FnA P w K mg base 1 (He.ma K (He.ga K "Single") "feed") ["self", "line"] (spD K 2 f_Single__feed) :=
  fnm T.F_Single__feed sc_Single__feed fun cdv A outer s H E hr =>
  (bc_cons (sc_set (i := 2) sc_Single__feed.nd (ec_cmp (opd_eq hr.units) (eb_var 1) (EC.bo (ec_fld (clsF_cons T.c_Single T.n_Single_last clsF_nil) (eb_var 0)))))
  (bc_cons (sc_fld (clsF_cons T.c_Single T.n_Single_last clsF_nil) (eb_var 0) (ec_var 1))
  (bc_cons (sc_if (tc_tru (eb_var 2)) (bc_one (sc_ret (EC.bo (EF.ec (ef_lst ac_nil))))) bc_nil)
  (bc_one (sc_ret (EC.bo (EF.ec (ef_lst (ac_cons (ec_var 1) ac_nil)))))))))
theorem ok_Gathering__feed (T : TopX K w mg) : FnA P w K mg base 1 (He.ma K (He.ga K "Gathering") "feed") ["self", "line"] (spD K 2 f_Gathering__feed) :=
  fnm T.F_Gathering__feed sc_Gathering__feed fun cdv A outer s H E hr =>
  (bc_cons (sc_appO (EC.bo (ec_fld (clsF_cons T.c_Count T.n_Count_lines clsF_nil) (eb_var 0))) (ec_var 1))
  (bc_one (sc_ret (EC.bo (EF.ec (ef_lst ac_nil))))))
theorem ok_streamed (T : TopX K w mg) : FnAt P w K mg base 2 "streamed" ["stream", "lines"] (spD K 2 f_streamed) :=
  fnat T.F_streamed sc_streamed fun cdv A outer s H E hr =>
  (bc_cons (sc_own (i := 2) sc_streamed.nd (ef_lst ac_nil))
  (bc_cons (sc_for (ic_seq (ec_var 1)) (gc_name 3 sc_streamed.nd) (bc_one (sc_extA (i := 2) (ec_meth (methT_cons T.c_First T.m_First_feed (ok_First__feed T) (methT_cons T.c_Single T.m_Single_feed (ok_Single__feed T) (methT_cons T.c_Count T.m_Count_feed (FnA.at T.s_Count_feed (ok_Gathering__feed T)) methT_nil))) hr (eb_var 0) (ac_cons (ec_var 3) ac_nil)))))
  (bc_cons (sc_extA (i := 2) (ec_meth0 (methT_cons T.c_First T.m_First_close (FnA.at T.s_First_close (ok_Stream__close T)) (methT_cons T.c_Single T.m_Single_close (FnA.at T.s_Single_close (ok_Stream__close T)) (methT_cons T.c_Count T.m_Count_close (ok_Count__close T) methT_nil))) hr (eb_var 0)))
  (bc_one (sc_ret (EC.bo (ec_tup (ac_cons (ec_tup (ac_cons (ec_callT cd_tuple T.z_tuple b_tuple (ab_cons (EC.bo (ec_slice (eb_var 2) oc_none (oc_some (ec_gintE T.c_MOST)))) ab_nil)) ac_nil)) (ac_cons (ec_meth0 (methT_cons T.c_First T.m_First_ending (FnA.at T.s_First_ending (ok_Stream__ending T)) (methT_cons T.c_Single T.m_Single_ending (FnA.at T.s_Single_ending (ok_Stream__ending T)) (methT_cons T.c_Count T.m_Count_ending (FnA.at T.s_Count_ending (ok_Stream__ending T)) methT_nil))) hr (eb_var 0)) ac_nil)))))))))
theorem ok_told (T : TopX K w mg) : FnAt P w K mg base 6 "told" ["words", "inputs"] (spD K 2 f_told) :=
  fnat T.F_told sc_told fun cdv A outer s H E hr =>
  (bc_cons (sc_if (tc_cmp (opd_eq hr.units) (EC.bo (ec_ix ixd (eb_var 0) (EC.bo ec_int))) (EC.bo (ec_str (s := [116, 101, 115, 116])))) (bc_one (sc_ret (EC.bo (ec_tup (ac_cons (ec_tup ac_nil) (ac_cons (ec_callT cd_int T.z_int b_int (ab_cons (EC.bo (ec_not ec_dead)) ab_nil)) ac_nil)))))) bc_nil)
  (bc_cons (sc_set (i := 2) sc_told.nd (ec_callA (ok_stream_of T) hr (ac_cons (ec_var 0) ac_nil)))
  (bc_cons (sc_if (tc_cmp opd_isnot (eb_var 2) (EC.bo ec_non)) (bc_one (sc_ret (EC.bo (ec_callA (ok_streamed T) hr (ac_cons (ec_var 2) (ac_cons (ec_ix ixd (eb_var 1) (EC.bo ec_int)) ac_nil)))))) bc_nil)
  (bc_cons (sc_set (i := 3) sc_told.nd (ec_tabIx T.t_JOINED (EC.bo (ec_ix ixd (eb_var 0) (EC.bo ec_int)))))
  (bc_cons (sc_unp ec_dead (gc_tup rfl (gcs_cons (gc_name 4 sc_told.nd) (gcs_cons (gc_name 5 sc_told.nd) gcs_nil))))
  (bc_one (sc_ret (EC.bo (ec_tup (ac_cons (ec_callT cd_tuple T.z_tuple b_tuple (ab_cons (EC.bo (EF.ec (ef_lc sc_told.nd [("lines", 6)] (ic_seq (ec_var 4)) tgin_name (fun _ _ _ _ _ => (gc_name 6 sc_told.nd)) (fun _ _ _ _ _ => tcs_nil) (fun _ _ _ _ _ => (ec_callT cd_tuple T.z_tuple b_tuple (ab_cons (EC.bo (ec_slice (eb_var 6) oc_none (oc_some (ec_gintE T.c_MOST)))) ab_nil))) (blkOk_by (N := ["words", "inputs", "stream", "joined", "outputs", "outcome", "lines"]) (sc := defScope (topS 84)) (by decide +kernel))))) ab_nil)) (ac_cons (ec_var 5) ac_nil)))))))))))
theorem ok__law_told_right (T : TopX K w mg) : FnAt P w K mg base 10 "_law_told_right" ["_law_words", "_law_lines_here", "_law_due"] (spD K 3 f__law_told_right) :=
  fnat T.F__law_told_right sc__law_told_right fun cdv A outer s H E hr =>
  (bc_cons (sc_for (ic_range1 T.z_range (ab_cons (EC.bo ec_int) ab_nil)) (gc_name 3 sc__law_told_right.nd) (bc_one (sc_if (tc_not (tc_tru (EC.bo (ec_callA (ok__law_same T 8) hr (ac_cons (ec_callA (ok_told T) hr (ac_cons (ec_var 0) (ac_cons (ec_tup (ac_cons (ec_var 1) ac_nil)) ac_nil))) (ac_cons (ec_tup (ac_cons (ec_tup (ac_cons (ec_var 2) ac_nil)) (ac_cons ec_int ac_nil))) ac_nil)))))) (bc_one (sc_ret (EC.bo ec_bl))) bc_nil)))
  (bc_one (sc_ret (EC.bo ec_bl))))
theorem ok_law (T : TopX K w mg) : FnAt P w K mg base 11 "law" ["_law_script"] (spD K 1 f_law) :=
  fnat T.F_law sc_law fun cdv A outer s H E hr =>
  (bc_cons (sc_set (i := 1) sc_law.nd (ec_callA (ok__law_state T) hr (ac_cons (ec_var 0) ac_nil)))
  (bc_cons (sc_set (i := 2) sc_law.nd (ec_callA (ok__law_lines T) hr (ac_cons (ec_var 1) (ac_cons ec_int ac_nil))))
  (bc_cons (sc_if (tc_cmp (opd_eq hr.units) (EC.bo (ec_callA (ok__law_next T) hr (ac_cons (ec_var 1) (ac_cons ec_int ac_nil)))) (EC.bo ec_int)) (bc_one (sc_set (i := 2) sc_law.nd (ec_callT cd_tuple T.z_tuple b_tuple (ab_cons (EC.bo (EF.ec (ef_lc sc_law.nd [("_law_k", 8)] (ic_range1 T.z_range (ab_cons (EC.bo (ec_op opd_addA (EC.bo ec_int) (EC.bo (ec_callA (ok__law_next T) hr (ac_cons (ec_var 1) (ac_cons ec_int ac_nil)))))) ab_nil)) tgin_name (fun _ _ _ _ _ => (gc_name 8 sc_law.nd)) (fun _ _ _ _ _ => tcs_nil) (fun _ _ _ _ _ => (ec_callA (ok__law_text T) hr (ac_cons (ec_var 1) (ac_cons ec_int ac_nil)))) (blkOk_by (N := ["_law_script", "_law_state_here", "_law_lines_here", "_law_doubled", "_law_line_here", "_law_single_here", "_law_many", "_law_some", "_law_k"]) (sc := defScope (topS 95)) (by decide +kernel))))) ab_nil)))) bc_nil)
  (bc_cons (sc_if (tc_cmp (opd_eq hr.units) (EC.bo (ec_callA (ok__law_next T) hr (ac_cons (ec_var 1) (ac_cons ec_int ac_nil)))) (EC.bo ec_int)) (bc_cons (sc_own (i := 3) sc_law.nd (ef_lst ac_nil))
  (bc_cons (sc_for (ic_seq (ec_var 2)) (gc_name 4 sc_law.nd) (bc_one (sc_extA (i := 3) (EF.ec (ef_rep (ef_lst (ac_cons (ec_var 4) ac_nil)) (ec_op opd_addA (EC.bo ec_int) (EC.bo (ec_op opd_mod (EC.bo (ec_callB cd_len T.z_len b_len (ab_cons (eb_var 4) ab_nil))) (EC.bo ec_int)))))))))
  (bc_one (sc_set (i := 2) sc_law.nd (ec_callT cd_tuple T.z_tuple b_tuple (ab_cons (EC.bo (ec_slice (eb_var 3) oc_none (oc_some ec_int))) ab_nil)))))) bc_nil)
  (bc_cons (sc_set (i := 5) sc_law.nd (ec_callA (ok__law_single T) hr (ac_cons (ec_var 2) ac_nil)))
  (bc_cons (sc_if (TW.tc (tw_or (tc_not (tc_tru (EC.bo (ec_callA (ok__law_told_right T) hr (ac_cons (ec_tup (ac_cons (ec_str (s := [115, 105, 110, 103, 108, 101])) ac_nil)) (ac_cons (ec_var 2) (ac_cons (ec_var 5) ac_nil))))))) (tw_or1 (tc_not (tc_tru (EC.bo (ec_callA (ok__law_told_right T) hr (ac_cons (ec_tup (ac_cons (ec_str (s := [115, 105, 110, 103, 108, 101])) ac_nil)) (ac_cons (ec_var 5) (ac_cons (ec_var 5) ac_nil)))))))))) (bc_one (sc_ret (EC.bo ec_bl))) bc_nil)
  (bc_cons (sc_for (ic_seq (EF.ec (ef_lst (ac_cons ec_int (ac_cons ec_int (ac_cons ec_int (ac_cons (ec_callB (cd_min2 rfl) T.z_min b_min (ab_cons (EC.bo ec_int) (ab_cons (EC.bo (ec_callB cd_len T.z_len b_len (ab_cons (eb_var 2) ab_nil))) ab_nil))) (ac_cons (ec_op opd_mod (EC.bo (ec_callB (cd_max2 rfl) T.z_max b_max (ab_cons (EC.bo ec_int) (ab_cons (EC.bo (ec_op opd_sub (EC.bo (ec_callB cd_len T.z_len b_len (ab_cons (eb_var 2) ab_nil))) (EC.bo ec_int))) ab_nil)))) (EC.bo ec_int)) (ac_cons (ec_callA (ok__law_next T) hr (ac_cons (ec_var 1) (ac_cons ec_int ac_nil))) ac_nil))))))))) (gc_name 6 sc_law.nd) (bc_cons (sc_set (i := 7) sc_law.nd (ec_slice (eb_var 2) oc_none (oc_some (ec_var 6))))
  (bc_cons (sc_if (tc_not (tc_tru (EC.bo (ec_callA (ok__law_told_right T) hr (ac_cons (ec_tup (ac_cons (ec_str (s := [102, 105, 114, 115, 116])) (ac_cons (ec_callT cd_str T.z_str b_str (ab_cons (eb_var 6) ab_nil)) ac_nil))) (ac_cons (ec_var 2) (ac_cons (ec_var 7) ac_nil))))))) (bc_one (sc_ret (EC.bo ec_bl))) bc_nil)
  (bc_one (sc_if (tc_not (tc_tru (EC.bo (ec_callA (ok__law_told_right T) hr (ac_cons (ec_tup (ac_cons (ec_str (s := [99, 111, 117, 110, 116])) ac_nil)) (ac_cons (ec_var 7) (ac_cons (ec_tup (ac_cons (ec_callT cd_str T.z_str b_str (ab_cons (EC.bo (ec_callB (cd_min2 rfl) T.z_min b_min (ab_cons (eb_var 6) (ab_cons (EC.bo (ec_callB cd_len T.z_len b_len (ab_cons (eb_var 2) ab_nil))) ab_nil)))) ab_nil)) ac_nil)) ac_nil))))))) (bc_one (sc_ret (EC.bo ec_bl))) bc_nil)))))
  (bc_one (sc_ret (EC.bo (ec_callA (ok__law_told_right T) hr (ac_cons (ec_tup (ac_cons (ec_str (s := [99, 111, 117, 110, 116])) ac_nil)) (ac_cons (ec_var 2) (ac_cons (ec_tup (ac_cons (ec_callT cd_str T.z_str b_str (ab_cons (EC.bo (ec_callB cd_len T.z_len b_len (ab_cons (eb_var 2) ab_nil))) ab_nil)) ac_nil)) ac_nil))))))))))))))
end
end
end W

namespace L3
open L2 (atI ixN)
open PySem
/-! heads and tails -/
theorem sIx_nat (n d k : Nat) : HT.sIx n d (some (k : Int)) = min k n := by
  show min (if (k : Int) < 0 then ((k : Int) + n).toNat else (k : Int).toNat) n = _
  rw [if_neg (by omega)]
  simp
theorem cut_take {β : Type} (s : List β) {i : Int} (k : Nat) (h : i = k := by rfl) : cutL s none (some i) = s.take k := by
  subst h
  unfold cutL
  rw [sIx_nat]
  show (s.drop 0).take (min k s.length - 0) = _
  rw [List.drop_zero, Nat.sub_zero]
  by_cases h : k ≤ s.length
  · rw [Nat.min_eq_left h]
  · rw [Nat.min_eq_right (by omega), List.take_of_length_le (Nat.le_refl _), List.take_of_length_le (by omega)]
theorem cut_drop {β : Type} (s : List β) {i : Int} (k : Nat) (h : i = k := by rfl) : cutL s (some i) none = s.drop k := by
  subst h
  unfold cutL
  rw [sIx_nat]
  show (s.drop (min k s.length)).take (s.length - min k s.length) = _
  rw [List.take_of_length_le (by rw [List.length_drop]; exact Nat.le_refl _)]
  by_cases h : k ≤ s.length
  · rw [Nat.min_eq_left h]
  · rw [Nat.min_eq_right (by omega), List.drop_of_length_le (Nat.le_refl _), List.drop_of_length_le (by omega)]
theorem joinN_le (c : Tx) (N : Nat) {l : List Tx} (h : ∀ s ∈ l, s.length ≤ N) : joinN c l ≤ l.length * (N + c.length) := by
  unfold joinN
  induction l with
  | nil => simp
  | cons x r ih =>
    have a := h x List.mem_cons_self
    have b := ih fun s hs => h s (List.mem_cons_of_mem _ hs)
    simp only [List.map_cons, List.sum_cons, List.length_cons, Nat.add_mul, Nat.one_mul, Nat.mul_add] at b ⊢
    omega
theorem join_tup (c : Tx) {N : Nat} {l : List Tx} (h : ∀ s ∈ l, s.length ≤ N) (hb : l.length * (N + c.length) ≤ 100000) : dJoin (.str c) [.tup (l.map .str)] = some (.str (TL.joinL c l)) := by
  show dJoinL c (l.map .str) = _
  unfold dJoinL
  rw [txts_map]
  dsimp only
  rw [if_pos]
  have := joinN_le c N h
  unfold BIG
  omega
theorem eqD_heads {a b : Tx} {xs ys : List D} (h : a ≠ b) : eqD (.tup (.str a :: xs)) (.tup (.str b :: ys)) = false := by
  unfold eqD
  simp only [toPy, toPys]
  cases h1 : toPys xs <;> cases h2 : toPys ys <;> simp [PyData.eqv, PyData.eqvAll, S_beq, h]
theorem rangeD_succ (lo : Int) (n : Nat) : rangeD lo (n + 1) = .int lo :: rangeD (lo + 1) n := by
  unfold rangeD
  rw [List.range_succ_eq_map, List.map_cons, List.map_map]
  congr 1
  · simp
  · apply List.map_congr_left
    intro i _
    simp only [Function.comp]
    congr 1
    omega
/-- a loop over range(m), told by its counter -/
theorem ok_forR {tg : D → Option (List (Nat × D))} {body : DS} {Q : Out → Store → Prop} {m : Nat} (J : Nat → Env3 → Store → Prop) {ρ : Env3} {g : Store} (h0 : J 0 ρ g)
    (h1 : ∀ i ρ g, i < m → J i ρ g → ∃ as, tg (.int i) = some as ∧ Ok (body (sets ρ as) g) fun o g1 => match o with | .nx ρ1 => J (i + 1) ρ1 g1 | .ct ρ1 => J (i + 1) ρ1 g1 | .bk ρ1 => Q (.nx ρ1) g1 | .rt d => Q (.rt d) g1)
    (h2 : ∀ ρ g, J m ρ g → Q (.nx ρ) g) : Ok (forD tg body (rangeD 0 m) ρ g) Q := by
  refine ok_for (fun ds ρ g => ∃ i : Nat, i ≤ m ∧ ds = rangeD i (m - i) ∧ J i ρ g) ⟨0, Nat.zero_le _, rfl, h0⟩ (fun d r ρ g hJ => ?_) (fun ρ g hJ => ?_)
  · obtain ⟨i, hi, e, hJ⟩ := hJ
    have lt : i < m := by
      apply Classical.byContradiction
      intro z
      rw [show m - i = 0 by omega] at e
      cases e
    rw [show m - i = (m - (i + 1)) + 1 by omega, rangeD_succ] at e
    cases e
    obtain ⟨as, ea, h⟩ := h1 i ρ g lt hJ
    refine ⟨as, ea, h.mono fun o g1 q => ?_⟩
    cases o with
    | nx ρ1 => exact ⟨i + 1, lt, rfl, q⟩
    | ct ρ1 => exact ⟨i + 1, lt, rfl, q⟩
    | bk ρ1 => exact q
    | rt d => exact q
  · obtain ⟨i, hi, e, hJ⟩ := hJ
    have := congrArg List.length e
    rw [rangeD_len] at this
    have : i = m := by simp at this; omega
    subst this
    exact h2 ρ g hJ
end L3

namespace W
open L3
open L2 (atI ixN)
/-! the state of k27-k38: what is drawn -/
structure StOk (n : Nat) (g : Store) : Prop where
  ex : ∃ (cells : List Int) (c r m : Int), g[n]? = some (.lst [.lst (cells.map .int), .int c, .int r, .int m]) ∧ cells ≠ [] ∧ cells.length ≤ 1000 ∧ 0 ≤ c ∧ 0 ≤ m ∧ m < 2305843009213693951
theorem StOk.at {n : Nat} {g g' : Store} (h : StOk n g) (e : g'[n]? = g[n]?) : StOk n g' := by
  obtain ⟨cells, c, r, m, h1, h2⟩ := h.ex
  exact ⟨cells, c, r, m, by rw [e]; exact h1, h2⟩
theorem atI_ints {l : List Int} {i : Int} (h0 : 0 ≤ i) (h1 : i < l.length) : atI (l.map D.int) i = some (.int (l.getD i.toNat 0)) := by
  have hi : i.toNat < l.length := by omega
  unfold atI ixN
  rw [List.length_map, if_pos h0, if_pos h1]
  show (l.map D.int)[i.toNat]? = _
  rw [List.getElem?_map, List.getElem?_eq_getElem hi]
  simp [List.getD_eq_getElem?_getD, List.getElem?_eq_getElem hi]
/-- places of a list that stands in the store -/
theorem ixO_at {g : Store} {n : Nat} {xs : List D} {i : Int} {d : D} (h : g[n]? = some (.lst xs)) (e : atI xs i = some d) : ixO g (.obj n) (.int i) = some d := by
  unfold ixO
  dsimp only
  rw [h]
  exact e
theorem setO_at {g : Store} {n : Nat} {xs : List D} {i : Int} {j : Nat} {d : D} (h : g[n]? = some (.lst xs)) (e : ixN xs.length i = some j) : setO g (.obj n) (.int i) d = some (g.set n (.lst (xs.set j d))) := by
  unfold setO
  dsimp only
  rw [h]
  dsimp only
  rw [e]
theorem Ok.next {n : Nat} {g : Store} {b : Int} {Q : D → Store → Prop} (h : StOk n g) (h0 : 0 < b) (h1 : b < 1073741824) (w : ∀ v g', 0 ≤ v → v < b → StOk n g' → Q (.int v) g') : Ok (f__law_next [.obj n, .int b] g) Q := by
  obtain ⟨cells, c, r, m, e, hc, hl, h2, h3, h4⟩ := h.ex
  have hn : n < g.length := (List.getElem?_eq_some_iff.mp e).1
  have hlen : 0 < cells.length := List.length_pos_iff.mpr hc
  have st : ∀ (g : Store), n < g.length → ∀ (c' r' m' : Int), 0 ≤ c' → 0 ≤ m' → m' < 2305843009213693951 → StOk n (g.set n (.lst [.lst (cells.map .int), .int c', .int r', .int m'])) := fun g hn c' r' m' hc' hm hm2 => ⟨cells, c', r', m', List.getElem?_set_self hn, hc, hl, hc', hm, hm2⟩
  have ix : ∀ {g : Store} {c r m : Int}, g[n]? = some (SO.lst [D.lst (List.map D.int cells), D.int c, D.int r, D.int m]) → (ixO g (.obj n) (.int 0) = some (D.lst (List.map D.int cells)) ∧ ixO g (.obj n) (.int 1) = some (.int c)) ∧ (ixO g (.obj n) (.int 2) = some (.int r) ∧ ixO g (.obj n) (.int 3) = some (.int m)) ∧ ∀ d, (setO g (.obj n) (.int 1) d = some (g.set n (SO.lst [D.lst (List.map D.int cells), d, D.int r, D.int m])) ∧ setO g (.obj n) (.int 2) d = some (g.set n (SO.lst [D.lst (List.map D.int cells), D.int c, d, D.int m]))) ∧ setO g (.obj n) (.int 3) d = some (g.set n (SO.lst [D.lst (List.map D.int cells), D.int c, D.int r, d])) := fun h => ⟨⟨ixO_at h (at0 _ _), ixO_at h (at1 _ _ _)⟩, ⟨ixO_at h (at2 _ _ _ _), ixO_at h (at3 _ _ _ _ _)⟩, fun d => ⟨⟨setO_at (j := 1) h rfl, setO_at (j := 2) h rfl⟩, setO_at (j := 3) h rfl⟩⟩
  obtain ⟨⟨i0, i1⟩, ⟨i2, i3⟩, i4⟩ := ix e
  unfold f__law_next d__law_next
  (try simp only [oks0, oks1, ok_aCatE, ok_aRepE, ok_eMake, ok_eFld, ok_sFldD, ok_eMeth, ok_sAppO, ok_sExtA, ok_iObj, ok_iZip, ok_aLcG, ok_sExt, ok_sExtL, ok_eRev, ok_aKeys, ok_eOrV, ok_sPopD, ok_cDc, ok_sIns, ok_sPopI, ok_sSetI, List.set_cons_zero, List.set_cons_succ, List.getElem?_cons_zero, List.getElem?_cons_succ, List.map_cons, List.map_nil, List.length_cons, List.length_nil, List.cons_append, List.nil_append, List.replicate_succ, List.replicate_zero, start3, frz, sets, tgName, tgTup, tgTL, tgsCons, tgsNil, wipe3, Nat.reduceSub, Nat.reduceAdd, Nat.reduceLT, ok_forNil, ok_forCons, dMulA_ti, opz_l, opz_t, catL_ll, repL_i, aListQ_l, aListQ_t, aListQ_s, isi2_tl_n, isi2_tl_b, isi2_tl_i, isi2_tl_s, isi2_tl_l, isi2_tl_t, dZipL_l, dLenA_t, dLenA_l, aListA_t, aListA_l, dRev_t, dLenA_d, dicOf_d, dIAdd_ii, dIAdd_ss, dIAdd_tt, dRpart_s, ops0, ops1, ops2, ops3, dZip_tt, if_true, if_false, ite_true, ite_false, reduceCtorEq])
  rw [i2]
  (try simp only [oks0, oks1, ok_aCatE, ok_aRepE, ok_eMake, ok_eFld, ok_sFldD, ok_eMeth, ok_sAppO, ok_sExtA, ok_iObj, ok_iZip, ok_aLcG, ok_sExt, ok_sExtL, ok_eRev, ok_aKeys, ok_eOrV, ok_sPopD, ok_cDc, ok_sIns, ok_sPopI, ok_sSetI, List.set_cons_zero, List.set_cons_succ, List.getElem?_cons_zero, List.getElem?_cons_succ, List.map_cons, List.map_nil, List.length_cons, List.length_nil, List.cons_append, List.nil_append, List.replicate_succ, List.replicate_zero, start3, frz, sets, tgName, tgTup, tgTL, tgsCons, tgsNil, wipe3, Nat.reduceSub, Nat.reduceAdd, Nat.reduceLT, ok_forNil, ok_forCons, dMulA_ti, opz_l, opz_t, catL_ll, repL_i, aListQ_l, aListQ_t, aListQ_s, isi2_tl_n, isi2_tl_b, isi2_tl_i, isi2_tl_s, isi2_tl_l, isi2_tl_t, dZipL_l, dLenA_t, dLenA_l, aListA_t, aListA_l, dRev_t, dLenA_d, dicOf_d, dIAdd_ii, dIAdd_ss, dIAdd_tt, dRpart_s, ops0, ops1, ops2, ops3, dZip_tt, if_true, if_false, ite_true, ite_false, reduceCtorEq])
  by_cases hr : r > 0
  · rw [if_pos hr]
    refine ⟨h0, ?_⟩
    (try dsimp only); rw [seqK_nx]; (try simp only [oks0, oks1, ok_aCatE, ok_aRepE, ok_eMake, ok_eFld, ok_sFldD, ok_eMeth, ok_sAppO, ok_sExtA, ok_iObj, ok_iZip, ok_aLcG, ok_sExt, ok_sExtL, ok_eRev, ok_aKeys, ok_eOrV, ok_sPopD, ok_cDc, ok_sIns, ok_sPopI, ok_sSetI, List.set_cons_zero, List.set_cons_succ, List.getElem?_cons_zero, List.getElem?_cons_succ, List.map_cons, List.map_nil, List.length_cons, List.length_nil, List.cons_append, List.nil_append, List.replicate_succ, List.replicate_zero, start3, frz, sets, tgName, tgTup, tgTL, tgsCons, tgsNil, wipe3, Nat.reduceSub, Nat.reduceAdd, Nat.reduceLT, ok_forNil, ok_forCons, dMulA_ti, opz_l, opz_t, catL_ll, repL_i, aListQ_l, aListQ_t, aListQ_s, isi2_tl_n, isi2_tl_b, isi2_tl_i, isi2_tl_s, isi2_tl_l, isi2_tl_t, dZipL_l, dLenA_t, dLenA_l, aListA_t, aListA_l, dRev_t, dLenA_d, dicOf_d, dIAdd_ii, dIAdd_ss, dIAdd_tt, dRpart_s, ops0, ops1, ops2, ops3, dZip_tt, if_true, if_false, ite_true, ite_false, reduceCtorEq])
    rw [i2]
    (try simp only [oks0, oks1, ok_aCatE, ok_aRepE, ok_eMake, ok_eFld, ok_sFldD, ok_eMeth, ok_sAppO, ok_sExtA, ok_iObj, ok_iZip, ok_aLcG, ok_sExt, ok_sExtL, ok_eRev, ok_aKeys, ok_eOrV, ok_sPopD, ok_cDc, ok_sIns, ok_sPopI, ok_sSetI, List.set_cons_zero, List.set_cons_succ, List.getElem?_cons_zero, List.getElem?_cons_succ, List.map_cons, List.map_nil, List.length_cons, List.length_nil, List.cons_append, List.nil_append, List.replicate_succ, List.replicate_zero, start3, frz, sets, tgName, tgTup, tgTL, tgsCons, tgsNil, wipe3, Nat.reduceSub, Nat.reduceAdd, Nat.reduceLT, ok_forNil, ok_forCons, dMulA_ti, opz_l, opz_t, catL_ll, repL_i, aListQ_l, aListQ_t, aListQ_s, isi2_tl_n, isi2_tl_b, isi2_tl_i, isi2_tl_s, isi2_tl_l, isi2_tl_t, dZipL_l, dLenA_t, dLenA_l, aListA_t, aListA_l, dRev_t, dLenA_d, dicOf_d, dIAdd_ii, dIAdd_ss, dIAdd_tt, dRpart_s, ops0, ops1, ops2, ops3, dZip_tt, if_true, if_false, ite_true, ite_false, reduceCtorEq])
    refine ⟨⟨h0, h1⟩, ?_⟩
    rw [(i4 _).1.2]
    (try simp only [oks0, oks1, ok_aCatE, ok_aRepE, ok_eMake, ok_eFld, ok_sFldD, ok_eMeth, ok_sAppO, ok_sExtA, ok_iObj, ok_iZip, ok_aLcG, ok_sExt, ok_sExtL, ok_eRev, ok_aKeys, ok_eOrV, ok_sPopD, ok_cDc, ok_sIns, ok_sPopI, ok_sSetI, List.set_cons_zero, List.set_cons_succ, List.getElem?_cons_zero, List.getElem?_cons_succ, List.map_cons, List.map_nil, List.length_cons, List.length_nil, List.cons_append, List.nil_append, List.replicate_succ, List.replicate_zero, start3, frz, sets, tgName, tgTup, tgTL, tgsCons, tgsNil, wipe3, Nat.reduceSub, Nat.reduceAdd, Nat.reduceLT, ok_forNil, ok_forCons, dMulA_ti, opz_l, opz_t, catL_ll, repL_i, aListQ_l, aListQ_t, aListQ_s, isi2_tl_n, isi2_tl_b, isi2_tl_i, isi2_tl_s, isi2_tl_l, isi2_tl_t, dZipL_l, dLenA_t, dLenA_l, aListA_t, aListA_l, dRev_t, dLenA_d, dicOf_d, dIAdd_ii, dIAdd_ss, dIAdd_tt, dRpart_s, ops0, ops1, ops2, ops3, dZip_tt, if_true, if_false, ite_true, ite_false, reduceCtorEq])
    (try dsimp only); rw [seqK_nx]; (try simp only [oks0, oks1, ok_aCatE, ok_aRepE, ok_eMake, ok_eFld, ok_sFldD, ok_eMeth, ok_sAppO, ok_sExtA, ok_iObj, ok_iZip, ok_aLcG, ok_sExt, ok_sExtL, ok_eRev, ok_aKeys, ok_eOrV, ok_sPopD, ok_cDc, ok_sIns, ok_sPopI, ok_sSetI, List.set_cons_zero, List.set_cons_succ, List.getElem?_cons_zero, List.getElem?_cons_succ, List.map_cons, List.map_nil, List.length_cons, List.length_nil, List.cons_append, List.nil_append, List.replicate_succ, List.replicate_zero, start3, frz, sets, tgName, tgTup, tgTL, tgsCons, tgsNil, wipe3, Nat.reduceSub, Nat.reduceAdd, Nat.reduceLT, ok_forNil, ok_forCons, dMulA_ti, opz_l, opz_t, catL_ll, repL_i, aListQ_l, aListQ_t, aListQ_s, isi2_tl_n, isi2_tl_b, isi2_tl_i, isi2_tl_s, isi2_tl_l, isi2_tl_t, dZipL_l, dLenA_t, dLenA_l, aListA_t, aListA_l, dRev_t, dLenA_d, dicOf_d, dIAdd_ii, dIAdd_ss, dIAdd_tt, dRpart_s, ops0, ops1, ops2, ops3, dZip_tt, if_true, if_false, ite_true, ite_false, reduceCtorEq])
    exact w _ _ (Int.emod_nonneg _ (by omega)) (Int.emod_lt_of_pos _ h0) (st g hn _ _ _ h2 h3 h4)
  · rw [if_neg hr]
    (try dsimp only); rw [seqK_nx]; (try simp only [oks0, oks1, ok_aCatE, ok_aRepE, ok_eMake, ok_eFld, ok_sFldD, ok_eMeth, ok_sAppO, ok_sExtA, ok_iObj, ok_iZip, ok_aLcG, ok_sExt, ok_sExtL, ok_eRev, ok_aKeys, ok_eOrV, ok_sPopD, ok_cDc, ok_sIns, ok_sPopI, ok_sSetI, List.set_cons_zero, List.set_cons_succ, List.getElem?_cons_zero, List.getElem?_cons_succ, List.map_cons, List.map_nil, List.length_cons, List.length_nil, List.cons_append, List.nil_append, List.replicate_succ, List.replicate_zero, start3, frz, sets, tgName, tgTup, tgTL, tgsCons, tgsNil, wipe3, Nat.reduceSub, Nat.reduceAdd, Nat.reduceLT, ok_forNil, ok_forCons, dMulA_ti, opz_l, opz_t, catL_ll, repL_i, aListQ_l, aListQ_t, aListQ_s, isi2_tl_n, isi2_tl_b, isi2_tl_i, isi2_tl_s, isi2_tl_l, isi2_tl_t, dZipL_l, dLenA_t, dLenA_l, aListA_t, aListA_l, dRev_t, dLenA_d, dicOf_d, dIAdd_ii, dIAdd_ss, dIAdd_tt, dRpart_s, ops0, ops1, ops2, ops3, dZip_tt, if_true, if_false, ite_true, ite_false, reduceCtorEq])
    rw [i0]
    (try simp only [oks0, oks1, ok_aCatE, ok_aRepE, ok_eMake, ok_eFld, ok_sFldD, ok_eMeth, ok_sAppO, ok_sExtA, ok_iObj, ok_iZip, ok_aLcG, ok_sExt, ok_sExtL, ok_eRev, ok_aKeys, ok_eOrV, ok_sPopD, ok_cDc, ok_sIns, ok_sPopI, ok_sSetI, List.set_cons_zero, List.set_cons_succ, List.getElem?_cons_zero, List.getElem?_cons_succ, List.map_cons, List.map_nil, List.length_cons, List.length_nil, List.cons_append, List.nil_append, List.replicate_succ, List.replicate_zero, start3, frz, sets, tgName, tgTup, tgTL, tgsCons, tgsNil, wipe3, Nat.reduceSub, Nat.reduceAdd, Nat.reduceLT, ok_forNil, ok_forCons, dMulA_ti, opz_l, opz_t, catL_ll, repL_i, aListQ_l, aListQ_t, aListQ_s, isi2_tl_n, isi2_tl_b, isi2_tl_i, isi2_tl_s, isi2_tl_l, isi2_tl_t, dZipL_l, dLenA_t, dLenA_l, aListA_t, aListA_l, dRev_t, dLenA_d, dicOf_d, dIAdd_ii, dIAdd_ss, dIAdd_tt, dRpart_s, ops0, ops1, ops2, ops3, dZip_tt, if_true, if_false, ite_true, ite_false, reduceCtorEq])
    (try dsimp only); rw [seqK_nx]; (try simp only [oks0, oks1, ok_aCatE, ok_aRepE, ok_eMake, ok_eFld, ok_sFldD, ok_eMeth, ok_sAppO, ok_sExtA, ok_iObj, ok_iZip, ok_aLcG, ok_sExt, ok_sExtL, ok_eRev, ok_aKeys, ok_eOrV, ok_sPopD, ok_cDc, ok_sIns, ok_sPopI, ok_sSetI, List.set_cons_zero, List.set_cons_succ, List.getElem?_cons_zero, List.getElem?_cons_succ, List.map_cons, List.map_nil, List.length_cons, List.length_nil, List.cons_append, List.nil_append, List.replicate_succ, List.replicate_zero, start3, frz, sets, tgName, tgTup, tgTL, tgsCons, tgsNil, wipe3, Nat.reduceSub, Nat.reduceAdd, Nat.reduceLT, ok_forNil, ok_forCons, dMulA_ti, opz_l, opz_t, catL_ll, repL_i, aListQ_l, aListQ_t, aListQ_s, isi2_tl_n, isi2_tl_b, isi2_tl_i, isi2_tl_s, isi2_tl_l, isi2_tl_t, dZipL_l, dLenA_t, dLenA_l, aListA_t, aListA_l, dRev_t, dLenA_d, dicOf_d, dIAdd_ii, dIAdd_ss, dIAdd_tt, dRpart_s, ops0, ops1, ops2, ops3, dZip_tt, if_true, if_false, ite_true, ite_false, reduceCtorEq])
    rw [i1]
    (try simp only [oks0, oks1, ok_aCatE, ok_aRepE, ok_eMake, ok_eFld, ok_sFldD, ok_eMeth, ok_sAppO, ok_sExtA, ok_iObj, ok_iZip, ok_aLcG, ok_sExt, ok_sExtL, ok_eRev, ok_aKeys, ok_eOrV, ok_sPopD, ok_cDc, ok_sIns, ok_sPopI, ok_sSetI, List.set_cons_zero, List.set_cons_succ, List.getElem?_cons_zero, List.getElem?_cons_succ, List.map_cons, List.map_nil, List.length_cons, List.length_nil, List.cons_append, List.nil_append, List.replicate_succ, List.replicate_zero, start3, frz, sets, tgName, tgTup, tgTL, tgsCons, tgsNil, wipe3, Nat.reduceSub, Nat.reduceAdd, Nat.reduceLT, ok_forNil, ok_forCons, dMulA_ti, opz_l, opz_t, catL_ll, repL_i, aListQ_l, aListQ_t, aListQ_s, isi2_tl_n, isi2_tl_b, isi2_tl_i, isi2_tl_s, isi2_tl_l, isi2_tl_t, dZipL_l, dLenA_t, dLenA_l, aListA_t, aListA_l, dRev_t, dLenA_d, dicOf_d, dIAdd_ii, dIAdd_ss, dIAdd_tt, dRpart_s, ops0, ops1, ops2, ops3, dZip_tt, if_true, if_false, ite_true, ite_false, reduceCtorEq])
    have hlen' : (0 : Int) < cells.length := by omega
    refine ⟨by rw [List.length_map]; exact hlen', ?_⟩
    rw [List.length_map, atI_ints (Int.emod_nonneg _ (by omega)) (Int.emod_lt_of_pos _ hlen')]
    (try simp only [oks0, oks1, ok_aCatE, ok_aRepE, ok_eMake, ok_eFld, ok_sFldD, ok_eMeth, ok_sAppO, ok_sExtA, ok_iObj, ok_iZip, ok_aLcG, ok_sExt, ok_sExtL, ok_eRev, ok_aKeys, ok_eOrV, ok_sPopD, ok_cDc, ok_sIns, ok_sPopI, ok_sSetI, List.set_cons_zero, List.set_cons_succ, List.getElem?_cons_zero, List.getElem?_cons_succ, List.map_cons, List.map_nil, List.length_cons, List.length_nil, List.cons_append, List.nil_append, List.replicate_succ, List.replicate_zero, start3, frz, sets, tgName, tgTup, tgTL, tgsCons, tgsNil, wipe3, Nat.reduceSub, Nat.reduceAdd, Nat.reduceLT, ok_forNil, ok_forCons, dMulA_ti, opz_l, opz_t, catL_ll, repL_i, aListQ_l, aListQ_t, aListQ_s, isi2_tl_n, isi2_tl_b, isi2_tl_i, isi2_tl_s, isi2_tl_l, isi2_tl_t, dZipL_l, dLenA_t, dLenA_l, aListA_t, aListA_l, dRev_t, dLenA_d, dicOf_d, dIAdd_ii, dIAdd_ss, dIAdd_tt, dRpart_s, ops0, ops1, ops2, ops3, dZip_tt, if_true, if_false, ite_true, ite_false, reduceCtorEq])
    generalize cells.getD (c % cells.length).toNat 0 = cell
    (try dsimp only); rw [seqK_nx]; (try simp only [oks0, oks1, ok_aCatE, ok_aRepE, ok_eMake, ok_eFld, ok_sFldD, ok_eMeth, ok_sAppO, ok_sExtA, ok_iObj, ok_iZip, ok_aLcG, ok_sExt, ok_sExtL, ok_eRev, ok_aKeys, ok_eOrV, ok_sPopD, ok_cDc, ok_sIns, ok_sPopI, ok_sSetI, List.set_cons_zero, List.set_cons_succ, List.getElem?_cons_zero, List.getElem?_cons_succ, List.map_cons, List.map_nil, List.length_cons, List.length_nil, List.cons_append, List.nil_append, List.replicate_succ, List.replicate_zero, start3, frz, sets, tgName, tgTup, tgTL, tgsCons, tgsNil, wipe3, Nat.reduceSub, Nat.reduceAdd, Nat.reduceLT, ok_forNil, ok_forCons, dMulA_ti, opz_l, opz_t, catL_ll, repL_i, aListQ_l, aListQ_t, aListQ_s, isi2_tl_n, isi2_tl_b, isi2_tl_i, isi2_tl_s, isi2_tl_l, isi2_tl_t, dZipL_l, dLenA_t, dLenA_l, aListA_t, aListA_l, dRev_t, dLenA_d, dicOf_d, dIAdd_ii, dIAdd_ss, dIAdd_tt, dRpart_s, ops0, ops1, ops2, ops3, dZip_tt, if_true, if_false, ite_true, ite_false, reduceCtorEq])
    rw [i1]
    (try simp only [oks0, oks1, ok_aCatE, ok_aRepE, ok_eMake, ok_eFld, ok_sFldD, ok_eMeth, ok_sAppO, ok_sExtA, ok_iObj, ok_iZip, ok_aLcG, ok_sExt, ok_sExtL, ok_eRev, ok_aKeys, ok_eOrV, ok_sPopD, ok_cDc, ok_sIns, ok_sPopI, ok_sSetI, List.set_cons_zero, List.set_cons_succ, List.getElem?_cons_zero, List.getElem?_cons_succ, List.map_cons, List.map_nil, List.length_cons, List.length_nil, List.cons_append, List.nil_append, List.replicate_succ, List.replicate_zero, start3, frz, sets, tgName, tgTup, tgTL, tgsCons, tgsNil, wipe3, Nat.reduceSub, Nat.reduceAdd, Nat.reduceLT, ok_forNil, ok_forCons, dMulA_ti, opz_l, opz_t, catL_ll, repL_i, aListQ_l, aListQ_t, aListQ_s, isi2_tl_n, isi2_tl_b, isi2_tl_i, isi2_tl_s, isi2_tl_l, isi2_tl_t, dZipL_l, dLenA_t, dLenA_l, aListA_t, aListA_l, dRev_t, dLenA_d, dicOf_d, dIAdd_ii, dIAdd_ss, dIAdd_tt, dRpart_s, ops0, ops1, ops2, ops3, dZip_tt, if_true, if_false, ite_true, ite_false, reduceCtorEq])
    rw [(i4 _).1.1]
    (try simp only [oks0, oks1, ok_aCatE, ok_aRepE, ok_eMake, ok_eFld, ok_sFldD, ok_eMeth, ok_sAppO, ok_sExtA, ok_iObj, ok_iZip, ok_aLcG, ok_sExt, ok_sExtL, ok_eRev, ok_aKeys, ok_eOrV, ok_sPopD, ok_cDc, ok_sIns, ok_sPopI, ok_sSetI, List.set_cons_zero, List.set_cons_succ, List.getElem?_cons_zero, List.getElem?_cons_succ, List.map_cons, List.map_nil, List.length_cons, List.length_nil, List.cons_append, List.nil_append, List.replicate_succ, List.replicate_zero, start3, frz, sets, tgName, tgTup, tgTL, tgsCons, tgsNil, wipe3, Nat.reduceSub, Nat.reduceAdd, Nat.reduceLT, ok_forNil, ok_forCons, dMulA_ti, opz_l, opz_t, catL_ll, repL_i, aListQ_l, aListQ_t, aListQ_s, isi2_tl_n, isi2_tl_b, isi2_tl_i, isi2_tl_s, isi2_tl_l, isi2_tl_t, dZipL_l, dLenA_t, dLenA_l, aListA_t, aListA_l, dRev_t, dLenA_d, dicOf_d, dIAdd_ii, dIAdd_ss, dIAdd_tt, dRpart_s, ops0, ops1, ops2, ops3, dZip_tt, if_true, if_false, ite_true, ite_false, reduceCtorEq])
    have e1 : (g.set n (SO.lst [D.lst (List.map D.int cells), D.int (c + 1), D.int r, D.int m]))[n]? = some (SO.lst [D.lst (List.map D.int cells), D.int (c + 1), D.int r, D.int m]) := List.getElem?_set_self hn
    obtain ⟨⟨j0, j1⟩, ⟨j2, j3⟩, j4⟩ := ix e1
    have last : ∀ (g2 : Store), g2.length = g.length → ∀ (r' : Int), g2[n]? = some (SO.lst [D.lst (List.map D.int cells), D.int (c + 1), D.int r', D.int m]) → seqK
          (sSeq
            (sSet 5
              (eOp dAddA
                (eOp dAddA (eOp dMul (eIxO (eVarB 0) (eC (D.int 3))) (eC (D.int 69621)))
                  (eOp dMod (eVarB 4) (eC (D.int 2305843009213693921))))
                (eIxO (eVarB 0) (eC (D.int 1)))))
            (sSeq (sSetO (eVarB 0) (eC (D.int 3)) (eOp dMod (eVarB 5) (eC (D.int 2305843009213693951))))
              (sRet
                (eOp dMod
                  (eOp dDiv
                    (eOp dMod (eOp dMul (eIxO (eVarB 0) (eC (D.int 3))) (eIxO (eVarB 0) (eC (D.int 3))))
                      (eC (D.int 2305843009213693951)))
                    (eC (D.int 4096)))
                  (eVarB 1)))))
          (runK Q)
          (Out.nx [some (SV.d (D.obj n)), some (SV.d (D.int b)), none, some (SV.d (D.lst (List.map D.int cells))), some (SV.d (D.int cell)), none]) g2 := by
      intro g2 hg2 r' e2
      obtain ⟨⟨k0, k1⟩, ⟨k2, k3⟩, k4⟩ := ix e2
      (try dsimp only); rw [seqK_nx]; (try simp only [oks0, oks1, ok_aCatE, ok_aRepE, ok_eMake, ok_eFld, ok_sFldD, ok_eMeth, ok_sAppO, ok_sExtA, ok_iObj, ok_iZip, ok_aLcG, ok_sExt, ok_sExtL, ok_eRev, ok_aKeys, ok_eOrV, ok_sPopD, ok_cDc, ok_sIns, ok_sPopI, ok_sSetI, List.set_cons_zero, List.set_cons_succ, List.getElem?_cons_zero, List.getElem?_cons_succ, List.map_cons, List.map_nil, List.length_cons, List.length_nil, List.cons_append, List.nil_append, List.replicate_succ, List.replicate_zero, start3, frz, sets, tgName, tgTup, tgTL, tgsCons, tgsNil, wipe3, Nat.reduceSub, Nat.reduceAdd, Nat.reduceLT, ok_forNil, ok_forCons, dMulA_ti, opz_l, opz_t, catL_ll, repL_i, aListQ_l, aListQ_t, aListQ_s, isi2_tl_n, isi2_tl_b, isi2_tl_i, isi2_tl_s, isi2_tl_l, isi2_tl_t, dZipL_l, dLenA_t, dLenA_l, aListA_t, aListA_l, dRev_t, dLenA_d, dicOf_d, dIAdd_ii, dIAdd_ss, dIAdd_tt, dRpart_s, ops0, ops1, ops2, ops3, dZip_tt, if_true, if_false, ite_true, ite_false, reduceCtorEq])
      rw [k3]
      (try simp only [oks0, oks1, ok_aCatE, ok_aRepE, ok_eMake, ok_eFld, ok_sFldD, ok_eMeth, ok_sAppO, ok_sExtA, ok_iObj, ok_iZip, ok_aLcG, ok_sExt, ok_sExtL, ok_eRev, ok_aKeys, ok_eOrV, ok_sPopD, ok_cDc, ok_sIns, ok_sPopI, ok_sSetI, List.set_cons_zero, List.set_cons_succ, List.getElem?_cons_zero, List.getElem?_cons_succ, List.map_cons, List.map_nil, List.length_cons, List.length_nil, List.cons_append, List.nil_append, List.replicate_succ, List.replicate_zero, start3, frz, sets, tgName, tgTup, tgTL, tgsCons, tgsNil, wipe3, Nat.reduceSub, Nat.reduceAdd, Nat.reduceLT, ok_forNil, ok_forCons, dMulA_ti, opz_l, opz_t, catL_ll, repL_i, aListQ_l, aListQ_t, aListQ_s, isi2_tl_n, isi2_tl_b, isi2_tl_i, isi2_tl_s, isi2_tl_l, isi2_tl_t, dZipL_l, dLenA_t, dLenA_l, aListA_t, aListA_l, dRev_t, dLenA_d, dicOf_d, dIAdd_ii, dIAdd_ss, dIAdd_tt, dRpart_s, ops0, ops1, ops2, ops3, dZip_tt, if_true, if_false, ite_true, ite_false, reduceCtorEq])
      refine ⟨by omega, by decide, ?_⟩
      rw [k1]
      (try simp only [oks0, oks1, ok_aCatE, ok_aRepE, ok_eMake, ok_eFld, ok_sFldD, ok_eMeth, ok_sAppO, ok_sExtA, ok_iObj, ok_iZip, ok_aLcG, ok_sExt, ok_sExtL, ok_eRev, ok_aKeys, ok_eOrV, ok_sPopD, ok_cDc, ok_sIns, ok_sPopI, ok_sSetI, List.set_cons_zero, List.set_cons_succ, List.getElem?_cons_zero, List.getElem?_cons_succ, List.map_cons, List.map_nil, List.length_cons, List.length_nil, List.cons_append, List.nil_append, List.replicate_succ, List.replicate_zero, start3, frz, sets, tgName, tgTup, tgTL, tgsCons, tgsNil, wipe3, Nat.reduceSub, Nat.reduceAdd, Nat.reduceLT, ok_forNil, ok_forCons, dMulA_ti, opz_l, opz_t, catL_ll, repL_i, aListQ_l, aListQ_t, aListQ_s, isi2_tl_n, isi2_tl_b, isi2_tl_i, isi2_tl_s, isi2_tl_l, isi2_tl_t, dZipL_l, dLenA_t, dLenA_l, aListA_t, aListA_l, dRev_t, dLenA_d, dicOf_d, dIAdd_ii, dIAdd_ss, dIAdd_tt, dRpart_s, ops0, ops1, ops2, ops3, dZip_tt, if_true, if_false, ite_true, ite_false, reduceCtorEq])
      (try dsimp only); rw [seqK_nx]; (try simp only [oks0, oks1, ok_aCatE, ok_aRepE, ok_eMake, ok_eFld, ok_sFldD, ok_eMeth, ok_sAppO, ok_sExtA, ok_iObj, ok_iZip, ok_aLcG, ok_sExt, ok_sExtL, ok_eRev, ok_aKeys, ok_eOrV, ok_sPopD, ok_cDc, ok_sIns, ok_sPopI, ok_sSetI, List.set_cons_zero, List.set_cons_succ, List.getElem?_cons_zero, List.getElem?_cons_succ, List.map_cons, List.map_nil, List.length_cons, List.length_nil, List.cons_append, List.nil_append, List.replicate_succ, List.replicate_zero, start3, frz, sets, tgName, tgTup, tgTL, tgsCons, tgsNil, wipe3, Nat.reduceSub, Nat.reduceAdd, Nat.reduceLT, ok_forNil, ok_forCons, dMulA_ti, opz_l, opz_t, catL_ll, repL_i, aListQ_l, aListQ_t, aListQ_s, isi2_tl_n, isi2_tl_b, isi2_tl_i, isi2_tl_s, isi2_tl_l, isi2_tl_t, dZipL_l, dLenA_t, dLenA_l, aListA_t, aListA_l, dRev_t, dLenA_d, dicOf_d, dIAdd_ii, dIAdd_ss, dIAdd_tt, dRpart_s, ops0, ops1, ops2, ops3, dZip_tt, if_true, if_false, ite_true, ite_false, reduceCtorEq])
      refine ⟨by decide, ?_⟩
      rw [(k4 _).2]
      (try simp only [oks0, oks1, ok_aCatE, ok_aRepE, ok_eMake, ok_eFld, ok_sFldD, ok_eMeth, ok_sAppO, ok_sExtA, ok_iObj, ok_iZip, ok_aLcG, ok_sExt, ok_sExtL, ok_eRev, ok_aKeys, ok_eOrV, ok_sPopD, ok_cDc, ok_sIns, ok_sPopI, ok_sSetI, List.set_cons_zero, List.set_cons_succ, List.getElem?_cons_zero, List.getElem?_cons_succ, List.map_cons, List.map_nil, List.length_cons, List.length_nil, List.cons_append, List.nil_append, List.replicate_succ, List.replicate_zero, start3, frz, sets, tgName, tgTup, tgTL, tgsCons, tgsNil, wipe3, Nat.reduceSub, Nat.reduceAdd, Nat.reduceLT, ok_forNil, ok_forCons, dMulA_ti, opz_l, opz_t, catL_ll, repL_i, aListQ_l, aListQ_t, aListQ_s, isi2_tl_n, isi2_tl_b, isi2_tl_i, isi2_tl_s, isi2_tl_l, isi2_tl_t, dZipL_l, dLenA_t, dLenA_l, aListA_t, aListA_l, dRev_t, dLenA_d, dicOf_d, dIAdd_ii, dIAdd_ss, dIAdd_tt, dRpart_s, ops0, ops1, ops2, ops3, dZip_tt, if_true, if_false, ite_true, ite_false, reduceCtorEq])
      (try dsimp only); rw [seqK_nx]; (try simp only [oks0, oks1, ok_aCatE, ok_aRepE, ok_eMake, ok_eFld, ok_sFldD, ok_eMeth, ok_sAppO, ok_sExtA, ok_iObj, ok_iZip, ok_aLcG, ok_sExt, ok_sExtL, ok_eRev, ok_aKeys, ok_eOrV, ok_sPopD, ok_cDc, ok_sIns, ok_sPopI, ok_sSetI, List.set_cons_zero, List.set_cons_succ, List.getElem?_cons_zero, List.getElem?_cons_succ, List.map_cons, List.map_nil, List.length_cons, List.length_nil, List.cons_append, List.nil_append, List.replicate_succ, List.replicate_zero, start3, frz, sets, tgName, tgTup, tgTL, tgsCons, tgsNil, wipe3, Nat.reduceSub, Nat.reduceAdd, Nat.reduceLT, ok_forNil, ok_forCons, dMulA_ti, opz_l, opz_t, catL_ll, repL_i, aListQ_l, aListQ_t, aListQ_s, isi2_tl_n, isi2_tl_b, isi2_tl_i, isi2_tl_s, isi2_tl_l, isi2_tl_t, dZipL_l, dLenA_t, dLenA_l, aListA_t, aListA_l, dRev_t, dLenA_d, dicOf_d, dIAdd_ii, dIAdd_ss, dIAdd_tt, dRpart_s, ops0, ops1, ops2, ops3, dZip_tt, if_true, if_false, ite_true, ite_false, reduceCtorEq])
      generalize hm' : ((m * 69621 + cell % 2305843009213693921 + (c + 1)) % 2305843009213693951) = m'
      have a0 : 0 ≤ m' := by rw [← hm']; exact Int.emod_nonneg _ (by decide)
      have a1 : m' < 2305843009213693951 := by rw [← hm']; exact Int.emod_lt_of_pos _ (by decide)
      have e3 : (g2.set n (SO.lst [D.lst (List.map D.int cells), D.int (c + 1), D.int r', D.int m']))[n]? = some (SO.lst [D.lst (List.map D.int cells), D.int (c + 1), D.int r', D.int m']) := List.getElem?_set_self (by omega)
      obtain ⟨⟨l0, l1⟩, ⟨l2, l3⟩, l4⟩ := ix e3
      rw [l3]
      (try simp only [oks0, oks1, ok_aCatE, ok_aRepE, ok_eMake, ok_eFld, ok_sFldD, ok_eMeth, ok_sAppO, ok_sExtA, ok_iObj, ok_iZip, ok_aLcG, ok_sExt, ok_sExtL, ok_eRev, ok_aKeys, ok_eOrV, ok_sPopD, ok_cDc, ok_sIns, ok_sPopI, ok_sSetI, List.set_cons_zero, List.set_cons_succ, List.getElem?_cons_zero, List.getElem?_cons_succ, List.map_cons, List.map_nil, List.length_cons, List.length_nil, List.cons_append, List.nil_append, List.replicate_succ, List.replicate_zero, start3, frz, sets, tgName, tgTup, tgTL, tgsCons, tgsNil, wipe3, Nat.reduceSub, Nat.reduceAdd, Nat.reduceLT, ok_forNil, ok_forCons, dMulA_ti, opz_l, opz_t, catL_ll, repL_i, aListQ_l, aListQ_t, aListQ_s, isi2_tl_n, isi2_tl_b, isi2_tl_i, isi2_tl_s, isi2_tl_l, isi2_tl_t, dZipL_l, dLenA_t, dLenA_l, aListA_t, aListA_l, dRev_t, dLenA_d, dicOf_d, dIAdd_ii, dIAdd_ss, dIAdd_tt, dRpart_s, ops0, ops1, ops2, ops3, dZip_tt, if_true, if_false, ite_true, ite_false, reduceCtorEq])
      refine ⟨.inl ⟨by omega, by omega⟩, by decide, by decide, h0, ?_⟩
      exact w _ _ (Int.emod_nonneg _ (by omega)) (Int.emod_lt_of_pos _ h0) (st g2 (by omega) _ _ _ (by omega) a0 a1)
    (try dsimp only); rw [seqK_nx]; (try simp only [oks0, oks1, ok_aCatE, ok_aRepE, ok_eMake, ok_eFld, ok_sFldD, ok_eMeth, ok_sAppO, ok_sExtA, ok_iObj, ok_iZip, ok_aLcG, ok_sExt, ok_sExtL, ok_eRev, ok_aKeys, ok_eOrV, ok_sPopD, ok_cDc, ok_sIns, ok_sPopI, ok_sSetI, List.set_cons_zero, List.set_cons_succ, List.getElem?_cons_zero, List.getElem?_cons_succ, List.map_cons, List.map_nil, List.length_cons, List.length_nil, List.cons_append, List.nil_append, List.replicate_succ, List.replicate_zero, start3, frz, sets, tgName, tgTup, tgTL, tgsCons, tgsNil, wipe3, Nat.reduceSub, Nat.reduceAdd, Nat.reduceLT, ok_forNil, ok_forCons, dMulA_ti, opz_l, opz_t, catL_ll, repL_i, aListQ_l, aListQ_t, aListQ_s, isi2_tl_n, isi2_tl_b, isi2_tl_i, isi2_tl_s, isi2_tl_l, isi2_tl_t, dZipL_l, dLenA_t, dLenA_l, aListA_t, aListA_l, dRev_t, dLenA_d, dicOf_d, dIAdd_ii, dIAdd_ss, dIAdd_tt, dRpart_s, ops0, ops1, ops2, ops3, dZip_tt, if_true, if_false, ite_true, ite_false, reduceCtorEq])
    refine ⟨by decide, ?_⟩
    by_cases hbig : 10 ^ Int.toNat 18 ≤ cell
    · rw [if_pos hbig, j1]
      (try simp only [oks0, oks1, ok_aCatE, ok_aRepE, ok_eMake, ok_eFld, ok_sFldD, ok_eMeth, ok_sAppO, ok_sExtA, ok_iObj, ok_iZip, ok_aLcG, ok_sExt, ok_sExtL, ok_eRev, ok_aKeys, ok_eOrV, ok_sPopD, ok_cDc, ok_sIns, ok_sPopI, ok_sSetI, List.set_cons_zero, List.set_cons_succ, List.getElem?_cons_zero, List.getElem?_cons_succ, List.map_cons, List.map_nil, List.length_cons, List.length_nil, List.cons_append, List.nil_append, List.replicate_succ, List.replicate_zero, start3, frz, sets, tgName, tgTup, tgTL, tgsCons, tgsNil, wipe3, Nat.reduceSub, Nat.reduceAdd, Nat.reduceLT, ok_forNil, ok_forCons, dMulA_ti, opz_l, opz_t, catL_ll, repL_i, aListQ_l, aListQ_t, aListQ_s, isi2_tl_n, isi2_tl_b, isi2_tl_i, isi2_tl_s, isi2_tl_l, isi2_tl_t, dZipL_l, dLenA_t, dLenA_l, aListA_t, aListA_l, dRev_t, dLenA_d, dicOf_d, dIAdd_ii, dIAdd_ss, dIAdd_tt, dRpart_s, ops0, ops1, ops2, ops3, dZip_tt, if_true, if_false, ite_true, ite_false, reduceCtorEq])
      by_cases hw : c + 1 ≤ ((List.map D.int cells).length : Int)
      · rw [if_pos hw]
        refine ⟨⟨h0, h1⟩, ?_⟩
        rw [(j4 _).1.2]
        (try simp only [oks0, oks1, ok_aCatE, ok_aRepE, ok_eMake, ok_eFld, ok_sFldD, ok_eMeth, ok_sAppO, ok_sExtA, ok_iObj, ok_iZip, ok_aLcG, ok_sExt, ok_sExtL, ok_eRev, ok_aKeys, ok_eOrV, ok_sPopD, ok_cDc, ok_sIns, ok_sPopI, ok_sSetI, List.set_cons_zero, List.set_cons_succ, List.getElem?_cons_zero, List.getElem?_cons_succ, List.map_cons, List.map_nil, List.length_cons, List.length_nil, List.cons_append, List.nil_append, List.replicate_succ, List.replicate_zero, start3, frz, sets, tgName, tgTup, tgTL, tgsCons, tgsNil, wipe3, Nat.reduceSub, Nat.reduceAdd, Nat.reduceLT, ok_forNil, ok_forCons, dMulA_ti, opz_l, opz_t, catL_ll, repL_i, aListQ_l, aListQ_t, aListQ_s, isi2_tl_n, isi2_tl_b, isi2_tl_i, isi2_tl_s, isi2_tl_l, isi2_tl_t, dZipL_l, dLenA_t, dLenA_l, aListA_t, aListA_l, dRev_t, dLenA_d, dicOf_d, dIAdd_ii, dIAdd_ss, dIAdd_tt, dRpart_s, ops0, ops1, ops2, ops3, dZip_tt, if_true, if_false, ite_true, ite_false, reduceCtorEq])
        (try dsimp only); rw [seqK_nx]; (try simp only [oks0, oks1, ok_aCatE, ok_aRepE, ok_eMake, ok_eFld, ok_sFldD, ok_eMeth, ok_sAppO, ok_sExtA, ok_iObj, ok_iZip, ok_aLcG, ok_sExt, ok_sExtL, ok_eRev, ok_aKeys, ok_eOrV, ok_sPopD, ok_cDc, ok_sIns, ok_sPopI, ok_sSetI, List.set_cons_zero, List.set_cons_succ, List.getElem?_cons_zero, List.getElem?_cons_succ, List.map_cons, List.map_nil, List.length_cons, List.length_nil, List.cons_append, List.nil_append, List.replicate_succ, List.replicate_zero, start3, frz, sets, tgName, tgTup, tgTL, tgsCons, tgsNil, wipe3, Nat.reduceSub, Nat.reduceAdd, Nat.reduceLT, ok_forNil, ok_forCons, dMulA_ti, opz_l, opz_t, catL_ll, repL_i, aListQ_l, aListQ_t, aListQ_s, isi2_tl_n, isi2_tl_b, isi2_tl_i, isi2_tl_s, isi2_tl_l, isi2_tl_t, dZipL_l, dLenA_t, dLenA_l, aListA_t, aListA_l, dRev_t, dLenA_d, dicOf_d, dIAdd_ii, dIAdd_ss, dIAdd_tt, dRpart_s, ops0, ops1, ops2, ops3, dZip_tt, if_true, if_false, ite_true, ite_false, reduceCtorEq])
        exact ⟨h0, w _ _ (Int.emod_nonneg _ (by omega)) (Int.emod_lt_of_pos _ h0) (st _ (by rw [List.length_set]; exact hn) _ _ _ (by omega) h3 h4)⟩
      · rw [if_neg hw]
        exact last _ (by rw [List.length_set]) _ e1
    · rw [if_neg hbig]
      exact last _ (by rw [List.length_set]) _ e1
theorem state_ok (ns : List Int) (hl : ns.length ≤ 63) {Q : D → Store → Prop} (w : ∀ g, StOk 0 g → Q (.obj 0) g) : Ok (f__law_state [.lst (ns.map .int)] []) Q := by
  unfold f__law_state d__law_state
  (try simp only [oks0, oks1, ok_aCatE, ok_aRepE, ok_eMake, ok_eFld, ok_sFldD, ok_eMeth, ok_sAppO, ok_sExtA, ok_iObj, ok_iZip, ok_aLcG, ok_sExt, ok_sExtL, ok_eRev, ok_aKeys, ok_eOrV, ok_sPopD, ok_cDc, ok_sIns, ok_sPopI, ok_sSetI, List.set_cons_zero, List.set_cons_succ, List.getElem?_cons_zero, List.getElem?_cons_succ, List.map_cons, List.map_nil, List.length_cons, List.length_nil, List.cons_append, List.nil_append, List.replicate_succ, List.replicate_zero, start3, frz, sets, tgName, tgTup, tgTL, tgsCons, tgsNil, wipe3, Nat.reduceSub, Nat.reduceAdd, Nat.reduceLT, ok_forNil, ok_forCons, dMulA_ti, opz_l, opz_t, catL_ll, repL_i, aListQ_l, aListQ_t, aListQ_s, isi2_tl_n, isi2_tl_b, isi2_tl_i, isi2_tl_s, isi2_tl_l, isi2_tl_t, dZipL_l, dLenA_t, dLenA_l, aListA_t, aListA_l, dRev_t, dLenA_d, dicOf_d, dIAdd_ii, dIAdd_ss, dIAdd_tt, dRpart_s, ops0, ops1, ops2, ops3, dZip_tt, if_true, if_false, ite_true, ite_false, reduceCtorEq])
  have e1 : cutL (ns.map D.int) none (some 60) = (ns.take 60).map D.int := by
    rw [cut_take _ 60, List.map_take]
  rw [e1]
  (try dsimp only); rw [seqK_nx]; (try simp only [oks0, oks1, ok_aCatE, ok_aRepE, ok_eMake, ok_eFld, ok_sFldD, ok_eMeth, ok_sAppO, ok_sExtA, ok_iObj, ok_iZip, ok_aLcG, ok_sExt, ok_sExtL, ok_eRev, ok_aKeys, ok_eOrV, ok_sPopD, ok_cDc, ok_sIns, ok_sPopI, ok_sSetI, List.set_cons_zero, List.set_cons_succ, List.getElem?_cons_zero, List.getElem?_cons_succ, List.map_cons, List.map_nil, List.length_cons, List.length_nil, List.cons_append, List.nil_append, List.replicate_succ, List.replicate_zero, start3, frz, sets, tgName, tgTup, tgTL, tgsCons, tgsNil, wipe3, Nat.reduceSub, Nat.reduceAdd, Nat.reduceLT, ok_forNil, ok_forCons, dMulA_ti, opz_l, opz_t, catL_ll, repL_i, aListQ_l, aListQ_t, aListQ_s, isi2_tl_n, isi2_tl_b, isi2_tl_i, isi2_tl_s, isi2_tl_l, isi2_tl_t, dZipL_l, dLenA_t, dLenA_l, aListA_t, aListA_l, dRev_t, dLenA_d, dicOf_d, dIAdd_ii, dIAdd_ss, dIAdd_tt, dRpart_s, ops0, ops1, ops2, ops3, dZip_tt, if_true, if_false, ite_true, ite_false, reduceCtorEq])
  have fin : ∀ cells : List Int, cells ≠ [] → cells.length ≤ 1000 → StOk 0 [SO.lst [D.lst (cells.map .int), D.int 0, D.int 0, D.int 1700000000000000003]] := fun cells h1 h2 => ⟨cells, 0, 0, 1700000000000000003, rfl, h1, h2, by decide, by decide, by decide⟩
  refine ⟨by decide, ?_⟩
  cases h : ns.take 60 with
  | nil =>
    rw [List.map_nil, dEq_pl (n := 2) (by decide) rfl rfl, eqD_nn]
    (try simp only [oks0, oks1, ok_aCatE, ok_aRepE, ok_eMake, ok_eFld, ok_sFldD, ok_eMeth, ok_sAppO, ok_sExtA, ok_iObj, ok_iZip, ok_aLcG, ok_sExt, ok_sExtL, ok_eRev, ok_aKeys, ok_eOrV, ok_sPopD, ok_cDc, ok_sIns, ok_sPopI, ok_sSetI, List.set_cons_zero, List.set_cons_succ, List.getElem?_cons_zero, List.getElem?_cons_succ, List.map_cons, List.map_nil, List.length_cons, List.length_nil, List.cons_append, List.nil_append, List.replicate_succ, List.replicate_zero, start3, frz, sets, tgName, tgTup, tgTL, tgsCons, tgsNil, wipe3, Nat.reduceSub, Nat.reduceAdd, Nat.reduceLT, ok_forNil, ok_forCons, dMulA_ti, opz_l, opz_t, catL_ll, repL_i, aListQ_l, aListQ_t, aListQ_s, isi2_tl_n, isi2_tl_b, isi2_tl_i, isi2_tl_s, isi2_tl_l, isi2_tl_t, dZipL_l, dLenA_t, dLenA_l, aListA_t, aListA_l, dRev_t, dLenA_d, dicOf_d, dIAdd_ii, dIAdd_ss, dIAdd_tt, dRpart_s, ops0, ops1, ops2, ops3, dZip_tt, if_true, if_false, ite_true, ite_false, reduceCtorEq])
    refine ⟨by decide, ?_⟩
    (try dsimp only); rw [seqK_nx]; (try simp only [oks0, oks1, ok_aCatE, ok_aRepE, ok_eMake, ok_eFld, ok_sFldD, ok_eMeth, ok_sAppO, ok_sExtA, ok_iObj, ok_iZip, ok_aLcG, ok_sExt, ok_sExtL, ok_eRev, ok_aKeys, ok_eOrV, ok_sPopD, ok_cDc, ok_sIns, ok_sPopI, ok_sSetI, List.set_cons_zero, List.set_cons_succ, List.getElem?_cons_zero, List.getElem?_cons_succ, List.map_cons, List.map_nil, List.length_cons, List.length_nil, List.cons_append, List.nil_append, List.replicate_succ, List.replicate_zero, start3, frz, sets, tgName, tgTup, tgTL, tgsCons, tgsNil, wipe3, Nat.reduceSub, Nat.reduceAdd, Nat.reduceLT, ok_forNil, ok_forCons, dMulA_ti, opz_l, opz_t, catL_ll, repL_i, aListQ_l, aListQ_t, aListQ_s, isi2_tl_n, isi2_tl_b, isi2_tl_i, isi2_tl_s, isi2_tl_l, isi2_tl_t, dZipL_l, dLenA_t, dLenA_l, aListA_t, aListA_l, dRev_t, dLenA_d, dicOf_d, dIAdd_ii, dIAdd_ss, dIAdd_tt, dRpart_s, ops0, ops1, ops2, ops3, dZip_tt, if_true, if_false, ite_true, ite_false, reduceCtorEq])
    exact ⟨by decide, w _ (fin [0] (by simp) (by simp))⟩
  | cons x r =>
    have hl2 : (x :: r).length ≤ 60 := by rw [← h, List.length_take]; omega
    rw [List.map_cons, dEq_pl (n := 2) (by decide) (by
      rw [plB, ← List.map_cons, plBs_all]
      intro y hy
      obtain ⟨z, _, rfl⟩ := List.mem_map.mp hy
      rfl) rfl, eqD_lnil]
    (try simp only [oks0, oks1, ok_aCatE, ok_aRepE, ok_eMake, ok_eFld, ok_sFldD, ok_eMeth, ok_sAppO, ok_sExtA, ok_iObj, ok_iZip, ok_aLcG, ok_sExt, ok_sExtL, ok_eRev, ok_aKeys, ok_eOrV, ok_sPopD, ok_cDc, ok_sIns, ok_sPopI, ok_sSetI, List.set_cons_zero, List.set_cons_succ, List.getElem?_cons_zero, List.getElem?_cons_succ, List.map_cons, List.map_nil, List.length_cons, List.length_nil, List.cons_append, List.nil_append, List.replicate_succ, List.replicate_zero, start3, frz, sets, tgName, tgTup, tgTL, tgsCons, tgsNil, wipe3, Nat.reduceSub, Nat.reduceAdd, Nat.reduceLT, ok_forNil, ok_forCons, dMulA_ti, opz_l, opz_t, catL_ll, repL_i, aListQ_l, aListQ_t, aListQ_s, isi2_tl_n, isi2_tl_b, isi2_tl_i, isi2_tl_s, isi2_tl_l, isi2_tl_t, dZipL_l, dLenA_t, dLenA_l, aListA_t, aListA_l, dRev_t, dLenA_d, dicOf_d, dIAdd_ii, dIAdd_ss, dIAdd_tt, dRpart_s, ops0, ops1, ops2, ops3, dZip_tt, if_true, if_false, ite_true, ite_false, reduceCtorEq])
    (try dsimp only); rw [seqK_nx]; (try simp only [oks0, oks1, ok_aCatE, ok_aRepE, ok_eMake, ok_eFld, ok_sFldD, ok_eMeth, ok_sAppO, ok_sExtA, ok_iObj, ok_iZip, ok_aLcG, ok_sExt, ok_sExtL, ok_eRev, ok_aKeys, ok_eOrV, ok_sPopD, ok_cDc, ok_sIns, ok_sPopI, ok_sSetI, List.set_cons_zero, List.set_cons_succ, List.getElem?_cons_zero, List.getElem?_cons_succ, List.map_cons, List.map_nil, List.length_cons, List.length_nil, List.cons_append, List.nil_append, List.replicate_succ, List.replicate_zero, start3, frz, sets, tgName, tgTup, tgTL, tgsCons, tgsNil, wipe3, Nat.reduceSub, Nat.reduceAdd, Nat.reduceLT, ok_forNil, ok_forCons, dMulA_ti, opz_l, opz_t, catL_ll, repL_i, aListQ_l, aListQ_t, aListQ_s, isi2_tl_n, isi2_tl_b, isi2_tl_i, isi2_tl_s, isi2_tl_l, isi2_tl_t, dZipL_l, dLenA_t, dLenA_l, aListA_t, aListA_l, dRev_t, dLenA_d, dicOf_d, dIAdd_ii, dIAdd_ss, dIAdd_tt, dRpart_s, ops0, ops1, ops2, ops3, dZip_tt, if_true, if_false, ite_true, ite_false, reduceCtorEq])
    exact ⟨by decide, w _ (fin (x :: r) (by simp) (by omega))⟩
end W

namespace L3
theorem of_okT {r : Option (Bool × Store)} {x : Bool} {g : Store} (h : Ok r fun y g' => y = x ∧ g' = g) : r = some (x, g) := by
  obtain ⟨y, g1, e, rfl, rfl⟩ := h
  exact e
end L3
namespace W
open L3
open L2 (atI ixN)
/-! found is due: what _law_same tells of a thing and itself -/
mutual
def smB : Nat → D → Bool
  | _, .non => true
  | _, .bl _ => true
  | _, .int _ => true
  | _, .str _ => true
  | n + 1, .tup xs => decide (xs.length ≤ 1000) && smBs n xs
  | _, _ => false
def smBs : Nat → List D → Bool
  | _, [] => true
  | n, x :: xs => smB n x && smBs n xs
end
theorem smBs_all {n : Nat} : ∀ {xs : List D}, smBs n xs = true ↔ ∀ x ∈ xs, smB n x = true
  | [] => by simp [smBs]
  | x :: xs => by rw [smBs, Bool.and_eq_true, smBs_all, List.forall_mem_cons]
theorem bools_true : ∀ l : List D, bools (l.map fun _ => D.bl true) = some (l.map fun _ => true)
  | [] => rfl
  | x :: r => by rw [List.map_cons, bools, bools_true r]; rfl
theorem all_true (l : List D) : dAll [.lst (l.map fun _ => D.bl true)] = some (.bl true) := by
  unfold dAll
  dsimp only
  rw [bools_true]
  simp
theorem same_ok : ∀ (n : Nat) (d : D), smB n d = true → ∀ {m : Nat} {g : Store} {Q : D → Store → Prop}, n < m → Q (.bl true) g → Ok (f__law_same m [d, d] g) Q
  | n, .non, _, m + 1, g, Q, hm, h => by
    unfold f__law_same d__law_same
    (try simp only [oks0, oks1, ok_aCatE, ok_aRepE, ok_eMake, ok_eFld, ok_sFldD, ok_eMeth, ok_sAppO, ok_sExtA, ok_iObj, ok_iZip, ok_aLcG, ok_sExt, ok_sExtL, ok_eRev, ok_aKeys, ok_eOrV, ok_sPopD, ok_cDc, ok_sIns, ok_sPopI, ok_sSetI, List.set_cons_zero, List.set_cons_succ, List.getElem?_cons_zero, List.getElem?_cons_succ, List.map_cons, List.map_nil, List.length_cons, List.length_nil, List.cons_append, List.nil_append, List.replicate_succ, List.replicate_zero, start3, frz, sets, tgName, tgTup, tgTL, tgsCons, tgsNil, wipe3, Nat.reduceSub, Nat.reduceAdd, Nat.reduceLT, ok_forNil, ok_forCons, dMulA_ti, opz_l, opz_t, catL_ll, repL_i, aListQ_l, aListQ_t, aListQ_s, isi2_tl_n, isi2_tl_b, isi2_tl_i, isi2_tl_s, isi2_tl_l, isi2_tl_t, dZipL_l, dLenA_t, dLenA_l, aListA_t, aListA_l, dRev_t, dLenA_d, dicOf_d, dIAdd_ii, dIAdd_ss, dIAdd_tt, dRpart_s, ops0, ops1, ops2, ops3, dZip_tt, if_true, if_false, ite_true, ite_false, reduceCtorEq])
    (try dsimp only); rw [seqK_nx]; (try simp only [oks0, oks1, ok_aCatE, ok_aRepE, ok_eMake, ok_eFld, ok_sFldD, ok_eMeth, ok_sAppO, ok_sExtA, ok_iObj, ok_iZip, ok_aLcG, ok_sExt, ok_sExtL, ok_eRev, ok_aKeys, ok_eOrV, ok_sPopD, ok_cDc, ok_sIns, ok_sPopI, ok_sSetI, List.set_cons_zero, List.set_cons_succ, List.getElem?_cons_zero, List.getElem?_cons_succ, List.map_cons, List.map_nil, List.length_cons, List.length_nil, List.cons_append, List.nil_append, List.replicate_succ, List.replicate_zero, start3, frz, sets, tgName, tgTup, tgTL, tgsCons, tgsNil, wipe3, Nat.reduceSub, Nat.reduceAdd, Nat.reduceLT, ok_forNil, ok_forCons, dMulA_ti, opz_l, opz_t, catL_ll, repL_i, aListQ_l, aListQ_t, aListQ_s, isi2_tl_n, isi2_tl_b, isi2_tl_i, isi2_tl_s, isi2_tl_l, isi2_tl_t, dZipL_l, dLenA_t, dLenA_l, aListA_t, aListA_l, dRev_t, dLenA_d, dicOf_d, dIAdd_ii, dIAdd_ss, dIAdd_tt, dRpart_s, ops0, ops1, ops2, ops3, dZip_tt, if_true, if_false, ite_true, ite_false, reduceCtorEq])
    exact h
  | n, .bl b, _, m + 1, g, Q, hm, h => by
    unfold f__law_same d__law_same
    (try simp only [oks0, oks1, ok_aCatE, ok_aRepE, ok_eMake, ok_eFld, ok_sFldD, ok_eMeth, ok_sAppO, ok_sExtA, ok_iObj, ok_iZip, ok_aLcG, ok_sExt, ok_sExtL, ok_eRev, ok_aKeys, ok_eOrV, ok_sPopD, ok_cDc, ok_sIns, ok_sPopI, ok_sSetI, List.set_cons_zero, List.set_cons_succ, List.getElem?_cons_zero, List.getElem?_cons_succ, List.map_cons, List.map_nil, List.length_cons, List.length_nil, List.cons_append, List.nil_append, List.replicate_succ, List.replicate_zero, start3, frz, sets, tgName, tgTup, tgTL, tgsCons, tgsNil, wipe3, Nat.reduceSub, Nat.reduceAdd, Nat.reduceLT, ok_forNil, ok_forCons, dMulA_ti, opz_l, opz_t, catL_ll, repL_i, aListQ_l, aListQ_t, aListQ_s, isi2_tl_n, isi2_tl_b, isi2_tl_i, isi2_tl_s, isi2_tl_l, isi2_tl_t, dZipL_l, dLenA_t, dLenA_l, aListA_t, aListA_l, dRev_t, dLenA_d, dicOf_d, dIAdd_ii, dIAdd_ss, dIAdd_tt, dRpart_s, ops0, ops1, ops2, ops3, dZip_tt, if_true, if_false, ite_true, ite_false, reduceCtorEq])
    (try dsimp only); rw [seqK_nx]; (try simp only [oks0, oks1, ok_aCatE, ok_aRepE, ok_eMake, ok_eFld, ok_sFldD, ok_eMeth, ok_sAppO, ok_sExtA, ok_iObj, ok_iZip, ok_aLcG, ok_sExt, ok_sExtL, ok_eRev, ok_aKeys, ok_eOrV, ok_sPopD, ok_cDc, ok_sIns, ok_sPopI, ok_sSetI, List.set_cons_zero, List.set_cons_succ, List.getElem?_cons_zero, List.getElem?_cons_succ, List.map_cons, List.map_nil, List.length_cons, List.length_nil, List.cons_append, List.nil_append, List.replicate_succ, List.replicate_zero, start3, frz, sets, tgName, tgTup, tgTL, tgsCons, tgsNil, wipe3, Nat.reduceSub, Nat.reduceAdd, Nat.reduceLT, ok_forNil, ok_forCons, dMulA_ti, opz_l, opz_t, catL_ll, repL_i, aListQ_l, aListQ_t, aListQ_s, isi2_tl_n, isi2_tl_b, isi2_tl_i, isi2_tl_s, isi2_tl_l, isi2_tl_t, dZipL_l, dLenA_t, dLenA_l, aListA_t, aListA_l, dRev_t, dLenA_d, dicOf_d, dIAdd_ii, dIAdd_ss, dIAdd_tt, dRpart_s, ops0, ops1, ops2, ops3, dZip_tt, if_true, if_false, ite_true, ite_false, reduceCtorEq])
    (try dsimp only); rw [seqK_nx]; (try simp only [oks0, oks1, ok_aCatE, ok_aRepE, ok_eMake, ok_eFld, ok_sFldD, ok_eMeth, ok_sAppO, ok_sExtA, ok_iObj, ok_iZip, ok_aLcG, ok_sExt, ok_sExtL, ok_eRev, ok_aKeys, ok_eOrV, ok_sPopD, ok_cDc, ok_sIns, ok_sPopI, ok_sSetI, List.set_cons_zero, List.set_cons_succ, List.getElem?_cons_zero, List.getElem?_cons_succ, List.map_cons, List.map_nil, List.length_cons, List.length_nil, List.cons_append, List.nil_append, List.replicate_succ, List.replicate_zero, start3, frz, sets, tgName, tgTup, tgTL, tgsCons, tgsNil, wipe3, Nat.reduceSub, Nat.reduceAdd, Nat.reduceLT, ok_forNil, ok_forCons, dMulA_ti, opz_l, opz_t, catL_ll, repL_i, aListQ_l, aListQ_t, aListQ_s, isi2_tl_n, isi2_tl_b, isi2_tl_i, isi2_tl_s, isi2_tl_l, isi2_tl_t, dZipL_l, dLenA_t, dLenA_l, aListA_t, aListA_l, dRev_t, dLenA_d, dicOf_d, dIAdd_ii, dIAdd_ss, dIAdd_tt, dRpart_s, ops0, ops1, ops2, ops3, dZip_tt, if_true, if_false, ite_true, ite_false, reduceCtorEq])
    (try dsimp only); rw [seqK_nx]; (try simp only [oks0, oks1, ok_aCatE, ok_aRepE, ok_eMake, ok_eFld, ok_sFldD, ok_eMeth, ok_sAppO, ok_sExtA, ok_iObj, ok_iZip, ok_aLcG, ok_sExt, ok_sExtL, ok_eRev, ok_aKeys, ok_eOrV, ok_sPopD, ok_cDc, ok_sIns, ok_sPopI, ok_sSetI, List.set_cons_zero, List.set_cons_succ, List.getElem?_cons_zero, List.getElem?_cons_succ, List.map_cons, List.map_nil, List.length_cons, List.length_nil, List.cons_append, List.nil_append, List.replicate_succ, List.replicate_zero, start3, frz, sets, tgName, tgTup, tgTL, tgsCons, tgsNil, wipe3, Nat.reduceSub, Nat.reduceAdd, Nat.reduceLT, ok_forNil, ok_forCons, dMulA_ti, opz_l, opz_t, catL_ll, repL_i, aListQ_l, aListQ_t, aListQ_s, isi2_tl_n, isi2_tl_b, isi2_tl_i, isi2_tl_s, isi2_tl_l, isi2_tl_t, dZipL_l, dLenA_t, dLenA_l, aListA_t, aListA_l, dRev_t, dLenA_d, dicOf_d, dIAdd_ii, dIAdd_ss, dIAdd_tt, dRpart_s, ops0, ops1, ops2, ops3, dZip_tt, if_true, if_false, ite_true, ite_false, reduceCtorEq])
    exact h
  | n, .int i, _, m + 1, g, Q, hm, h => by
    unfold f__law_same d__law_same
    (try simp only [oks0, oks1, ok_aCatE, ok_aRepE, ok_eMake, ok_eFld, ok_sFldD, ok_eMeth, ok_sAppO, ok_sExtA, ok_iObj, ok_iZip, ok_aLcG, ok_sExt, ok_sExtL, ok_eRev, ok_aKeys, ok_eOrV, ok_sPopD, ok_cDc, ok_sIns, ok_sPopI, ok_sSetI, List.set_cons_zero, List.set_cons_succ, List.getElem?_cons_zero, List.getElem?_cons_succ, List.map_cons, List.map_nil, List.length_cons, List.length_nil, List.cons_append, List.nil_append, List.replicate_succ, List.replicate_zero, start3, frz, sets, tgName, tgTup, tgTL, tgsCons, tgsNil, wipe3, Nat.reduceSub, Nat.reduceAdd, Nat.reduceLT, ok_forNil, ok_forCons, dMulA_ti, opz_l, opz_t, catL_ll, repL_i, aListQ_l, aListQ_t, aListQ_s, isi2_tl_n, isi2_tl_b, isi2_tl_i, isi2_tl_s, isi2_tl_l, isi2_tl_t, dZipL_l, dLenA_t, dLenA_l, aListA_t, aListA_l, dRev_t, dLenA_d, dicOf_d, dIAdd_ii, dIAdd_ss, dIAdd_tt, dRpart_s, ops0, ops1, ops2, ops3, dZip_tt, if_true, if_false, ite_true, ite_false, reduceCtorEq])
    (try dsimp only); rw [seqK_nx]; (try simp only [oks0, oks1, ok_aCatE, ok_aRepE, ok_eMake, ok_eFld, ok_sFldD, ok_eMeth, ok_sAppO, ok_sExtA, ok_iObj, ok_iZip, ok_aLcG, ok_sExt, ok_sExtL, ok_eRev, ok_aKeys, ok_eOrV, ok_sPopD, ok_cDc, ok_sIns, ok_sPopI, ok_sSetI, List.set_cons_zero, List.set_cons_succ, List.getElem?_cons_zero, List.getElem?_cons_succ, List.map_cons, List.map_nil, List.length_cons, List.length_nil, List.cons_append, List.nil_append, List.replicate_succ, List.replicate_zero, start3, frz, sets, tgName, tgTup, tgTL, tgsCons, tgsNil, wipe3, Nat.reduceSub, Nat.reduceAdd, Nat.reduceLT, ok_forNil, ok_forCons, dMulA_ti, opz_l, opz_t, catL_ll, repL_i, aListQ_l, aListQ_t, aListQ_s, isi2_tl_n, isi2_tl_b, isi2_tl_i, isi2_tl_s, isi2_tl_l, isi2_tl_t, dZipL_l, dLenA_t, dLenA_l, aListA_t, aListA_l, dRev_t, dLenA_d, dicOf_d, dIAdd_ii, dIAdd_ss, dIAdd_tt, dRpart_s, ops0, ops1, ops2, ops3, dZip_tt, if_true, if_false, ite_true, ite_false, reduceCtorEq])
    (try dsimp only); rw [seqK_nx]; (try simp only [oks0, oks1, ok_aCatE, ok_aRepE, ok_eMake, ok_eFld, ok_sFldD, ok_eMeth, ok_sAppO, ok_sExtA, ok_iObj, ok_iZip, ok_aLcG, ok_sExt, ok_sExtL, ok_eRev, ok_aKeys, ok_eOrV, ok_sPopD, ok_cDc, ok_sIns, ok_sPopI, ok_sSetI, List.set_cons_zero, List.set_cons_succ, List.getElem?_cons_zero, List.getElem?_cons_succ, List.map_cons, List.map_nil, List.length_cons, List.length_nil, List.cons_append, List.nil_append, List.replicate_succ, List.replicate_zero, start3, frz, sets, tgName, tgTup, tgTL, tgsCons, tgsNil, wipe3, Nat.reduceSub, Nat.reduceAdd, Nat.reduceLT, ok_forNil, ok_forCons, dMulA_ti, opz_l, opz_t, catL_ll, repL_i, aListQ_l, aListQ_t, aListQ_s, isi2_tl_n, isi2_tl_b, isi2_tl_i, isi2_tl_s, isi2_tl_l, isi2_tl_t, dZipL_l, dLenA_t, dLenA_l, aListA_t, aListA_l, dRev_t, dLenA_d, dicOf_d, dIAdd_ii, dIAdd_ss, dIAdd_tt, dRpart_s, ops0, ops1, ops2, ops3, dZip_tt, if_true, if_false, ite_true, ite_false, reduceCtorEq])
    (try dsimp only); rw [seqK_nx]; (try simp only [oks0, oks1, ok_aCatE, ok_aRepE, ok_eMake, ok_eFld, ok_sFldD, ok_eMeth, ok_sAppO, ok_sExtA, ok_iObj, ok_iZip, ok_aLcG, ok_sExt, ok_sExtL, ok_eRev, ok_aKeys, ok_eOrV, ok_sPopD, ok_cDc, ok_sIns, ok_sPopI, ok_sSetI, List.set_cons_zero, List.set_cons_succ, List.getElem?_cons_zero, List.getElem?_cons_succ, List.map_cons, List.map_nil, List.length_cons, List.length_nil, List.cons_append, List.nil_append, List.replicate_succ, List.replicate_zero, start3, frz, sets, tgName, tgTup, tgTL, tgsCons, tgsNil, wipe3, Nat.reduceSub, Nat.reduceAdd, Nat.reduceLT, ok_forNil, ok_forCons, dMulA_ti, opz_l, opz_t, catL_ll, repL_i, aListQ_l, aListQ_t, aListQ_s, isi2_tl_n, isi2_tl_b, isi2_tl_i, isi2_tl_s, isi2_tl_l, isi2_tl_t, dZipL_l, dLenA_t, dLenA_l, aListA_t, aListA_l, dRev_t, dLenA_d, dicOf_d, dIAdd_ii, dIAdd_ss, dIAdd_tt, dRpart_s, ops0, ops1, ops2, ops3, dZip_tt, if_true, if_false, ite_true, ite_false, reduceCtorEq])
    exact h
  | n, .str s, _, m + 1, g, Q, hm, h => by
    unfold f__law_same d__law_same
    (try simp only [oks0, oks1, ok_aCatE, ok_aRepE, ok_eMake, ok_eFld, ok_sFldD, ok_eMeth, ok_sAppO, ok_sExtA, ok_iObj, ok_iZip, ok_aLcG, ok_sExt, ok_sExtL, ok_eRev, ok_aKeys, ok_eOrV, ok_sPopD, ok_cDc, ok_sIns, ok_sPopI, ok_sSetI, List.set_cons_zero, List.set_cons_succ, List.getElem?_cons_zero, List.getElem?_cons_succ, List.map_cons, List.map_nil, List.length_cons, List.length_nil, List.cons_append, List.nil_append, List.replicate_succ, List.replicate_zero, start3, frz, sets, tgName, tgTup, tgTL, tgsCons, tgsNil, wipe3, Nat.reduceSub, Nat.reduceAdd, Nat.reduceLT, ok_forNil, ok_forCons, dMulA_ti, opz_l, opz_t, catL_ll, repL_i, aListQ_l, aListQ_t, aListQ_s, isi2_tl_n, isi2_tl_b, isi2_tl_i, isi2_tl_s, isi2_tl_l, isi2_tl_t, dZipL_l, dLenA_t, dLenA_l, aListA_t, aListA_l, dRev_t, dLenA_d, dicOf_d, dIAdd_ii, dIAdd_ss, dIAdd_tt, dRpart_s, ops0, ops1, ops2, ops3, dZip_tt, if_true, if_false, ite_true, ite_false, reduceCtorEq])
    (try dsimp only); rw [seqK_nx]; (try simp only [oks0, oks1, ok_aCatE, ok_aRepE, ok_eMake, ok_eFld, ok_sFldD, ok_eMeth, ok_sAppO, ok_sExtA, ok_iObj, ok_iZip, ok_aLcG, ok_sExt, ok_sExtL, ok_eRev, ok_aKeys, ok_eOrV, ok_sPopD, ok_cDc, ok_sIns, ok_sPopI, ok_sSetI, List.set_cons_zero, List.set_cons_succ, List.getElem?_cons_zero, List.getElem?_cons_succ, List.map_cons, List.map_nil, List.length_cons, List.length_nil, List.cons_append, List.nil_append, List.replicate_succ, List.replicate_zero, start3, frz, sets, tgName, tgTup, tgTL, tgsCons, tgsNil, wipe3, Nat.reduceSub, Nat.reduceAdd, Nat.reduceLT, ok_forNil, ok_forCons, dMulA_ti, opz_l, opz_t, catL_ll, repL_i, aListQ_l, aListQ_t, aListQ_s, isi2_tl_n, isi2_tl_b, isi2_tl_i, isi2_tl_s, isi2_tl_l, isi2_tl_t, dZipL_l, dLenA_t, dLenA_l, aListA_t, aListA_l, dRev_t, dLenA_d, dicOf_d, dIAdd_ii, dIAdd_ss, dIAdd_tt, dRpart_s, ops0, ops1, ops2, ops3, dZip_tt, if_true, if_false, ite_true, ite_false, reduceCtorEq])
    (try dsimp only); rw [seqK_nx]; (try simp only [oks0, oks1, ok_aCatE, ok_aRepE, ok_eMake, ok_eFld, ok_sFldD, ok_eMeth, ok_sAppO, ok_sExtA, ok_iObj, ok_iZip, ok_aLcG, ok_sExt, ok_sExtL, ok_eRev, ok_aKeys, ok_eOrV, ok_sPopD, ok_cDc, ok_sIns, ok_sPopI, ok_sSetI, List.set_cons_zero, List.set_cons_succ, List.getElem?_cons_zero, List.getElem?_cons_succ, List.map_cons, List.map_nil, List.length_cons, List.length_nil, List.cons_append, List.nil_append, List.replicate_succ, List.replicate_zero, start3, frz, sets, tgName, tgTup, tgTL, tgsCons, tgsNil, wipe3, Nat.reduceSub, Nat.reduceAdd, Nat.reduceLT, ok_forNil, ok_forCons, dMulA_ti, opz_l, opz_t, catL_ll, repL_i, aListQ_l, aListQ_t, aListQ_s, isi2_tl_n, isi2_tl_b, isi2_tl_i, isi2_tl_s, isi2_tl_l, isi2_tl_t, dZipL_l, dLenA_t, dLenA_l, aListA_t, aListA_l, dRev_t, dLenA_d, dicOf_d, dIAdd_ii, dIAdd_ss, dIAdd_tt, dRpart_s, ops0, ops1, ops2, ops3, dZip_tt, if_true, if_false, ite_true, ite_false, reduceCtorEq])
    exact h
  | n + 1, .tup xs, ha, m + 1, g, Q, hm, h => by
    rw [smB, Bool.and_eq_true, decide_eq_true_eq] at ha
    obtain ⟨hl, ha⟩ := ha
    rw [smBs_all] at ha
    unfold f__law_same d__law_same
    (try simp only [oks0, oks1, ok_aCatE, ok_aRepE, ok_eMake, ok_eFld, ok_sFldD, ok_eMeth, ok_sAppO, ok_sExtA, ok_iObj, ok_iZip, ok_aLcG, ok_sExt, ok_sExtL, ok_eRev, ok_aKeys, ok_eOrV, ok_sPopD, ok_cDc, ok_sIns, ok_sPopI, ok_sSetI, List.set_cons_zero, List.set_cons_succ, List.getElem?_cons_zero, List.getElem?_cons_succ, List.map_cons, List.map_nil, List.length_cons, List.length_nil, List.cons_append, List.nil_append, List.replicate_succ, List.replicate_zero, start3, frz, sets, tgName, tgTup, tgTL, tgsCons, tgsNil, wipe3, Nat.reduceSub, Nat.reduceAdd, Nat.reduceLT, ok_forNil, ok_forCons, dMulA_ti, opz_l, opz_t, catL_ll, repL_i, aListQ_l, aListQ_t, aListQ_s, isi2_tl_n, isi2_tl_b, isi2_tl_i, isi2_tl_s, isi2_tl_l, isi2_tl_t, dZipL_l, dLenA_t, dLenA_l, aListA_t, aListA_l, dRev_t, dLenA_d, dicOf_d, dIAdd_ii, dIAdd_ss, dIAdd_tt, dRpart_s, ops0, ops1, ops2, ops3, dZip_tt, if_true, if_false, ite_true, ite_false, reduceCtorEq])
    (try dsimp only); rw [seqK_nx]; (try simp only [oks0, oks1, ok_aCatE, ok_aRepE, ok_eMake, ok_eFld, ok_sFldD, ok_eMeth, ok_sAppO, ok_sExtA, ok_iObj, ok_iZip, ok_aLcG, ok_sExt, ok_sExtL, ok_eRev, ok_aKeys, ok_eOrV, ok_sPopD, ok_cDc, ok_sIns, ok_sPopI, ok_sSetI, List.set_cons_zero, List.set_cons_succ, List.getElem?_cons_zero, List.getElem?_cons_succ, List.map_cons, List.map_nil, List.length_cons, List.length_nil, List.cons_append, List.nil_append, List.replicate_succ, List.replicate_zero, start3, frz, sets, tgName, tgTup, tgTL, tgsCons, tgsNil, wipe3, Nat.reduceSub, Nat.reduceAdd, Nat.reduceLT, ok_forNil, ok_forCons, dMulA_ti, opz_l, opz_t, catL_ll, repL_i, aListQ_l, aListQ_t, aListQ_s, isi2_tl_n, isi2_tl_b, isi2_tl_i, isi2_tl_s, isi2_tl_l, isi2_tl_t, dZipL_l, dLenA_t, dLenA_l, aListA_t, aListA_l, dRev_t, dLenA_d, dicOf_d, dIAdd_ii, dIAdd_ss, dIAdd_tt, dRpart_s, ops0, ops1, ops2, ops3, dZip_tt, if_true, if_false, ite_true, ite_false, reduceCtorEq])
    (try dsimp only); rw [seqK_nx]; (try simp only [oks0, oks1, ok_aCatE, ok_aRepE, ok_eMake, ok_eFld, ok_sFldD, ok_eMeth, ok_sAppO, ok_sExtA, ok_iObj, ok_iZip, ok_aLcG, ok_sExt, ok_sExtL, ok_eRev, ok_aKeys, ok_eOrV, ok_sPopD, ok_cDc, ok_sIns, ok_sPopI, ok_sSetI, List.set_cons_zero, List.set_cons_succ, List.getElem?_cons_zero, List.getElem?_cons_succ, List.map_cons, List.map_nil, List.length_cons, List.length_nil, List.cons_append, List.nil_append, List.replicate_succ, List.replicate_zero, start3, frz, sets, tgName, tgTup, tgTL, tgsCons, tgsNil, wipe3, Nat.reduceSub, Nat.reduceAdd, Nat.reduceLT, ok_forNil, ok_forCons, dMulA_ti, opz_l, opz_t, catL_ll, repL_i, aListQ_l, aListQ_t, aListQ_s, isi2_tl_n, isi2_tl_b, isi2_tl_i, isi2_tl_s, isi2_tl_l, isi2_tl_t, dZipL_l, dLenA_t, dLenA_l, aListA_t, aListA_l, dRev_t, dLenA_d, dicOf_d, dIAdd_ii, dIAdd_ss, dIAdd_tt, dRpart_s, ops0, ops1, ops2, ops3, dZip_tt, if_true, if_false, ite_true, ite_false, reduceCtorEq])
    refine ⟨⟨by rw [List.length_zipWith]; unfold BIG; omega, rfl⟩, ?_⟩
    refine ok_lcF (f := fun _ => .bl true) (fun d hd => ?_) ?_
    · obtain ⟨i, hi, rfl⟩ := List.getElem_of_mem hd
      rw [List.getElem_zipWith]
      refine ⟨_, rfl, of_ok ?_⟩
      unfold le__law_same_0
      (try simp only [oks0, oks1, ok_aCatE, ok_aRepE, ok_eMake, ok_eFld, ok_sFldD, ok_eMeth, ok_sAppO, ok_sExtA, ok_iObj, ok_iZip, ok_aLcG, ok_sExt, ok_sExtL, ok_eRev, ok_aKeys, ok_eOrV, ok_sPopD, ok_cDc, ok_sIns, ok_sPopI, ok_sSetI, List.set_cons_zero, List.set_cons_succ, List.getElem?_cons_zero, List.getElem?_cons_succ, List.map_cons, List.map_nil, List.length_cons, List.length_nil, List.cons_append, List.nil_append, List.replicate_succ, List.replicate_zero, start3, frz, sets, tgName, tgTup, tgTL, tgsCons, tgsNil, wipe3, Nat.reduceSub, Nat.reduceAdd, Nat.reduceLT, ok_forNil, ok_forCons, dMulA_ti, opz_l, opz_t, catL_ll, repL_i, aListQ_l, aListQ_t, aListQ_s, isi2_tl_n, isi2_tl_b, isi2_tl_i, isi2_tl_s, isi2_tl_l, isi2_tl_t, dZipL_l, dLenA_t, dLenA_l, aListA_t, aListA_l, dRev_t, dLenA_d, dicOf_d, dIAdd_ii, dIAdd_ss, dIAdd_tt, dRpart_s, ops0, ops1, ops2, ops3, dZip_tt, if_true, if_false, ite_true, ite_false, reduceCtorEq])
      exact same_ok n _ (ha _ (List.getElem_mem _)) (by omega) ⟨rfl, rfl⟩
    · rw [all_true]
      (try simp only [oks0, oks1, ok_aCatE, ok_aRepE, ok_eMake, ok_eFld, ok_sFldD, ok_eMeth, ok_sAppO, ok_sExtA, ok_iObj, ok_iZip, ok_aLcG, ok_sExt, ok_sExtL, ok_eRev, ok_aKeys, ok_eOrV, ok_sPopD, ok_cDc, ok_sIns, ok_sPopI, ok_sSetI, List.set_cons_zero, List.set_cons_succ, List.getElem?_cons_zero, List.getElem?_cons_succ, List.map_cons, List.map_nil, List.length_cons, List.length_nil, List.cons_append, List.nil_append, List.replicate_succ, List.replicate_zero, start3, frz, sets, tgName, tgTup, tgTL, tgsCons, tgsNil, wipe3, Nat.reduceSub, Nat.reduceAdd, Nat.reduceLT, ok_forNil, ok_forCons, dMulA_ti, opz_l, opz_t, catL_ll, repL_i, aListQ_l, aListQ_t, aListQ_s, isi2_tl_n, isi2_tl_b, isi2_tl_i, isi2_tl_s, isi2_tl_l, isi2_tl_t, dZipL_l, dLenA_t, dLenA_l, aListA_t, aListA_l, dRev_t, dLenA_d, dicOf_d, dIAdd_ii, dIAdd_ss, dIAdd_tt, dRpart_s, ops0, ops1, ops2, ops3, dZip_tt, if_true, if_false, ite_true, ite_false, reduceCtorEq])
      exact h
  | 0, .tup _, h, _, _, _, _, _ => by simp [smB] at h
  | 0, .lst _, h, _, _, _, _, _ => by simp [smB] at h
  | n + 1, .lst _, h, _, _, _, _, _ => by simp [smB] at h
  | 0, .dic _, h, _, _, _, _, _ => by simp [smB] at h
  | n + 1, .dic _, h, _, _, _, _, _ => by simp [smB] at h
  | 0, .obj _, h, _, _, _, _, _ => by simp [smB] at h
  | n + 1, .obj _, h, _, _, _, _, _ => by simp [smB] at h
  | 0, .sta _, h, _, _, _, _, _ => by simp [smB] at h
  | n + 1, .sta _, h, _, _, _, _, _ => by simp [smB] at h
theorem same_lines {ls : List Tx} {c : Int} {g : Store} {Q : D → Store → Prop} (hl : ls.length ≤ 1000) (w : Q (.bl true) g) : Ok (f__law_same 8 [.tup [.tup [.tup (ls.map .str)], .int c], .tup [.tup [.tup (ls.map .str)], .int c]] g) Q := by
  refine same_ok 4 _ ?_ (by decide) w
  simp only [smB, smBs, Bool.and_true, Bool.and_eq_true, decide_eq_true_eq]
  refine ⟨by simp, by simp, by rw [List.length_map]; exact hl, ?_⟩
  rw [smBs_all]
  intro x hx
  obtain ⟨s, _, rfl⟩ := List.mem_map.mp hx
  rfl
end W

namespace W
open L3
open L2 (atI ixN)
/-! what k28-k38 draw: texts, figures, lines -/
def Asc (s : Tx) : Prop := ∀ c ∈ s, c < 128
theorem Asc.b {s : Tx} (h : Asc s) : (s.all fun c => decide (c < 128)) = true := List.all_eq_true.mpr fun c hc => decide_eq_true (h c hc)
theorem asc_of {s : Tx} (h : (s.all fun c => decide (c < 128)) = true := by decide) : Asc s := fun c hc => of_decide_eq_true (List.all_eq_true.mp h c hc)
theorem Asc.app {s t : Tx} (h : Asc s) (k : Asc t) : Asc (s ++ t) := fun c hc => (List.mem_append.mp hc).elim (h c) (k c)
theorem Asc.take {s : Tx} (h : Asc s) (n : Nat) : Asc (s.take n) := fun c hc => h c (List.mem_of_mem_take hc)
theorem Asc.drop {s : Tx} (h : Asc s) (n : Nat) : Asc (s.drop n) := fun c hc => h c (List.mem_of_mem_drop hc)
theorem Asc.rep {s : Tx} (h : Asc s) (n : Nat) : Asc (List.replicate n s).flatten := fun c hc => by
  obtain ⟨u, hu, hc⟩ := List.mem_flatten.mp hc
  rw [List.mem_replicate] at hu
  rw [hu.2] at hc
  exact h c hc
theorem rep_len (n : Nat) (s : Tx) : (List.replicate n s).flatten.length = n * s.length := by
  rw [List.length_flatten]
  simp
/-- a list's item at a drawn place -/
theorem pick_lst {z : List D} {v : Int} {P : D → Prop} (h : ∀ d ∈ z, P d) (h0 : 0 ≤ v) (h1 : v < z.length) {R : D → Prop} (w : ∀ d, P d → R d) : OkO (dIx (.lst z) (.int v)) R := by
  obtain ⟨d, hd, e⟩ := ix_lst h0 h1
  exact ⟨d, e, w d (h d hd)⟩
theorem text_ok {n : Nat} {g : Store} {top : Nat} {Q : D → Store → Prop} (h : StOk n g) (ht : top ≤ 100) (w : ∀ s g', s.length ≤ top → Asc s → StOk n g' → Q (.str s) g') : Ok (f__law_text [.obj n, .int top] g) Q := by
  unfold f__law_text d__law_text
  (try simp only [oks0, oks1, ok_aCatE, ok_aRepE, ok_eMake, ok_eFld, ok_sFldD, ok_eMeth, ok_sAppO, ok_sExtA, ok_iObj, ok_iZip, ok_aLcG, ok_sExt, ok_sExtL, ok_eRev, ok_aKeys, ok_eOrV, ok_sPopD, ok_cDc, ok_sIns, ok_sPopI, ok_sSetI, List.set_cons_zero, List.set_cons_succ, List.getElem?_cons_zero, List.getElem?_cons_succ, List.map_cons, List.map_nil, List.length_cons, List.length_nil, List.cons_append, List.nil_append, List.replicate_succ, List.replicate_zero, start3, frz, sets, tgName, tgTup, tgTL, tgsCons, tgsNil, wipe3, Nat.reduceSub, Nat.reduceAdd, Nat.reduceLT, ok_forNil, ok_forCons, dMulA_ti, opz_l, opz_t, catL_ll, repL_i, aListQ_l, aListQ_t, aListQ_s, isi2_tl_n, isi2_tl_b, isi2_tl_i, isi2_tl_s, isi2_tl_l, isi2_tl_t, dZipL_l, dLenA_t, dLenA_l, aListA_t, aListA_l, dRev_t, dLenA_d, dicOf_d, dIAdd_ii, dIAdd_ss, dIAdd_tt, dRpart_s, ops0, ops1, ops2, ops3, dZip_tt, if_true, if_false, ite_true, ite_false, reduceCtorEq])
  refine ⟨by decide, ?_⟩
  refine Ok.next h (by decide) (by decide) fun v g1 a0 a1 h1 => ?_
  refine pick_lst (P := fun d => ∃ z : Tx, d = .str z ∧ 0 < z.length ∧ z.length ≤ 60 ∧ Asc z) ?_ a0 (by simpa using a1) fun d hd => ?_
  · intro d hd
    simp only [List.mem_cons, List.not_mem_nil, or_false] at hd
    rcases hd with rfl | rfl | rfl <;> exact ⟨_, rfl, by decide, by decide, asc_of⟩
  obtain ⟨z, rfl, z0, z1, z2⟩ := hd
  (try dsimp only); rw [seqK_nx]; (try simp only [oks0, oks1, ok_aCatE, ok_aRepE, ok_eMake, ok_eFld, ok_sFldD, ok_eMeth, ok_sAppO, ok_sExtA, ok_iObj, ok_iZip, ok_aLcG, ok_sExt, ok_sExtL, ok_eRev, ok_aKeys, ok_eOrV, ok_sPopD, ok_cDc, ok_sIns, ok_sPopI, ok_sSetI, List.set_cons_zero, List.set_cons_succ, List.getElem?_cons_zero, List.getElem?_cons_succ, List.map_cons, List.map_nil, List.length_cons, List.length_nil, List.cons_append, List.nil_append, List.replicate_succ, List.replicate_zero, start3, frz, sets, tgName, tgTup, tgTL, tgsCons, tgsNil, wipe3, Nat.reduceSub, Nat.reduceAdd, Nat.reduceLT, ok_forNil, ok_forCons, dMulA_ti, opz_l, opz_t, catL_ll, repL_i, aListQ_l, aListQ_t, aListQ_s, isi2_tl_n, isi2_tl_b, isi2_tl_i, isi2_tl_s, isi2_tl_l, isi2_tl_t, dZipL_l, dLenA_t, dLenA_l, aListA_t, aListA_l, dRev_t, dLenA_d, dicOf_d, dIAdd_ii, dIAdd_ss, dIAdd_tt, dRpart_s, ops0, ops1, ops2, ops3, dZip_tt, if_true, if_false, ite_true, ite_false, reduceCtorEq])
  refine Ok.next h1 (by omega) (by omega) fun k g2 b0 b1 h2 => ?_
  refine ⟨_, range1_ok b0 (by omega), ⟨by rw [rangeD_len]; unfold BIG; omega, rfl⟩, ?_⟩
  refine join_ok (StOk n) (fun s => ∃ c, s = [c] ∧ c < 128) 1 h2 (by rw [rangeD_len]; unfold BIG; omega) (fun d hd g' hg' => ⟨_, rfl, ?_⟩) (fun l g' hg' hl hP => ?_)
  · unfold le__law_text_0
    (try simp only [oks0, oks1, ok_aCatE, ok_aRepE, ok_eMake, ok_eFld, ok_sFldD, ok_eMeth, ok_sAppO, ok_sExtA, ok_iObj, ok_iZip, ok_aLcG, ok_sExt, ok_sExtL, ok_eRev, ok_aKeys, ok_eOrV, ok_sPopD, ok_cDc, ok_sIns, ok_sPopI, ok_sSetI, List.set_cons_zero, List.set_cons_succ, List.getElem?_cons_zero, List.getElem?_cons_succ, List.map_cons, List.map_nil, List.length_cons, List.length_nil, List.cons_append, List.nil_append, List.replicate_succ, List.replicate_zero, start3, frz, sets, tgName, tgTup, tgTL, tgsCons, tgsNil, wipe3, Nat.reduceSub, Nat.reduceAdd, Nat.reduceLT, ok_forNil, ok_forCons, dMulA_ti, opz_l, opz_t, catL_ll, repL_i, aListQ_l, aListQ_t, aListQ_s, isi2_tl_n, isi2_tl_b, isi2_tl_i, isi2_tl_s, isi2_tl_l, isi2_tl_t, dZipL_l, dLenA_t, dLenA_l, aListA_t, aListA_l, dRev_t, dLenA_d, dicOf_d, dIAdd_ii, dIAdd_ss, dIAdd_tt, dRpart_s, ops0, ops1, ops2, ops3, dZip_tt, if_true, if_false, ite_true, ite_false, reduceCtorEq])
    refine ⟨by unfold BIG; omega, ?_⟩
    refine Ok.next hg' (by omega) (by omega) fun u g3 c0 c1 h3 => ?_
    obtain ⟨c, hc, e⟩ := ix_strA (z := z) c0 c1 (by unfold BIG; omega)
    exact ⟨_, e, ⟨_, rfl, ⟨c, rfl, z2 c hc⟩, Nat.le_refl _⟩, h3⟩
  · obtain ⟨k1, k2⟩ := flat1 (P := fun c => c < 128) l fun s hs => (hP s hs).1
    rw [rangeD_len] at hl
    exact w _ g' (by omega) k2 hg'
theorem strI_len (v : Int) (h0 : -20 ≤ v) (h1 : v ≤ 20) : (strI v).length ≤ 3 ∧ Asc (strI v) := by
  have : ∀ k : Fin 41, (strI ((k : Int) - 20)).length ≤ 3 ∧ ((strI ((k : Int) - 20)).all fun c => decide (c < 128)) = true := by decide +kernel
  have h := this ⟨(v + 20).toNat, by omega⟩
  rw [show (((⟨(v + 20).toNat, by omega⟩ : Fin 41) : Nat) : Int) - 20 = v by simp; omega] at h
  exact ⟨h.1, asc_of h.2⟩
theorem dStr_small {v : Int} (h0 : -1000000 < v) (h1 : v < 1000000) : dStr [.int v] = some (.str (strI v)) := by
  unfold dStr
  dsimp only
  rw [if_pos (show v.natAbs < 10 ^ 60 from Nat.lt_of_lt_of_le (show v.natAbs < 1000000 by omega) (by decide))]
theorem figures_ok {n : Nat} {g : Store} {Q : D → Store → Prop} (h : StOk n g) (w : ∀ s g', s.length ≤ 20 → Asc s → StOk n g' → Q (.str s) g') : Ok (f__law_figures [.obj n] g) Q := by
  unfold f__law_figures d__law_figures
  (try simp only [oks0, oks1, ok_aCatE, ok_aRepE, ok_eMake, ok_eFld, ok_sFldD, ok_eMeth, ok_sAppO, ok_sExtA, ok_iObj, ok_iZip, ok_aLcG, ok_sExt, ok_sExtL, ok_eRev, ok_aKeys, ok_eOrV, ok_sPopD, ok_cDc, ok_sIns, ok_sPopI, ok_sSetI, List.set_cons_zero, List.set_cons_succ, List.getElem?_cons_zero, List.getElem?_cons_succ, List.map_cons, List.map_nil, List.length_cons, List.length_nil, List.cons_append, List.nil_append, List.replicate_succ, List.replicate_zero, start3, frz, sets, tgName, tgTup, tgTL, tgsCons, tgsNil, wipe3, Nat.reduceSub, Nat.reduceAdd, Nat.reduceLT, ok_forNil, ok_forCons, dMulA_ti, opz_l, opz_t, catL_ll, repL_i, aListQ_l, aListQ_t, aListQ_s, isi2_tl_n, isi2_tl_b, isi2_tl_i, isi2_tl_s, isi2_tl_l, isi2_tl_t, dZipL_l, dLenA_t, dLenA_l, aListA_t, aListA_l, dRev_t, dLenA_d, dicOf_d, dIAdd_ii, dIAdd_ss, dIAdd_tt, dRpart_s, ops0, ops1, ops2, ops3, dZip_tt, if_true, if_false, ite_true, ite_false, reduceCtorEq])
  refine ⟨by decide, by decide, by decide, by decide, by decide, ?_⟩
  (try dsimp only); rw [seqK_nx]; (try simp only [oks0, oks1, ok_aCatE, ok_aRepE, ok_eMake, ok_eFld, ok_sFldD, ok_eMeth, ok_sAppO, ok_sExtA, ok_iObj, ok_iZip, ok_aLcG, ok_sExt, ok_sExtL, ok_eRev, ok_aKeys, ok_eOrV, ok_sPopD, ok_cDc, ok_sIns, ok_sPopI, ok_sSetI, List.set_cons_zero, List.set_cons_succ, List.getElem?_cons_zero, List.getElem?_cons_succ, List.map_cons, List.map_nil, List.length_cons, List.length_nil, List.cons_append, List.nil_append, List.replicate_succ, List.replicate_zero, start3, frz, sets, tgName, tgTup, tgTL, tgsCons, tgsNil, wipe3, Nat.reduceSub, Nat.reduceAdd, Nat.reduceLT, ok_forNil, ok_forCons, dMulA_ti, opz_l, opz_t, catL_ll, repL_i, aListQ_l, aListQ_t, aListQ_s, isi2_tl_n, isi2_tl_b, isi2_tl_i, isi2_tl_s, isi2_tl_l, isi2_tl_t, dZipL_l, dLenA_t, dLenA_l, aListA_t, aListA_l, dRev_t, dLenA_d, dicOf_d, dIAdd_ii, dIAdd_ss, dIAdd_tt, dRpart_s, ops0, ops1, ops2, ops3, dZip_tt, if_true, if_false, ite_true, ite_false, reduceCtorEq])
  refine ⟨by decide, by decide, by decide, by decide, by decide, by decide, by decide, by decide, ?_⟩
  (try dsimp only); rw [seqK_nx]; (try simp only [oks0, oks1, ok_aCatE, ok_aRepE, ok_eMake, ok_eFld, ok_sFldD, ok_eMeth, ok_sAppO, ok_sExtA, ok_iObj, ok_iZip, ok_aLcG, ok_sExt, ok_sExtL, ok_eRev, ok_aKeys, ok_eOrV, ok_sPopD, ok_cDc, ok_sIns, ok_sPopI, ok_sSetI, List.set_cons_zero, List.set_cons_succ, List.getElem?_cons_zero, List.getElem?_cons_succ, List.map_cons, List.map_nil, List.length_cons, List.length_nil, List.cons_append, List.nil_append, List.replicate_succ, List.replicate_zero, start3, frz, sets, tgName, tgTup, tgTL, tgsCons, tgsNil, wipe3, Nat.reduceSub, Nat.reduceAdd, Nat.reduceLT, ok_forNil, ok_forCons, dMulA_ti, opz_l, opz_t, catL_ll, repL_i, aListQ_l, aListQ_t, aListQ_s, isi2_tl_n, isi2_tl_b, isi2_tl_i, isi2_tl_s, isi2_tl_l, isi2_tl_t, dZipL_l, dLenA_t, dLenA_l, aListA_t, aListA_l, dRev_t, dLenA_d, dicOf_d, dIAdd_ii, dIAdd_ss, dIAdd_tt, dRpart_s, ops0, ops1, ops2, ops3, dZip_tt, if_true, if_false, ite_true, ite_false, reduceCtorEq])
  refine Ok.next h (by decide) (by decide) fun v g1 a0 a1 h1 => ?_
  (try simp only [oks0, oks1, ok_aCatE, ok_aRepE, ok_eMake, ok_eFld, ok_sFldD, ok_eMeth, ok_sAppO, ok_sExtA, ok_iObj, ok_iZip, ok_aLcG, ok_sExt, ok_sExtL, ok_eRev, ok_aKeys, ok_eOrV, ok_sPopD, ok_cDc, ok_sIns, ok_sPopI, ok_sSetI, List.set_cons_zero, List.set_cons_succ, List.getElem?_cons_zero, List.getElem?_cons_succ, List.map_cons, List.map_nil, List.length_cons, List.length_nil, List.cons_append, List.nil_append, List.replicate_succ, List.replicate_zero, start3, frz, sets, tgName, tgTup, tgTL, tgsCons, tgsNil, wipe3, Nat.reduceSub, Nat.reduceAdd, Nat.reduceLT, ok_forNil, ok_forCons, dMulA_ti, opz_l, opz_t, catL_ll, repL_i, aListQ_l, aListQ_t, aListQ_s, isi2_tl_n, isi2_tl_b, isi2_tl_i, isi2_tl_s, isi2_tl_l, isi2_tl_t, dZipL_l, dLenA_t, dLenA_l, aListA_t, aListA_l, dRev_t, dLenA_d, dicOf_d, dIAdd_ii, dIAdd_ss, dIAdd_tt, dRpart_s, ops0, ops1, ops2, ops3, dZip_tt, if_true, if_false, ite_true, ite_false, reduceCtorEq])
  by_cases hv : v = 0
  · rw [if_pos hv]
    refine Ok.next h1 (by decide) (by decide) fun u g2 b0 b1 h2 => ?_
    refine pick_lst (P := fun d => ∃ z : Tx, d = .str z ∧ z.length ≤ 20 ∧ (z.all fun c => decide (c < 128)) = true) ?_ b0 (by simpa using b1) fun d hd => ?_
    · intro d hd
      simp only [List.mem_cons, List.not_mem_nil, or_false] at hd
      rcases hd with rfl | rfl | rfl | rfl | rfl | rfl | rfl | rfl | rfl | rfl | rfl | rfl | rfl | rfl | rfl | rfl | rfl | rfl <;> exact ⟨_, rfl, by decide, by decide⟩
    obtain ⟨z, rfl, z1, z2⟩ := hd
    exact w z g2 z1 (asc_of z2) h2
  · rw [if_neg hv]
    (try dsimp only); rw [seqK_nx]; (try simp only [oks0, oks1, ok_aCatE, ok_aRepE, ok_eMake, ok_eFld, ok_sFldD, ok_eMeth, ok_sAppO, ok_sExtA, ok_iObj, ok_iZip, ok_aLcG, ok_sExt, ok_sExtL, ok_eRev, ok_aKeys, ok_eOrV, ok_sPopD, ok_cDc, ok_sIns, ok_sPopI, ok_sSetI, List.set_cons_zero, List.set_cons_succ, List.getElem?_cons_zero, List.getElem?_cons_succ, List.map_cons, List.map_nil, List.length_cons, List.length_nil, List.cons_append, List.nil_append, List.replicate_succ, List.replicate_zero, start3, frz, sets, tgName, tgTup, tgTL, tgsCons, tgsNil, wipe3, Nat.reduceSub, Nat.reduceAdd, Nat.reduceLT, ok_forNil, ok_forCons, dMulA_ti, opz_l, opz_t, catL_ll, repL_i, aListQ_l, aListQ_t, aListQ_s, isi2_tl_n, isi2_tl_b, isi2_tl_i, isi2_tl_s, isi2_tl_l, isi2_tl_t, dZipL_l, dLenA_t, dLenA_l, aListA_t, aListA_l, dRev_t, dLenA_d, dicOf_d, dIAdd_ii, dIAdd_ss, dIAdd_tt, dRpart_s, ops0, ops1, ops2, ops3, dZip_tt, if_true, if_false, ite_true, ite_false, reduceCtorEq])
    refine Ok.next h1 (by decide) (by decide) fun u g2 b0 b1 h2 => ?_
    (try simp only [oks0, oks1, ok_aCatE, ok_aRepE, ok_eMake, ok_eFld, ok_sFldD, ok_eMeth, ok_sAppO, ok_sExtA, ok_iObj, ok_iZip, ok_aLcG, ok_sExt, ok_sExtL, ok_eRev, ok_aKeys, ok_eOrV, ok_sPopD, ok_cDc, ok_sIns, ok_sPopI, ok_sSetI, List.set_cons_zero, List.set_cons_succ, List.getElem?_cons_zero, List.getElem?_cons_succ, List.map_cons, List.map_nil, List.length_cons, List.length_nil, List.cons_append, List.nil_append, List.replicate_succ, List.replicate_zero, start3, frz, sets, tgName, tgTup, tgTL, tgsCons, tgsNil, wipe3, Nat.reduceSub, Nat.reduceAdd, Nat.reduceLT, ok_forNil, ok_forCons, dMulA_ti, opz_l, opz_t, catL_ll, repL_i, aListQ_l, aListQ_t, aListQ_s, isi2_tl_n, isi2_tl_b, isi2_tl_i, isi2_tl_s, isi2_tl_l, isi2_tl_t, dZipL_l, dLenA_t, dLenA_l, aListA_t, aListA_l, dRev_t, dLenA_d, dicOf_d, dIAdd_ii, dIAdd_ss, dIAdd_tt, dRpart_s, ops0, ops1, ops2, ops3, dZip_tt, if_true, if_false, ite_true, ite_false, reduceCtorEq])
    have hs := strI_len (u - 20) (by omega) (by omega)
    exact ⟨_, dStr_small (by omega) (by omega), w _ g2 (by omega) hs.2 h2⟩
/-- a row of lines -/
def LnOk (ls : List Tx) : Prop := ∀ s ∈ ls, s.length ≤ 80 ∧ Asc s
theorem eqD_tnil (x : D) (xs : List D) : eqD (.tup (x :: xs)) (.tup []) = false := by
  unfold eqD
  simp only [toPy, toPys]
  cases h : toPy x <;> cases h2 : toPys xs <;> simp [PySem.PyData.eqv, PySem.PyData.eqvAll]
end W

namespace W
open L3
open L2 (atI ixN)
theorem line_ok {n : Nat} {g : Store} {Q : D → Store → Prop} (h : StOk n g) (w : ∀ s g', s.length ≤ 80 → Asc s → StOk n g' → Q (.str s) g') : Ok (f__law_line [.obj n] g) Q := by
  unfold f__law_line d__law_line
  (try simp only [oks0, oks1, ok_aCatE, ok_aRepE, ok_eMake, ok_eFld, ok_sFldD, ok_eMeth, ok_sAppO, ok_sExtA, ok_iObj, ok_iZip, ok_aLcG, ok_sExt, ok_sExtL, ok_eRev, ok_aKeys, ok_eOrV, ok_sPopD, ok_cDc, ok_sIns, ok_sPopI, ok_sSetI, List.set_cons_zero, List.set_cons_succ, List.getElem?_cons_zero, List.getElem?_cons_succ, List.map_cons, List.map_nil, List.length_cons, List.length_nil, List.cons_append, List.nil_append, List.replicate_succ, List.replicate_zero, start3, frz, sets, tgName, tgTup, tgTL, tgsCons, tgsNil, wipe3, Nat.reduceSub, Nat.reduceAdd, Nat.reduceLT, ok_forNil, ok_forCons, dMulA_ti, opz_l, opz_t, catL_ll, repL_i, aListQ_l, aListQ_t, aListQ_s, isi2_tl_n, isi2_tl_b, isi2_tl_i, isi2_tl_s, isi2_tl_l, isi2_tl_t, dZipL_l, dLenA_t, dLenA_l, aListA_t, aListA_l, dRev_t, dLenA_d, dicOf_d, dIAdd_ii, dIAdd_ss, dIAdd_tt, dRpart_s, ops0, ops1, ops2, ops3, dZip_tt, if_true, if_false, ite_true, ite_false, reduceCtorEq])
  refine Ok.next h (by decide) (by decide) fun v g1 a0 a1 h1 => ?_
  (try dsimp only); rw [seqK_nx]; (try simp only [oks0, oks1, ok_aCatE, ok_aRepE, ok_eMake, ok_eFld, ok_sFldD, ok_eMeth, ok_sAppO, ok_sExtA, ok_iObj, ok_iZip, ok_aLcG, ok_sExt, ok_sExtL, ok_eRev, ok_aKeys, ok_eOrV, ok_sPopD, ok_cDc, ok_sIns, ok_sPopI, ok_sSetI, List.set_cons_zero, List.set_cons_succ, List.getElem?_cons_zero, List.getElem?_cons_succ, List.map_cons, List.map_nil, List.length_cons, List.length_nil, List.cons_append, List.nil_append, List.replicate_succ, List.replicate_zero, start3, frz, sets, tgName, tgTup, tgTL, tgsCons, tgsNil, wipe3, Nat.reduceSub, Nat.reduceAdd, Nat.reduceLT, ok_forNil, ok_forCons, dMulA_ti, opz_l, opz_t, catL_ll, repL_i, aListQ_l, aListQ_t, aListQ_s, isi2_tl_n, isi2_tl_b, isi2_tl_i, isi2_tl_s, isi2_tl_l, isi2_tl_t, dZipL_l, dLenA_t, dLenA_l, aListA_t, aListA_l, dRev_t, dLenA_d, dicOf_d, dIAdd_ii, dIAdd_ss, dIAdd_tt, dRpart_s, ops0, ops1, ops2, ops3, dZip_tt, if_true, if_false, ite_true, ite_false, reduceCtorEq])
  by_cases h2 : v < 2
  · rw [if_pos h2]
    exact text_ok (top := 6) h1 (by decide) fun s g' k1 k2 k3 => w s g' (by omega) k2 k3
  rw [if_neg h2]
  (try dsimp only); rw [seqK_nx]; (try simp only [oks0, oks1, ok_aCatE, ok_aRepE, ok_eMake, ok_eFld, ok_sFldD, ok_eMeth, ok_sAppO, ok_sExtA, ok_iObj, ok_iZip, ok_aLcG, ok_sExt, ok_sExtL, ok_eRev, ok_aKeys, ok_eOrV, ok_sPopD, ok_cDc, ok_sIns, ok_sPopI, ok_sSetI, List.set_cons_zero, List.set_cons_succ, List.getElem?_cons_zero, List.getElem?_cons_succ, List.map_cons, List.map_nil, List.length_cons, List.length_nil, List.cons_append, List.nil_append, List.replicate_succ, List.replicate_zero, start3, frz, sets, tgName, tgTup, tgTL, tgsCons, tgsNil, wipe3, Nat.reduceSub, Nat.reduceAdd, Nat.reduceLT, ok_forNil, ok_forCons, dMulA_ti, opz_l, opz_t, catL_ll, repL_i, aListQ_l, aListQ_t, aListQ_s, isi2_tl_n, isi2_tl_b, isi2_tl_i, isi2_tl_s, isi2_tl_l, isi2_tl_t, dZipL_l, dLenA_t, dLenA_l, aListA_t, aListA_l, dRev_t, dLenA_d, dicOf_d, dIAdd_ii, dIAdd_ss, dIAdd_tt, dRpart_s, ops0, ops1, ops2, ops3, dZip_tt, if_true, if_false, ite_true, ite_false, reduceCtorEq])
  by_cases h4 : v < 4
  · rw [if_pos h4]
    exact figures_ok h1 fun s g' k1 k2 k3 => w s g' (by omega) k2 k3
  rw [if_neg h4]
  (try dsimp only); rw [seqK_nx]; (try simp only [oks0, oks1, ok_aCatE, ok_aRepE, ok_eMake, ok_eFld, ok_sFldD, ok_eMeth, ok_sAppO, ok_sExtA, ok_iObj, ok_iZip, ok_aLcG, ok_sExt, ok_sExtL, ok_eRev, ok_aKeys, ok_eOrV, ok_sPopD, ok_cDc, ok_sIns, ok_sPopI, ok_sSetI, List.set_cons_zero, List.set_cons_succ, List.getElem?_cons_zero, List.getElem?_cons_succ, List.map_cons, List.map_nil, List.length_cons, List.length_nil, List.cons_append, List.nil_append, List.replicate_succ, List.replicate_zero, start3, frz, sets, tgName, tgTup, tgTL, tgsCons, tgsNil, wipe3, Nat.reduceSub, Nat.reduceAdd, Nat.reduceLT, ok_forNil, ok_forCons, dMulA_ti, opz_l, opz_t, catL_ll, repL_i, aListQ_l, aListQ_t, aListQ_s, isi2_tl_n, isi2_tl_b, isi2_tl_i, isi2_tl_s, isi2_tl_l, isi2_tl_t, dZipL_l, dLenA_t, dLenA_l, aListA_t, aListA_l, dRev_t, dLenA_d, dicOf_d, dIAdd_ii, dIAdd_ss, dIAdd_tt, dRpart_s, ops0, ops1, ops2, ops3, dZip_tt, if_true, if_false, ite_true, ite_false, reduceCtorEq])
  by_cases h7 : v < 7
  · rw [if_pos h7]
    refine Ok.next h1 (by decide) (by decide) fun u g2 b0 b1 k2 => ?_
    (try simp only [oks0, oks1, ok_aCatE, ok_aRepE, ok_eMake, ok_eFld, ok_sFldD, ok_eMeth, ok_sAppO, ok_sExtA, ok_iObj, ok_iZip, ok_aLcG, ok_sExt, ok_sExtL, ok_eRev, ok_aKeys, ok_eOrV, ok_sPopD, ok_cDc, ok_sIns, ok_sPopI, ok_sSetI, List.set_cons_zero, List.set_cons_succ, List.getElem?_cons_zero, List.getElem?_cons_succ, List.map_cons, List.map_nil, List.length_cons, List.length_nil, List.cons_append, List.nil_append, List.replicate_succ, List.replicate_zero, start3, frz, sets, tgName, tgTup, tgTL, tgsCons, tgsNil, wipe3, Nat.reduceSub, Nat.reduceAdd, Nat.reduceLT, ok_forNil, ok_forCons, dMulA_ti, opz_l, opz_t, catL_ll, repL_i, aListQ_l, aListQ_t, aListQ_s, isi2_tl_n, isi2_tl_b, isi2_tl_i, isi2_tl_s, isi2_tl_l, isi2_tl_t, dZipL_l, dLenA_t, dLenA_l, aListA_t, aListA_l, dRev_t, dLenA_d, dicOf_d, dIAdd_ii, dIAdd_ss, dIAdd_tt, dRpart_s, ops0, ops1, ops2, ops3, dZip_tt, if_true, if_false, ite_true, ite_false, reduceCtorEq])
    refine ⟨⟨b0, by omega, by unfold BIG; omega⟩, ?_⟩
    (try dsimp only); rw [seqK_nx]; (try simp only [oks0, oks1, ok_aCatE, ok_aRepE, ok_eMake, ok_eFld, ok_sFldD, ok_eMeth, ok_sAppO, ok_sExtA, ok_iObj, ok_iZip, ok_aLcG, ok_sExt, ok_sExtL, ok_eRev, ok_aKeys, ok_eOrV, ok_sPopD, ok_cDc, ok_sIns, ok_sPopI, ok_sSetI, List.set_cons_zero, List.set_cons_succ, List.getElem?_cons_zero, List.getElem?_cons_succ, List.map_cons, List.map_nil, List.length_cons, List.length_nil, List.cons_append, List.nil_append, List.replicate_succ, List.replicate_zero, start3, frz, sets, tgName, tgTup, tgTL, tgsCons, tgsNil, wipe3, Nat.reduceSub, Nat.reduceAdd, Nat.reduceLT, dMulA_ti, opz_l, opz_t, catL_ll, repL_i, aListQ_l, aListQ_t, aListQ_s, isi2_tl_n, isi2_tl_b, isi2_tl_i, isi2_tl_s, isi2_tl_l, isi2_tl_t, dZipL_l, dLenA_t, dLenA_l, aListA_t, aListA_l, dRev_t, dLenA_d, dicOf_d, dIAdd_ii, dIAdd_ss, dIAdd_tt, dRpart_s, ops0, ops1, ops2, ops3, dZip_tt, if_true, if_false, ite_true, ite_false, reduceCtorEq])
    refine Ok.next k2 (by decide) (by decide) fun m g3 c0 c1 k3 => ?_
    refine ⟨_, range1_ok c0 (by omega), ?_⟩
    refine ok_forR (fun i ρ g => StOk n g ∧ ∃ s a b, ρ = [some (SV.d (D.obj n)), some (SV.d (D.int v)), some (SV.d (D.str s)), a, b] ∧ s.length ≤ 3 + 30 * i ∧ Asc s) ⟨k3, _, _, _, rfl, by rw [rep_len]; simp; omega, Asc.rep asc_of _⟩ (fun i ρ g4 hi hJ => ⟨_, rfl, ?_⟩) (fun ρ g4 hJ => ?_)
    · obtain ⟨k4, s, a, b, rfl, l1, l2⟩ := hJ
      have hi4 : i < 5 := by omega
      unfold lb__law_line_0
      (try simp only [oks0, oks1, ok_aCatE, ok_aRepE, ok_eMake, ok_eFld, ok_sFldD, ok_eMeth, ok_sAppO, ok_sExtA, ok_iObj, ok_iZip, ok_aLcG, ok_sExt, ok_sExtL, ok_eRev, ok_aKeys, ok_eOrV, ok_sPopD, ok_cDc, ok_sIns, ok_sPopI, ok_sSetI, List.set_cons_zero, List.set_cons_succ, List.getElem?_cons_zero, List.getElem?_cons_succ, List.map_cons, List.map_nil, List.length_cons, List.length_nil, List.cons_append, List.nil_append, List.replicate_succ, List.replicate_zero, start3, frz, sets, tgName, tgTup, tgTL, tgsCons, tgsNil, wipe3, Nat.reduceSub, Nat.reduceAdd, Nat.reduceLT, ok_forNil, ok_forCons, dMulA_ti, opz_l, opz_t, catL_ll, repL_i, aListQ_l, aListQ_t, aListQ_s, isi2_tl_n, isi2_tl_b, isi2_tl_i, isi2_tl_s, isi2_tl_l, isi2_tl_t, dZipL_l, dLenA_t, dLenA_l, aListA_t, aListA_l, dRev_t, dLenA_d, dicOf_d, dIAdd_ii, dIAdd_ss, dIAdd_tt, dRpart_s, ops0, ops1, ops2, ops3, dZip_tt, if_true, if_false, ite_true, ite_false, reduceCtorEq])
      refine figures_ok k4 fun f g5 f1 f2 k5 => ?_
      (try simp only [oks0, oks1, ok_aCatE, ok_aRepE, ok_eMake, ok_eFld, ok_sFldD, ok_eMeth, ok_sAppO, ok_sExtA, ok_iObj, ok_iZip, ok_aLcG, ok_sExt, ok_sExtL, ok_eRev, ok_aKeys, ok_eOrV, ok_sPopD, ok_cDc, ok_sIns, ok_sPopI, ok_sSetI, List.set_cons_zero, List.set_cons_succ, List.getElem?_cons_zero, List.getElem?_cons_succ, List.map_cons, List.map_nil, List.length_cons, List.length_nil, List.cons_append, List.nil_append, List.replicate_succ, List.replicate_zero, start3, frz, sets, tgName, tgTup, tgTL, tgsCons, tgsNil, wipe3, Nat.reduceSub, Nat.reduceAdd, Nat.reduceLT, ok_forNil, ok_forCons, dMulA_ti, opz_l, opz_t, catL_ll, repL_i, aListQ_l, aListQ_t, aListQ_s, isi2_tl_n, isi2_tl_b, isi2_tl_i, isi2_tl_s, isi2_tl_l, isi2_tl_t, dZipL_l, dLenA_t, dLenA_l, aListA_t, aListA_l, dRev_t, dLenA_d, dicOf_d, dIAdd_ii, dIAdd_ss, dIAdd_tt, dRpart_s, ops0, ops1, ops2, ops3, dZip_tt, if_true, if_false, ite_true, ite_false, reduceCtorEq])
      refine Ok.next k5 (by decide) (by decide) fun q g6 d0 d1 k6 => ?_
      (try simp only [oks0, oks1, ok_aCatE, ok_aRepE, ok_eMake, ok_eFld, ok_sFldD, ok_eMeth, ok_sAppO, ok_sExtA, ok_iObj, ok_iZip, ok_aLcG, ok_sExt, ok_sExtL, ok_eRev, ok_aKeys, ok_eOrV, ok_sPopD, ok_cDc, ok_sIns, ok_sPopI, ok_sSetI, List.set_cons_zero, List.set_cons_succ, List.getElem?_cons_zero, List.getElem?_cons_succ, List.map_cons, List.map_nil, List.length_cons, List.length_nil, List.cons_append, List.nil_append, List.replicate_succ, List.replicate_zero, start3, frz, sets, tgName, tgTup, tgTL, tgsCons, tgsNil, wipe3, Nat.reduceSub, Nat.reduceAdd, Nat.reduceLT, ok_forNil, ok_forCons, dMulA_ti, opz_l, opz_t, catL_ll, repL_i, aListQ_l, aListQ_t, aListQ_s, isi2_tl_n, isi2_tl_b, isi2_tl_i, isi2_tl_s, isi2_tl_l, isi2_tl_t, dZipL_l, dLenA_t, dLenA_l, aListA_t, aListA_l, dRev_t, dLenA_d, dicOf_d, dIAdd_ii, dIAdd_ss, dIAdd_tt, dRpart_s, ops0, ops1, ops2, ops3, dZip_tt, if_true, if_false, ite_true, ite_false, reduceCtorEq])
      have hs := strI_len (i : Int) (by omega) (by omega)
      refine ⟨by decide, _, dStr_small (by omega) (by omega), ?_⟩
      (try simp only [oks0, oks1, ok_aCatE, ok_aRepE, ok_eMake, ok_eFld, ok_sFldD, ok_eMeth, ok_sAppO, ok_sExtA, ok_iObj, ok_iZip, ok_aLcG, ok_sExt, ok_sExtL, ok_eRev, ok_aKeys, ok_eOrV, ok_sPopD, ok_cDc, ok_sIns, ok_sPopI, ok_sSetI, List.set_cons_zero, List.set_cons_succ, List.getElem?_cons_zero, List.getElem?_cons_succ, List.map_cons, List.map_nil, List.length_cons, List.length_nil, List.cons_append, List.nil_append, List.replicate_succ, List.replicate_zero, start3, frz, sets, tgName, tgTup, tgTL, tgsCons, tgsNil, wipe3, Nat.reduceSub, Nat.reduceAdd, Nat.reduceLT, ok_forNil, ok_forCons, dMulA_ti, opz_l, opz_t, catL_ll, repL_i, aListQ_l, aListQ_t, aListQ_s, isi2_tl_n, isi2_tl_b, isi2_tl_i, isi2_tl_s, isi2_tl_l, isi2_tl_t, dZipL_l, dLenA_t, dLenA_l, aListA_t, aListA_l, dRev_t, dLenA_d, dicOf_d, dIAdd_ii, dIAdd_ss, dIAdd_tt, dRpart_s, ops0, ops1, ops2, ops3, dZip_tt, if_true, if_false, ite_true, ite_false, reduceCtorEq])
      refine ⟨by unfold BIG; omega, by decide, ?_⟩
      refine Ok.next k6 (by decide) (by decide) fun q2 g7 e0 e1 k7 => ?_
      refine pick_lst (P := fun d => ∃ z : Tx, d = .str z ∧ z.length ≤ 20 ∧ Asc z) ?_ e0 (by simpa using e1) fun d hd => ?_
      · intro d hd
        simp only [List.mem_cons, List.not_mem_nil, or_false] at hd
        rcases hd with rfl | rfl | rfl
        · exact ⟨_, rfl, f1, f2⟩
        · refine ⟨_, rfl, Nat.le_trans (cut_len _ _ _) (by decide), ?_⟩
          rw [cut_take _ (1 + q).toNat (by omega)]
          exact Asc.take asc_of _
        · exact ⟨_, rfl, by simp; omega, Asc.app (s := [120]) asc_of hs.2⟩
      obtain ⟨z, rfl, z1, z2⟩ := hd
      (try dsimp only); rw [seqK_nx]; (try simp only [oks0, oks1, ok_aCatE, ok_aRepE, ok_eMake, ok_eFld, ok_sFldD, ok_eMeth, ok_sAppO, ok_sExtA, ok_iObj, ok_iZip, ok_aLcG, ok_sExt, ok_sExtL, ok_eRev, ok_aKeys, ok_eOrV, ok_sPopD, ok_cDc, ok_sIns, ok_sPopI, ok_sSetI, List.set_cons_zero, List.set_cons_succ, List.getElem?_cons_zero, List.getElem?_cons_succ, List.map_cons, List.map_nil, List.length_cons, List.length_nil, List.cons_append, List.nil_append, List.replicate_succ, List.replicate_zero, start3, frz, sets, tgName, tgTup, tgTL, tgsCons, tgsNil, wipe3, Nat.reduceSub, Nat.reduceAdd, Nat.reduceLT, ok_forNil, ok_forCons, dMulA_ti, opz_l, opz_t, catL_ll, repL_i, aListQ_l, aListQ_t, aListQ_s, isi2_tl_n, isi2_tl_b, isi2_tl_i, isi2_tl_s, isi2_tl_l, isi2_tl_t, dZipL_l, dLenA_t, dLenA_l, aListA_t, aListA_l, dRev_t, dLenA_d, dicOf_d, dIAdd_ii, dIAdd_ss, dIAdd_tt, dRpart_s, ops0, ops1, ops2, ops3, dZip_tt, if_true, if_false, ite_true, ite_false, reduceCtorEq])
      refine ⟨by unfold BIG; omega, ?_⟩
      refine Ok.next k7 (by decide) (by decide) fun q3 g8 p0 p1 k8 => ?_
      (try simp only [oks0, oks1, ok_aCatE, ok_aRepE, ok_eMake, ok_eFld, ok_sFldD, ok_eMeth, ok_sAppO, ok_sExtA, ok_iObj, ok_iZip, ok_aLcG, ok_sExt, ok_sExtL, ok_eRev, ok_aKeys, ok_eOrV, ok_sPopD, ok_cDc, ok_sIns, ok_sPopI, ok_sSetI, List.set_cons_zero, List.set_cons_succ, List.getElem?_cons_zero, List.getElem?_cons_succ, List.map_cons, List.map_nil, List.length_cons, List.length_nil, List.cons_append, List.nil_append, List.replicate_succ, List.replicate_zero, start3, frz, sets, tgName, tgTup, tgTL, tgsCons, tgsNil, wipe3, Nat.reduceSub, Nat.reduceAdd, Nat.reduceLT, ok_forNil, ok_forCons, dMulA_ti, opz_l, opz_t, catL_ll, repL_i, aListQ_l, aListQ_t, aListQ_s, isi2_tl_n, isi2_tl_b, isi2_tl_i, isi2_tl_s, isi2_tl_l, isi2_tl_t, dZipL_l, dLenA_t, dLenA_l, aListA_t, aListA_l, dRev_t, dLenA_d, dicOf_d, dIAdd_ii, dIAdd_ss, dIAdd_tt, dRpart_s, ops0, ops1, ops2, ops3, dZip_tt, if_true, if_false, ite_true, ite_false, reduceCtorEq])
      have rl : (List.replicate (1 + q3).toNat [32]).flatten.length ≤ 2 := by rw [rep_len]; simp; omega
      refine ⟨⟨by omega, by omega, by unfold BIG; omega⟩, by rw [List.length_append]; unfold BIG; omega, ?_⟩
      refine ⟨k8, _, _, _, rfl, by rw [List.length_append, List.length_append]; omega, (l2.app z2).app (Asc.rep asc_of _)⟩
    · obtain ⟨k4, s, a, b, rfl, l1, l2⟩ := hJ
      (try dsimp only); rw [seqK_nx]; (try simp only [oks0, oks1, ok_aCatE, ok_aRepE, ok_eMake, ok_eFld, ok_sFldD, ok_eMeth, ok_sAppO, ok_sExtA, ok_iObj, ok_iZip, ok_aLcG, ok_sExt, ok_sExtL, ok_eRev, ok_aKeys, ok_eOrV, ok_sPopD, ok_cDc, ok_sIns, ok_sPopI, ok_sSetI, List.set_cons_zero, List.set_cons_succ, List.getElem?_cons_zero, List.getElem?_cons_succ, List.map_cons, List.map_nil, List.length_cons, List.length_nil, List.cons_append, List.nil_append, List.replicate_succ, List.replicate_zero, start3, frz, sets, tgName, tgTup, tgTL, tgsCons, tgsNil, wipe3, Nat.reduceSub, Nat.reduceAdd, Nat.reduceLT, ok_forNil, ok_forCons, dMulA_ti, opz_l, opz_t, catL_ll, repL_i, aListQ_l, aListQ_t, aListQ_s, isi2_tl_n, isi2_tl_b, isi2_tl_i, isi2_tl_s, isi2_tl_l, isi2_tl_t, dZipL_l, dLenA_t, dLenA_l, aListA_t, aListA_l, dRev_t, dLenA_d, dicOf_d, dIAdd_ii, dIAdd_ss, dIAdd_tt, dRpart_s, ops0, ops1, ops2, ops3, dZip_tt, if_true, if_false, ite_true, ite_false, reduceCtorEq])
      rw [cut_take _ 80]
      refine ⟨by unfold BIG; omega, w _ g4 (by rw [List.length_take]; omega) (l2.take _) k4⟩
  rw [if_neg h7]
  (try dsimp only); rw [seqK_nx]; (try simp only [oks0, oks1, ok_aCatE, ok_aRepE, ok_eMake, ok_eFld, ok_sFldD, ok_eMeth, ok_sAppO, ok_sExtA, ok_iObj, ok_iZip, ok_aLcG, ok_sExt, ok_sExtL, ok_eRev, ok_aKeys, ok_eOrV, ok_sPopD, ok_cDc, ok_sIns, ok_sPopI, ok_sSetI, List.set_cons_zero, List.set_cons_succ, List.getElem?_cons_zero, List.getElem?_cons_succ, List.map_cons, List.map_nil, List.length_cons, List.length_nil, List.cons_append, List.nil_append, List.replicate_succ, List.replicate_zero, start3, frz, sets, tgName, tgTup, tgTL, tgsCons, tgsNil, wipe3, Nat.reduceSub, Nat.reduceAdd, Nat.reduceLT, ok_forNil, ok_forCons, dMulA_ti, opz_l, opz_t, catL_ll, repL_i, aListQ_l, aListQ_t, aListQ_s, isi2_tl_n, isi2_tl_b, isi2_tl_i, isi2_tl_s, isi2_tl_l, isi2_tl_t, dZipL_l, dLenA_t, dLenA_l, aListA_t, aListA_l, dRev_t, dLenA_d, dicOf_d, dIAdd_ii, dIAdd_ss, dIAdd_tt, dRpart_s, ops0, ops1, ops2, ops3, dZip_tt, if_true, if_false, ite_true, ite_false, reduceCtorEq])
  refine ⟨by decide, ?_⟩
  refine Ok.next h1 (by decide) (by decide) fun q g2 d0 d1 k2 => ?_
  refine pick_lst (P := fun d => ∃ z : Tx, d = .str z ∧ z.length ≤ 2 ∧ Asc z) ?_ d0 (by simpa using d1) fun d hd => ?_
  · intro d hd
    simp only [List.mem_cons, List.not_mem_nil, or_false] at hd
    rcases hd with rfl | rfl | rfl <;> exact ⟨_, rfl, by decide, asc_of⟩
  obtain ⟨z, rfl, z1, z2⟩ := hd
  (try dsimp only); rw [seqK_nx]; (try simp only [oks0, oks1, ok_aCatE, ok_aRepE, ok_eMake, ok_eFld, ok_sFldD, ok_eMeth, ok_sAppO, ok_sExtA, ok_iObj, ok_iZip, ok_aLcG, ok_sExt, ok_sExtL, ok_eRev, ok_aKeys, ok_eOrV, ok_sPopD, ok_cDc, ok_sIns, ok_sPopI, ok_sSetI, List.set_cons_zero, List.set_cons_succ, List.getElem?_cons_zero, List.getElem?_cons_succ, List.map_cons, List.map_nil, List.length_cons, List.length_nil, List.cons_append, List.nil_append, List.replicate_succ, List.replicate_zero, start3, frz, sets, tgName, tgTup, tgTL, tgsCons, tgsNil, wipe3, Nat.reduceSub, Nat.reduceAdd, Nat.reduceLT, ok_forNil, ok_forCons, dMulA_ti, opz_l, opz_t, catL_ll, repL_i, aListQ_l, aListQ_t, aListQ_s, isi2_tl_n, isi2_tl_b, isi2_tl_i, isi2_tl_s, isi2_tl_l, isi2_tl_t, dZipL_l, dLenA_t, dLenA_l, aListA_t, aListA_l, dRev_t, dLenA_d, dicOf_d, dIAdd_ii, dIAdd_ss, dIAdd_tt, dRpart_s, ops0, ops1, ops2, ops3, dZip_tt, if_true, if_false, ite_true, ite_false, reduceCtorEq])
  refine text_ok (top := 4) k2 (by decide) fun s g3 s1 s2 k3 => ?_
  (try simp only [oks0, oks1, ok_aCatE, ok_aRepE, ok_eMake, ok_eFld, ok_sFldD, ok_eMeth, ok_sAppO, ok_sExtA, ok_iObj, ok_iZip, ok_aLcG, ok_sExt, ok_sExtL, ok_eRev, ok_aKeys, ok_eOrV, ok_sPopD, ok_cDc, ok_sIns, ok_sPopI, ok_sSetI, List.set_cons_zero, List.set_cons_succ, List.getElem?_cons_zero, List.getElem?_cons_succ, List.map_cons, List.map_nil, List.length_cons, List.length_nil, List.cons_append, List.nil_append, List.replicate_succ, List.replicate_zero, start3, frz, sets, tgName, tgTup, tgTL, tgsCons, tgsNil, wipe3, Nat.reduceSub, Nat.reduceAdd, Nat.reduceLT, ok_forNil, ok_forCons, dMulA_ti, opz_l, opz_t, catL_ll, repL_i, aListQ_l, aListQ_t, aListQ_s, isi2_tl_n, isi2_tl_b, isi2_tl_i, isi2_tl_s, isi2_tl_l, isi2_tl_t, dZipL_l, dLenA_t, dLenA_l, aListA_t, aListA_l, dRev_t, dLenA_d, dicOf_d, dIAdd_ii, dIAdd_ss, dIAdd_tt, dRpart_s, ops0, ops1, ops2, ops3, dZip_tt, if_true, if_false, ite_true, ite_false, reduceCtorEq])
  have rl : (List.replicate (Int.toNat 80) z).flatten.length ≤ 160 := by rw [rep_len, show Int.toNat 80 = 80 from rfl]; omega
  refine ⟨⟨by decide, by decide, by rw [show Int.toNat 80 = 80 from rfl]; unfold BIG; omega⟩, by unfold BIG; omega, ?_⟩
  refine Ok.next k3 (by decide) (by decide) fun q3 g4 p0 p1 k4 => ?_
  (try simp only [oks0, oks1, ok_aCatE, ok_aRepE, ok_eMake, ok_eFld, ok_sFldD, ok_eMeth, ok_sAppO, ok_sExtA, ok_iObj, ok_iZip, ok_aLcG, ok_sExt, ok_sExtL, ok_eRev, ok_aKeys, ok_eOrV, ok_sPopD, ok_cDc, ok_sIns, ok_sPopI, ok_sSetI, List.set_cons_zero, List.set_cons_succ, List.getElem?_cons_zero, List.getElem?_cons_succ, List.map_cons, List.map_nil, List.length_cons, List.length_nil, List.cons_append, List.nil_append, List.replicate_succ, List.replicate_zero, start3, frz, sets, tgName, tgTup, tgTL, tgsCons, tgsNil, wipe3, Nat.reduceSub, Nat.reduceAdd, Nat.reduceLT, ok_forNil, ok_forCons, dMulA_ti, opz_l, opz_t, catL_ll, repL_i, aListQ_l, aListQ_t, aListQ_s, isi2_tl_n, isi2_tl_b, isi2_tl_i, isi2_tl_s, isi2_tl_l, isi2_tl_t, dZipL_l, dLenA_t, dLenA_l, aListA_t, aListA_l, dRev_t, dLenA_d, dicOf_d, dIAdd_ii, dIAdd_ss, dIAdd_tt, dRpart_s, ops0, ops1, ops2, ops3, dZip_tt, if_true, if_false, ite_true, ite_false, reduceCtorEq])
  rw [cut_take _ (78 + q3).toNat (by omega)]
  refine ⟨by rw [List.length_append]; unfold BIG; omega, w _ g4 (by rw [List.length_take]; omega) (Asc.take (s2.app (z2.rep _)) _) k4⟩
end W

namespace W
open L3
open L2 (atI ixN)
theorem dNe_nil_lines {ls : List Tx} (h : ∀ s ∈ ls, Asc s) : dNe (.lst (ls.map .str)) (.lst []) = some (.bl (decide (ls ≠ []))) := by
  have hp : plB 2 (.lst (ls.map .str)) = true := by
    rw [plB, plBs_all]
    intro x hx
    obtain ⟨s, hs, rfl⟩ := List.mem_map.mp hx
    exact (h s hs).b
  rw [dNe_pl (n := 2) (by decide) hp rfl]
  cases ls with
  | nil => rw [List.map_nil, eqD_nn]; rfl
  | cons x r => rw [List.map_cons, eqD_lnil]; rfl
theorem dEq_nil_tup {ls : List Tx} (h : ∀ s ∈ ls, Asc s) : dEq (.tup (ls.map .str)) (.tup []) = some (.bl (decide (ls = []))) := by
  have hp : plB 2 (.tup (ls.map .str)) = true := by
    rw [plB, plBs_all]
    intro x hx
    obtain ⟨s, hs, rfl⟩ := List.mem_map.mp hx
    exact (h s hs).b
  rw [dEq_pl (n := 2) (by decide) hp rfl]
  cases ls with
  | nil => rw [List.map_nil, show eqD (.tup []) (.tup []) = true by simp [eqD, toPy, toPys, PySem.PyData.eqv, PySem.PyData.eqvAll]]; rfl
  | cons x r => rw [List.map_cons, eqD_tnil]; rfl
theorem lines_ok {n : Nat} {g : Store} {top : Nat} {Q : D → Store → Prop} (h : StOk n g) (ht : top ≤ 200) (w : ∀ ls g', ls.length ≤ top → LnOk ls → StOk n g' → Q (.tup (ls.map .str)) g') : Ok (f__law_lines [.obj n, .int top] g) Q := by
  unfold f__law_lines d__law_lines
  (try simp only [oks0, oks1, ok_aCatE, ok_aRepE, ok_eMake, ok_eFld, ok_sFldD, ok_eMeth, ok_sAppO, ok_sExtA, ok_iObj, ok_iZip, ok_aLcG, ok_sExt, ok_sExtL, ok_eRev, ok_aKeys, ok_eOrV, ok_sPopD, ok_cDc, ok_sIns, ok_sPopI, ok_sSetI, List.set_cons_zero, List.set_cons_succ, List.getElem?_cons_zero, List.getElem?_cons_succ, List.map_cons, List.map_nil, List.length_cons, List.length_nil, List.cons_append, List.nil_append, List.replicate_succ, List.replicate_zero, start3, frz, sets, tgName, tgTup, tgTL, tgsCons, tgsNil, wipe3, Nat.reduceSub, Nat.reduceAdd, Nat.reduceLT, ok_forNil, ok_forCons, dMulA_ti, opz_l, opz_t, catL_ll, repL_i, aListQ_l, aListQ_t, aListQ_s, isi2_tl_n, isi2_tl_b, isi2_tl_i, isi2_tl_s, isi2_tl_l, isi2_tl_t, dZipL_l, dLenA_t, dLenA_l, aListA_t, aListA_l, dRev_t, dLenA_d, dicOf_d, dIAdd_ii, dIAdd_ss, dIAdd_tt, dRpart_s, ops0, ops1, ops2, ops3, dZip_tt, if_true, if_false, ite_true, ite_false, reduceCtorEq])
  rw [ok_sOwn _ _ _ (by simp)]
  (try simp only [oks0, oks1, ok_aCatE, ok_aRepE, ok_eMake, ok_eFld, ok_sFldD, ok_eMeth, ok_sAppO, ok_sExtA, ok_iObj, ok_iZip, ok_aLcG, ok_sExt, ok_sExtL, ok_eRev, ok_aKeys, ok_eOrV, ok_sPopD, ok_cDc, ok_sIns, ok_sPopI, ok_sSetI, List.set_cons_zero, List.set_cons_succ, List.getElem?_cons_zero, List.getElem?_cons_succ, List.map_cons, List.map_nil, List.length_cons, List.length_nil, List.cons_append, List.nil_append, List.replicate_succ, List.replicate_zero, start3, frz, sets, tgName, tgTup, tgTL, tgsCons, tgsNil, wipe3, Nat.reduceSub, Nat.reduceAdd, Nat.reduceLT, ok_forNil, ok_forCons, dMulA_ti, opz_l, opz_t, catL_ll, repL_i, aListQ_l, aListQ_t, aListQ_s, isi2_tl_n, isi2_tl_b, isi2_tl_i, isi2_tl_s, isi2_tl_l, isi2_tl_t, dZipL_l, dLenA_t, dLenA_l, aListA_t, aListA_l, dRev_t, dLenA_d, dicOf_d, dIAdd_ii, dIAdd_ss, dIAdd_tt, dRpart_s, ops0, ops1, ops2, ops3, dZip_tt, if_true, if_false, ite_true, ite_false, reduceCtorEq])
  refine ⟨by decide, ?_⟩
  (try dsimp only); rw [seqK_nx]; (try simp only [oks0, oks1, ok_aCatE, ok_aRepE, ok_eMake, ok_eFld, ok_sFldD, ok_eMeth, ok_sAppO, ok_sExtA, ok_iObj, ok_iZip, ok_aLcG, ok_sExt, ok_sExtL, ok_eRev, ok_aKeys, ok_eOrV, ok_sPopD, ok_cDc, ok_sIns, ok_sPopI, ok_sSetI, List.set_cons_zero, List.set_cons_succ, List.getElem?_cons_zero, List.getElem?_cons_succ, List.map_cons, List.map_nil, List.length_cons, List.length_nil, List.cons_append, List.nil_append, List.replicate_succ, List.replicate_zero, start3, frz, sets, tgName, tgTup, tgTL, tgsCons, tgsNil, wipe3, Nat.reduceSub, Nat.reduceAdd, Nat.reduceLT, dMulA_ti, opz_l, opz_t, catL_ll, repL_i, aListQ_l, aListQ_t, aListQ_s, isi2_tl_n, isi2_tl_b, isi2_tl_i, isi2_tl_s, isi2_tl_l, isi2_tl_t, dZipL_l, dLenA_t, dLenA_l, aListA_t, aListA_l, dRev_t, dLenA_d, dicOf_d, dIAdd_ii, dIAdd_ss, dIAdd_tt, dRpart_s, ops0, ops1, ops2, ops3, dZip_tt, if_true, if_false, ite_true, ite_false, reduceCtorEq])
  refine Ok.next h (by omega) (by omega) fun m g1 a0 a1 h1 => ?_
  refine ⟨_, range1_ok a0 (by omega), ?_⟩
  refine ok_forR (fun i ρ g => StOk n g ∧ ∃ (ls : List Tx) (a : Option SV), ρ = [some (SV.d (D.obj n)), some (SV.d (D.int top)), some (SV.own (ls.map .str)), a] ∧ ls.length = i ∧ LnOk ls) ⟨h1, [], _, rfl, rfl, fun s hs => by cases hs⟩ (fun i ρ g4 hi hJ => ⟨_, rfl, ?_⟩) (fun ρ g4 hJ => ?_)
  · obtain ⟨h4, ls, a, rfl, l1, l2⟩ := hJ
    have add : ∀ (s : Tx) (g5 : Store), s.length ≤ 80 ∧ Asc s → StOk n g5 → (StOk n g5 ∧ ∃ (ls' : List Tx) (a : Option SV), [some (SV.d (D.obj n)), some (SV.d (D.int top)), some (SV.own (ls.map .str ++ [.str s])), some (SV.d (D.int i))] = [some (SV.d (D.obj n)), some (SV.d (D.int top)), some (SV.own (ls'.map .str)), a] ∧ ls'.length = i + 1 ∧ LnOk ls') := fun s g5 hs h5 => ⟨h5, ls ++ [s], _, by rw [List.map_append]; rfl, by rw [List.length_append, l1]; rfl, fun u hu => by
      rcases List.mem_append.mp hu with hu | hu
      · exact l2 u hu
      · rw [List.mem_singleton.mp hu]; exact hs⟩
    unfold lb__law_lines_0
    (try simp only [oks0, oks1, ok_aCatE, ok_aRepE, ok_eMake, ok_eFld, ok_sFldD, ok_eMeth, ok_sAppO, ok_sExtA, ok_iObj, ok_iZip, ok_aLcG, ok_sExt, ok_sExtL, ok_eRev, ok_aKeys, ok_eOrV, ok_sPopD, ok_cDc, ok_sIns, ok_sPopI, ok_sSetI, List.set_cons_zero, List.set_cons_succ, List.getElem?_cons_zero, List.getElem?_cons_succ, List.map_cons, List.map_nil, List.length_cons, List.length_nil, List.cons_append, List.nil_append, List.replicate_succ, List.replicate_zero, start3, frz, sets, tgName, tgTup, tgTL, tgsCons, tgsNil, wipe3, Nat.reduceSub, Nat.reduceAdd, Nat.reduceLT, ok_forNil, ok_forCons, dMulA_ti, opz_l, opz_t, catL_ll, repL_i, aListQ_l, aListQ_t, aListQ_s, isi2_tl_n, isi2_tl_b, isi2_tl_i, isi2_tl_s, isi2_tl_l, isi2_tl_t, dZipL_l, dLenA_t, dLenA_l, aListA_t, aListA_l, dRev_t, dLenA_d, dicOf_d, dIAdd_ii, dIAdd_ss, dIAdd_tt, dRpart_s, ops0, ops1, ops2, ops3, dZip_tt, if_true, if_false, ite_true, ite_false, reduceCtorEq])
    refine ⟨by decide, ?_⟩
    rw [dNe_nil_lines fun s hs => (l2 s hs).2]
    (try simp only [oks0, oks1, ok_aCatE, ok_aRepE, ok_eMake, ok_eFld, ok_sFldD, ok_eMeth, ok_sAppO, ok_sExtA, ok_iObj, ok_iZip, ok_aLcG, ok_sExt, ok_sExtL, ok_eRev, ok_aKeys, ok_eOrV, ok_sPopD, ok_cDc, ok_sIns, ok_sPopI, ok_sSetI, List.set_cons_zero, List.set_cons_succ, List.getElem?_cons_zero, List.getElem?_cons_succ, List.map_cons, List.map_nil, List.length_cons, List.length_nil, List.cons_append, List.nil_append, List.replicate_succ, List.replicate_zero, start3, frz, sets, tgName, tgTup, tgTL, tgsCons, tgsNil, wipe3, Nat.reduceSub, Nat.reduceAdd, Nat.reduceLT, ok_forNil, ok_forCons, dMulA_ti, opz_l, opz_t, catL_ll, repL_i, aListQ_l, aListQ_t, aListQ_s, isi2_tl_n, isi2_tl_b, isi2_tl_i, isi2_tl_s, isi2_tl_l, isi2_tl_t, dZipL_l, dLenA_t, dLenA_l, aListA_t, aListA_l, dRev_t, dLenA_d, dicOf_d, dIAdd_ii, dIAdd_ss, dIAdd_tt, dRpart_s, ops0, ops1, ops2, ops3, dZip_tt, if_true, if_false, ite_true, ite_false, reduceCtorEq])
    have newl : ∀ g5, StOk n g5 → Ok (f__law_line [D.obj n] g5) fun d g1 => (List.map D.str ls).length < BIG ∧ StOk n g1 ∧ ∃ ls_1 a, [some (SV.d (D.obj n)), some (SV.d (D.int top)), some (SV.own (List.map D.str ls ++ [d])), some (SV.d (D.int i))] = [some (SV.d (D.obj n)), some (SV.d (D.int top)), some (SV.own (List.map D.str ls_1)), a] ∧ ls_1.length = i + 1 ∧ LnOk ls_1 := fun g5 h5 => line_ok h5 fun s g6 s1 s2 h6 => ⟨by rw [List.length_map]; unfold BIG; omega, add s g6 ⟨s1, s2⟩ h6⟩
    by_cases hn : ls = []
    · rw [if_neg (by simp [hn])]
      exact newl g4 h4
    · rw [if_pos (by simp [hn])]
      refine Ok.next h4 (by decide) (by decide) fun v g5 b0 b1 h5 => ?_
      (try simp only [oks0, oks1, ok_aCatE, ok_aRepE, ok_eMake, ok_eFld, ok_sFldD, ok_eMeth, ok_sAppO, ok_sExtA, ok_iObj, ok_iZip, ok_aLcG, ok_sExt, ok_sExtL, ok_eRev, ok_aKeys, ok_eOrV, ok_sPopD, ok_cDc, ok_sIns, ok_sPopI, ok_sSetI, List.set_cons_zero, List.set_cons_succ, List.getElem?_cons_zero, List.getElem?_cons_succ, List.map_cons, List.map_nil, List.length_cons, List.length_nil, List.cons_append, List.nil_append, List.replicate_succ, List.replicate_zero, start3, frz, sets, tgName, tgTup, tgTL, tgsCons, tgsNil, wipe3, Nat.reduceSub, Nat.reduceAdd, Nat.reduceLT, ok_forNil, ok_forCons, dMulA_ti, opz_l, opz_t, catL_ll, repL_i, aListQ_l, aListQ_t, aListQ_s, isi2_tl_n, isi2_tl_b, isi2_tl_i, isi2_tl_s, isi2_tl_l, isi2_tl_t, dZipL_l, dLenA_t, dLenA_l, aListA_t, aListA_l, dRev_t, dLenA_d, dicOf_d, dIAdd_ii, dIAdd_ss, dIAdd_tt, dRpart_s, ops0, ops1, ops2, ops3, dZip_tt, if_true, if_false, ite_true, ite_false, reduceCtorEq])
      by_cases hv : v = 0
      · rw [if_pos hv]
        have hpos : 0 < ls.length := List.length_pos_iff.mpr hn
        refine Ok.next h5 (by rw [List.length_map]; omega) (by rw [List.length_map]; omega) fun u g6 c0 c1 h6 => ?_
        (try simp only [oks0, oks1, ok_aCatE, ok_aRepE, ok_eMake, ok_eFld, ok_sFldD, ok_eMeth, ok_sAppO, ok_sExtA, ok_iObj, ok_iZip, ok_aLcG, ok_sExt, ok_sExtL, ok_eRev, ok_aKeys, ok_eOrV, ok_sPopD, ok_cDc, ok_sIns, ok_sPopI, ok_sSetI, List.set_cons_zero, List.set_cons_succ, List.getElem?_cons_zero, List.getElem?_cons_succ, List.map_cons, List.map_nil, List.length_cons, List.length_nil, List.cons_append, List.nil_append, List.replicate_succ, List.replicate_zero, start3, frz, sets, tgName, tgTup, tgTL, tgsCons, tgsNil, wipe3, Nat.reduceSub, Nat.reduceAdd, Nat.reduceLT, ok_forNil, ok_forCons, dMulA_ti, opz_l, opz_t, catL_ll, repL_i, aListQ_l, aListQ_t, aListQ_s, isi2_tl_n, isi2_tl_b, isi2_tl_i, isi2_tl_s, isi2_tl_l, isi2_tl_t, dZipL_l, dLenA_t, dLenA_l, aListA_t, aListA_l, dRev_t, dLenA_d, dicOf_d, dIAdd_ii, dIAdd_ss, dIAdd_tt, dRpart_s, ops0, ops1, ops2, ops3, dZip_tt, if_true, if_false, ite_true, ite_false, reduceCtorEq])
        obtain ⟨d, hd, e⟩ := mem_ix c0 c1
        rw [e]
        obtain ⟨s, hs, rfl⟩ := List.mem_map.mp hd
        (try simp only [oks0, oks1, ok_aCatE, ok_aRepE, ok_eMake, ok_eFld, ok_sFldD, ok_eMeth, ok_sAppO, ok_sExtA, ok_iObj, ok_iZip, ok_aLcG, ok_sExt, ok_sExtL, ok_eRev, ok_aKeys, ok_eOrV, ok_sPopD, ok_cDc, ok_sIns, ok_sPopI, ok_sSetI, List.set_cons_zero, List.set_cons_succ, List.getElem?_cons_zero, List.getElem?_cons_succ, List.map_cons, List.map_nil, List.length_cons, List.length_nil, List.cons_append, List.nil_append, List.replicate_succ, List.replicate_zero, start3, frz, sets, tgName, tgTup, tgTL, tgsCons, tgsNil, wipe3, Nat.reduceSub, Nat.reduceAdd, Nat.reduceLT, ok_forNil, ok_forCons, dMulA_ti, opz_l, opz_t, catL_ll, repL_i, aListQ_l, aListQ_t, aListQ_s, isi2_tl_n, isi2_tl_b, isi2_tl_i, isi2_tl_s, isi2_tl_l, isi2_tl_t, dZipL_l, dLenA_t, dLenA_l, aListA_t, aListA_l, dRev_t, dLenA_d, dicOf_d, dIAdd_ii, dIAdd_ss, dIAdd_tt, dRpart_s, ops0, ops1, ops2, ops3, dZip_tt, if_true, if_false, ite_true, ite_false, reduceCtorEq])
        exact ⟨by rw [List.length_map]; unfold BIG; omega, add s g6 (l2 s hs) h6⟩
      · rw [if_neg hv]
        exact newl g5 h5
  · obtain ⟨h4, ls, a, rfl, l1, l2⟩ := hJ
    (try dsimp only); rw [seqK_nx]; (try simp only [oks0, oks1, ok_aCatE, ok_aRepE, ok_eMake, ok_eFld, ok_sFldD, ok_eMeth, ok_sAppO, ok_sExtA, ok_iObj, ok_iZip, ok_aLcG, ok_sExt, ok_sExtL, ok_eRev, ok_aKeys, ok_eOrV, ok_sPopD, ok_cDc, ok_sIns, ok_sPopI, ok_sSetI, List.set_cons_zero, List.set_cons_succ, List.getElem?_cons_zero, List.getElem?_cons_succ, List.map_cons, List.map_nil, List.length_cons, List.length_nil, List.cons_append, List.nil_append, List.replicate_succ, List.replicate_zero, start3, frz, sets, tgName, tgTup, tgTL, tgsCons, tgsNil, wipe3, Nat.reduceSub, Nat.reduceAdd, Nat.reduceLT, ok_forNil, ok_forCons, dMulA_ti, opz_l, opz_t, catL_ll, repL_i, aListQ_l, aListQ_t, aListQ_s, isi2_tl_n, isi2_tl_b, isi2_tl_i, isi2_tl_s, isi2_tl_l, isi2_tl_t, dZipL_l, dLenA_t, dLenA_l, aListA_t, aListA_l, dRev_t, dLenA_d, dicOf_d, dIAdd_ii, dIAdd_ss, dIAdd_tt, dRpart_s, ops0, ops1, ops2, ops3, dZip_tt, if_true, if_false, ite_true, ite_false, reduceCtorEq])
    exact w ls g4 (by omega) l2 h4
end W

namespace W
open L3
open L2 (atI ixN)
/-! number_in: the number that a text is -/
def dig (c : Nat) : Bool := decide (48 ≤ c ∧ c ≤ 57)
def figs (s : List Nat) : List Nat := if s.take 1 = [45] then s.drop 1 else s
def valF (s : List Nat) : Int := s.foldl (fun a c => 10 * a + ((c - 48 : Nat) : Int)) 0
def numBad (s : List Nat) : Prop := (figs s = [] ∨ 18 < (figs s).length) ∨ (figs s).all dig = false ∨ ((figs s).take 1 = [48] ∧ s ≠ [48])
instance (s : List Nat) : Decidable (numBad s) := by unfold numBad; infer_instance
def numV (s : List Nat) : Int := if s.take 1 = [45] then -(valF (figs s)) else valF (figs s)
def numD (s : List Nat) : D := if numBad s then .non else .int (numV s)
theorem numD_bad {s : List Nat} (h : numBad s) : numD s = .non := by unfold numD; rw [if_pos h]
theorem numD_good {s : List Nat} (h : ¬ numBad s) : numD s = .int (numV s) := by unfold numD; rw [if_neg h]
theorem cut_1 (s : List Nat) : cutL s none (some 1) = s.take 1 := by
  unfold cutL
  simp only [HT.sIx, List.drop_zero, Nat.sub_zero]
  cases s with
  | nil => simp
  | cons c r => simp
theorem cut_from1 (s : List Nat) : cutL s (some 1) none = s.drop 1 := by
  unfold cutL
  simp only [HT.sIx]
  rw [List.take_of_length_le]
  · cases s with
    | nil => simp
    | cons c r => simp
  · rw [List.length_drop]
    simp
theorem cut_80 (s : List Nat) : cutL s none (some 80) = s.take 80 := by
  unfold cutL
  simp only [HT.sIx, List.drop_zero, Nat.sub_zero]
  by_cases h : 80 ≤ s.length
  · rw [show min (80 : Int).toNat s.length = 80 by simp; omega]; simp
  · rw [show min (80 : Int).toNat s.length = s.length by simp; omega]
    simp
    rw [List.take_of_length_le (by omega)]
def digits : List Nat := [48, 49, 50, 51, 52, 53, 54, 55, 56, 57]
theorem digits_eq : ([48, 49, 50, 51, 52, 53, 54, 55, 56, 57] : List Nat) = digits := rfl
theorem mem_digits (c : Nat) : (c ∈ digits) ↔ dig c = true := by
  unfold digits dig
  simp
  omega
theorem head_ix {s : List Nat} (h : s ≠ []) (hl : s.length ≤ 1000) : ∃ c, s.take 1 = [c] ∧ dIx (.str s) (.int 0) = some (.str [c]) := by
  cases s with
  | nil => exact absurd rfl h
  | cons c r =>
    refine ⟨c, rfl, ?_⟩
    unfold dIx
    dsimp only
    rw [if_pos (show (c :: r).length ≤ BIG by unfold BIG; omega), show (0 : Int) = ((0 : Nat) : Int) from rfl, L2.atI_nat (v := c) rfl]
    rfl
theorem figs_len (s : List Nat) : (figs s).length ≤ s.length := by
  unfold figs
  split
  · rw [List.length_drop]; omega
  · exact Nat.le_refl _
theorem valF_digits (s : List Nat) : valF s = ((PySem.NumText.digitsVal s : Nat) : Int) := by
  unfold valF PySem.NumText.digitsVal
  have key : ∀ (l : List Nat) (a : Nat), l.foldl (fun (a : Int) c => 10 * a + ((c - 48 : Nat) : Int)) (a : Int) = ((l.foldl (fun acc c => acc * 10 + (c - 48)) a : Nat) : Int) := by
    intro l
    induction l with
    | nil => intro a; rfl
    | cons c r ih =>
      intro a
      rw [List.foldl_cons, List.foldl_cons, ← ih]
      congr 1
      omega
  exact key s 0
theorem int_ok {s : List Nat} (h : ¬ numBad s) (hl : s.length ≤ 640) : dInt [.str s] = some (.int (numV s)) := by
  have hall : (figs s).all dig = true := by
    cases q : (figs s).all dig with
    | true => rfl
    | false => exact absurd (.inr (.inl q)) h
  have hne : figs s ≠ [] := fun q => h (.inl (.inl q))
  have had : PySem.NumText.AllDigits (figs s) := fun c hc => by
    have := List.all_eq_true.mp hall c hc
    exact of_decide_eq_true this
  unfold dInt
  dsimp only
  rw [if_pos hl]
  unfold numV
  by_cases h45 : s.take 1 = [45]
  · rw [if_pos h45]
    have ef : figs s = s.drop 1 := by unfold figs; rw [if_pos h45]
    have es : s = 45 :: figs s := by
      rw [ef]
      cases s with
      | nil => simp at h45
      | cons c r =>
        simp at h45
        rw [h45]; rfl
    rw [PySem.intText_neg (x := S s) (cs := figs s) (by rw [S_list]; exact es) had hne (by rw [S_len]; omega), valF_digits]
    rfl
  · rw [if_neg h45]
    have ef : figs s = s := by unfold figs; rw [if_neg h45]
    rw [ef] at had hne ⊢
    rw [PySem.intText_digits (x := S s) (by rw [S_list]; exact had) (by rw [S_list]; exact hne) (by rw [S_len]; omega), S_list, valF_digits]
    rfl
theorem bools_map (l : List Nat) (p : Nat → Bool) : bools (l.map fun c => D.bl (p c)) = some (l.map p) := by
  induction l with
  | nil => rfl
  | cons x r ih =>
    rw [List.map_cons, List.map_cons]
    unfold bools
    rw [ih]
    rfl
theorem all_digits {x y : Option SV} {g : Store} {Q : List D → Store → Prop} (l : List Nat) (w : Q (l.map fun c => .bl (dig c)) g) : Ok (lcD (tgName 2) tYesD le_number_in_0 (l.map fun c => .str [c]) [x, y, none] g) Q := by
  refine Ok.of (x := l.map fun c => .bl (dig c)) (g := g) ?_ w
  have := lc_map (ρ := [x, y, none]) (g := g) (tg := tgName 2) (e := le_number_in_0) (f := fun d => match d with | .str [c] => .bl (dig c) | d => d) (ds := l.map fun c => .str [c]) fun d hd => by
    obtain ⟨c, _, rfl⟩ := List.mem_map.mp hd
    refine ⟨_, rfl, ?_⟩
    have e : Ok (le_number_in_0 (sets [x, y, none] [(2, .str [c])]) g) fun z g' => z = .bl (dig c) ∧ g' = g := by
      simp only [oks0, oks1, ok_aCatE, ok_aRepE, ok_eMake, ok_eFld, ok_sFldD, ok_eMeth, ok_sAppO, ok_sExtA, ok_iObj, ok_iZip, ok_aLcG, ok_sExt, ok_sExtL, ok_eRev, ok_aKeys, ok_eOrV, ok_sPopD, ok_cDc, ok_sIns, ok_sPopI, ok_sSetI, List.set_cons_zero, List.set_cons_succ, List.getElem?_cons_zero, List.getElem?_cons_succ, List.map_cons, List.map_nil, List.length_cons, List.length_nil, List.cons_append, List.nil_append, List.replicate_succ, List.replicate_zero, start3, frz, sets, tgName, tgTup, tgTL, tgsCons, tgsNil, wipe3, Nat.reduceSub, Nat.reduceAdd, Nat.reduceLT, ok_forNil, ok_forCons, seqK_nx, dMulA_ti, opz_l, opz_t, catL_ll, repL_i, aListQ_l, aListQ_t, aListQ_s, isi2_tl_n, isi2_tl_b, isi2_tl_i, isi2_tl_s, isi2_tl_l, isi2_tl_t, dZipL_l, dLenA_t, dLenA_l, aListA_t, aListA_l, dRev_t, dLenA_d, dicOf_d, dIAdd_ii, dIAdd_ss, dIAdd_tt, dRpart_s, ops0, ops1, ops2, ops3, dZip_tt, if_true, if_false, ite_true, ite_false, reduceCtorEq, le_number_in_0, digits_eq, mem_digits]
      cases dig c <;> simp
    obtain ⟨z, g', e, rfl, rfl⟩ := e
    exact e
  rw [this, List.map_map]
  rfl
theorem starts_45 (s : List Nat) : (s.take ([45] : List Nat).length == [45]) = decide (s.take 1 = [45]) := by
  rw [Bool.eq_iff_iff]
  simp
theorem number_in_ok {s : List Nat} {g : Store} (hs : s.length ≤ 600) {Q : D → Store → Prop} (w : Q (numD s) g) : Ok (f_number_in [.str s] g) Q := by
  have hf := figs_len s
  have big : s.length ≤ BIG := by unfold BIG; omega
  have bigf : (figs s).length ≤ BIG := by unfold BIG; omega
  unfold f_number_in d_number_in
  have step : ∀ f : List Nat, f = figs s → Ok ((sSeq (sIf (tOrD (tNotD (tOf (eChain dLe dLe (eC (.int 1)) (eFn dLen (aCons (eVarB 1) aNil)) (eC (.int 18))))) (tNotD (tTru (eFn dAll (aCons (eL (aLc (aItems (eVar 1)) [2] (tgName 2) tYesD le_number_in_0)) aNil))))) (sRet (eC .non)) sNext)
  (sSeq (sIf (tAndD (tOf (eOp dEq (eOp dIx (eVarB 1) (eC (.int 0))) (eC (.str [48])))) (tOf (eOp dNe (eVarB 0) (eC (.str [48]))))) (sRet (eC .non)) sNext)
  (sRet (eFn dInt (aCons (eVarB 0) aNil))))) [some (.d (.str s)), some (.d (.str f)), none] g) (runK Q) := by
    intro f ef
    subst ef
    simp only [oks0, oks1, ok_aCatE, ok_aRepE, ok_eMake, ok_eFld, ok_sFldD, ok_eMeth, ok_sAppO, ok_sExtA, ok_iObj, ok_iZip, ok_aLcG, ok_sExt, ok_sExtL, ok_eRev, ok_aKeys, ok_eOrV, ok_sPopD, ok_cDc, ok_sIns, ok_sPopI, ok_sSetI, List.set_cons_zero, List.set_cons_succ, List.getElem?_cons_zero, List.getElem?_cons_succ, List.map_cons, List.map_nil, List.length_cons, List.length_nil, List.cons_append, List.nil_append, List.replicate_succ, List.replicate_zero, start3, frz, sets, tgName, tgTup, tgTL, tgsCons, tgsNil, wipe3, Nat.reduceSub, Nat.reduceAdd, Nat.reduceLT, ok_forNil, ok_forCons, dMulA_ti, opz_l, opz_t, catL_ll, repL_i, aListQ_l, aListQ_t, aListQ_s, isi2_tl_n, isi2_tl_b, isi2_tl_i, isi2_tl_s, isi2_tl_l, isi2_tl_t, dZipL_l, dLenA_t, dLenA_l, aListA_t, aListA_l, dRev_t, dLenA_d, dicOf_d, dIAdd_ii, dIAdd_ss, dIAdd_tt, dRpart_s, ops0, ops1, ops2, ops3, dZip_tt, if_true, if_false, ite_true, ite_false, reduceCtorEq, bigf]
    by_cases h1 : figs s = [] ∨ 18 < (figs s).length
    · rw [numD_bad (.inl h1)] at w
      rcases h1 with h1 | h1
      · rw [h1]
        simpa using w
      · rw [if_pos (by omega), if_pos]
        · exact w
        · simp; omega
    · have h1a : figs s ≠ [] := fun h => h1 (.inl h)
      have h1b : (figs s).length ≤ 18 := by omega
      have h1c : 1 ≤ (figs s).length := List.length_pos_iff.mpr h1a
      rw [if_pos (by omega), if_neg (by simp; omega)]
      refine ⟨⟨by rw [List.length_map]; exact bigf, rfl⟩, all_digits _ ?_⟩
      unfold dAll
      simp only [bools_map, oks0, oks1, ok_aCatE, ok_aRepE, ok_eMake, ok_eFld, ok_sFldD, ok_eMeth, ok_sAppO, ok_sExtA, ok_iObj, ok_iZip, ok_aLcG, ok_sExt, ok_sExtL, ok_eRev, ok_aKeys, ok_eOrV, ok_sPopD, ok_cDc, ok_sIns, ok_sPopI, ok_sSetI, List.set_cons_zero, List.set_cons_succ, List.getElem?_cons_zero, List.getElem?_cons_succ, List.map_cons, List.map_nil, List.length_cons, List.length_nil, List.cons_append, List.nil_append, List.replicate_succ, List.replicate_zero, start3, frz, sets, tgName, tgTup, tgTL, tgsCons, tgsNil, wipe3, Nat.reduceSub, Nat.reduceAdd, Nat.reduceLT, ok_forNil, ok_forCons, dMulA_ti, opz_l, opz_t, catL_ll, repL_i, aListQ_l, aListQ_t, aListQ_s, isi2_tl_n, isi2_tl_b, isi2_tl_i, isi2_tl_s, isi2_tl_l, isi2_tl_t, dZipL_l, dLenA_t, dLenA_l, aListA_t, aListA_l, dRev_t, dLenA_d, dicOf_d, dIAdd_ii, dIAdd_ss, dIAdd_tt, dRpart_s, ops0, ops1, ops2, ops3, dZip_tt, if_true, if_false, ite_true, ite_false, reduceCtorEq, Option.map_some]
      cases hall : (figs s).all dig with
      | false =>
        rw [numD_bad (.inr (.inl hall))] at w
        rw [if_pos]
        · exact w
        · simp only [Bool.not_eq_true', List.all_map]
          exact hall
      | true =>
        rw [if_neg]
        · rw [seqK_nx]
          simp only [oks0, oks1, ok_aCatE, ok_aRepE, ok_eMake, ok_eFld, ok_sFldD, ok_eMeth, ok_sAppO, ok_sExtA, ok_iObj, ok_iZip, ok_aLcG, ok_sExt, ok_sExtL, ok_eRev, ok_aKeys, ok_eOrV, ok_sPopD, ok_cDc, ok_sIns, ok_sPopI, ok_sSetI, List.set_cons_zero, List.set_cons_succ, List.getElem?_cons_zero, List.getElem?_cons_succ, List.map_cons, List.map_nil, List.length_cons, List.length_nil, List.cons_append, List.nil_append, List.replicate_succ, List.replicate_zero, start3, frz, sets, tgName, tgTup, tgTL, tgsCons, tgsNil, wipe3, Nat.reduceSub, Nat.reduceAdd, Nat.reduceLT, ok_forNil, ok_forCons, dMulA_ti, opz_l, opz_t, catL_ll, repL_i, aListQ_l, aListQ_t, aListQ_s, isi2_tl_n, isi2_tl_b, isi2_tl_i, isi2_tl_s, isi2_tl_l, isi2_tl_t, dZipL_l, dLenA_t, dLenA_l, aListA_t, aListA_l, dRev_t, dLenA_d, dicOf_d, dIAdd_ii, dIAdd_ss, dIAdd_tt, dRpart_s, ops0, ops1, ops2, ops3, dZip_tt, if_true, if_false, ite_true, ite_false, reduceCtorEq]
          obtain ⟨c, hc, e⟩ := head_ix h1a (by omega)
          refine ⟨_, e, ?_⟩
          simp only [oks0, oks1, ok_aCatE, ok_aRepE, ok_eMake, ok_eFld, ok_sFldD, ok_eMeth, ok_sAppO, ok_sExtA, ok_iObj, ok_iZip, ok_aLcG, ok_sExt, ok_sExtL, ok_eRev, ok_aKeys, ok_eOrV, ok_sPopD, ok_cDc, ok_sIns, ok_sPopI, ok_sSetI, List.set_cons_zero, List.set_cons_succ, List.getElem?_cons_zero, List.getElem?_cons_succ, List.map_cons, List.map_nil, List.length_cons, List.length_nil, List.cons_append, List.nil_append, List.replicate_succ, List.replicate_zero, start3, frz, sets, tgName, tgTup, tgTL, tgsCons, tgsNil, wipe3, Nat.reduceSub, Nat.reduceAdd, Nat.reduceLT, ok_forNil, ok_forCons, seqK_nx, dMulA_ti, opz_l, opz_t, catL_ll, repL_i, aListQ_l, aListQ_t, aListQ_s, isi2_tl_n, isi2_tl_b, isi2_tl_i, isi2_tl_s, isi2_tl_l, isi2_tl_t, dZipL_l, dLenA_t, dLenA_l, aListA_t, aListA_l, dRev_t, dLenA_d, dicOf_d, dIAdd_ii, dIAdd_ss, dIAdd_tt, dRpart_s, ops0, ops1, ops2, ops3, dZip_tt, if_true, if_false, ite_true, ite_false, reduceCtorEq, List.cons.injEq, and_true]
          have hm : ((figs s).take 1 = [48]) ↔ c = 48 := by rw [hc]; simp
          by_cases hz : c = 48 ∧ s ≠ [48]
          · rw [numD_bad (.inr (.inr ⟨hm.mpr hz.1, hz.2⟩))] at w
            rw [if_pos hz.1, if_pos (by simp [hz.2])]
            exact w
          · have en : ¬ numBad s := by
              rintro (h | h | h)
              · exact h1 h
              · rw [hall] at h; cases h
              · exact hz ⟨hm.mp h.1, h.2⟩
            rw [numD_good en] at w
            have fin : OkO (dInt [.str s]) fun z => Q z g := ⟨_, int_ok en (by omega), w⟩
            by_cases hc48 : c = 48
            · have h48 : s = [48] := Classical.byContradiction fun h => hz ⟨hc48, h⟩
              rw [if_pos hc48, if_neg (by simp [h48])]
              exact fin
            · rw [if_neg hc48]
              exact fin
        · simp only [Bool.not_eq_true', List.all_map, Bool.not_eq_false]
          exact hall
  simp only [oks0, oks1, ok_aCatE, ok_aRepE, ok_eMake, ok_eFld, ok_sFldD, ok_eMeth, ok_sAppO, ok_sExtA, ok_iObj, ok_iZip, ok_aLcG, ok_sExt, ok_sExtL, ok_eRev, ok_aKeys, ok_eOrV, ok_sPopD, ok_cDc, ok_sIns, ok_sPopI, ok_sSetI, List.set_cons_zero, List.set_cons_succ, List.getElem?_cons_zero, List.getElem?_cons_succ, List.map_cons, List.map_nil, List.length_cons, List.length_nil, List.cons_append, List.nil_append, List.replicate_succ, List.replicate_zero, start3, frz, sets, tgName, tgTup, tgTL, tgsCons, tgsNil, wipe3, Nat.reduceSub, Nat.reduceAdd, Nat.reduceLT, ok_forNil, ok_forCons, dMulA_ti, opz_l, opz_t, catL_ll, repL_i, aListQ_l, aListQ_t, aListQ_s, isi2_tl_n, isi2_tl_b, isi2_tl_i, isi2_tl_s, isi2_tl_l, isi2_tl_t, dZipL_l, dLenA_t, dLenA_l, aListA_t, aListA_l, dRev_t, dLenA_d, dicOf_d, dIAdd_ii, dIAdd_ss, dIAdd_tt, dRpart_s, ops0, ops1, ops2, ops3, dZip_tt, if_true, if_false, ite_true, ite_false, reduceCtorEq]
  rw [seqK_nx]
  simp only [oks0, oks1, ok_aCatE, ok_aRepE, ok_eMake, ok_eFld, ok_sFldD, ok_eMeth, ok_sAppO, ok_sExtA, ok_iObj, ok_iZip, ok_aLcG, ok_sExt, ok_sExtL, ok_eRev, ok_aKeys, ok_eOrV, ok_sPopD, ok_cDc, ok_sIns, ok_sPopI, ok_sSetI, List.set_cons_zero, List.set_cons_succ, List.getElem?_cons_zero, List.getElem?_cons_succ, List.map_cons, List.map_nil, List.length_cons, List.length_nil, List.cons_append, List.nil_append, List.replicate_succ, List.replicate_zero, start3, frz, sets, tgName, tgTup, tgTL, tgsCons, tgsNil, wipe3, Nat.reduceSub, Nat.reduceAdd, Nat.reduceLT, ok_forNil, ok_forCons, dMulA_ti, opz_l, opz_t, catL_ll, repL_i, aListQ_l, aListQ_t, aListQ_s, isi2_tl_n, isi2_tl_b, isi2_tl_i, isi2_tl_s, isi2_tl_l, isi2_tl_t, dZipL_l, dLenA_t, dLenA_l, aListA_t, aListA_l, dRev_t, dLenA_d, dicOf_d, dIAdd_ii, dIAdd_ss, dIAdd_tt, dRpart_s, ops0, ops1, ops2, ops3, dZip_tt, if_true, if_false, ite_true, ite_false, reduceCtorEq, cut_1, cut_from1, big, beq_iff_eq]
  by_cases h45 : s.take 1 = [45]
  · rw [if_pos h45]
    exact step (s.drop 1) (by unfold figs; rw [if_pos h45])
  · rw [if_neg h45]
    exact step s (by unfold figs; rw [if_neg h45])
end W

namespace W
open L3
open L2 (atI ixN)
theorem numD_small : ∀ k : Nat, k < 100 → numD (strI k) = .int k := by
  have h : ∀ k : Fin 100, ¬ numBad (strI ((k : Nat) : Int)) ∧ numV (strI ((k : Nat) : Int)) = ((k : Nat) : Int) ∧ (strI ((k : Nat) : Int)).length ≤ 2 ∧ ((strI ((k : Nat) : Int)).all fun c => decide (c < 128)) = true := by decide +kernel
  intro k hk
  obtain ⟨h1, h2, _⟩ := h ⟨k, hk⟩
  rw [numD_good h1, h2]
theorem strI_small (k : Nat) (hk : k < 100) : (strI k).length ≤ 2 ∧ Asc (strI k) := by
  have h : ∀ k : Fin 100, (strI ((k : Nat) : Int)).length ≤ 2 ∧ ((strI ((k : Nat) : Int)).all fun c => decide (c < 128)) = true := by decide +kernel
  obtain ⟨h1, h2⟩ := h ⟨k, hk⟩
  exact ⟨h1, asc_of h2⟩
end W

namespace W
open L3
open L2 (atI ixN)
/-! what a stream tells that is fed all lines and closed -/
def upTo (outs : Nat → List Tx) : Nat → List Tx
  | 0 => []
  | n + 1 => upTo outs n ++ outs n
theorem streamed_ok {n : Nat} {ls : List Tx} {g : Store} {Q : D → Store → Prop} (S : Nat → Store → Prop) (E R : Store → Prop) (outs : Nat → List Tx) (fin : List Tx) (code : Int) (h0 : S 0 g) (hl : ls.length ≤ 1000) (ho : ∀ i, (upTo outs i).length ≤ 50000) (hfl : fin.length ≤ 50000)
    (hf : ∀ i x g, ls[i]? = some x → S i g → OkO (methD tbm_feed g (.obj n)) fun φ => Ok (φ [.obj n, .str x] g) fun d g' => d = .lst ((outs i).map .str) ∧ S (i + 1) g')
    (hc : ∀ g, S ls.length g → OkO (methD tbm_close g (.obj n)) fun φ => Ok (φ [.obj n] g) fun d g' => d = .lst (fin.map .str) ∧ E g')
    (he : ∀ g, E g → OkO (methD tbm_ending g (.obj n)) fun φ => Ok (φ [.obj n] g) fun d g' => d = .int code ∧ R g')
    (w : ∀ g', R g' → Q (.tup [.tup [.tup (((upTo outs ls.length ++ fin).take 100).map .str)], .int code]) g') : Ok (f_streamed [.obj n, .tup (ls.map .str)] g) Q := by
  unfold f_streamed d_streamed
  (try simp only [oks0, oks1, ok_aCatE, ok_aRepE, ok_eMake, ok_eFld, ok_sFldD, ok_eMeth, ok_sAppO, ok_sExtA, ok_iObj, ok_iZip, ok_aLcG, ok_sExt, ok_sExtL, ok_eRev, ok_aKeys, ok_eOrV, ok_sPopD, ok_cDc, ok_sIns, ok_sPopI, ok_sSetI, List.set_cons_zero, List.set_cons_succ, List.getElem?_cons_zero, List.getElem?_cons_succ, List.map_cons, List.map_nil, List.length_cons, List.length_nil, List.cons_append, List.nil_append, List.replicate_succ, List.replicate_zero, start3, frz, sets, tgName, tgTup, tgTL, tgsCons, tgsNil, wipe3, Nat.reduceSub, Nat.reduceAdd, Nat.reduceLT, ok_forNil, ok_forCons, dMulA_ti, opz_l, opz_t, catL_ll, repL_i, aListQ_l, aListQ_t, aListQ_s, isi2_tl_n, isi2_tl_b, isi2_tl_i, isi2_tl_s, isi2_tl_l, isi2_tl_t, dZipL_l, dLenA_t, dLenA_l, aListA_t, aListA_l, dRev_t, dLenA_d, dicOf_d, dIAdd_ii, dIAdd_ss, dIAdd_tt, dRpart_s, ops0, ops1, ops2, ops3, dZip_tt, if_true, if_false, ite_true, ite_false, reduceCtorEq])
  rw [ok_sOwn _ _ _ (by simp)]
  (try simp only [oks0, oks1, ok_aCatE, ok_aRepE, ok_eMake, ok_eFld, ok_sFldD, ok_eMeth, ok_sAppO, ok_sExtA, ok_iObj, ok_iZip, ok_aLcG, ok_sExt, ok_sExtL, ok_eRev, ok_aKeys, ok_eOrV, ok_sPopD, ok_cDc, ok_sIns, ok_sPopI, ok_sSetI, List.set_cons_zero, List.set_cons_succ, List.getElem?_cons_zero, List.getElem?_cons_succ, List.map_cons, List.map_nil, List.length_cons, List.length_nil, List.cons_append, List.nil_append, List.replicate_succ, List.replicate_zero, start3, frz, sets, tgName, tgTup, tgTL, tgsCons, tgsNil, wipe3, Nat.reduceSub, Nat.reduceAdd, Nat.reduceLT, ok_forNil, ok_forCons, dMulA_ti, opz_l, opz_t, catL_ll, repL_i, aListQ_l, aListQ_t, aListQ_s, isi2_tl_n, isi2_tl_b, isi2_tl_i, isi2_tl_s, isi2_tl_l, isi2_tl_t, dZipL_l, dLenA_t, dLenA_l, aListA_t, aListA_l, dRev_t, dLenA_d, dicOf_d, dIAdd_ii, dIAdd_ss, dIAdd_tt, dRpart_s, ops0, ops1, ops2, ops3, dZip_tt, if_true, if_false, ite_true, ite_false, reduceCtorEq])
  refine ⟨by decide, ?_⟩
  (try dsimp only); rw [seqK_nx]; (try simp only [oks0, oks1, ok_aCatE, ok_aRepE, ok_eMake, ok_eFld, ok_sFldD, ok_eMeth, ok_sAppO, ok_sExtA, ok_iObj, ok_iZip, ok_aLcG, ok_sExt, ok_sExtL, ok_eRev, ok_aKeys, ok_eOrV, ok_sPopD, ok_cDc, ok_sIns, ok_sPopI, ok_sSetI, List.set_cons_zero, List.set_cons_succ, List.getElem?_cons_zero, List.getElem?_cons_succ, List.map_cons, List.map_nil, List.length_cons, List.length_nil, List.cons_append, List.nil_append, List.replicate_succ, List.replicate_zero, start3, frz, sets, tgName, tgTup, tgTL, tgsCons, tgsNil, wipe3, Nat.reduceSub, Nat.reduceAdd, Nat.reduceLT, dMulA_ti, opz_l, opz_t, catL_ll, repL_i, aListQ_l, aListQ_t, aListQ_s, isi2_tl_n, isi2_tl_b, isi2_tl_i, isi2_tl_s, isi2_tl_l, isi2_tl_t, dZipL_l, dLenA_t, dLenA_l, aListA_t, aListA_l, dRev_t, dLenA_d, dicOf_d, dIAdd_ii, dIAdd_ss, dIAdd_tt, dRpart_s, ops0, ops1, ops2, ops3, dZip_tt, if_true, if_false, ite_true, ite_false, reduceCtorEq])
  refine ok_for (fun ds ρ g' => ∃ i a, i ≤ ls.length ∧ S i g' ∧ ds = (ls.drop i).map D.str ∧ ρ = [some (SV.d (D.obj n)), some (SV.d (D.tup (ls.map .str))), some (SV.own ((upTo outs i).map .str)), a]) ⟨0, _, Nat.zero_le _, h0, rfl, rfl⟩ (fun d r ρ g' hJ => ?_) (fun ρ g' hJ => ?_)
  · obtain ⟨i, a, hi, hS, e, rfl⟩ := hJ
    have lt : i < ls.length := by
      apply Classical.byContradiction
      intro z
      rw [List.drop_of_length_le (by omega)] at e
      cases e
    rw [List.drop_eq_getElem_cons lt, List.map_cons] at e
    cases e
    refine ⟨_, rfl, ?_⟩
    unfold lb_streamed_0
    (try simp only [oks0, oks1, ok_aCatE, ok_aRepE, ok_eMake, ok_eFld, ok_sFldD, ok_eMeth, ok_sAppO, ok_sExtA, ok_iObj, ok_iZip, ok_aLcG, ok_sExt, ok_sExtL, ok_eRev, ok_aKeys, ok_eOrV, ok_sPopD, ok_cDc, ok_sIns, ok_sPopI, ok_sSetI, List.set_cons_zero, List.set_cons_succ, List.getElem?_cons_zero, List.getElem?_cons_succ, List.map_cons, List.map_nil, List.length_cons, List.length_nil, List.cons_append, List.nil_append, List.replicate_succ, List.replicate_zero, start3, frz, sets, tgName, tgTup, tgTL, tgsCons, tgsNil, wipe3, Nat.reduceSub, Nat.reduceAdd, Nat.reduceLT, ok_forNil, ok_forCons, dMulA_ti, opz_l, opz_t, catL_ll, repL_i, aListQ_l, aListQ_t, aListQ_s, isi2_tl_n, isi2_tl_b, isi2_tl_i, isi2_tl_s, isi2_tl_l, isi2_tl_t, dZipL_l, dLenA_t, dLenA_l, aListA_t, aListA_l, dRev_t, dLenA_d, dicOf_d, dIAdd_ii, dIAdd_ss, dIAdd_tt, dRpart_s, ops0, ops1, ops2, ops3, dZip_tt, if_true, if_false, ite_true, ite_false, reduceCtorEq])
    obtain ⟨φ, e1, h⟩ := hf i ls[i] g' (List.getElem?_eq_getElem lt) hS
    rw [e1]
    (try simp only [oks0, oks1, ok_aCatE, ok_aRepE, ok_eMake, ok_eFld, ok_sFldD, ok_eMeth, ok_sAppO, ok_sExtA, ok_iObj, ok_iZip, ok_aLcG, ok_sExt, ok_sExtL, ok_eRev, ok_aKeys, ok_eOrV, ok_sPopD, ok_cDc, ok_sIns, ok_sPopI, ok_sSetI, List.set_cons_zero, List.set_cons_succ, List.getElem?_cons_zero, List.getElem?_cons_succ, List.map_cons, List.map_nil, List.length_cons, List.length_nil, List.cons_append, List.nil_append, List.replicate_succ, List.replicate_zero, start3, frz, sets, tgName, tgTup, tgTL, tgsCons, tgsNil, wipe3, Nat.reduceSub, Nat.reduceAdd, Nat.reduceLT, ok_forNil, ok_forCons, dMulA_ti, opz_l, opz_t, catL_ll, repL_i, aListQ_l, aListQ_t, aListQ_s, isi2_tl_n, isi2_tl_b, isi2_tl_i, isi2_tl_s, isi2_tl_l, isi2_tl_t, dZipL_l, dLenA_t, dLenA_l, aListA_t, aListA_l, dRev_t, dLenA_d, dicOf_d, dIAdd_ii, dIAdd_ss, dIAdd_tt, dRpart_s, ops0, ops1, ops2, ops3, dZip_tt, if_true, if_false, ite_true, ite_false, reduceCtorEq])
    refine h.mono ?_
    rintro d g1 ⟨rfl, hS1⟩
    have := ho (i + 1)
    unfold upTo at this
    rw [List.length_append] at this
    refine ⟨_, rfl, by rw [List.length_map, List.length_map]; unfold BIG; omega, ?_⟩
    exact ⟨i + 1, some (SV.d (D.str ls[i])), lt, hS1, rfl, by rw [← List.map_append]; rfl⟩
  · obtain ⟨i, a, hi, hS, e, rfl⟩ := hJ
    have : i = ls.length := by
      have := congrArg List.length e
      simp at this
      omega
    subst this
    (try dsimp only); rw [seqK_nx]; (try simp only [oks0, oks1, ok_aCatE, ok_aRepE, ok_eMake, ok_eFld, ok_sFldD, ok_eMeth, ok_sAppO, ok_sExtA, ok_iObj, ok_iZip, ok_aLcG, ok_sExt, ok_sExtL, ok_eRev, ok_aKeys, ok_eOrV, ok_sPopD, ok_cDc, ok_sIns, ok_sPopI, ok_sSetI, List.set_cons_zero, List.set_cons_succ, List.getElem?_cons_zero, List.getElem?_cons_succ, List.map_cons, List.map_nil, List.length_cons, List.length_nil, List.cons_append, List.nil_append, List.replicate_succ, List.replicate_zero, start3, frz, sets, tgName, tgTup, tgTL, tgsCons, tgsNil, wipe3, Nat.reduceSub, Nat.reduceAdd, Nat.reduceLT, ok_forNil, ok_forCons, dMulA_ti, opz_l, opz_t, catL_ll, repL_i, aListQ_l, aListQ_t, aListQ_s, isi2_tl_n, isi2_tl_b, isi2_tl_i, isi2_tl_s, isi2_tl_l, isi2_tl_t, dZipL_l, dLenA_t, dLenA_l, aListA_t, aListA_l, dRev_t, dLenA_d, dicOf_d, dIAdd_ii, dIAdd_ss, dIAdd_tt, dRpart_s, ops0, ops1, ops2, ops3, dZip_tt, if_true, if_false, ite_true, ite_false, reduceCtorEq])
    obtain ⟨φ, e1, h⟩ := hc g' hS
    rw [e1]
    (try simp only [oks0, oks1, ok_aCatE, ok_aRepE, ok_eMake, ok_eFld, ok_sFldD, ok_eMeth, ok_sAppO, ok_sExtA, ok_iObj, ok_iZip, ok_aLcG, ok_sExt, ok_sExtL, ok_eRev, ok_aKeys, ok_eOrV, ok_sPopD, ok_cDc, ok_sIns, ok_sPopI, ok_sSetI, List.set_cons_zero, List.set_cons_succ, List.getElem?_cons_zero, List.getElem?_cons_succ, List.map_cons, List.map_nil, List.length_cons, List.length_nil, List.cons_append, List.nil_append, List.replicate_succ, List.replicate_zero, start3, frz, sets, tgName, tgTup, tgTL, tgsCons, tgsNil, wipe3, Nat.reduceSub, Nat.reduceAdd, Nat.reduceLT, ok_forNil, ok_forCons, dMulA_ti, opz_l, opz_t, catL_ll, repL_i, aListQ_l, aListQ_t, aListQ_s, isi2_tl_n, isi2_tl_b, isi2_tl_i, isi2_tl_s, isi2_tl_l, isi2_tl_t, dZipL_l, dLenA_t, dLenA_l, aListA_t, aListA_l, dRev_t, dLenA_d, dicOf_d, dIAdd_ii, dIAdd_ss, dIAdd_tt, dRpart_s, ops0, ops1, ops2, ops3, dZip_tt, if_true, if_false, ite_true, ite_false, reduceCtorEq])
    refine h.mono ?_
    rintro d g1 ⟨rfl, hE⟩
    have := ho ls.length
    refine ⟨_, rfl, by rw [List.length_map, List.length_map]; unfold BIG; omega, ?_⟩
    (try dsimp only); rw [seqK_nx]; (try simp only [oks0, oks1, ok_aCatE, ok_aRepE, ok_eMake, ok_eFld, ok_sFldD, ok_eMeth, ok_sAppO, ok_sExtA, ok_iObj, ok_iZip, ok_aLcG, ok_sExt, ok_sExtL, ok_eRev, ok_aKeys, ok_eOrV, ok_sPopD, ok_cDc, ok_sIns, ok_sPopI, ok_sSetI, List.set_cons_zero, List.set_cons_succ, List.getElem?_cons_zero, List.getElem?_cons_succ, List.map_cons, List.map_nil, List.length_cons, List.length_nil, List.cons_append, List.nil_append, List.replicate_succ, List.replicate_zero, start3, frz, sets, tgName, tgTup, tgTL, tgsCons, tgsNil, wipe3, Nat.reduceSub, Nat.reduceAdd, Nat.reduceLT, ok_forNil, ok_forCons, dMulA_ti, opz_l, opz_t, catL_ll, repL_i, aListQ_l, aListQ_t, aListQ_s, isi2_tl_n, isi2_tl_b, isi2_tl_i, isi2_tl_s, isi2_tl_l, isi2_tl_t, dZipL_l, dLenA_t, dLenA_l, aListA_t, aListA_l, dRev_t, dLenA_d, dicOf_d, dIAdd_ii, dIAdd_ss, dIAdd_tt, dRpart_s, ops0, ops1, ops2, ops3, dZip_tt, if_true, if_false, ite_true, ite_false, reduceCtorEq])
    rw [cut_take _ 100]
    refine ⟨by decide, ?_⟩
    obtain ⟨φ, e1, h⟩ := he g1 hE
    rw [e1]
    (try simp only [oks0, oks1, ok_aCatE, ok_aRepE, ok_eMake, ok_eFld, ok_sFldD, ok_eMeth, ok_sAppO, ok_sExtA, ok_iObj, ok_iZip, ok_aLcG, ok_sExt, ok_sExtL, ok_eRev, ok_aKeys, ok_eOrV, ok_sPopD, ok_cDc, ok_sIns, ok_sPopI, ok_sSetI, List.set_cons_zero, List.set_cons_succ, List.getElem?_cons_zero, List.getElem?_cons_succ, List.map_cons, List.map_nil, List.length_cons, List.length_nil, List.cons_append, List.nil_append, List.replicate_succ, List.replicate_zero, start3, frz, sets, tgName, tgTup, tgTL, tgsCons, tgsNil, wipe3, Nat.reduceSub, Nat.reduceAdd, Nat.reduceLT, ok_forNil, ok_forCons, dMulA_ti, opz_l, opz_t, catL_ll, repL_i, aListQ_l, aListQ_t, aListQ_s, isi2_tl_n, isi2_tl_b, isi2_tl_i, isi2_tl_s, isi2_tl_l, isi2_tl_t, dZipL_l, dLenA_t, dLenA_l, aListA_t, aListA_l, dRev_t, dLenA_d, dicOf_d, dIAdd_ii, dIAdd_ss, dIAdd_tt, dRpart_s, ops0, ops1, ops2, ops3, dZip_tt, if_true, if_false, ite_true, ite_false, reduceCtorEq])
    refine h.mono ?_
    rintro d g2 ⟨rfl, hR⟩
    refine ⟨by decide, ?_⟩
    rw [← List.map_append, ← List.map_take]
    exact w g2 hR
theorem upTo_filter (ls : List Tx) (q : Tx → Bool) : ∀ i, i ≤ ls.length → upTo (fun i => if q (ls.getD i []) = true ∧ i < ls.length then [ls.getD i []] else []) i = (ls.take i).filter q
  | 0, _ => rfl
  | i + 1, h => by
    rw [upTo, upTo_filter ls q i (by omega), List.take_succ, List.filter_append]
    congr 1
    rw [List.getD_eq_getElem?_getD, List.getElem?_eq_getElem (by omega)]
    simp only [Option.getD_some, Option.toList_some]
    rw [List.filter_cons, List.filter_nil]
    have : i < ls.length := by omega
    simp only [this, and_true]
theorem upTo_len1 (outs : Nat → List Tx) (h : ∀ i, (outs i).length ≤ 1) (L : Nat) (hz : ∀ i, L ≤ i → outs i = []) : ∀ i, (upTo outs i).length ≤ min i L
  | 0 => by simp [upTo]
  | i + 1 => by
    have a := upTo_len1 outs h L hz i
    have b := h i
    rw [upTo, List.length_append]
    by_cases q : L ≤ i
    · rw [hz i q]
      simp
      omega
    · omega
/-- the store grows only -/
def Grow (g g' : Store) : Prop := g <+: g'
theorem Grow.at {g g' : Store} (h : Grow g g') {n : Nat} (hn : n < g.length) : g'[n]? = g[n]? := by
  obtain ⟨t, rfl⟩ := h
  exact List.getElem?_append_left hn
theorem Grow.refl (g : Store) : Grow g g := List.prefix_refl g
theorem Grow.trans {a b c : Store} (h : Grow a b) (k : Grow b c) : Grow a c := List.IsPrefix.trans h k
theorem StOk.lt {n : Nat} {g : Store} (h : StOk n g) : n < g.length := by
  obtain ⟨_, _, _, _, e, _⟩ := h.ex
  exact (List.getElem?_eq_some_iff.mp e).1
theorem StOk.grow {n : Nat} {g g' : Store} (h : StOk n g) (k : Grow g g') : StOk n g' := h.at (k.at h.lt)
theorem at_last (g : Store) (o : SO) : (g ++ [o])[g.length]? = some o := by simp
theorem set_last (g : Store) (o o' : SO) : (g ++ [o]).set g.length o' = g ++ [o'] := by
  rw [List.set_append_right _ _ (Nat.le_refl _), Nat.sub_self]
  rfl
theorem at2a (g : Store) (a b : SO) : (g ++ [a, b])[g.length]? = some a := by simp
theorem at2b (g : Store) (a b : SO) : (g ++ [a, b])[g.length + 1]? = some b := by
  rw [List.getElem?_append_right (by omega)]
  simp
theorem set2a (g : Store) (a b c : SO) : (g ++ [a, b]).set g.length c = g ++ [c, b] := by
  rw [List.set_append_right _ _ (Nat.le_refl _), Nat.sub_self]
  rfl
theorem set2b (g : Store) (a b c : SO) : (g ++ [a, b]).set (g.length + 1) c = g ++ [a, c] := by
  rw [List.set_append_right _ _ (by omega), show g.length + 1 - g.length = 1 by omega]
  rfl
end W

namespace L3
theorem gdT_nil (c : DT) : gdT [] c = c := by
  funext ρ g
  exact gdT_pos (stay_nil g)
theorem lc_filt {β : Type} {ρ : Env3} {g : Store} {tg : D → Option (List (Nat × D))} {c : DT} {e : DE} {f y : β → D} {p : β → Bool} : ∀ {l : List β}, (∀ k ∈ l, ∃ as, tg (f k) = some as ∧ c (sets ρ as) g = some (p k, g) ∧ (p k = true → e (sets ρ as) g = some (y k, g))) → lcD tg c e (l.map f) ρ g = some ((l.filter p).map y, g)
  | [], _ => rfl
  | k :: r, h => by
    obtain ⟨as, ea, ec, ey⟩ := h k List.mem_cons_self
    have ih := lc_filt fun k hk => h k (List.mem_cons_of_mem _ hk)
    rw [List.map_cons]
    unfold lcD
    rw [ea]
    simp only [ec]
    cases hp : p k with
    | true => simp only [ey hp, ih, List.filter_cons_of_pos hp, List.map_cons]
    | false => simp only [ih]; rw [List.filter_cons_of_neg (by simp [hp])]
theorem lc_mapF {β : Type} {ρ : Env3} {g : Store} {tg : D → Option (List (Nat × D))} {e : DE} {f y : β → D} {l : List β} (h : ∀ k ∈ l, ∃ as, tg (f k) = some as ∧ e (sets ρ as) g = some (y k, g)) : lcD tg tYesD e (l.map f) ρ g = some (l.map y, g) := by
  have := lc_filt (c := tYesD) (p := fun _ => true) (y := y) (e := e) (tg := tg) (f := f) (ρ := ρ) (g := g) (l := l) fun k hk => by
    obtain ⟨as, e1, e2⟩ := h k hk
    exact ⟨as, e1, rfl, fun _ => e2⟩
  rw [List.filter_eq_self.mpr fun _ _ => rfl] at this
  exact this
theorem join_lst (c : Tx) {N : Nat} {l : List Tx} (h : ∀ s ∈ l, s.length ≤ N) (hb : l.length * (N + c.length) ≤ 100000) : dJoin (.str c) [.lst (l.map .str)] = some (.str (TL.joinL c l)) := by
  show dJoinL c (l.map .str) = _
  unfold dJoinL
  rw [txts_map]
  dsimp only
  rw [if_pos]
  have := joinN_le c N h
  unfold BIG
  omega
theorem zipW_map {β : Type} (f h : β → D) (l : List β) : List.zipWith twoD (l.map f) (l.map h) = l.map fun k => twoD (f k) (h k) := by
  induction l with
  | nil => rfl
  | cons x r ih => simp only [List.map_cons, List.zipWith_cons_cons, ih]
end L3

namespace W
open L3
open L2 (atI ixN)
/-! single, first, count -/
def sgl : Option Tx → List Tx → List Tx
  | _, [] => []
  | p, x :: r => if p = some x then sgl p r else x :: sgl (some x) r
theorem sgl_idem : ∀ (p : Option Tx) (l : List Tx), sgl p (sgl p l) = sgl p l
  | _, [] => rfl
  | p, x :: r => by
    by_cases h : p = some x
    · rw [show sgl p (x :: r) = sgl p r from if_pos h]
      exact sgl_idem p r
    · rw [show sgl p (x :: r) = x :: sgl (some x) r from if_neg h, show sgl p (x :: sgl (some x) r) = x :: sgl (some x) (sgl (some x) r) from if_neg h, sgl_idem]
def lastT (p : Option Tx) (l : List Tx) : Option Tx := match l.getLast? with
  | some x => some x
  | none => p
theorem lastT_cons (p : Option Tx) (x : Tx) (l : List Tx) : lastT p (x :: l) = lastT (some x) l := by
  unfold lastT
  cases l with
  | nil => rfl
  | cons y r =>
    rw [List.getLast?_cons_cons]
    cases h : (y :: r).getLast? with
    | some z => rfl
    | none => simp at h
theorem sgl_snoc (x : Tx) : ∀ (p : Option Tx) (l : List Tx), sgl p (l ++ [x]) = sgl p l ++ if lastT p l = some x then [] else [x]
  | p, [] => by
    show (if p = some x then sgl p [] else x :: sgl (some x) []) = _
    rfl
  | p, y :: r => by
    rw [lastT_cons, List.cons_append]
    by_cases h : p = some y
    · rw [show sgl p (y :: (r ++ [x])) = sgl p (r ++ [x]) from if_pos h, show sgl p (y :: r) = sgl p r from if_pos h, sgl_snoc x p r, h]
    · rw [show sgl p (y :: (r ++ [x])) = y :: sgl (some y) (r ++ [x]) from if_neg h, show sgl p (y :: r) = y :: sgl (some y) r from if_neg h, sgl_snoc x (some y) r]
      rfl
theorem sgl_sub (p : Option Tx) (l : List Tx) : (sgl p l).length ≤ l.length ∧ ∀ s ∈ sgl p l, s ∈ l := by
  induction l generalizing p with
  | nil => exact ⟨Nat.le_refl _, fun s hs => hs⟩
  | cons x r ih =>
    unfold sgl
    split
    · exact ⟨Nat.le_succ_of_le (ih p).1, fun s hs => List.mem_cons_of_mem _ ((ih p).2 s hs)⟩
    · refine ⟨Nat.succ_le_succ (ih _).1, fun s hs => ?_⟩
      rcases List.mem_cons.mp hs with rfl | hs
      · exact List.mem_cons_self
      · exact List.mem_cons_of_mem _ ((ih _).2 s hs)
theorem lastT_take {ls : List Tx} {i : Nat} (hi : i ≤ ls.length) : lastT none (ls.take i) = if i = 0 then none else ls[i - 1]? := by
  unfold lastT
  by_cases h : i = 0
  · subst h; rfl
  · rw [if_neg h, List.getLast?_eq_getElem?, List.length_take, Nat.min_eq_left hi, List.getElem?_take, if_pos (by omega), List.getElem?_eq_getElem (by omega)]
def oD : Option Tx → D
  | none => .non
  | some x => .str x
def sglO (l : Option Tx) : SO := .ins 8 [(0, .tup [.str [115, 105, 110, 103, 108, 101]]), (5, oD l)]
theorem told_single {ls : List Tx} {g : Store} {Q : D → Store → Prop} (hls : LnOk ls) (hll : ls.length ≤ 100) (w : ∀ g', Grow g g' → Q (.tup [.tup [.tup ((sgl none ls).map .str)], .int 0]) g') : Ok (f_told [.tup [.str [115, 105, 110, 103, 108, 101]], .tup [.tup (ls.map .str)]] g) Q := by
  unfold f_told d_told
  (try simp only [oks0, oks1, ok_aCatE, ok_aRepE, ok_eMake, ok_eFld, ok_sFldD, ok_eMeth, ok_sAppO, ok_sExtA, ok_iObj, ok_iZip, ok_aLcG, ok_sExt, ok_sExtL, ok_eRev, ok_aKeys, ok_eOrV, ok_sPopD, ok_cDc, ok_sIns, ok_sPopI, ok_sSetI, List.set_cons_zero, List.set_cons_succ, List.getElem?_cons_zero, List.getElem?_cons_succ, List.map_cons, List.map_nil, List.length_cons, List.length_nil, List.cons_append, List.nil_append, List.replicate_succ, List.replicate_zero, start3, frz, sets, tgName, tgTup, tgTL, tgsCons, tgsNil, wipe3, Nat.reduceSub, Nat.reduceAdd, Nat.reduceLT, ok_forNil, ok_forCons, dMulA_ti, opz_l, opz_t, catL_ll, repL_i, aListQ_l, aListQ_t, aListQ_s, isi2_tl_n, isi2_tl_b, isi2_tl_i, isi2_tl_s, isi2_tl_l, isi2_tl_t, dZipL_l, dLenA_t, dLenA_l, aListA_t, aListA_l, dRev_t, dLenA_d, dicOf_d, dIAdd_ii, dIAdd_ss, dIAdd_tt, dRpart_s, ops0, ops1, ops2, ops3, dZip_tt, if_true, if_false, ite_true, ite_false, reduceCtorEq])
  rw [if_neg (by decide)]
  (try dsimp only); rw [seqK_nx]; (try simp only [oks0, oks1, ok_aCatE, ok_aRepE, ok_eMake, ok_eFld, ok_sFldD, ok_eMeth, ok_sAppO, ok_sExtA, ok_iObj, ok_iZip, ok_aLcG, ok_sExt, ok_sExtL, ok_eRev, ok_aKeys, ok_eOrV, ok_sPopD, ok_cDc, ok_sIns, ok_sPopI, ok_sSetI, List.set_cons_zero, List.set_cons_succ, List.getElem?_cons_zero, List.getElem?_cons_succ, List.map_cons, List.map_nil, List.length_cons, List.length_nil, List.cons_append, List.nil_append, List.replicate_succ, List.replicate_zero, start3, frz, sets, tgName, tgTup, tgTL, tgsCons, tgsNil, wipe3, Nat.reduceSub, Nat.reduceAdd, Nat.reduceLT, ok_forNil, ok_forCons, dMulA_ti, opz_l, opz_t, catL_ll, repL_i, aListQ_l, aListQ_t, aListQ_s, isi2_tl_n, isi2_tl_b, isi2_tl_i, isi2_tl_s, isi2_tl_l, isi2_tl_t, dZipL_l, dLenA_t, dLenA_l, aListA_t, aListA_l, dRev_t, dLenA_d, dicOf_d, dIAdd_ii, dIAdd_ss, dIAdd_tt, dRpart_s, ops0, ops1, ops2, ops3, dZip_tt, if_true, if_false, ite_true, ite_false, reduceCtorEq])
  unfold f_stream_of d_stream_of
  (try simp only [oks0, oks1, ok_aCatE, ok_aRepE, ok_eMake, ok_eFld, ok_sFldD, ok_eMeth, ok_sAppO, ok_sExtA, ok_iObj, ok_iZip, ok_aLcG, ok_sExt, ok_sExtL, ok_eRev, ok_aKeys, ok_eOrV, ok_sPopD, ok_cDc, ok_sIns, ok_sPopI, ok_sSetI, List.set_cons_zero, List.set_cons_succ, List.getElem?_cons_zero, List.getElem?_cons_succ, List.map_cons, List.map_nil, List.length_cons, List.length_nil, List.cons_append, List.nil_append, List.replicate_succ, List.replicate_zero, start3, frz, sets, tgName, tgTup, tgTL, tgsCons, tgsNil, wipe3, Nat.reduceSub, Nat.reduceAdd, Nat.reduceLT, ok_forNil, ok_forCons, dMulA_ti, opz_l, opz_t, catL_ll, repL_i, aListQ_l, aListQ_t, aListQ_s, isi2_tl_n, isi2_tl_b, isi2_tl_i, isi2_tl_s, isi2_tl_l, isi2_tl_t, dZipL_l, dLenA_t, dLenA_l, aListA_t, aListA_l, dRev_t, dLenA_d, dicOf_d, dIAdd_ii, dIAdd_ss, dIAdd_tt, dRpart_s, ops0, ops1, ops2, ops3, dZip_tt, if_true, if_false, ite_true, ite_false, reduceCtorEq])
  (try dsimp only); rw [seqK_nx]; (try simp only [oks0, oks1, ok_aCatE, ok_aRepE, ok_eMake, ok_eFld, ok_sFldD, ok_eMeth, ok_sAppO, ok_sExtA, ok_iObj, ok_iZip, ok_aLcG, ok_sExt, ok_sExtL, ok_eRev, ok_aKeys, ok_eOrV, ok_sPopD, ok_cDc, ok_sIns, ok_sPopI, ok_sSetI, List.set_cons_zero, List.set_cons_succ, List.getElem?_cons_zero, List.getElem?_cons_succ, List.map_cons, List.map_nil, List.length_cons, List.length_nil, List.cons_append, List.nil_append, List.replicate_succ, List.replicate_zero, start3, frz, sets, tgName, tgTup, tgTL, tgsCons, tgsNil, wipe3, Nat.reduceSub, Nat.reduceAdd, Nat.reduceLT, ok_forNil, ok_forCons, dMulA_ti, opz_l, opz_t, catL_ll, repL_i, aListQ_l, aListQ_t, aListQ_s, isi2_tl_n, isi2_tl_b, isi2_tl_i, isi2_tl_s, isi2_tl_l, isi2_tl_t, dZipL_l, dLenA_t, dLenA_l, aListA_t, aListA_l, dRev_t, dLenA_d, dicOf_d, dIAdd_ii, dIAdd_ss, dIAdd_tt, dRpart_s, ops0, ops1, ops2, ops3, dZip_tt, if_true, if_false, ite_true, ite_false, reduceCtorEq])
  rw [if_neg (by decide)]
  (try simp only [oks0, oks1, ok_aCatE, ok_aRepE, ok_eMake, ok_eFld, ok_sFldD, ok_eMeth, ok_sAppO, ok_sExtA, ok_iObj, ok_iZip, ok_aLcG, ok_sExt, ok_sExtL, ok_eRev, ok_aKeys, ok_eOrV, ok_sPopD, ok_cDc, ok_sIns, ok_sPopI, ok_sSetI, List.set_cons_zero, List.set_cons_succ, List.getElem?_cons_zero, List.getElem?_cons_succ, List.map_cons, List.map_nil, List.length_cons, List.length_nil, List.cons_append, List.nil_append, List.replicate_succ, List.replicate_zero, start3, frz, sets, tgName, tgTup, tgTL, tgsCons, tgsNil, wipe3, Nat.reduceSub, Nat.reduceAdd, Nat.reduceLT, ok_forNil, ok_forCons, dMulA_ti, opz_l, opz_t, catL_ll, repL_i, aListQ_l, aListQ_t, aListQ_s, isi2_tl_n, isi2_tl_b, isi2_tl_i, isi2_tl_s, isi2_tl_l, isi2_tl_t, dZipL_l, dLenA_t, dLenA_l, aListA_t, aListA_l, dRev_t, dLenA_d, dicOf_d, dIAdd_ii, dIAdd_ss, dIAdd_tt, dRpart_s, ops0, ops1, ops2, ops3, dZip_tt, if_true, if_false, ite_true, ite_false, reduceCtorEq])
  (try dsimp only); rw [seqK_nx]; (try simp only [oks0, oks1, ok_aCatE, ok_aRepE, ok_eMake, ok_eFld, ok_sFldD, ok_eMeth, ok_sAppO, ok_sExtA, ok_iObj, ok_iZip, ok_aLcG, ok_sExt, ok_sExtL, ok_eRev, ok_aKeys, ok_eOrV, ok_sPopD, ok_cDc, ok_sIns, ok_sPopI, ok_sSetI, List.set_cons_zero, List.set_cons_succ, List.getElem?_cons_zero, List.getElem?_cons_succ, List.map_cons, List.map_nil, List.length_cons, List.length_nil, List.cons_append, List.nil_append, List.replicate_succ, List.replicate_zero, start3, frz, sets, tgName, tgTup, tgTL, tgsCons, tgsNil, wipe3, Nat.reduceSub, Nat.reduceAdd, Nat.reduceLT, ok_forNil, ok_forCons, dMulA_ti, opz_l, opz_t, catL_ll, repL_i, aListQ_l, aListQ_t, aListQ_s, isi2_tl_n, isi2_tl_b, isi2_tl_i, isi2_tl_s, isi2_tl_l, isi2_tl_t, dZipL_l, dLenA_t, dLenA_l, aListA_t, aListA_l, dRev_t, dLenA_d, dicOf_d, dIAdd_ii, dIAdd_ss, dIAdd_tt, dRpart_s, ops0, ops1, ops2, ops3, dZip_tt, if_true, if_false, ite_true, ite_false, reduceCtorEq])
  rw [if_neg (by decide)]
  (try dsimp only); rw [seqK_nx]; (try simp only [oks0, oks1, ok_aCatE, ok_aRepE, ok_eMake, ok_eFld, ok_sFldD, ok_eMeth, ok_sAppO, ok_sExtA, ok_iObj, ok_iZip, ok_aLcG, ok_sExt, ok_sExtL, ok_eRev, ok_aKeys, ok_eOrV, ok_sPopD, ok_cDc, ok_sIns, ok_sPopI, ok_sSetI, List.set_cons_zero, List.set_cons_succ, List.getElem?_cons_zero, List.getElem?_cons_succ, List.map_cons, List.map_nil, List.length_cons, List.length_nil, List.cons_append, List.nil_append, List.replicate_succ, List.replicate_zero, start3, frz, sets, tgName, tgTup, tgTL, tgsCons, tgsNil, wipe3, Nat.reduceSub, Nat.reduceAdd, Nat.reduceLT, ok_forNil, ok_forCons, dMulA_ti, opz_l, opz_t, catL_ll, repL_i, aListQ_l, aListQ_t, aListQ_s, isi2_tl_n, isi2_tl_b, isi2_tl_i, isi2_tl_s, isi2_tl_l, isi2_tl_t, dZipL_l, dLenA_t, dLenA_l, aListA_t, aListA_l, dRev_t, dLenA_d, dicOf_d, dIAdd_ii, dIAdd_ss, dIAdd_tt, dRpart_s, ops0, ops1, ops2, ops3, dZip_tt, if_true, if_false, ite_true, ite_false, reduceCtorEq])
  rw [if_neg (by decide)]
  (try dsimp only); rw [seqK_nx]; (try simp only [oks0, oks1, ok_aCatE, ok_aRepE, ok_eMake, ok_eFld, ok_sFldD, ok_eMeth, ok_sAppO, ok_sExtA, ok_iObj, ok_iZip, ok_aLcG, ok_sExt, ok_sExtL, ok_eRev, ok_aKeys, ok_eOrV, ok_sPopD, ok_cDc, ok_sIns, ok_sPopI, ok_sSetI, List.set_cons_zero, List.set_cons_succ, List.getElem?_cons_zero, List.getElem?_cons_succ, List.map_cons, List.map_nil, List.length_cons, List.length_nil, List.cons_append, List.nil_append, List.replicate_succ, List.replicate_zero, start3, frz, sets, tgName, tgTup, tgTL, tgsCons, tgsNil, wipe3, Nat.reduceSub, Nat.reduceAdd, Nat.reduceLT, ok_forNil, ok_forCons, dMulA_ti, opz_l, opz_t, catL_ll, repL_i, aListQ_l, aListQ_t, aListQ_s, isi2_tl_n, isi2_tl_b, isi2_tl_i, isi2_tl_s, isi2_tl_l, isi2_tl_t, dZipL_l, dLenA_t, dLenA_l, aListA_t, aListA_l, dRev_t, dLenA_d, dicOf_d, dIAdd_ii, dIAdd_ss, dIAdd_tt, dRpart_s, ops0, ops1, ops2, ops3, dZip_tt, if_true, if_false, ite_true, ite_false, reduceCtorEq])
  unfold f_Single____init__ d_Single____init__
  (try simp only [oks0, oks1, ok_aCatE, ok_aRepE, ok_eMake, ok_eFld, ok_sFldD, ok_eMeth, ok_sAppO, ok_sExtA, ok_iObj, ok_iZip, ok_aLcG, ok_sExt, ok_sExtL, ok_eRev, ok_aKeys, ok_eOrV, ok_sPopD, ok_cDc, ok_sIns, ok_sPopI, ok_sSetI, List.set_cons_zero, List.set_cons_succ, List.getElem?_cons_zero, List.getElem?_cons_succ, List.map_cons, List.map_nil, List.length_cons, List.length_nil, List.cons_append, List.nil_append, List.replicate_succ, List.replicate_zero, start3, frz, sets, tgName, tgTup, tgTL, tgsCons, tgsNil, wipe3, Nat.reduceSub, Nat.reduceAdd, Nat.reduceLT, ok_forNil, ok_forCons, dMulA_ti, opz_l, opz_t, catL_ll, repL_i, aListQ_l, aListQ_t, aListQ_s, isi2_tl_n, isi2_tl_b, isi2_tl_i, isi2_tl_s, isi2_tl_l, isi2_tl_t, dZipL_l, dLenA_t, dLenA_l, aListA_t, aListA_l, dRev_t, dLenA_d, dicOf_d, dIAdd_ii, dIAdd_ss, dIAdd_tt, dRpart_s, ops0, ops1, ops2, ops3, dZip_tt, if_true, if_false, ite_true, ite_false, reduceCtorEq])
  unfold f_Stream____init__ d_Stream____init__
  (try simp only [oks0, oks1, ok_aCatE, ok_aRepE, ok_eMake, ok_eFld, ok_sFldD, ok_eMeth, ok_sAppO, ok_sExtA, ok_iObj, ok_iZip, ok_aLcG, ok_sExt, ok_sExtL, ok_eRev, ok_aKeys, ok_eOrV, ok_sPopD, ok_cDc, ok_sIns, ok_sPopI, ok_sSetI, List.set_cons_zero, List.set_cons_succ, List.getElem?_cons_zero, List.getElem?_cons_succ, List.map_cons, List.map_nil, List.length_cons, List.length_nil, List.cons_append, List.nil_append, List.replicate_succ, List.replicate_zero, start3, frz, sets, tgName, tgTup, tgTL, tgsCons, tgsNil, wipe3, Nat.reduceSub, Nat.reduceAdd, Nat.reduceLT, ok_forNil, ok_forCons, dMulA_ti, opz_l, opz_t, catL_ll, repL_i, aListQ_l, aListQ_t, aListQ_s, isi2_tl_n, isi2_tl_b, isi2_tl_i, isi2_tl_s, isi2_tl_l, isi2_tl_t, dZipL_l, dLenA_t, dLenA_l, aListA_t, aListA_l, dRev_t, dLenA_d, dicOf_d, dIAdd_ii, dIAdd_ss, dIAdd_tt, dRpart_s, ops0, ops1, ops2, ops3, dZip_tt, if_true, if_false, ite_true, ite_false, reduceCtorEq])
  rw [setFD_at (at_last _ _) (by decide) (by decide), set_last]
  (try simp only [oks0, oks1, ok_aCatE, ok_aRepE, ok_eMake, ok_eFld, ok_sFldD, ok_eMeth, ok_sAppO, ok_sExtA, ok_iObj, ok_iZip, ok_aLcG, ok_sExt, ok_sExtL, ok_eRev, ok_aKeys, ok_eOrV, ok_sPopD, ok_cDc, ok_sIns, ok_sPopI, ok_sSetI, List.set_cons_zero, List.set_cons_succ, List.getElem?_cons_zero, List.getElem?_cons_succ, List.map_cons, List.map_nil, List.length_cons, List.length_nil, List.cons_append, List.nil_append, List.replicate_succ, List.replicate_zero, start3, frz, sets, tgName, tgTup, tgTL, tgsCons, tgsNil, wipe3, Nat.reduceSub, Nat.reduceAdd, Nat.reduceLT, ok_forNil, ok_forCons, dMulA_ti, opz_l, opz_t, catL_ll, repL_i, aListQ_l, aListQ_t, aListQ_s, isi2_tl_n, isi2_tl_b, isi2_tl_i, isi2_tl_s, isi2_tl_l, isi2_tl_t, dZipL_l, dLenA_t, dLenA_l, aListA_t, aListA_l, dRev_t, dLenA_d, dicOf_d, dIAdd_ii, dIAdd_ss, dIAdd_tt, dRpart_s, ops0, ops1, ops2, ops3, dZip_tt, if_true, if_false, ite_true, ite_false, reduceCtorEq])
  (try dsimp only); rw [seqK_nx]; (try simp only [oks0, oks1, ok_aCatE, ok_aRepE, ok_eMake, ok_eFld, ok_sFldD, ok_eMeth, ok_sAppO, ok_sExtA, ok_iObj, ok_iZip, ok_aLcG, ok_sExt, ok_sExtL, ok_eRev, ok_aKeys, ok_eOrV, ok_sPopD, ok_cDc, ok_sIns, ok_sPopI, ok_sSetI, List.set_cons_zero, List.set_cons_succ, List.getElem?_cons_zero, List.getElem?_cons_succ, List.map_cons, List.map_nil, List.length_cons, List.length_nil, List.cons_append, List.nil_append, List.replicate_succ, List.replicate_zero, start3, frz, sets, tgName, tgTup, tgTL, tgsCons, tgsNil, wipe3, Nat.reduceSub, Nat.reduceAdd, Nat.reduceLT, ok_forNil, ok_forCons, dMulA_ti, opz_l, opz_t, catL_ll, repL_i, aListQ_l, aListQ_t, aListQ_s, isi2_tl_n, isi2_tl_b, isi2_tl_i, isi2_tl_s, isi2_tl_l, isi2_tl_t, dZipL_l, dLenA_t, dLenA_l, aListA_t, aListA_l, dRev_t, dLenA_d, dicOf_d, dIAdd_ii, dIAdd_ss, dIAdd_tt, dRpart_s, ops0, ops1, ops2, ops3, dZip_tt, if_true, if_false, ite_true, ite_false, reduceCtorEq])
  rw [setFD_at (at_last _ _) (by decide) (by simp [putFD]), set_last]
  (try simp only [oks0, oks1, ok_aCatE, ok_aRepE, ok_eMake, ok_eFld, ok_sFldD, ok_eMeth, ok_sAppO, ok_sExtA, ok_iObj, ok_iZip, ok_aLcG, ok_sExt, ok_sExtL, ok_eRev, ok_aKeys, ok_eOrV, ok_sPopD, ok_cDc, ok_sIns, ok_sPopI, ok_sSetI, List.set_cons_zero, List.set_cons_succ, List.getElem?_cons_zero, List.getElem?_cons_succ, List.map_cons, List.map_nil, List.length_cons, List.length_nil, List.cons_append, List.nil_append, List.replicate_succ, List.replicate_zero, start3, frz, sets, tgName, tgTup, tgTL, tgsCons, tgsNil, wipe3, Nat.reduceSub, Nat.reduceAdd, Nat.reduceLT, ok_forNil, ok_forCons, dMulA_ti, opz_l, opz_t, catL_ll, repL_i, aListQ_l, aListQ_t, aListQ_s, isi2_tl_n, isi2_tl_b, isi2_tl_i, isi2_tl_s, isi2_tl_l, isi2_tl_t, dZipL_l, dLenA_t, dLenA_l, aListA_t, aListA_l, dRev_t, dLenA_d, dicOf_d, dIAdd_ii, dIAdd_ss, dIAdd_tt, dRpart_s, ops0, ops1, ops2, ops3, dZip_tt, if_true, if_false, ite_true, ite_false, reduceCtorEq])
  (try dsimp only); rw [seqK_nx]; (try simp only [oks0, oks1, ok_aCatE, ok_aRepE, ok_eMake, ok_eFld, ok_sFldD, ok_eMeth, ok_sAppO, ok_sExtA, ok_iObj, ok_iZip, ok_aLcG, ok_sExt, ok_sExtL, ok_eRev, ok_aKeys, ok_eOrV, ok_sPopD, ok_cDc, ok_sIns, ok_sPopI, ok_sSetI, List.set_cons_zero, List.set_cons_succ, List.getElem?_cons_zero, List.getElem?_cons_succ, List.map_cons, List.map_nil, List.length_cons, List.length_nil, List.cons_append, List.nil_append, List.replicate_succ, List.replicate_zero, start3, frz, sets, tgName, tgTup, tgTL, tgsCons, tgsNil, wipe3, Nat.reduceSub, Nat.reduceAdd, Nat.reduceLT, ok_forNil, ok_forCons, dMulA_ti, opz_l, opz_t, catL_ll, repL_i, aListQ_l, aListQ_t, aListQ_s, isi2_tl_n, isi2_tl_b, isi2_tl_i, isi2_tl_s, isi2_tl_l, isi2_tl_t, dZipL_l, dLenA_t, dLenA_l, aListA_t, aListA_l, dRev_t, dLenA_d, dicOf_d, dIAdd_ii, dIAdd_ss, dIAdd_tt, dRpart_s, ops0, ops1, ops2, ops3, dZip_tt, if_true, if_false, ite_true, ite_false, reduceCtorEq])
  rw [show (SO.ins 8 (putFD 5 D.non (putFD 0 (D.tup [D.str [115, 105, 110, 103, 108, 101]]) []))) = sglO none from rfl]
  refine streamed_ok (S := fun i g' => g' = g ++ [sglO (lastT none (ls.take i))]) (E := fun g' => Grow g g' ∧ g' = g ++ [sglO (lastT none ls)]) (R := fun g' => Grow g g') (fun i => if lastT none (ls.take i) = ls[i]? ∨ ls.length ≤ i then [] else [ls.getD i []]) [] 0 rfl (by omega) (fun i => Nat.le_trans (upTo_len1 _ (fun i => by split <;> simp) ls.length (fun i hi => if_pos (.inr hi)) i) (by omega)) (by simp) (fun i x g' hx hS => ?_) (fun g' hS => ?_) (fun g' hS => ?_) (fun g' hS => ?_)
  · subst hS
    obtain ⟨hi, ex⟩ := List.getElem?_eq_some_iff.mp hx
    refine ⟨_, methD_at (at_last _ _) rfl, ?_⟩
    have hh : (g ++ [sglO (lastT none (ls.take i))])[g.length]? = some (.ins 8 [(0, .tup [.str [115, 105, 110, 103, 108, 101]]), (5, oD (lastT none (ls.take i)))]) := at_last _ _
    unfold f_Single__feed d_Single__feed
    (try simp only [oks0, oks1, ok_aCatE, ok_aRepE, ok_eMake, ok_eFld, ok_sFldD, ok_eMeth, ok_sAppO, ok_sExtA, ok_iObj, ok_iZip, ok_aLcG, ok_sExt, ok_sExtL, ok_eRev, ok_aKeys, ok_eOrV, ok_sPopD, ok_cDc, ok_sIns, ok_sPopI, ok_sSetI, List.set_cons_zero, List.set_cons_succ, List.getElem?_cons_zero, List.getElem?_cons_succ, List.map_cons, List.map_nil, List.length_cons, List.length_nil, List.cons_append, List.nil_append, List.replicate_succ, List.replicate_zero, start3, frz, sets, tgName, tgTup, tgTL, tgsCons, tgsNil, wipe3, Nat.reduceSub, Nat.reduceAdd, Nat.reduceLT, ok_forNil, ok_forCons, dMulA_ti, opz_l, opz_t, catL_ll, repL_i, aListQ_l, aListQ_t, aListQ_s, isi2_tl_n, isi2_tl_b, isi2_tl_i, isi2_tl_s, isi2_tl_l, isi2_tl_t, dZipL_l, dLenA_t, dLenA_l, aListA_t, aListA_l, dRev_t, dLenA_d, dicOf_d, dIAdd_ii, dIAdd_ss, dIAdd_tt, dRpart_s, ops0, ops1, ops2, ops3, dZip_tt, if_true, if_false, ite_true, ite_false, reduceCtorEq])
    rw [fldD_at hh (by decide) rfl]
    have eq : dEq (D.str x) (oD (lastT none (ls.take i))) = some (.bl (decide (lastT none (ls.take i) = some x))) := by
      cases lastT none (ls.take i) with
      | none => rfl
      | some y => rw [oD, dEq_ss]; congr 2; rw [Bool.eq_iff_iff, decide_eq_true_eq, decide_eq_true_eq]; simp [eq_comm]
    (try simp only [oks0, oks1, ok_aCatE, ok_aRepE, ok_eMake, ok_eFld, ok_sFldD, ok_eMeth, ok_sAppO, ok_sExtA, ok_iObj, ok_iZip, ok_aLcG, ok_sExt, ok_sExtL, ok_eRev, ok_aKeys, ok_eOrV, ok_sPopD, ok_cDc, ok_sIns, ok_sPopI, ok_sSetI, List.set_cons_zero, List.set_cons_succ, List.getElem?_cons_zero, List.getElem?_cons_succ, List.map_cons, List.map_nil, List.length_cons, List.length_nil, List.cons_append, List.nil_append, List.replicate_succ, List.replicate_zero, start3, frz, sets, tgName, tgTup, tgTL, tgsCons, tgsNil, wipe3, Nat.reduceSub, Nat.reduceAdd, Nat.reduceLT, ok_forNil, ok_forCons, dMulA_ti, opz_l, opz_t, catL_ll, repL_i, aListQ_l, aListQ_t, aListQ_s, isi2_tl_n, isi2_tl_b, isi2_tl_i, isi2_tl_s, isi2_tl_l, isi2_tl_t, dZipL_l, dLenA_t, dLenA_l, aListA_t, aListA_l, dRev_t, dLenA_d, dicOf_d, dIAdd_ii, dIAdd_ss, dIAdd_tt, dRpart_s, ops0, ops1, ops2, ops3, dZip_tt, if_true, if_false, ite_true, ite_false, reduceCtorEq])
    rw [eq]
    (try simp only [oks0, oks1, ok_aCatE, ok_aRepE, ok_eMake, ok_eFld, ok_sFldD, ok_eMeth, ok_sAppO, ok_sExtA, ok_iObj, ok_iZip, ok_aLcG, ok_sExt, ok_sExtL, ok_eRev, ok_aKeys, ok_eOrV, ok_sPopD, ok_cDc, ok_sIns, ok_sPopI, ok_sSetI, List.set_cons_zero, List.set_cons_succ, List.getElem?_cons_zero, List.getElem?_cons_succ, List.map_cons, List.map_nil, List.length_cons, List.length_nil, List.cons_append, List.nil_append, List.replicate_succ, List.replicate_zero, start3, frz, sets, tgName, tgTup, tgTL, tgsCons, tgsNil, wipe3, Nat.reduceSub, Nat.reduceAdd, Nat.reduceLT, ok_forNil, ok_forCons, dMulA_ti, opz_l, opz_t, catL_ll, repL_i, aListQ_l, aListQ_t, aListQ_s, isi2_tl_n, isi2_tl_b, isi2_tl_i, isi2_tl_s, isi2_tl_l, isi2_tl_t, dZipL_l, dLenA_t, dLenA_l, aListA_t, aListA_l, dRev_t, dLenA_d, dicOf_d, dIAdd_ii, dIAdd_ss, dIAdd_tt, dRpart_s, ops0, ops1, ops2, ops3, dZip_tt, if_true, if_false, ite_true, ite_false, reduceCtorEq])
    (try dsimp only); rw [seqK_nx]; (try simp only [oks0, oks1, ok_aCatE, ok_aRepE, ok_eMake, ok_eFld, ok_sFldD, ok_eMeth, ok_sAppO, ok_sExtA, ok_iObj, ok_iZip, ok_aLcG, ok_sExt, ok_sExtL, ok_eRev, ok_aKeys, ok_eOrV, ok_sPopD, ok_cDc, ok_sIns, ok_sPopI, ok_sSetI, List.set_cons_zero, List.set_cons_succ, List.getElem?_cons_zero, List.getElem?_cons_succ, List.map_cons, List.map_nil, List.length_cons, List.length_nil, List.cons_append, List.nil_append, List.replicate_succ, List.replicate_zero, start3, frz, sets, tgName, tgTup, tgTL, tgsCons, tgsNil, wipe3, Nat.reduceSub, Nat.reduceAdd, Nat.reduceLT, ok_forNil, ok_forCons, dMulA_ti, opz_l, opz_t, catL_ll, repL_i, aListQ_l, aListQ_t, aListQ_s, isi2_tl_n, isi2_tl_b, isi2_tl_i, isi2_tl_s, isi2_tl_l, isi2_tl_t, dZipL_l, dLenA_t, dLenA_l, aListA_t, aListA_l, dRev_t, dLenA_d, dicOf_d, dIAdd_ii, dIAdd_ss, dIAdd_tt, dRpart_s, ops0, ops1, ops2, ops3, dZip_tt, if_true, if_false, ite_true, ite_false, reduceCtorEq])
    rw [setFD_at hh (by decide) (by simp), show sglO (lastT none (ls.take i)) = .ins 8 [(0, .tup [.str [115, 105, 110, 103, 108, 101]]), (5, oD (lastT none (ls.take i)))] from rfl, set_last]
    (try simp only [oks0, oks1, ok_aCatE, ok_aRepE, ok_eMake, ok_eFld, ok_sFldD, ok_eMeth, ok_sAppO, ok_sExtA, ok_iObj, ok_iZip, ok_aLcG, ok_sExt, ok_sExtL, ok_eRev, ok_aKeys, ok_eOrV, ok_sPopD, ok_cDc, ok_sIns, ok_sPopI, ok_sSetI, List.set_cons_zero, List.set_cons_succ, List.getElem?_cons_zero, List.getElem?_cons_succ, List.map_cons, List.map_nil, List.length_cons, List.length_nil, List.cons_append, List.nil_append, List.replicate_succ, List.replicate_zero, start3, frz, sets, tgName, tgTup, tgTL, tgsCons, tgsNil, wipe3, Nat.reduceSub, Nat.reduceAdd, Nat.reduceLT, ok_forNil, ok_forCons, dMulA_ti, opz_l, opz_t, catL_ll, repL_i, aListQ_l, aListQ_t, aListQ_s, isi2_tl_n, isi2_tl_b, isi2_tl_i, isi2_tl_s, isi2_tl_l, isi2_tl_t, dZipL_l, dLenA_t, dLenA_l, aListA_t, aListA_l, dRev_t, dLenA_d, dicOf_d, dIAdd_ii, dIAdd_ss, dIAdd_tt, dRpart_s, ops0, ops1, ops2, ops3, dZip_tt, if_true, if_false, ite_true, ite_false, reduceCtorEq])
    (try dsimp only); rw [seqK_nx]; (try simp only [oks0, oks1, ok_aCatE, ok_aRepE, ok_eMake, ok_eFld, ok_sFldD, ok_eMeth, ok_sAppO, ok_sExtA, ok_iObj, ok_iZip, ok_aLcG, ok_sExt, ok_sExtL, ok_eRev, ok_aKeys, ok_eOrV, ok_sPopD, ok_cDc, ok_sIns, ok_sPopI, ok_sSetI, List.set_cons_zero, List.set_cons_succ, List.getElem?_cons_zero, List.getElem?_cons_succ, List.map_cons, List.map_nil, List.length_cons, List.length_nil, List.cons_append, List.nil_append, List.replicate_succ, List.replicate_zero, start3, frz, sets, tgName, tgTup, tgTL, tgsCons, tgsNil, wipe3, Nat.reduceSub, Nat.reduceAdd, Nat.reduceLT, ok_forNil, ok_forCons, dMulA_ti, opz_l, opz_t, catL_ll, repL_i, aListQ_l, aListQ_t, aListQ_s, isi2_tl_n, isi2_tl_b, isi2_tl_i, isi2_tl_s, isi2_tl_l, isi2_tl_t, dZipL_l, dLenA_t, dLenA_l, aListA_t, aListA_l, dRev_t, dLenA_d, dicOf_d, dIAdd_ii, dIAdd_ss, dIAdd_tt, dRpart_s, ops0, ops1, ops2, ops3, dZip_tt, if_true, if_false, ite_true, ite_false, reduceCtorEq])
    have et : ls.take (i + 1) = ls.take i ++ [x] := by rw [List.take_succ, hx]; rfl
    have el : lastT none (ls.take (i + 1)) = some x := by unfold lastT; rw [et, List.getLast?_append]; rfl
    rw [el, List.getD_eq_getElem?_getD, hx]
    by_cases h : lastT none (ls.take i) = some x
    · rw [if_pos h, if_pos (.inl h)]
      exact ⟨by decide, rfl, rfl⟩
    · rw [if_neg h, if_neg (fun z => z.elim h (by omega))]
      (try dsimp only); rw [seqK_nx]; (try simp only [oks0, oks1, ok_aCatE, ok_aRepE, ok_eMake, ok_eFld, ok_sFldD, ok_eMeth, ok_sAppO, ok_sExtA, ok_iObj, ok_iZip, ok_aLcG, ok_sExt, ok_sExtL, ok_eRev, ok_aKeys, ok_eOrV, ok_sPopD, ok_cDc, ok_sIns, ok_sPopI, ok_sSetI, List.set_cons_zero, List.set_cons_succ, List.getElem?_cons_zero, List.getElem?_cons_succ, List.map_cons, List.map_nil, List.length_cons, List.length_nil, List.cons_append, List.nil_append, List.replicate_succ, List.replicate_zero, start3, frz, sets, tgName, tgTup, tgTL, tgsCons, tgsNil, wipe3, Nat.reduceSub, Nat.reduceAdd, Nat.reduceLT, ok_forNil, ok_forCons, dMulA_ti, opz_l, opz_t, catL_ll, repL_i, aListQ_l, aListQ_t, aListQ_s, isi2_tl_n, isi2_tl_b, isi2_tl_i, isi2_tl_s, isi2_tl_l, isi2_tl_t, dZipL_l, dLenA_t, dLenA_l, aListA_t, aListA_l, dRev_t, dLenA_d, dicOf_d, dIAdd_ii, dIAdd_ss, dIAdd_tt, dRpart_s, ops0, ops1, ops2, ops3, dZip_tt, if_true, if_false, ite_true, ite_false, reduceCtorEq])
      exact ⟨by decide, rfl, rfl⟩
  · subst hS
    refine ⟨_, methD_at (at_last _ _) rfl, ?_⟩
    unfold f_Stream__close d_Stream__close
    (try simp only [oks0, oks1, ok_aCatE, ok_aRepE, ok_eMake, ok_eFld, ok_sFldD, ok_eMeth, ok_sAppO, ok_sExtA, ok_iObj, ok_iZip, ok_aLcG, ok_sExt, ok_sExtL, ok_eRev, ok_aKeys, ok_eOrV, ok_sPopD, ok_cDc, ok_sIns, ok_sPopI, ok_sSetI, List.set_cons_zero, List.set_cons_succ, List.getElem?_cons_zero, List.getElem?_cons_succ, List.map_cons, List.map_nil, List.length_cons, List.length_nil, List.cons_append, List.nil_append, List.replicate_succ, List.replicate_zero, start3, frz, sets, tgName, tgTup, tgTL, tgsCons, tgsNil, wipe3, Nat.reduceSub, Nat.reduceAdd, Nat.reduceLT, ok_forNil, ok_forCons, dMulA_ti, opz_l, opz_t, catL_ll, repL_i, aListQ_l, aListQ_t, aListQ_s, isi2_tl_n, isi2_tl_b, isi2_tl_i, isi2_tl_s, isi2_tl_l, isi2_tl_t, dZipL_l, dLenA_t, dLenA_l, aListA_t, aListA_l, dRev_t, dLenA_d, dicOf_d, dIAdd_ii, dIAdd_ss, dIAdd_tt, dRpart_s, ops0, ops1, ops2, ops3, dZip_tt, if_true, if_false, ite_true, ite_false, reduceCtorEq])
    rw [List.take_length]
    exact ⟨by decide, ⟨_, rfl⟩, rfl⟩
  · obtain ⟨hg, rfl⟩ := hS
    refine ⟨_, methD_at (at_last _ _) rfl, ?_⟩
    unfold f_Stream__ending d_Stream__ending
    (try simp only [oks0, oks1, ok_aCatE, ok_aRepE, ok_eMake, ok_eFld, ok_sFldD, ok_eMeth, ok_sAppO, ok_sExtA, ok_iObj, ok_iZip, ok_aLcG, ok_sExt, ok_sExtL, ok_eRev, ok_aKeys, ok_eOrV, ok_sPopD, ok_cDc, ok_sIns, ok_sPopI, ok_sSetI, List.set_cons_zero, List.set_cons_succ, List.getElem?_cons_zero, List.getElem?_cons_succ, List.map_cons, List.map_nil, List.length_cons, List.length_nil, List.cons_append, List.nil_append, List.replicate_succ, List.replicate_zero, start3, frz, sets, tgName, tgTup, tgTL, tgsCons, tgsNil, wipe3, Nat.reduceSub, Nat.reduceAdd, Nat.reduceLT, ok_forNil, ok_forCons, dMulA_ti, opz_l, opz_t, catL_ll, repL_i, aListQ_l, aListQ_t, aListQ_s, isi2_tl_n, isi2_tl_b, isi2_tl_i, isi2_tl_s, isi2_tl_l, isi2_tl_t, dZipL_l, dLenA_t, dLenA_l, aListA_t, aListA_l, dRev_t, dLenA_d, dicOf_d, dIAdd_ii, dIAdd_ss, dIAdd_tt, dRpart_s, ops0, ops1, ops2, ops3, dZip_tt, if_true, if_false, ite_true, ite_false, reduceCtorEq])
    exact hg
  · have e : ∀ i, i ≤ ls.length → upTo (fun i => if lastT none (ls.take i) = ls[i]? ∨ ls.length ≤ i then [] else [ls.getD i []]) i = sgl none (ls.take i) := by
      intro i
      induction i with
      | zero => intro _; rfl
      | succ i ih =>
        intro hi
        have hx : ls[i]? = some ls[i] := List.getElem?_eq_getElem (by omega)
        rw [upTo, ih (by omega), List.take_succ, hx, Option.toList_some, sgl_snoc, List.getD_eq_getElem?_getD, hx]
        by_cases h : lastT none (ls.take i) = some ls[i]
        · rw [if_pos h, if_pos (.inl h)]
        · rw [if_neg h, if_neg (fun z => z.elim h (by omega))]
          rfl
    rw [e _ (Nat.le_refl _), List.take_length, List.append_nil, List.take_of_length_le (Nat.le_trans (sgl_sub none ls).1 hll)]
    exact w g' hS
def fstO (n : Nat) (k : Int) : SO := .ins 7 [(0, .tup [.str [102, 105, 114, 115, 116], .str (strI n)]), (4, .int k)]
theorem told_first {n : Nat} {ls : List Tx} {g : Store} {Q : D → Store → Prop} (hn : n < 100) (hls : LnOk ls) (hll : ls.length ≤ 100) (w : ∀ g', Grow g g' → Q (.tup [.tup [.tup ((ls.take n).map .str)], .int 0]) g') : Ok (f_told [.tup [.str [102, 105, 114, 115, 116], .str (strI n)], .tup [.tup (ls.map .str)]] g) Q := by
  unfold f_told d_told
  (try simp only [oks0, oks1, ok_aCatE, ok_aRepE, ok_eMake, ok_eFld, ok_sFldD, ok_eMeth, ok_sAppO, ok_sExtA, ok_iObj, ok_iZip, ok_aLcG, ok_sExt, ok_sExtL, ok_eRev, ok_aKeys, ok_eOrV, ok_sPopD, ok_cDc, ok_sIns, ok_sPopI, ok_sSetI, List.set_cons_zero, List.set_cons_succ, List.getElem?_cons_zero, List.getElem?_cons_succ, List.map_cons, List.map_nil, List.length_cons, List.length_nil, List.cons_append, List.nil_append, List.replicate_succ, List.replicate_zero, start3, frz, sets, tgName, tgTup, tgTL, tgsCons, tgsNil, wipe3, Nat.reduceSub, Nat.reduceAdd, Nat.reduceLT, ok_forNil, ok_forCons, dMulA_ti, opz_l, opz_t, catL_ll, repL_i, aListQ_l, aListQ_t, aListQ_s, isi2_tl_n, isi2_tl_b, isi2_tl_i, isi2_tl_s, isi2_tl_l, isi2_tl_t, dZipL_l, dLenA_t, dLenA_l, aListA_t, aListA_l, dRev_t, dLenA_d, dicOf_d, dIAdd_ii, dIAdd_ss, dIAdd_tt, dRpart_s, ops0, ops1, ops2, ops3, dZip_tt, if_true, if_false, ite_true, ite_false, reduceCtorEq])
  rw [if_neg (by decide)]
  (try dsimp only); rw [seqK_nx]; (try simp only [oks0, oks1, ok_aCatE, ok_aRepE, ok_eMake, ok_eFld, ok_sFldD, ok_eMeth, ok_sAppO, ok_sExtA, ok_iObj, ok_iZip, ok_aLcG, ok_sExt, ok_sExtL, ok_eRev, ok_aKeys, ok_eOrV, ok_sPopD, ok_cDc, ok_sIns, ok_sPopI, ok_sSetI, List.set_cons_zero, List.set_cons_succ, List.getElem?_cons_zero, List.getElem?_cons_succ, List.map_cons, List.map_nil, List.length_cons, List.length_nil, List.cons_append, List.nil_append, List.replicate_succ, List.replicate_zero, start3, frz, sets, tgName, tgTup, tgTL, tgsCons, tgsNil, wipe3, Nat.reduceSub, Nat.reduceAdd, Nat.reduceLT, ok_forNil, ok_forCons, dMulA_ti, opz_l, opz_t, catL_ll, repL_i, aListQ_l, aListQ_t, aListQ_s, isi2_tl_n, isi2_tl_b, isi2_tl_i, isi2_tl_s, isi2_tl_l, isi2_tl_t, dZipL_l, dLenA_t, dLenA_l, aListA_t, aListA_l, dRev_t, dLenA_d, dicOf_d, dIAdd_ii, dIAdd_ss, dIAdd_tt, dRpart_s, ops0, ops1, ops2, ops3, dZip_tt, if_true, if_false, ite_true, ite_false, reduceCtorEq])
  unfold f_stream_of d_stream_of
  (try simp only [oks0, oks1, ok_aCatE, ok_aRepE, ok_eMake, ok_eFld, ok_sFldD, ok_eMeth, ok_sAppO, ok_sExtA, ok_iObj, ok_iZip, ok_aLcG, ok_sExt, ok_sExtL, ok_eRev, ok_aKeys, ok_eOrV, ok_sPopD, ok_cDc, ok_sIns, ok_sPopI, ok_sSetI, List.set_cons_zero, List.set_cons_succ, List.getElem?_cons_zero, List.getElem?_cons_succ, List.map_cons, List.map_nil, List.length_cons, List.length_nil, List.cons_append, List.nil_append, List.replicate_succ, List.replicate_zero, start3, frz, sets, tgName, tgTup, tgTL, tgsCons, tgsNil, wipe3, Nat.reduceSub, Nat.reduceAdd, Nat.reduceLT, ok_forNil, ok_forCons, dMulA_ti, opz_l, opz_t, catL_ll, repL_i, aListQ_l, aListQ_t, aListQ_s, isi2_tl_n, isi2_tl_b, isi2_tl_i, isi2_tl_s, isi2_tl_l, isi2_tl_t, dZipL_l, dLenA_t, dLenA_l, aListA_t, aListA_l, dRev_t, dLenA_d, dicOf_d, dIAdd_ii, dIAdd_ss, dIAdd_tt, dRpart_s, ops0, ops1, ops2, ops3, dZip_tt, if_true, if_false, ite_true, ite_false, reduceCtorEq])
  (try dsimp only); rw [seqK_nx]; (try simp only [oks0, oks1, ok_aCatE, ok_aRepE, ok_eMake, ok_eFld, ok_sFldD, ok_eMeth, ok_sAppO, ok_sExtA, ok_iObj, ok_iZip, ok_aLcG, ok_sExt, ok_sExtL, ok_eRev, ok_aKeys, ok_eOrV, ok_sPopD, ok_cDc, ok_sIns, ok_sPopI, ok_sSetI, List.set_cons_zero, List.set_cons_succ, List.getElem?_cons_zero, List.getElem?_cons_succ, List.map_cons, List.map_nil, List.length_cons, List.length_nil, List.cons_append, List.nil_append, List.replicate_succ, List.replicate_zero, start3, frz, sets, tgName, tgTup, tgTL, tgsCons, tgsNil, wipe3, Nat.reduceSub, Nat.reduceAdd, Nat.reduceLT, ok_forNil, ok_forCons, dMulA_ti, opz_l, opz_t, catL_ll, repL_i, aListQ_l, aListQ_t, aListQ_s, isi2_tl_n, isi2_tl_b, isi2_tl_i, isi2_tl_s, isi2_tl_l, isi2_tl_t, dZipL_l, dLenA_t, dLenA_l, aListA_t, aListA_l, dRev_t, dLenA_d, dicOf_d, dIAdd_ii, dIAdd_ss, dIAdd_tt, dRpart_s, ops0, ops1, ops2, ops3, dZip_tt, if_true, if_false, ite_true, ite_false, reduceCtorEq])
  rw [if_neg (by decide)]
  (try simp only [oks0, oks1, ok_aCatE, ok_aRepE, ok_eMake, ok_eFld, ok_sFldD, ok_eMeth, ok_sAppO, ok_sExtA, ok_iObj, ok_iZip, ok_aLcG, ok_sExt, ok_sExtL, ok_eRev, ok_aKeys, ok_eOrV, ok_sPopD, ok_cDc, ok_sIns, ok_sPopI, ok_sSetI, List.set_cons_zero, List.set_cons_succ, List.getElem?_cons_zero, List.getElem?_cons_succ, List.map_cons, List.map_nil, List.length_cons, List.length_nil, List.cons_append, List.nil_append, List.replicate_succ, List.replicate_zero, start3, frz, sets, tgName, tgTup, tgTL, tgsCons, tgsNil, wipe3, Nat.reduceSub, Nat.reduceAdd, Nat.reduceLT, ok_forNil, ok_forCons, dMulA_ti, opz_l, opz_t, catL_ll, repL_i, aListQ_l, aListQ_t, aListQ_s, isi2_tl_n, isi2_tl_b, isi2_tl_i, isi2_tl_s, isi2_tl_l, isi2_tl_t, dZipL_l, dLenA_t, dLenA_l, aListA_t, aListA_l, dRev_t, dLenA_d, dicOf_d, dIAdd_ii, dIAdd_ss, dIAdd_tt, dRpart_s, ops0, ops1, ops2, ops3, dZip_tt, if_true, if_false, ite_true, ite_false, reduceCtorEq])
  (try dsimp only); rw [seqK_nx]; (try simp only [oks0, oks1, ok_aCatE, ok_aRepE, ok_eMake, ok_eFld, ok_sFldD, ok_eMeth, ok_sAppO, ok_sExtA, ok_iObj, ok_iZip, ok_aLcG, ok_sExt, ok_sExtL, ok_eRev, ok_aKeys, ok_eOrV, ok_sPopD, ok_cDc, ok_sIns, ok_sPopI, ok_sSetI, List.set_cons_zero, List.set_cons_succ, List.getElem?_cons_zero, List.getElem?_cons_succ, List.map_cons, List.map_nil, List.length_cons, List.length_nil, List.cons_append, List.nil_append, List.replicate_succ, List.replicate_zero, start3, frz, sets, tgName, tgTup, tgTL, tgsCons, tgsNil, wipe3, Nat.reduceSub, Nat.reduceAdd, Nat.reduceLT, ok_forNil, ok_forCons, dMulA_ti, opz_l, opz_t, catL_ll, repL_i, aListQ_l, aListQ_t, aListQ_s, isi2_tl_n, isi2_tl_b, isi2_tl_i, isi2_tl_s, isi2_tl_l, isi2_tl_t, dZipL_l, dLenA_t, dLenA_l, aListA_t, aListA_l, dRev_t, dLenA_d, dicOf_d, dIAdd_ii, dIAdd_ss, dIAdd_tt, dRpart_s, ops0, ops1, ops2, ops3, dZip_tt, if_true, if_false, ite_true, ite_false, reduceCtorEq])
  rw [if_neg (by decide)]
  (try dsimp only); rw [seqK_nx]; (try simp only [oks0, oks1, ok_aCatE, ok_aRepE, ok_eMake, ok_eFld, ok_sFldD, ok_eMeth, ok_sAppO, ok_sExtA, ok_iObj, ok_iZip, ok_aLcG, ok_sExt, ok_sExtL, ok_eRev, ok_aKeys, ok_eOrV, ok_sPopD, ok_cDc, ok_sIns, ok_sPopI, ok_sSetI, List.set_cons_zero, List.set_cons_succ, List.getElem?_cons_zero, List.getElem?_cons_succ, List.map_cons, List.map_nil, List.length_cons, List.length_nil, List.cons_append, List.nil_append, List.replicate_succ, List.replicate_zero, start3, frz, sets, tgName, tgTup, tgTL, tgsCons, tgsNil, wipe3, Nat.reduceSub, Nat.reduceAdd, Nat.reduceLT, ok_forNil, ok_forCons, dMulA_ti, opz_l, opz_t, catL_ll, repL_i, aListQ_l, aListQ_t, aListQ_s, isi2_tl_n, isi2_tl_b, isi2_tl_i, isi2_tl_s, isi2_tl_l, isi2_tl_t, dZipL_l, dLenA_t, dLenA_l, aListA_t, aListA_l, dRev_t, dLenA_d, dicOf_d, dIAdd_ii, dIAdd_ss, dIAdd_tt, dRpart_s, ops0, ops1, ops2, ops3, dZip_tt, if_true, if_false, ite_true, ite_false, reduceCtorEq])
  unfold f_First____init__ d_First____init__
  (try simp only [oks0, oks1, ok_aCatE, ok_aRepE, ok_eMake, ok_eFld, ok_sFldD, ok_eMeth, ok_sAppO, ok_sExtA, ok_iObj, ok_iZip, ok_aLcG, ok_sExt, ok_sExtL, ok_eRev, ok_aKeys, ok_eOrV, ok_sPopD, ok_cDc, ok_sIns, ok_sPopI, ok_sSetI, List.set_cons_zero, List.set_cons_succ, List.getElem?_cons_zero, List.getElem?_cons_succ, List.map_cons, List.map_nil, List.length_cons, List.length_nil, List.cons_append, List.nil_append, List.replicate_succ, List.replicate_zero, start3, frz, sets, tgName, tgTup, tgTL, tgsCons, tgsNil, wipe3, Nat.reduceSub, Nat.reduceAdd, Nat.reduceLT, ok_forNil, ok_forCons, dMulA_ti, opz_l, opz_t, catL_ll, repL_i, aListQ_l, aListQ_t, aListQ_s, isi2_tl_n, isi2_tl_b, isi2_tl_i, isi2_tl_s, isi2_tl_l, isi2_tl_t, dZipL_l, dLenA_t, dLenA_l, aListA_t, aListA_l, dRev_t, dLenA_d, dicOf_d, dIAdd_ii, dIAdd_ss, dIAdd_tt, dRpart_s, ops0, ops1, ops2, ops3, dZip_tt, if_true, if_false, ite_true, ite_false, reduceCtorEq])
  unfold f_Stream____init__ d_Stream____init__
  (try simp only [oks0, oks1, ok_aCatE, ok_aRepE, ok_eMake, ok_eFld, ok_sFldD, ok_eMeth, ok_sAppO, ok_sExtA, ok_iObj, ok_iZip, ok_aLcG, ok_sExt, ok_sExtL, ok_eRev, ok_aKeys, ok_eOrV, ok_sPopD, ok_cDc, ok_sIns, ok_sPopI, ok_sSetI, List.set_cons_zero, List.set_cons_succ, List.getElem?_cons_zero, List.getElem?_cons_succ, List.map_cons, List.map_nil, List.length_cons, List.length_nil, List.cons_append, List.nil_append, List.replicate_succ, List.replicate_zero, start3, frz, sets, tgName, tgTup, tgTL, tgsCons, tgsNil, wipe3, Nat.reduceSub, Nat.reduceAdd, Nat.reduceLT, ok_forNil, ok_forCons, dMulA_ti, opz_l, opz_t, catL_ll, repL_i, aListQ_l, aListQ_t, aListQ_s, isi2_tl_n, isi2_tl_b, isi2_tl_i, isi2_tl_s, isi2_tl_l, isi2_tl_t, dZipL_l, dLenA_t, dLenA_l, aListA_t, aListA_l, dRev_t, dLenA_d, dicOf_d, dIAdd_ii, dIAdd_ss, dIAdd_tt, dRpart_s, ops0, ops1, ops2, ops3, dZip_tt, if_true, if_false, ite_true, ite_false, reduceCtorEq])
  rw [setFD_at (at_last _ _) (by decide) (by decide), set_last]
  (try simp only [oks0, oks1, ok_aCatE, ok_aRepE, ok_eMake, ok_eFld, ok_sFldD, ok_eMeth, ok_sAppO, ok_sExtA, ok_iObj, ok_iZip, ok_aLcG, ok_sExt, ok_sExtL, ok_eRev, ok_aKeys, ok_eOrV, ok_sPopD, ok_cDc, ok_sIns, ok_sPopI, ok_sSetI, List.set_cons_zero, List.set_cons_succ, List.getElem?_cons_zero, List.getElem?_cons_succ, List.map_cons, List.map_nil, List.length_cons, List.length_nil, List.cons_append, List.nil_append, List.replicate_succ, List.replicate_zero, start3, frz, sets, tgName, tgTup, tgTL, tgsCons, tgsNil, wipe3, Nat.reduceSub, Nat.reduceAdd, Nat.reduceLT, ok_forNil, ok_forCons, dMulA_ti, opz_l, opz_t, catL_ll, repL_i, aListQ_l, aListQ_t, aListQ_s, isi2_tl_n, isi2_tl_b, isi2_tl_i, isi2_tl_s, isi2_tl_l, isi2_tl_t, dZipL_l, dLenA_t, dLenA_l, aListA_t, aListA_l, dRev_t, dLenA_d, dicOf_d, dIAdd_ii, dIAdd_ss, dIAdd_tt, dRpart_s, ops0, ops1, ops2, ops3, dZip_tt, if_true, if_false, ite_true, ite_false, reduceCtorEq])
  (try dsimp only); rw [seqK_nx]; (try simp only [oks0, oks1, ok_aCatE, ok_aRepE, ok_eMake, ok_eFld, ok_sFldD, ok_eMeth, ok_sAppO, ok_sExtA, ok_iObj, ok_iZip, ok_aLcG, ok_sExt, ok_sExtL, ok_eRev, ok_aKeys, ok_eOrV, ok_sPopD, ok_cDc, ok_sIns, ok_sPopI, ok_sSetI, List.set_cons_zero, List.set_cons_succ, List.getElem?_cons_zero, List.getElem?_cons_succ, List.map_cons, List.map_nil, List.length_cons, List.length_nil, List.cons_append, List.nil_append, List.replicate_succ, List.replicate_zero, start3, frz, sets, tgName, tgTup, tgTL, tgsCons, tgsNil, wipe3, Nat.reduceSub, Nat.reduceAdd, Nat.reduceLT, ok_forNil, ok_forCons, dMulA_ti, opz_l, opz_t, catL_ll, repL_i, aListQ_l, aListQ_t, aListQ_s, isi2_tl_n, isi2_tl_b, isi2_tl_i, isi2_tl_s, isi2_tl_l, isi2_tl_t, dZipL_l, dLenA_t, dLenA_l, aListA_t, aListA_l, dRev_t, dLenA_d, dicOf_d, dIAdd_ii, dIAdd_ss, dIAdd_tt, dRpart_s, ops0, ops1, ops2, ops3, dZip_tt, if_true, if_false, ite_true, ite_false, reduceCtorEq])
  have := strI_small n hn
  refine number_in_ok (by omega) ?_
  rw [numD_small n hn]
  rw [setFD_at (at_last _ _) (by decide) (by simp [putFD]), set_last]
  (try simp only [oks0, oks1, ok_aCatE, ok_aRepE, ok_eMake, ok_eFld, ok_sFldD, ok_eMeth, ok_sAppO, ok_sExtA, ok_iObj, ok_iZip, ok_aLcG, ok_sExt, ok_sExtL, ok_eRev, ok_aKeys, ok_eOrV, ok_sPopD, ok_cDc, ok_sIns, ok_sPopI, ok_sSetI, List.set_cons_zero, List.set_cons_succ, List.getElem?_cons_zero, List.getElem?_cons_succ, List.map_cons, List.map_nil, List.length_cons, List.length_nil, List.cons_append, List.nil_append, List.replicate_succ, List.replicate_zero, start3, frz, sets, tgName, tgTup, tgTL, tgsCons, tgsNil, wipe3, Nat.reduceSub, Nat.reduceAdd, Nat.reduceLT, ok_forNil, ok_forCons, dMulA_ti, opz_l, opz_t, catL_ll, repL_i, aListQ_l, aListQ_t, aListQ_s, isi2_tl_n, isi2_tl_b, isi2_tl_i, isi2_tl_s, isi2_tl_l, isi2_tl_t, dZipL_l, dLenA_t, dLenA_l, aListA_t, aListA_l, dRev_t, dLenA_d, dicOf_d, dIAdd_ii, dIAdd_ss, dIAdd_tt, dRpart_s, ops0, ops1, ops2, ops3, dZip_tt, if_true, if_false, ite_true, ite_false, reduceCtorEq])
  (try dsimp only); rw [seqK_nx]; (try simp only [oks0, oks1, ok_aCatE, ok_aRepE, ok_eMake, ok_eFld, ok_sFldD, ok_eMeth, ok_sAppO, ok_sExtA, ok_iObj, ok_iZip, ok_aLcG, ok_sExt, ok_sExtL, ok_eRev, ok_aKeys, ok_eOrV, ok_sPopD, ok_cDc, ok_sIns, ok_sPopI, ok_sSetI, List.set_cons_zero, List.set_cons_succ, List.getElem?_cons_zero, List.getElem?_cons_succ, List.map_cons, List.map_nil, List.length_cons, List.length_nil, List.cons_append, List.nil_append, List.replicate_succ, List.replicate_zero, start3, frz, sets, tgName, tgTup, tgTL, tgsCons, tgsNil, wipe3, Nat.reduceSub, Nat.reduceAdd, Nat.reduceLT, ok_forNil, ok_forCons, dMulA_ti, opz_l, opz_t, catL_ll, repL_i, aListQ_l, aListQ_t, aListQ_s, isi2_tl_n, isi2_tl_b, isi2_tl_i, isi2_tl_s, isi2_tl_l, isi2_tl_t, dZipL_l, dLenA_t, dLenA_l, aListA_t, aListA_l, dRev_t, dLenA_d, dicOf_d, dIAdd_ii, dIAdd_ss, dIAdd_tt, dRpart_s, ops0, ops1, ops2, ops3, dZip_tt, if_true, if_false, ite_true, ite_false, reduceCtorEq])
  rw [show (SO.ins 7 (putFD 4 (D.int n) (putFD 0 (D.tup [D.str [102, 105, 114, 115, 116], .str (strI n)]) []))) = fstO n n from rfl]
  refine streamed_ok (S := fun i g' => g' = g ++ [fstO n ((n - i : Nat) : Int)]) (E := fun g' => Grow g g' ∧ ∃ k, g' = g ++ [fstO n k]) (R := fun g' => Grow g g') (fun i => if i < n ∧ i < ls.length then [ls.getD i []] else []) [] 0 rfl (by omega) (fun i => Nat.le_trans (upTo_len1 _ (fun i => by split <;> simp) ls.length (fun i hi => if_neg fun z => by omega) i) (by omega)) (by simp) (fun i x g' hx hS => ?_) (fun g' hS => ?_) (fun g' hS => ?_) (fun g' hS => ?_)
  · subst hS
    obtain ⟨hi, ex⟩ := List.getElem?_eq_some_iff.mp hx
    refine ⟨_, methD_at (at_last _ _) rfl, ?_⟩
    have hh : (g ++ [fstO n ((n - i : Nat) : Int)])[g.length]? = some (.ins 7 [(0, .tup [.str [102, 105, 114, 115, 116], .str (strI n)]), (4, .int ((n - i : Nat) : Int))]) := at_last _ _
    unfold f_First__feed d_First__feed
    (try simp only [oks0, oks1, ok_aCatE, ok_aRepE, ok_eMake, ok_eFld, ok_sFldD, ok_eMeth, ok_sAppO, ok_sExtA, ok_iObj, ok_iZip, ok_aLcG, ok_sExt, ok_sExtL, ok_eRev, ok_aKeys, ok_eOrV, ok_sPopD, ok_cDc, ok_sIns, ok_sPopI, ok_sSetI, List.set_cons_zero, List.set_cons_succ, List.getElem?_cons_zero, List.getElem?_cons_succ, List.map_cons, List.map_nil, List.length_cons, List.length_nil, List.cons_append, List.nil_append, List.replicate_succ, List.replicate_zero, start3, frz, sets, tgName, tgTup, tgTL, tgsCons, tgsNil, wipe3, Nat.reduceSub, Nat.reduceAdd, Nat.reduceLT, ok_forNil, ok_forCons, dMulA_ti, opz_l, opz_t, catL_ll, repL_i, aListQ_l, aListQ_t, aListQ_s, isi2_tl_n, isi2_tl_b, isi2_tl_i, isi2_tl_s, isi2_tl_l, isi2_tl_t, dZipL_l, dLenA_t, dLenA_l, aListA_t, aListA_l, dRev_t, dLenA_d, dicOf_d, dIAdd_ii, dIAdd_ss, dIAdd_tt, dRpart_s, ops0, ops1, ops2, ops3, dZip_tt, if_true, if_false, ite_true, ite_false, reduceCtorEq])
    rw [fldD_at hh (by decide) rfl]
    (try simp only [oks0, oks1, ok_aCatE, ok_aRepE, ok_eMake, ok_eFld, ok_sFldD, ok_eMeth, ok_sAppO, ok_sExtA, ok_iObj, ok_iZip, ok_aLcG, ok_sExt, ok_sExtL, ok_eRev, ok_aKeys, ok_eOrV, ok_sPopD, ok_cDc, ok_sIns, ok_sPopI, ok_sSetI, List.set_cons_zero, List.set_cons_succ, List.getElem?_cons_zero, List.getElem?_cons_succ, List.map_cons, List.map_nil, List.length_cons, List.length_nil, List.cons_append, List.nil_append, List.replicate_succ, List.replicate_zero, start3, frz, sets, tgName, tgTup, tgTL, tgsCons, tgsNil, wipe3, Nat.reduceSub, Nat.reduceAdd, Nat.reduceLT, ok_forNil, ok_forCons, dMulA_ti, opz_l, opz_t, catL_ll, repL_i, aListQ_l, aListQ_t, aListQ_s, isi2_tl_n, isi2_tl_b, isi2_tl_i, isi2_tl_s, isi2_tl_l, isi2_tl_t, dZipL_l, dLenA_t, dLenA_l, aListA_t, aListA_l, dRev_t, dLenA_d, dicOf_d, dIAdd_ii, dIAdd_ss, dIAdd_tt, dRpart_s, ops0, ops1, ops2, ops3, dZip_tt, if_true, if_false, ite_true, ite_false, reduceCtorEq])
    rw [List.getD_eq_getElem?_getD, hx]
    by_cases h : i < n
    · rw [if_neg (by omega), if_pos ⟨h, hi⟩]
      (try dsimp only); rw [seqK_nx, ok_sSeq]
      refine ok_sFldAugD _ _ _ _ _ _ ?_
      (try simp only [oks0, oks1, ok_aCatE, ok_aRepE, ok_eMake, ok_eFld, ok_sFldD, ok_eMeth, ok_sAppO, ok_sExtA, ok_iObj, ok_iZip, ok_aLcG, ok_sExt, ok_sExtL, ok_eRev, ok_aKeys, ok_eOrV, ok_sPopD, ok_cDc, ok_sIns, ok_sPopI, ok_sSetI, List.set_cons_zero, List.set_cons_succ, List.getElem?_cons_zero, List.getElem?_cons_succ, List.map_cons, List.map_nil, List.length_cons, List.length_nil, List.cons_append, List.nil_append, List.replicate_succ, List.replicate_zero, start3, frz, sets, tgName, tgTup, tgTL, tgsCons, tgsNil, wipe3, Nat.reduceSub, Nat.reduceAdd, Nat.reduceLT, ok_forNil, ok_forCons, dMulA_ti, opz_l, opz_t, catL_ll, repL_i, aListQ_l, aListQ_t, aListQ_s, isi2_tl_n, isi2_tl_b, isi2_tl_i, isi2_tl_s, isi2_tl_l, isi2_tl_t, dZipL_l, dLenA_t, dLenA_l, aListA_t, aListA_l, dRev_t, dLenA_d, dicOf_d, dIAdd_ii, dIAdd_ss, dIAdd_tt, dRpart_s, ops0, ops1, ops2, ops3, dZip_tt, if_true, if_false, ite_true, ite_false, reduceCtorEq])
      refine ⟨_, augD_at hh rfl hh (by decide) (by simp), ?_⟩
      rw [show fstO n ((n - i : Nat) : Int) = .ins 7 [(0, .tup [.str [102, 105, 114, 115, 116], .str (strI n)]), (4, .int ((n - i : Nat) : Int))] from rfl, set_last]
      (try dsimp only); rw [seqK_nx]; (try simp only [oks0, oks1, ok_aCatE, ok_aRepE, ok_eMake, ok_eFld, ok_sFldD, ok_eMeth, ok_sAppO, ok_sExtA, ok_iObj, ok_iZip, ok_aLcG, ok_sExt, ok_sExtL, ok_eRev, ok_aKeys, ok_eOrV, ok_sPopD, ok_cDc, ok_sIns, ok_sPopI, ok_sSetI, List.set_cons_zero, List.set_cons_succ, List.getElem?_cons_zero, List.getElem?_cons_succ, List.map_cons, List.map_nil, List.length_cons, List.length_nil, List.cons_append, List.nil_append, List.replicate_succ, List.replicate_zero, start3, frz, sets, tgName, tgTup, tgTL, tgsCons, tgsNil, wipe3, Nat.reduceSub, Nat.reduceAdd, Nat.reduceLT, ok_forNil, ok_forCons, dMulA_ti, opz_l, opz_t, catL_ll, repL_i, aListQ_l, aListQ_t, aListQ_s, isi2_tl_n, isi2_tl_b, isi2_tl_i, isi2_tl_s, isi2_tl_l, isi2_tl_t, dZipL_l, dLenA_t, dLenA_l, aListA_t, aListA_l, dRev_t, dLenA_d, dicOf_d, dIAdd_ii, dIAdd_ss, dIAdd_tt, dRpart_s, ops0, ops1, ops2, ops3, dZip_tt, if_true, if_false, ite_true, ite_false, reduceCtorEq])
      refine ⟨by decide, rfl, ?_⟩
      simp only [putFD, Nat.reduceEqDiff, if_false, if_true]
      rw [show ((n - i : Nat) : Int) - 1 = ((n - (i + 1) : Nat) : Int) by omega]
      rfl
    · rw [if_pos (by omega), if_neg fun z => h z.1]
      exact ⟨by decide, rfl, by rw [show n - i = 0 by omega, show n - (i + 1) = 0 by omega]⟩
  · subst hS
    refine ⟨_, methD_at (at_last _ _) rfl, ?_⟩
    unfold f_Stream__close d_Stream__close
    (try simp only [oks0, oks1, ok_aCatE, ok_aRepE, ok_eMake, ok_eFld, ok_sFldD, ok_eMeth, ok_sAppO, ok_sExtA, ok_iObj, ok_iZip, ok_aLcG, ok_sExt, ok_sExtL, ok_eRev, ok_aKeys, ok_eOrV, ok_sPopD, ok_cDc, ok_sIns, ok_sPopI, ok_sSetI, List.set_cons_zero, List.set_cons_succ, List.getElem?_cons_zero, List.getElem?_cons_succ, List.map_cons, List.map_nil, List.length_cons, List.length_nil, List.cons_append, List.nil_append, List.replicate_succ, List.replicate_zero, start3, frz, sets, tgName, tgTup, tgTL, tgsCons, tgsNil, wipe3, Nat.reduceSub, Nat.reduceAdd, Nat.reduceLT, ok_forNil, ok_forCons, dMulA_ti, opz_l, opz_t, catL_ll, repL_i, aListQ_l, aListQ_t, aListQ_s, isi2_tl_n, isi2_tl_b, isi2_tl_i, isi2_tl_s, isi2_tl_l, isi2_tl_t, dZipL_l, dLenA_t, dLenA_l, aListA_t, aListA_l, dRev_t, dLenA_d, dicOf_d, dIAdd_ii, dIAdd_ss, dIAdd_tt, dRpart_s, ops0, ops1, ops2, ops3, dZip_tt, if_true, if_false, ite_true, ite_false, reduceCtorEq])
    exact ⟨by decide, ⟨_, rfl⟩, _, rfl⟩
  · obtain ⟨hg, k, rfl⟩ := hS
    refine ⟨_, methD_at (at_last _ _) rfl, ?_⟩
    unfold f_Stream__ending d_Stream__ending
    (try simp only [oks0, oks1, ok_aCatE, ok_aRepE, ok_eMake, ok_eFld, ok_sFldD, ok_eMeth, ok_sAppO, ok_sExtA, ok_iObj, ok_iZip, ok_aLcG, ok_sExt, ok_sExtL, ok_eRev, ok_aKeys, ok_eOrV, ok_sPopD, ok_cDc, ok_sIns, ok_sPopI, ok_sSetI, List.set_cons_zero, List.set_cons_succ, List.getElem?_cons_zero, List.getElem?_cons_succ, List.map_cons, List.map_nil, List.length_cons, List.length_nil, List.cons_append, List.nil_append, List.replicate_succ, List.replicate_zero, start3, frz, sets, tgName, tgTup, tgTL, tgsCons, tgsNil, wipe3, Nat.reduceSub, Nat.reduceAdd, Nat.reduceLT, ok_forNil, ok_forCons, dMulA_ti, opz_l, opz_t, catL_ll, repL_i, aListQ_l, aListQ_t, aListQ_s, isi2_tl_n, isi2_tl_b, isi2_tl_i, isi2_tl_s, isi2_tl_l, isi2_tl_t, dZipL_l, dLenA_t, dLenA_l, aListA_t, aListA_l, dRev_t, dLenA_d, dicOf_d, dIAdd_ii, dIAdd_ss, dIAdd_tt, dRpart_s, ops0, ops1, ops2, ops3, dZip_tt, if_true, if_false, ite_true, ite_false, reduceCtorEq])
    exact hg
  · have e : ∀ i, i ≤ ls.length → upTo (fun i => if i < n ∧ i < ls.length then [ls.getD i []] else []) i = (ls.take i).take n := by
      intro i
      induction i with
      | zero => intro _; simp [upTo]
      | succ i ih =>
        intro hi
        have hx : ls[i]? = some ls[i] := List.getElem?_eq_getElem (by omega)
        rw [upTo, ih (by omega), List.getD_eq_getElem?_getD, hx, List.take_take, List.take_take]
        by_cases h : i < n
        · rw [if_pos ⟨h, by omega⟩, Nat.min_eq_right (by omega), Nat.min_eq_right (by omega), List.take_succ, hx]
          rfl
        · rw [if_neg fun z => h z.1, Nat.min_eq_left (by omega), Nat.min_eq_left (by omega), List.append_nil]
    rw [e _ (Nat.le_refl _), List.take_length, List.append_nil, List.take_of_length_le (by rw [List.length_take]; omega)]
    exact w g' hS
def cntO (m : Nat) : SO := .ins 4 [(0, .tup [.str [99, 111, 117, 110, 116]]), (3, .obj m)]
theorem told_count {ls : List Tx} {g : Store} {Q : D → Store → Prop} (hls : LnOk ls) (hll : ls.length ≤ 100) (w : ∀ g', Grow g g' → Q (.tup [.tup [.tup [.str (strI ls.length)]], .int 0]) g') : Ok (f_told [.tup [.str [99, 111, 117, 110, 116]], .tup [.tup (ls.map .str)]] g) Q := by
  unfold f_told d_told
  (try simp only [oks0, oks1, ok_aCatE, ok_aRepE, ok_eMake, ok_eFld, ok_sFldD, ok_eMeth, ok_sAppO, ok_sExtA, ok_iObj, ok_iZip, ok_aLcG, ok_sExt, ok_sExtL, ok_eRev, ok_aKeys, ok_eOrV, ok_sPopD, ok_cDc, ok_sIns, ok_sPopI, ok_sSetI, List.set_cons_zero, List.set_cons_succ, List.getElem?_cons_zero, List.getElem?_cons_succ, List.map_cons, List.map_nil, List.length_cons, List.length_nil, List.cons_append, List.nil_append, List.replicate_succ, List.replicate_zero, start3, frz, sets, tgName, tgTup, tgTL, tgsCons, tgsNil, wipe3, Nat.reduceSub, Nat.reduceAdd, Nat.reduceLT, ok_forNil, ok_forCons, dMulA_ti, opz_l, opz_t, catL_ll, repL_i, aListQ_l, aListQ_t, aListQ_s, isi2_tl_n, isi2_tl_b, isi2_tl_i, isi2_tl_s, isi2_tl_l, isi2_tl_t, dZipL_l, dLenA_t, dLenA_l, aListA_t, aListA_l, dRev_t, dLenA_d, dicOf_d, dIAdd_ii, dIAdd_ss, dIAdd_tt, dRpart_s, ops0, ops1, ops2, ops3, dZip_tt, if_true, if_false, ite_true, ite_false, reduceCtorEq])
  rw [if_neg (by decide)]
  (try dsimp only); rw [seqK_nx]; (try simp only [oks0, oks1, ok_aCatE, ok_aRepE, ok_eMake, ok_eFld, ok_sFldD, ok_eMeth, ok_sAppO, ok_sExtA, ok_iObj, ok_iZip, ok_aLcG, ok_sExt, ok_sExtL, ok_eRev, ok_aKeys, ok_eOrV, ok_sPopD, ok_cDc, ok_sIns, ok_sPopI, ok_sSetI, List.set_cons_zero, List.set_cons_succ, List.getElem?_cons_zero, List.getElem?_cons_succ, List.map_cons, List.map_nil, List.length_cons, List.length_nil, List.cons_append, List.nil_append, List.replicate_succ, List.replicate_zero, start3, frz, sets, tgName, tgTup, tgTL, tgsCons, tgsNil, wipe3, Nat.reduceSub, Nat.reduceAdd, Nat.reduceLT, ok_forNil, ok_forCons, dMulA_ti, opz_l, opz_t, catL_ll, repL_i, aListQ_l, aListQ_t, aListQ_s, isi2_tl_n, isi2_tl_b, isi2_tl_i, isi2_tl_s, isi2_tl_l, isi2_tl_t, dZipL_l, dLenA_t, dLenA_l, aListA_t, aListA_l, dRev_t, dLenA_d, dicOf_d, dIAdd_ii, dIAdd_ss, dIAdd_tt, dRpart_s, ops0, ops1, ops2, ops3, dZip_tt, if_true, if_false, ite_true, ite_false, reduceCtorEq])
  unfold f_stream_of d_stream_of
  (try simp only [oks0, oks1, ok_aCatE, ok_aRepE, ok_eMake, ok_eFld, ok_sFldD, ok_eMeth, ok_sAppO, ok_sExtA, ok_iObj, ok_iZip, ok_aLcG, ok_sExt, ok_sExtL, ok_eRev, ok_aKeys, ok_eOrV, ok_sPopD, ok_cDc, ok_sIns, ok_sPopI, ok_sSetI, List.set_cons_zero, List.set_cons_succ, List.getElem?_cons_zero, List.getElem?_cons_succ, List.map_cons, List.map_nil, List.length_cons, List.length_nil, List.cons_append, List.nil_append, List.replicate_succ, List.replicate_zero, start3, frz, sets, tgName, tgTup, tgTL, tgsCons, tgsNil, wipe3, Nat.reduceSub, Nat.reduceAdd, Nat.reduceLT, ok_forNil, ok_forCons, dMulA_ti, opz_l, opz_t, catL_ll, repL_i, aListQ_l, aListQ_t, aListQ_s, isi2_tl_n, isi2_tl_b, isi2_tl_i, isi2_tl_s, isi2_tl_l, isi2_tl_t, dZipL_l, dLenA_t, dLenA_l, aListA_t, aListA_l, dRev_t, dLenA_d, dicOf_d, dIAdd_ii, dIAdd_ss, dIAdd_tt, dRpart_s, ops0, ops1, ops2, ops3, dZip_tt, if_true, if_false, ite_true, ite_false, reduceCtorEq])
  (try dsimp only); rw [seqK_nx]; (try simp only [oks0, oks1, ok_aCatE, ok_aRepE, ok_eMake, ok_eFld, ok_sFldD, ok_eMeth, ok_sAppO, ok_sExtA, ok_iObj, ok_iZip, ok_aLcG, ok_sExt, ok_sExtL, ok_eRev, ok_aKeys, ok_eOrV, ok_sPopD, ok_cDc, ok_sIns, ok_sPopI, ok_sSetI, List.set_cons_zero, List.set_cons_succ, List.getElem?_cons_zero, List.getElem?_cons_succ, List.map_cons, List.map_nil, List.length_cons, List.length_nil, List.cons_append, List.nil_append, List.replicate_succ, List.replicate_zero, start3, frz, sets, tgName, tgTup, tgTL, tgsCons, tgsNil, wipe3, Nat.reduceSub, Nat.reduceAdd, Nat.reduceLT, ok_forNil, ok_forCons, dMulA_ti, opz_l, opz_t, catL_ll, repL_i, aListQ_l, aListQ_t, aListQ_s, isi2_tl_n, isi2_tl_b, isi2_tl_i, isi2_tl_s, isi2_tl_l, isi2_tl_t, dZipL_l, dLenA_t, dLenA_l, aListA_t, aListA_l, dRev_t, dLenA_d, dicOf_d, dIAdd_ii, dIAdd_ss, dIAdd_tt, dRpart_s, ops0, ops1, ops2, ops3, dZip_tt, if_true, if_false, ite_true, ite_false, reduceCtorEq])
  rw [if_neg (by decide)]
  (try simp only [oks0, oks1, ok_aCatE, ok_aRepE, ok_eMake, ok_eFld, ok_sFldD, ok_eMeth, ok_sAppO, ok_sExtA, ok_iObj, ok_iZip, ok_aLcG, ok_sExt, ok_sExtL, ok_eRev, ok_aKeys, ok_eOrV, ok_sPopD, ok_cDc, ok_sIns, ok_sPopI, ok_sSetI, List.set_cons_zero, List.set_cons_succ, List.getElem?_cons_zero, List.getElem?_cons_succ, List.map_cons, List.map_nil, List.length_cons, List.length_nil, List.cons_append, List.nil_append, List.replicate_succ, List.replicate_zero, start3, frz, sets, tgName, tgTup, tgTL, tgsCons, tgsNil, wipe3, Nat.reduceSub, Nat.reduceAdd, Nat.reduceLT, ok_forNil, ok_forCons, dMulA_ti, opz_l, opz_t, catL_ll, repL_i, aListQ_l, aListQ_t, aListQ_s, isi2_tl_n, isi2_tl_b, isi2_tl_i, isi2_tl_s, isi2_tl_l, isi2_tl_t, dZipL_l, dLenA_t, dLenA_l, aListA_t, aListA_l, dRev_t, dLenA_d, dicOf_d, dIAdd_ii, dIAdd_ss, dIAdd_tt, dRpart_s, ops0, ops1, ops2, ops3, dZip_tt, if_true, if_false, ite_true, ite_false, reduceCtorEq])
  (try dsimp only); rw [seqK_nx]; (try simp only [oks0, oks1, ok_aCatE, ok_aRepE, ok_eMake, ok_eFld, ok_sFldD, ok_eMeth, ok_sAppO, ok_sExtA, ok_iObj, ok_iZip, ok_aLcG, ok_sExt, ok_sExtL, ok_eRev, ok_aKeys, ok_eOrV, ok_sPopD, ok_cDc, ok_sIns, ok_sPopI, ok_sSetI, List.set_cons_zero, List.set_cons_succ, List.getElem?_cons_zero, List.getElem?_cons_succ, List.map_cons, List.map_nil, List.length_cons, List.length_nil, List.cons_append, List.nil_append, List.replicate_succ, List.replicate_zero, start3, frz, sets, tgName, tgTup, tgTL, tgsCons, tgsNil, wipe3, Nat.reduceSub, Nat.reduceAdd, Nat.reduceLT, ok_forNil, ok_forCons, dMulA_ti, opz_l, opz_t, catL_ll, repL_i, aListQ_l, aListQ_t, aListQ_s, isi2_tl_n, isi2_tl_b, isi2_tl_i, isi2_tl_s, isi2_tl_l, isi2_tl_t, dZipL_l, dLenA_t, dLenA_l, aListA_t, aListA_l, dRev_t, dLenA_d, dicOf_d, dIAdd_ii, dIAdd_ss, dIAdd_tt, dRpart_s, ops0, ops1, ops2, ops3, dZip_tt, if_true, if_false, ite_true, ite_false, reduceCtorEq])
  rw [if_neg (by decide)]
  (try dsimp only); rw [seqK_nx]; (try simp only [oks0, oks1, ok_aCatE, ok_aRepE, ok_eMake, ok_eFld, ok_sFldD, ok_eMeth, ok_sAppO, ok_sExtA, ok_iObj, ok_iZip, ok_aLcG, ok_sExt, ok_sExtL, ok_eRev, ok_aKeys, ok_eOrV, ok_sPopD, ok_cDc, ok_sIns, ok_sPopI, ok_sSetI, List.set_cons_zero, List.set_cons_succ, List.getElem?_cons_zero, List.getElem?_cons_succ, List.map_cons, List.map_nil, List.length_cons, List.length_nil, List.cons_append, List.nil_append, List.replicate_succ, List.replicate_zero, start3, frz, sets, tgName, tgTup, tgTL, tgsCons, tgsNil, wipe3, Nat.reduceSub, Nat.reduceAdd, Nat.reduceLT, ok_forNil, ok_forCons, dMulA_ti, opz_l, opz_t, catL_ll, repL_i, aListQ_l, aListQ_t, aListQ_s, isi2_tl_n, isi2_tl_b, isi2_tl_i, isi2_tl_s, isi2_tl_l, isi2_tl_t, dZipL_l, dLenA_t, dLenA_l, aListA_t, aListA_l, dRev_t, dLenA_d, dicOf_d, dIAdd_ii, dIAdd_ss, dIAdd_tt, dRpart_s, ops0, ops1, ops2, ops3, dZip_tt, if_true, if_false, ite_true, ite_false, reduceCtorEq])
  rw [if_neg (by decide)]
  (try dsimp only); rw [seqK_nx]; (try simp only [oks0, oks1, ok_aCatE, ok_aRepE, ok_eMake, ok_eFld, ok_sFldD, ok_eMeth, ok_sAppO, ok_sExtA, ok_iObj, ok_iZip, ok_aLcG, ok_sExt, ok_sExtL, ok_eRev, ok_aKeys, ok_eOrV, ok_sPopD, ok_cDc, ok_sIns, ok_sPopI, ok_sSetI, List.set_cons_zero, List.set_cons_succ, List.getElem?_cons_zero, List.getElem?_cons_succ, List.map_cons, List.map_nil, List.length_cons, List.length_nil, List.cons_append, List.nil_append, List.replicate_succ, List.replicate_zero, start3, frz, sets, tgName, tgTup, tgTL, tgsCons, tgsNil, wipe3, Nat.reduceSub, Nat.reduceAdd, Nat.reduceLT, ok_forNil, ok_forCons, dMulA_ti, opz_l, opz_t, catL_ll, repL_i, aListQ_l, aListQ_t, aListQ_s, isi2_tl_n, isi2_tl_b, isi2_tl_i, isi2_tl_s, isi2_tl_l, isi2_tl_t, dZipL_l, dLenA_t, dLenA_l, aListA_t, aListA_l, dRev_t, dLenA_d, dicOf_d, dIAdd_ii, dIAdd_ss, dIAdd_tt, dRpart_s, ops0, ops1, ops2, ops3, dZip_tt, if_true, if_false, ite_true, ite_false, reduceCtorEq])
  rw [if_neg (by decide)]
  (try dsimp only); rw [seqK_nx]; (try simp only [oks0, oks1, ok_aCatE, ok_aRepE, ok_eMake, ok_eFld, ok_sFldD, ok_eMeth, ok_sAppO, ok_sExtA, ok_iObj, ok_iZip, ok_aLcG, ok_sExt, ok_sExtL, ok_eRev, ok_aKeys, ok_eOrV, ok_sPopD, ok_cDc, ok_sIns, ok_sPopI, ok_sSetI, List.set_cons_zero, List.set_cons_succ, List.getElem?_cons_zero, List.getElem?_cons_succ, List.map_cons, List.map_nil, List.length_cons, List.length_nil, List.cons_append, List.nil_append, List.replicate_succ, List.replicate_zero, start3, frz, sets, tgName, tgTup, tgTL, tgsCons, tgsNil, wipe3, Nat.reduceSub, Nat.reduceAdd, Nat.reduceLT, ok_forNil, ok_forCons, dMulA_ti, opz_l, opz_t, catL_ll, repL_i, aListQ_l, aListQ_t, aListQ_s, isi2_tl_n, isi2_tl_b, isi2_tl_i, isi2_tl_s, isi2_tl_l, isi2_tl_t, dZipL_l, dLenA_t, dLenA_l, aListA_t, aListA_l, dRev_t, dLenA_d, dicOf_d, dIAdd_ii, dIAdd_ss, dIAdd_tt, dRpart_s, ops0, ops1, ops2, ops3, dZip_tt, if_true, if_false, ite_true, ite_false, reduceCtorEq])
  rw [if_neg (by decide)]
  (try dsimp only); rw [seqK_nx]; (try simp only [oks0, oks1, ok_aCatE, ok_aRepE, ok_eMake, ok_eFld, ok_sFldD, ok_eMeth, ok_sAppO, ok_sExtA, ok_iObj, ok_iZip, ok_aLcG, ok_sExt, ok_sExtL, ok_eRev, ok_aKeys, ok_eOrV, ok_sPopD, ok_cDc, ok_sIns, ok_sPopI, ok_sSetI, List.set_cons_zero, List.set_cons_succ, List.getElem?_cons_zero, List.getElem?_cons_succ, List.map_cons, List.map_nil, List.length_cons, List.length_nil, List.cons_append, List.nil_append, List.replicate_succ, List.replicate_zero, start3, frz, sets, tgName, tgTup, tgTL, tgsCons, tgsNil, wipe3, Nat.reduceSub, Nat.reduceAdd, Nat.reduceLT, ok_forNil, ok_forCons, dMulA_ti, opz_l, opz_t, catL_ll, repL_i, aListQ_l, aListQ_t, aListQ_s, isi2_tl_n, isi2_tl_b, isi2_tl_i, isi2_tl_s, isi2_tl_l, isi2_tl_t, dZipL_l, dLenA_t, dLenA_l, aListA_t, aListA_l, dRev_t, dLenA_d, dicOf_d, dIAdd_ii, dIAdd_ss, dIAdd_tt, dRpart_s, ops0, ops1, ops2, ops3, dZip_tt, if_true, if_false, ite_true, ite_false, reduceCtorEq])
  rw [if_neg (by decide)]
  (try dsimp only); rw [seqK_nx]; (try simp only [oks0, oks1, ok_aCatE, ok_aRepE, ok_eMake, ok_eFld, ok_sFldD, ok_eMeth, ok_sAppO, ok_sExtA, ok_iObj, ok_iZip, ok_aLcG, ok_sExt, ok_sExtL, ok_eRev, ok_aKeys, ok_eOrV, ok_sPopD, ok_cDc, ok_sIns, ok_sPopI, ok_sSetI, List.set_cons_zero, List.set_cons_succ, List.getElem?_cons_zero, List.getElem?_cons_succ, List.map_cons, List.map_nil, List.length_cons, List.length_nil, List.cons_append, List.nil_append, List.replicate_succ, List.replicate_zero, start3, frz, sets, tgName, tgTup, tgTL, tgsCons, tgsNil, wipe3, Nat.reduceSub, Nat.reduceAdd, Nat.reduceLT, ok_forNil, ok_forCons, dMulA_ti, opz_l, opz_t, catL_ll, repL_i, aListQ_l, aListQ_t, aListQ_s, isi2_tl_n, isi2_tl_b, isi2_tl_i, isi2_tl_s, isi2_tl_l, isi2_tl_t, dZipL_l, dLenA_t, dLenA_l, aListA_t, aListA_l, dRev_t, dLenA_d, dicOf_d, dIAdd_ii, dIAdd_ss, dIAdd_tt, dRpart_s, ops0, ops1, ops2, ops3, dZip_tt, if_true, if_false, ite_true, ite_false, reduceCtorEq])
  unfold f_gathering_of d_gathering_of
  (try simp only [oks0, oks1, ok_aCatE, ok_aRepE, ok_eMake, ok_eFld, ok_sFldD, ok_eMeth, ok_sAppO, ok_sExtA, ok_iObj, ok_iZip, ok_aLcG, ok_sExt, ok_sExtL, ok_eRev, ok_aKeys, ok_eOrV, ok_sPopD, ok_cDc, ok_sIns, ok_sPopI, ok_sSetI, List.set_cons_zero, List.set_cons_succ, List.getElem?_cons_zero, List.getElem?_cons_succ, List.map_cons, List.map_nil, List.length_cons, List.length_nil, List.cons_append, List.nil_append, List.replicate_succ, List.replicate_zero, start3, frz, sets, tgName, tgTup, tgTL, tgsCons, tgsNil, wipe3, Nat.reduceSub, Nat.reduceAdd, Nat.reduceLT, ok_forNil, ok_forCons, dMulA_ti, opz_l, opz_t, catL_ll, repL_i, aListQ_l, aListQ_t, aListQ_s, isi2_tl_n, isi2_tl_b, isi2_tl_i, isi2_tl_s, isi2_tl_l, isi2_tl_t, dZipL_l, dLenA_t, dLenA_l, aListA_t, aListA_l, dRev_t, dLenA_d, dicOf_d, dIAdd_ii, dIAdd_ss, dIAdd_tt, dRpart_s, ops0, ops1, ops2, ops3, dZip_tt, if_true, if_false, ite_true, ite_false, reduceCtorEq])
  rw [cut_take _ 2, dEq_pl (n := 2) (by decide) rfl rfl, List.take_succ_cons, eqD_heads (by decide)]
  refine ⟨by decide, ?_⟩
  (try simp only [oks0, oks1, ok_aCatE, ok_aRepE, ok_eMake, ok_eFld, ok_sFldD, ok_eMeth, ok_sAppO, ok_sExtA, ok_iObj, ok_iZip, ok_aLcG, ok_sExt, ok_sExtL, ok_eRev, ok_aKeys, ok_eOrV, ok_sPopD, ok_cDc, ok_sIns, ok_sPopI, ok_sSetI, List.set_cons_zero, List.set_cons_succ, List.getElem?_cons_zero, List.getElem?_cons_succ, List.map_cons, List.map_nil, List.length_cons, List.length_nil, List.cons_append, List.nil_append, List.replicate_succ, List.replicate_zero, start3, frz, sets, tgName, tgTup, tgTL, tgsCons, tgsNil, wipe3, Nat.reduceSub, Nat.reduceAdd, Nat.reduceLT, ok_forNil, ok_forCons, dMulA_ti, opz_l, opz_t, catL_ll, repL_i, aListQ_l, aListQ_t, aListQ_s, isi2_tl_n, isi2_tl_b, isi2_tl_i, isi2_tl_s, isi2_tl_l, isi2_tl_t, dZipL_l, dLenA_t, dLenA_l, aListA_t, aListA_l, dRev_t, dLenA_d, dicOf_d, dIAdd_ii, dIAdd_ss, dIAdd_tt, dRpart_s, ops0, ops1, ops2, ops3, dZip_tt, if_true, if_false, ite_true, ite_false, reduceCtorEq])
  (try dsimp only); rw [seqK_nx]; (try simp only [oks0, oks1, ok_aCatE, ok_aRepE, ok_eMake, ok_eFld, ok_sFldD, ok_eMeth, ok_sAppO, ok_sExtA, ok_iObj, ok_iZip, ok_aLcG, ok_sExt, ok_sExtL, ok_eRev, ok_aKeys, ok_eOrV, ok_sPopD, ok_cDc, ok_sIns, ok_sPopI, ok_sSetI, List.set_cons_zero, List.set_cons_succ, List.getElem?_cons_zero, List.getElem?_cons_succ, List.map_cons, List.map_nil, List.length_cons, List.length_nil, List.cons_append, List.nil_append, List.replicate_succ, List.replicate_zero, start3, frz, sets, tgName, tgTup, tgTL, tgsCons, tgsNil, wipe3, Nat.reduceSub, Nat.reduceAdd, Nat.reduceLT, ok_forNil, ok_forCons, dMulA_ti, opz_l, opz_t, catL_ll, repL_i, aListQ_l, aListQ_t, aListQ_s, isi2_tl_n, isi2_tl_b, isi2_tl_i, isi2_tl_s, isi2_tl_l, isi2_tl_t, dZipL_l, dLenA_t, dLenA_l, aListA_t, aListA_l, dRev_t, dLenA_d, dicOf_d, dIAdd_ii, dIAdd_ss, dIAdd_tt, dRpart_s, ops0, ops1, ops2, ops3, dZip_tt, if_true, if_false, ite_true, ite_false, reduceCtorEq])
  unfold f_Gathering____init__ d_Gathering____init__
  (try simp only [oks0, oks1, ok_aCatE, ok_aRepE, ok_eMake, ok_eFld, ok_sFldD, ok_eMeth, ok_sAppO, ok_sExtA, ok_iObj, ok_iZip, ok_aLcG, ok_sExt, ok_sExtL, ok_eRev, ok_aKeys, ok_eOrV, ok_sPopD, ok_cDc, ok_sIns, ok_sPopI, ok_sSetI, List.set_cons_zero, List.set_cons_succ, List.getElem?_cons_zero, List.getElem?_cons_succ, List.map_cons, List.map_nil, List.length_cons, List.length_nil, List.cons_append, List.nil_append, List.replicate_succ, List.replicate_zero, start3, frz, sets, tgName, tgTup, tgTL, tgsCons, tgsNil, wipe3, Nat.reduceSub, Nat.reduceAdd, Nat.reduceLT, ok_forNil, ok_forCons, dMulA_ti, opz_l, opz_t, catL_ll, repL_i, aListQ_l, aListQ_t, aListQ_s, isi2_tl_n, isi2_tl_b, isi2_tl_i, isi2_tl_s, isi2_tl_l, isi2_tl_t, dZipL_l, dLenA_t, dLenA_l, aListA_t, aListA_l, dRev_t, dLenA_d, dicOf_d, dIAdd_ii, dIAdd_ss, dIAdd_tt, dRpart_s, ops0, ops1, ops2, ops3, dZip_tt, if_true, if_false, ite_true, ite_false, reduceCtorEq])
  unfold f_Stream____init__ d_Stream____init__
  (try simp only [oks0, oks1, ok_aCatE, ok_aRepE, ok_eMake, ok_eFld, ok_sFldD, ok_eMeth, ok_sAppO, ok_sExtA, ok_iObj, ok_iZip, ok_aLcG, ok_sExt, ok_sExtL, ok_eRev, ok_aKeys, ok_eOrV, ok_sPopD, ok_cDc, ok_sIns, ok_sPopI, ok_sSetI, List.set_cons_zero, List.set_cons_succ, List.getElem?_cons_zero, List.getElem?_cons_succ, List.map_cons, List.map_nil, List.length_cons, List.length_nil, List.cons_append, List.nil_append, List.replicate_succ, List.replicate_zero, start3, frz, sets, tgName, tgTup, tgTL, tgsCons, tgsNil, wipe3, Nat.reduceSub, Nat.reduceAdd, Nat.reduceLT, ok_forNil, ok_forCons, dMulA_ti, opz_l, opz_t, catL_ll, repL_i, aListQ_l, aListQ_t, aListQ_s, isi2_tl_n, isi2_tl_b, isi2_tl_i, isi2_tl_s, isi2_tl_l, isi2_tl_t, dZipL_l, dLenA_t, dLenA_l, aListA_t, aListA_l, dRev_t, dLenA_d, dicOf_d, dIAdd_ii, dIAdd_ss, dIAdd_tt, dRpart_s, ops0, ops1, ops2, ops3, dZip_tt, if_true, if_false, ite_true, ite_false, reduceCtorEq])
  rw [setFD_at (at_last _ _) (by decide) (by decide), set_last]
  (try simp only [oks0, oks1, ok_aCatE, ok_aRepE, ok_eMake, ok_eFld, ok_sFldD, ok_eMeth, ok_sAppO, ok_sExtA, ok_iObj, ok_iZip, ok_aLcG, ok_sExt, ok_sExtL, ok_eRev, ok_aKeys, ok_eOrV, ok_sPopD, ok_cDc, ok_sIns, ok_sPopI, ok_sSetI, List.set_cons_zero, List.set_cons_succ, List.getElem?_cons_zero, List.getElem?_cons_succ, List.map_cons, List.map_nil, List.length_cons, List.length_nil, List.cons_append, List.nil_append, List.replicate_succ, List.replicate_zero, start3, frz, sets, tgName, tgTup, tgTL, tgsCons, tgsNil, wipe3, Nat.reduceSub, Nat.reduceAdd, Nat.reduceLT, ok_forNil, ok_forCons, dMulA_ti, opz_l, opz_t, catL_ll, repL_i, aListQ_l, aListQ_t, aListQ_s, isi2_tl_n, isi2_tl_b, isi2_tl_i, isi2_tl_s, isi2_tl_l, isi2_tl_t, dZipL_l, dLenA_t, dLenA_l, aListA_t, aListA_l, dRev_t, dLenA_d, dicOf_d, dIAdd_ii, dIAdd_ss, dIAdd_tt, dRpart_s, ops0, ops1, ops2, ops3, dZip_tt, if_true, if_false, ite_true, ite_false, reduceCtorEq])
  (try dsimp only); rw [seqK_nx]; (try simp only [oks0, oks1, ok_aCatE, ok_aRepE, ok_eMake, ok_eFld, ok_sFldD, ok_eMeth, ok_sAppO, ok_sExtA, ok_iObj, ok_iZip, ok_aLcG, ok_sExt, ok_sExtL, ok_eRev, ok_aKeys, ok_eOrV, ok_sPopD, ok_cDc, ok_sIns, ok_sPopI, ok_sSetI, List.set_cons_zero, List.set_cons_succ, List.getElem?_cons_zero, List.getElem?_cons_succ, List.map_cons, List.map_nil, List.length_cons, List.length_nil, List.cons_append, List.nil_append, List.replicate_succ, List.replicate_zero, start3, frz, sets, tgName, tgTup, tgTL, tgsCons, tgsNil, wipe3, Nat.reduceSub, Nat.reduceAdd, Nat.reduceLT, ok_forNil, ok_forCons, dMulA_ti, opz_l, opz_t, catL_ll, repL_i, aListQ_l, aListQ_t, aListQ_s, isi2_tl_n, isi2_tl_b, isi2_tl_i, isi2_tl_s, isi2_tl_l, isi2_tl_t, dZipL_l, dLenA_t, dLenA_l, aListA_t, aListA_l, dRev_t, dLenA_d, dicOf_d, dIAdd_ii, dIAdd_ss, dIAdd_tt, dRpart_s, ops0, ops1, ops2, ops3, dZip_tt, if_true, if_false, ite_true, ite_false, reduceCtorEq])
  refine ⟨by decide, ?_⟩
  rw [List.append_assoc, List.length_append, List.length_singleton]
  rw [show ([SO.ins 4 (putFD 0 (D.tup [D.str [99, 111, 117, 110, 116]]) [])] ++ [SO.lst []] : List SO) = [SO.ins 4 (putFD 0 (D.tup [D.str [99, 111, 117, 110, 116]]) []), SO.lst []] from rfl]
  rw [setFD_at (at2a _ _ _) (by decide) (by simp [putFD]), set2a]
  (try simp only [oks0, oks1, ok_aCatE, ok_aRepE, ok_eMake, ok_eFld, ok_sFldD, ok_eMeth, ok_sAppO, ok_sExtA, ok_iObj, ok_iZip, ok_aLcG, ok_sExt, ok_sExtL, ok_eRev, ok_aKeys, ok_eOrV, ok_sPopD, ok_cDc, ok_sIns, ok_sPopI, ok_sSetI, List.set_cons_zero, List.set_cons_succ, List.getElem?_cons_zero, List.getElem?_cons_succ, List.map_cons, List.map_nil, List.length_cons, List.length_nil, List.cons_append, List.nil_append, List.replicate_succ, List.replicate_zero, start3, frz, sets, tgName, tgTup, tgTL, tgsCons, tgsNil, wipe3, Nat.reduceSub, Nat.reduceAdd, Nat.reduceLT, ok_forNil, ok_forCons, dMulA_ti, opz_l, opz_t, catL_ll, repL_i, aListQ_l, aListQ_t, aListQ_s, isi2_tl_n, isi2_tl_b, isi2_tl_i, isi2_tl_s, isi2_tl_l, isi2_tl_t, dZipL_l, dLenA_t, dLenA_l, aListA_t, aListA_l, dRev_t, dLenA_d, dicOf_d, dIAdd_ii, dIAdd_ss, dIAdd_tt, dRpart_s, ops0, ops1, ops2, ops3, dZip_tt, if_true, if_false, ite_true, ite_false, reduceCtorEq])
  (try dsimp only); rw [seqK_nx]; (try simp only [oks0, oks1, ok_aCatE, ok_aRepE, ok_eMake, ok_eFld, ok_sFldD, ok_eMeth, ok_sAppO, ok_sExtA, ok_iObj, ok_iZip, ok_aLcG, ok_sExt, ok_sExtL, ok_eRev, ok_aKeys, ok_eOrV, ok_sPopD, ok_cDc, ok_sIns, ok_sPopI, ok_sSetI, List.set_cons_zero, List.set_cons_succ, List.getElem?_cons_zero, List.getElem?_cons_succ, List.map_cons, List.map_nil, List.length_cons, List.length_nil, List.cons_append, List.nil_append, List.replicate_succ, List.replicate_zero, start3, frz, sets, tgName, tgTup, tgTL, tgsCons, tgsNil, wipe3, Nat.reduceSub, Nat.reduceAdd, Nat.reduceLT, ok_forNil, ok_forCons, dMulA_ti, opz_l, opz_t, catL_ll, repL_i, aListQ_l, aListQ_t, aListQ_s, isi2_tl_n, isi2_tl_b, isi2_tl_i, isi2_tl_s, isi2_tl_l, isi2_tl_t, dZipL_l, dLenA_t, dLenA_l, aListA_t, aListA_l, dRev_t, dLenA_d, dicOf_d, dIAdd_ii, dIAdd_ss, dIAdd_tt, dRpart_s, ops0, ops1, ops2, ops3, dZip_tt, if_true, if_false, ite_true, ite_false, reduceCtorEq])
  rw [show SO.ins 4 (putFD 3 (D.obj (List.length g + 1)) (putFD 0 (D.tup [D.str [99, 111, 117, 110, 116]]) [])) = cntO (g.length + 1) from rfl]
  refine streamed_ok (S := fun i g' => g' = g ++ [cntO (g.length + 1), .lst ((ls.take i).map .str)]) (E := fun g' => g' = g ++ [cntO (g.length + 1), .lst (ls.map .str)]) (R := fun g' => Grow g g') (fun i => []) [strI ls.length] 0 rfl (by omega) (fun i => by rw [show upTo (fun _ => []) i = [] from by induction i with | zero => rfl | succ i ih => rw [upTo, ih]; rfl]; simp) (by simp) (fun i x g' hx hS => ?_) (fun g' hS => ?_) (fun g' hS => ?_) (fun g' hS => ?_)
  · subst hS
    have hh : (g ++ [cntO (g.length + 1), SO.lst ((ls.take i).map .str)])[g.length]? = some (.ins 4 [(0, .tup [.str [99, 111, 117, 110, 116]]), (3, .obj (g.length + 1))]) := at2a _ _ _
    refine ⟨_, methD_at hh rfl, ?_⟩
    unfold f_Gathering__feed d_Gathering__feed
    (try simp only [oks0, oks1, ok_aCatE, ok_aRepE, ok_eMake, ok_eFld, ok_sFldD, ok_eMeth, ok_sAppO, ok_sExtA, ok_iObj, ok_iZip, ok_aLcG, ok_sExt, ok_sExtL, ok_eRev, ok_aKeys, ok_eOrV, ok_sPopD, ok_cDc, ok_sIns, ok_sPopI, ok_sSetI, List.set_cons_zero, List.set_cons_succ, List.getElem?_cons_zero, List.getElem?_cons_succ, List.map_cons, List.map_nil, List.length_cons, List.length_nil, List.cons_append, List.nil_append, List.replicate_succ, List.replicate_zero, start3, frz, sets, tgName, tgTup, tgTL, tgsCons, tgsNil, wipe3, Nat.reduceSub, Nat.reduceAdd, Nat.reduceLT, ok_forNil, ok_forCons, dMulA_ti, opz_l, opz_t, catL_ll, repL_i, aListQ_l, aListQ_t, aListQ_s, isi2_tl_n, isi2_tl_b, isi2_tl_i, isi2_tl_s, isi2_tl_l, isi2_tl_t, dZipL_l, dLenA_t, dLenA_l, aListA_t, aListA_l, dRev_t, dLenA_d, dicOf_d, dIAdd_ii, dIAdd_ss, dIAdd_tt, dRpart_s, ops0, ops1, ops2, ops3, dZip_tt, if_true, if_false, ite_true, ite_false, reduceCtorEq])
    rw [fldD_at hh (by decide) rfl]
    (try simp only [oks0, oks1, ok_aCatE, ok_aRepE, ok_eMake, ok_eFld, ok_sFldD, ok_eMeth, ok_sAppO, ok_sExtA, ok_iObj, ok_iZip, ok_aLcG, ok_sExt, ok_sExtL, ok_eRev, ok_aKeys, ok_eOrV, ok_sPopD, ok_cDc, ok_sIns, ok_sPopI, ok_sSetI, List.set_cons_zero, List.set_cons_succ, List.getElem?_cons_zero, List.getElem?_cons_succ, List.map_cons, List.map_nil, List.length_cons, List.length_nil, List.cons_append, List.nil_append, List.replicate_succ, List.replicate_zero, start3, frz, sets, tgName, tgTup, tgTL, tgsCons, tgsNil, wipe3, Nat.reduceSub, Nat.reduceAdd, Nat.reduceLT, ok_forNil, ok_forCons, dMulA_ti, opz_l, opz_t, catL_ll, repL_i, aListQ_l, aListQ_t, aListQ_s, isi2_tl_n, isi2_tl_b, isi2_tl_i, isi2_tl_s, isi2_tl_l, isi2_tl_t, dZipL_l, dLenA_t, dLenA_l, aListA_t, aListA_l, dRev_t, dLenA_d, dicOf_d, dIAdd_ii, dIAdd_ss, dIAdd_tt, dRpart_s, ops0, ops1, ops2, ops3, dZip_tt, if_true, if_false, ite_true, ite_false, reduceCtorEq])
    refine ⟨_, lstOf_at (at2b _ _ _), _, lstOf_at (at2b _ _ _), ?_⟩
    dsimp only
    refine ⟨by rw [List.length_map, List.length_take]; unfold BIG; omega, ?_⟩
    rw [set2b]
    (try dsimp only); rw [seqK_nx]; (try simp only [oks0, oks1, ok_aCatE, ok_aRepE, ok_eMake, ok_eFld, ok_sFldD, ok_eMeth, ok_sAppO, ok_sExtA, ok_iObj, ok_iZip, ok_aLcG, ok_sExt, ok_sExtL, ok_eRev, ok_aKeys, ok_eOrV, ok_sPopD, ok_cDc, ok_sIns, ok_sPopI, ok_sSetI, List.set_cons_zero, List.set_cons_succ, List.getElem?_cons_zero, List.getElem?_cons_succ, List.map_cons, List.map_nil, List.length_cons, List.length_nil, List.cons_append, List.nil_append, List.replicate_succ, List.replicate_zero, start3, frz, sets, tgName, tgTup, tgTL, tgsCons, tgsNil, wipe3, Nat.reduceSub, Nat.reduceAdd, Nat.reduceLT, ok_forNil, ok_forCons, dMulA_ti, opz_l, opz_t, catL_ll, repL_i, aListQ_l, aListQ_t, aListQ_s, isi2_tl_n, isi2_tl_b, isi2_tl_i, isi2_tl_s, isi2_tl_l, isi2_tl_t, dZipL_l, dLenA_t, dLenA_l, aListA_t, aListA_l, dRev_t, dLenA_d, dicOf_d, dIAdd_ii, dIAdd_ss, dIAdd_tt, dRpart_s, ops0, ops1, ops2, ops3, dZip_tt, if_true, if_false, ite_true, ite_false, reduceCtorEq])
    refine ⟨by decide, ?_⟩
    rw [List.take_succ, hx, List.map_append]
    rfl
  · subst hS
    have hh : (g ++ [cntO (g.length + 1), SO.lst (ls.map .str)])[g.length]? = some (.ins 4 [(0, .tup [.str [99, 111, 117, 110, 116]]), (3, .obj (g.length + 1))]) := by
      exact at2a _ _ _
    rw [List.take_length]
    refine ⟨_, methD_at hh rfl, ?_⟩
    unfold f_Count__close d_Count__close
    (try simp only [oks0, oks1, ok_aCatE, ok_aRepE, ok_eMake, ok_eFld, ok_sFldD, ok_eMeth, ok_sAppO, ok_sExtA, ok_iObj, ok_iZip, ok_aLcG, ok_sExt, ok_sExtL, ok_eRev, ok_aKeys, ok_eOrV, ok_sPopD, ok_cDc, ok_sIns, ok_sPopI, ok_sSetI, List.set_cons_zero, List.set_cons_succ, List.getElem?_cons_zero, List.getElem?_cons_succ, List.map_cons, List.map_nil, List.length_cons, List.length_nil, List.cons_append, List.nil_append, List.replicate_succ, List.replicate_zero, start3, frz, sets, tgName, tgTup, tgTL, tgsCons, tgsNil, wipe3, Nat.reduceSub, Nat.reduceAdd, Nat.reduceLT, ok_forNil, ok_forCons, dMulA_ti, opz_l, opz_t, catL_ll, repL_i, aListQ_l, aListQ_t, aListQ_s, isi2_tl_n, isi2_tl_b, isi2_tl_i, isi2_tl_s, isi2_tl_l, isi2_tl_t, dZipL_l, dLenA_t, dLenA_l, aListA_t, aListA_l, dRev_t, dLenA_d, dicOf_d, dIAdd_ii, dIAdd_ss, dIAdd_tt, dRpart_s, ops0, ops1, ops2, ops3, dZip_tt, if_true, if_false, ite_true, ite_false, reduceCtorEq])
    rw [fldD_at hh (by decide) rfl]
    (try simp only [oks0, oks1, ok_aCatE, ok_aRepE, ok_eMake, ok_eFld, ok_sFldD, ok_eMeth, ok_sAppO, ok_sExtA, ok_iObj, ok_iZip, ok_aLcG, ok_sExt, ok_sExtL, ok_eRev, ok_aKeys, ok_eOrV, ok_sPopD, ok_cDc, ok_sIns, ok_sPopI, ok_sSetI, List.set_cons_zero, List.set_cons_succ, List.getElem?_cons_zero, List.getElem?_cons_succ, List.map_cons, List.map_nil, List.length_cons, List.length_nil, List.cons_append, List.nil_append, List.replicate_succ, List.replicate_zero, start3, frz, sets, tgName, tgTup, tgTL, tgsCons, tgsNil, wipe3, Nat.reduceSub, Nat.reduceAdd, Nat.reduceLT, ok_forNil, ok_forCons, dMulA_ti, opz_l, opz_t, catL_ll, repL_i, aListQ_l, aListQ_t, aListQ_s, isi2_tl_n, isi2_tl_b, isi2_tl_i, isi2_tl_s, isi2_tl_l, isi2_tl_t, dZipL_l, dLenA_t, dLenA_l, aListA_t, aListA_l, dRev_t, dLenA_d, dicOf_d, dIAdd_ii, dIAdd_ss, dIAdd_tt, dRpart_s, ops0, ops1, ops2, ops3, dZip_tt, if_true, if_false, ite_true, ite_false, reduceCtorEq])
    have el : lenO (g ++ [cntO (g.length + 1), SO.lst (ls.map .str)]) (D.obj (g.length + 1)) = some (.int ls.length) := by
      unfold lenO
      dsimp only
      rw [at2b]
      dsimp only
      rw [List.length_map]
    rw [el]
    (try simp only [oks0, oks1, ok_aCatE, ok_aRepE, ok_eMake, ok_eFld, ok_sFldD, ok_eMeth, ok_sAppO, ok_sExtA, ok_iObj, ok_iZip, ok_aLcG, ok_sExt, ok_sExtL, ok_eRev, ok_aKeys, ok_eOrV, ok_sPopD, ok_cDc, ok_sIns, ok_sPopI, ok_sSetI, List.set_cons_zero, List.set_cons_succ, List.getElem?_cons_zero, List.getElem?_cons_succ, List.map_cons, List.map_nil, List.length_cons, List.length_nil, List.cons_append, List.nil_append, List.replicate_succ, List.replicate_zero, start3, frz, sets, tgName, tgTup, tgTL, tgsCons, tgsNil, wipe3, Nat.reduceSub, Nat.reduceAdd, Nat.reduceLT, ok_forNil, ok_forCons, dMulA_ti, opz_l, opz_t, catL_ll, repL_i, aListQ_l, aListQ_t, aListQ_s, isi2_tl_n, isi2_tl_b, isi2_tl_i, isi2_tl_s, isi2_tl_l, isi2_tl_t, dZipL_l, dLenA_t, dLenA_l, aListA_t, aListA_l, dRev_t, dLenA_d, dicOf_d, dIAdd_ii, dIAdd_ss, dIAdd_tt, dRpart_s, ops0, ops1, ops2, ops3, dZip_tt, if_true, if_false, ite_true, ite_false, reduceCtorEq])
    exact ⟨_, dStr_small (by omega) (by omega), by decide, rfl⟩
  · subst hS
    refine ⟨_, methD_at (at2a _ _ _) rfl, ?_⟩
    unfold f_Stream__ending d_Stream__ending
    (try simp only [oks0, oks1, ok_aCatE, ok_aRepE, ok_eMake, ok_eFld, ok_sFldD, ok_eMeth, ok_sAppO, ok_sExtA, ok_iObj, ok_iZip, ok_aLcG, ok_sExt, ok_sExtL, ok_eRev, ok_aKeys, ok_eOrV, ok_sPopD, ok_cDc, ok_sIns, ok_sPopI, ok_sSetI, List.set_cons_zero, List.set_cons_succ, List.getElem?_cons_zero, List.getElem?_cons_succ, List.map_cons, List.map_nil, List.length_cons, List.length_nil, List.cons_append, List.nil_append, List.replicate_succ, List.replicate_zero, start3, frz, sets, tgName, tgTup, tgTL, tgsCons, tgsNil, wipe3, Nat.reduceSub, Nat.reduceAdd, Nat.reduceLT, ok_forNil, ok_forCons, dMulA_ti, opz_l, opz_t, catL_ll, repL_i, aListQ_l, aListQ_t, aListQ_s, isi2_tl_n, isi2_tl_b, isi2_tl_i, isi2_tl_s, isi2_tl_l, isi2_tl_t, dZipL_l, dLenA_t, dLenA_l, aListA_t, aListA_l, dRev_t, dLenA_d, dicOf_d, dIAdd_ii, dIAdd_ss, dIAdd_tt, dRpart_s, ops0, ops1, ops2, ops3, dZip_tt, if_true, if_false, ite_true, ite_false, reduceCtorEq])
    exact ⟨_, rfl⟩
  · rw [show upTo (fun _ => []) ls.length = [] from by induction ls.length with | zero => rfl | succ i ih => rw [upTo, ih]; rfl]
    exact w g' hS
end W

namespace W
open L3
open L2 (atI ixN)
theorem lsingle_ok {ls : List Tx} {g : Store} {Q : D → Store → Prop} (hl : ls.length ≤ 1000) (w : Q (.tup ((sgl none ls).map .str)) g) : Ok (f__law_single [.tup (ls.map .str)] g) Q := by
  unfold f__law_single d__law_single
  (try simp only [oks0, oks1, ok_aCatE, ok_aRepE, ok_eMake, ok_eFld, ok_sFldD, ok_eMeth, ok_sAppO, ok_sExtA, ok_iObj, ok_iZip, ok_aLcG, ok_sExt, ok_sExtL, ok_eRev, ok_aKeys, ok_eOrV, ok_sPopD, ok_cDc, ok_sIns, ok_sPopI, ok_sSetI, List.set_cons_zero, List.set_cons_succ, List.getElem?_cons_zero, List.getElem?_cons_succ, List.map_cons, List.map_nil, List.length_cons, List.length_nil, List.cons_append, List.nil_append, List.replicate_succ, List.replicate_zero, start3, frz, sets, tgName, tgTup, tgTL, tgsCons, tgsNil, wipe3, Nat.reduceSub, Nat.reduceAdd, Nat.reduceLT, ok_forNil, ok_forCons, dMulA_ti, opz_l, opz_t, catL_ll, repL_i, aListQ_l, aListQ_t, aListQ_s, isi2_tl_n, isi2_tl_b, isi2_tl_i, isi2_tl_s, isi2_tl_l, isi2_tl_t, dZipL_l, dLenA_t, dLenA_l, aListA_t, aListA_l, dRev_t, dLenA_d, dicOf_d, dIAdd_ii, dIAdd_ss, dIAdd_tt, dRpart_s, ops0, ops1, ops2, ops3, dZip_tt, if_true, if_false, ite_true, ite_false, reduceCtorEq])
  rw [ok_sOwn _ _ _ (by simp)]
  (try simp only [oks0, oks1, ok_aCatE, ok_aRepE, ok_eMake, ok_eFld, ok_sFldD, ok_eMeth, ok_sAppO, ok_sExtA, ok_iObj, ok_iZip, ok_aLcG, ok_sExt, ok_sExtL, ok_eRev, ok_aKeys, ok_eOrV, ok_sPopD, ok_cDc, ok_sIns, ok_sPopI, ok_sSetI, List.set_cons_zero, List.set_cons_succ, List.getElem?_cons_zero, List.getElem?_cons_succ, List.map_cons, List.map_nil, List.length_cons, List.length_nil, List.cons_append, List.nil_append, List.replicate_succ, List.replicate_zero, start3, frz, sets, tgName, tgTup, tgTL, tgsCons, tgsNil, wipe3, Nat.reduceSub, Nat.reduceAdd, Nat.reduceLT, ok_forNil, ok_forCons, dMulA_ti, opz_l, opz_t, catL_ll, repL_i, aListQ_l, aListQ_t, aListQ_s, isi2_tl_n, isi2_tl_b, isi2_tl_i, isi2_tl_s, isi2_tl_l, isi2_tl_t, dZipL_l, dLenA_t, dLenA_l, aListA_t, aListA_l, dRev_t, dLenA_d, dicOf_d, dIAdd_ii, dIAdd_ss, dIAdd_tt, dRpart_s, ops0, ops1, ops2, ops3, dZip_tt, if_true, if_false, ite_true, ite_false, reduceCtorEq])
  refine ⟨by decide, ?_⟩
  (try dsimp only); rw [seqK_nx]; (try simp only [oks0, oks1, ok_aCatE, ok_aRepE, ok_eMake, ok_eFld, ok_sFldD, ok_eMeth, ok_sAppO, ok_sExtA, ok_iObj, ok_iZip, ok_aLcG, ok_sExt, ok_sExtL, ok_eRev, ok_aKeys, ok_eOrV, ok_sPopD, ok_cDc, ok_sIns, ok_sPopI, ok_sSetI, List.set_cons_zero, List.set_cons_succ, List.getElem?_cons_zero, List.getElem?_cons_succ, List.map_cons, List.map_nil, List.length_cons, List.length_nil, List.cons_append, List.nil_append, List.replicate_succ, List.replicate_zero, start3, frz, sets, tgName, tgTup, tgTL, tgsCons, tgsNil, wipe3, Nat.reduceSub, Nat.reduceAdd, Nat.reduceLT, dMulA_ti, opz_l, opz_t, catL_ll, repL_i, aListQ_l, aListQ_t, aListQ_s, isi2_tl_n, isi2_tl_b, isi2_tl_i, isi2_tl_s, isi2_tl_l, isi2_tl_t, dZipL_l, dLenA_t, dLenA_l, aListA_t, aListA_l, dRev_t, dLenA_d, dicOf_d, dIAdd_ii, dIAdd_ss, dIAdd_tt, dRpart_s, ops0, ops1, ops2, ops3, dZip_tt, if_true, if_false, ite_true, ite_false, reduceCtorEq])
  refine ⟨_, range1_ok (by omega) (by rw [List.length_map]; omega), ?_⟩
  rw [List.length_map, Int.toNat_natCast]
  refine ok_forR (fun i ρ g' => g' = g ∧ ∃ a, ρ = [some (SV.d (D.tup (ls.map .str))), some (SV.own ((sgl none (ls.take i)).map .str)), a]) ⟨rfl, _, rfl⟩ (fun i ρ g' hi hJ => ⟨_, rfl, ?_⟩) (fun ρ g' hJ => ?_)
  · obtain ⟨rfl, a, rfl⟩ := hJ
    have hx : ls[i]? = some ls[i] := List.getElem?_eq_getElem hi
    have e0 : atI (ls.map D.str) (i : Int) = some (.str ls[i]) := by
      unfold atI ixN
      rw [List.length_map, if_pos (by omega), if_pos (by omega)]
      show (ls.map D.str)[i]? = _
      rw [List.getElem?_map, hx]
      rfl
    have sl : (sgl none (ls.take i)).length ≤ 1000 := Nat.le_trans (sgl_sub _ _).1 (by rw [List.length_take]; omega)
    have app : (sgl none (ls.take (i + 1))).map D.str = (sgl none (ls.take i)).map D.str ++ (if lastT none (ls.take i) = some ls[i] then [] else [D.str ls[i]]) := by
      rw [List.take_succ, hx, Option.toList_some, sgl_snoc, List.map_append]
      split <;> rfl
    have lt := lastT_take (ls := ls) (i := i) (by omega)
    unfold lb__law_single_0
    (try simp only [oks0, oks1, ok_aCatE, ok_aRepE, ok_eMake, ok_eFld, ok_sFldD, ok_eMeth, ok_sAppO, ok_sExtA, ok_iObj, ok_iZip, ok_aLcG, ok_sExt, ok_sExtL, ok_eRev, ok_aKeys, ok_eOrV, ok_sPopD, ok_cDc, ok_sIns, ok_sPopI, ok_sSetI, List.set_cons_zero, List.set_cons_succ, List.getElem?_cons_zero, List.getElem?_cons_succ, List.map_cons, List.map_nil, List.length_cons, List.length_nil, List.cons_append, List.nil_append, List.replicate_succ, List.replicate_zero, start3, frz, sets, tgName, tgTup, tgTL, tgsCons, tgsNil, wipe3, Nat.reduceSub, Nat.reduceAdd, Nat.reduceLT, ok_forNil, ok_forCons, dMulA_ti, opz_l, opz_t, catL_ll, repL_i, aListQ_l, aListQ_t, aListQ_s, isi2_tl_n, isi2_tl_b, isi2_tl_i, isi2_tl_s, isi2_tl_l, isi2_tl_t, dZipL_l, dLenA_t, dLenA_l, aListA_t, aListA_l, dRev_t, dLenA_d, dicOf_d, dIAdd_ii, dIAdd_ss, dIAdd_tt, dRpart_s, ops0, ops1, ops2, ops3, dZip_tt, if_true, if_false, ite_true, ite_false, reduceCtorEq])
    by_cases h0 : i = 0
    · subst h0
      rw [if_pos rfl] at lt
      rw [lt, if_neg (by simp)] at app
      rw [if_pos (by rfl), e0]
      (try simp only [oks0, oks1, ok_aCatE, ok_aRepE, ok_eMake, ok_eFld, ok_sFldD, ok_eMeth, ok_sAppO, ok_sExtA, ok_iObj, ok_iZip, ok_aLcG, ok_sExt, ok_sExtL, ok_eRev, ok_aKeys, ok_eOrV, ok_sPopD, ok_cDc, ok_sIns, ok_sPopI, ok_sSetI, List.set_cons_zero, List.set_cons_succ, List.getElem?_cons_zero, List.getElem?_cons_succ, List.map_cons, List.map_nil, List.length_cons, List.length_nil, List.cons_append, List.nil_append, List.replicate_succ, List.replicate_zero, start3, frz, sets, tgName, tgTup, tgTL, tgsCons, tgsNil, wipe3, Nat.reduceSub, Nat.reduceAdd, Nat.reduceLT, ok_forNil, ok_forCons, dMulA_ti, opz_l, opz_t, catL_ll, repL_i, aListQ_l, aListQ_t, aListQ_s, isi2_tl_n, isi2_tl_b, isi2_tl_i, isi2_tl_s, isi2_tl_l, isi2_tl_t, dZipL_l, dLenA_t, dLenA_l, aListA_t, aListA_l, dRev_t, dLenA_d, dicOf_d, dIAdd_ii, dIAdd_ss, dIAdd_tt, dRpart_s, ops0, ops1, ops2, ops3, dZip_tt, if_true, if_false, ite_true, ite_false, reduceCtorEq])
      exact ⟨by rw [List.length_map]; unfold BIG; omega, _, by rw [app]⟩
    · rw [if_neg h0] at lt
      have e1 : atI (ls.map D.str) ((i : Int) - 1) = some (.str ls[i - 1]) := by
        unfold atI ixN
        rw [List.length_map, if_pos (by omega), if_pos (by omega), show ((i : Int) - 1).toNat = i - 1 by omega]
        show (ls.map D.str)[i - 1]? = _
        rw [List.getElem?_map, List.getElem?_eq_getElem (by omega)]
        rfl
      rw [List.getElem?_eq_getElem (by omega)] at lt
      rw [if_neg (by omega), e0, e1]
      (try simp only [oks0, oks1, ok_aCatE, ok_aRepE, ok_eMake, ok_eFld, ok_sFldD, ok_eMeth, ok_sAppO, ok_sExtA, ok_iObj, ok_iZip, ok_aLcG, ok_sExt, ok_sExtL, ok_eRev, ok_aKeys, ok_eOrV, ok_sPopD, ok_cDc, ok_sIns, ok_sPopI, ok_sSetI, List.set_cons_zero, List.set_cons_succ, List.getElem?_cons_zero, List.getElem?_cons_succ, List.map_cons, List.map_nil, List.length_cons, List.length_nil, List.cons_append, List.nil_append, List.replicate_succ, List.replicate_zero, start3, frz, sets, tgName, tgTup, tgTL, tgsCons, tgsNil, wipe3, Nat.reduceSub, Nat.reduceAdd, Nat.reduceLT, ok_forNil, ok_forCons, dMulA_ti, opz_l, opz_t, catL_ll, repL_i, aListQ_l, aListQ_t, aListQ_s, isi2_tl_n, isi2_tl_b, isi2_tl_i, isi2_tl_s, isi2_tl_l, isi2_tl_t, dZipL_l, dLenA_t, dLenA_l, aListA_t, aListA_l, dRev_t, dLenA_d, dicOf_d, dIAdd_ii, dIAdd_ss, dIAdd_tt, dRpart_s, ops0, ops1, ops2, ops3, dZip_tt, if_true, if_false, ite_true, ite_false, reduceCtorEq])
      rw [lt] at app
      by_cases h : ls[i] = ls[i - 1]
      · rw [if_pos (by rw [h])] at app
        rw [if_neg (by simp [h])]
        exact ⟨_, by rw [app, List.append_nil]⟩
      · rw [if_neg (by simpa [eq_comm] using h)] at app
        rw [if_pos (by simpa using h)]
        exact ⟨by rw [List.length_map]; unfold BIG; omega, _, by rw [app]⟩
  · obtain ⟨rfl, a, rfl⟩ := hJ
    (try dsimp only); rw [seqK_nx]; (try simp only [oks0, oks1, ok_aCatE, ok_aRepE, ok_eMake, ok_eFld, ok_sFldD, ok_eMeth, ok_sAppO, ok_sExtA, ok_iObj, ok_iZip, ok_aLcG, ok_sExt, ok_sExtL, ok_eRev, ok_aKeys, ok_eOrV, ok_sPopD, ok_cDc, ok_sIns, ok_sPopI, ok_sSetI, List.set_cons_zero, List.set_cons_succ, List.getElem?_cons_zero, List.getElem?_cons_succ, List.map_cons, List.map_nil, List.length_cons, List.length_nil, List.cons_append, List.nil_append, List.replicate_succ, List.replicate_zero, start3, frz, sets, tgName, tgTup, tgTL, tgsCons, tgsNil, wipe3, Nat.reduceSub, Nat.reduceAdd, Nat.reduceLT, ok_forNil, ok_forCons, dMulA_ti, opz_l, opz_t, catL_ll, repL_i, aListQ_l, aListQ_t, aListQ_s, isi2_tl_n, isi2_tl_b, isi2_tl_i, isi2_tl_s, isi2_tl_l, isi2_tl_t, dZipL_l, dLenA_t, dLenA_l, aListA_t, aListA_l, dRev_t, dLenA_d, dicOf_d, dIAdd_ii, dIAdd_ss, dIAdd_tt, dRpart_s, ops0, ops1, ops2, ops3, dZip_tt, if_true, if_false, ite_true, ite_false, reduceCtorEq])
    rw [List.take_length]
    exact w
theorem right_ok {W : D} {ls due : List Tx} {g : Store} {Q : D → Store → Prop} (hd : due.length ≤ 1000) (hT : ∀ (g : Store) (Q : D → Store → Prop), (∀ g', Grow g g' → Q (.tup [.tup [.tup (due.map .str)], .int 0]) g') → Ok (f_told [W, .tup [.tup (ls.map .str)]] g) Q) (w : ∀ g', Grow g g' → Q (.bl true) g') : Ok (f__law_told_right [W, .tup (ls.map .str), .tup (due.map .str)] g) Q := by
  unfold f__law_told_right d__law_told_right
  (try simp only [oks0, oks1, ok_aCatE, ok_aRepE, ok_eMake, ok_eFld, ok_sFldD, ok_eMeth, ok_sAppO, ok_sExtA, ok_iObj, ok_iZip, ok_aLcG, ok_sExt, ok_sExtL, ok_eRev, ok_aKeys, ok_eOrV, ok_sPopD, ok_cDc, ok_sIns, ok_sPopI, ok_sSetI, List.set_cons_zero, List.set_cons_succ, List.getElem?_cons_zero, List.getElem?_cons_succ, List.map_cons, List.map_nil, List.length_cons, List.length_nil, List.cons_append, List.nil_append, List.replicate_succ, List.replicate_zero, start3, frz, sets, tgName, tgTup, tgTL, tgsCons, tgsNil, wipe3, Nat.reduceSub, Nat.reduceAdd, Nat.reduceLT, ok_forNil, ok_forCons, dMulA_ti, opz_l, opz_t, catL_ll, repL_i, aListQ_l, aListQ_t, aListQ_s, isi2_tl_n, isi2_tl_b, isi2_tl_i, isi2_tl_s, isi2_tl_l, isi2_tl_t, dZipL_l, dLenA_t, dLenA_l, aListA_t, aListA_l, dRev_t, dLenA_d, dicOf_d, dIAdd_ii, dIAdd_ss, dIAdd_tt, dRpart_s, ops0, ops1, ops2, ops3, dZip_tt, if_true, if_false, ite_true, ite_false, reduceCtorEq])
  refine ⟨_, range1_ok (by decide) (by decide), ?_⟩
  refine ok_for (fun _ ρ g' => Grow g g' ∧ ∃ x, ρ = [some (SV.d W), some (SV.d (.tup (ls.map .str))), some (SV.d (.tup (due.map .str))), x]) ⟨Grow.refl g, _, rfl⟩ (fun d r ρ g' hJ => ⟨_, rfl, ?_⟩) (fun ρ g' hJ => ?_)
  · obtain ⟨hg, x, rfl⟩ := hJ
    unfold lb__law_told_right_0
    (try simp only [oks0, oks1, ok_aCatE, ok_aRepE, ok_eMake, ok_eFld, ok_sFldD, ok_eMeth, ok_sAppO, ok_sExtA, ok_iObj, ok_iZip, ok_aLcG, ok_sExt, ok_sExtL, ok_eRev, ok_aKeys, ok_eOrV, ok_sPopD, ok_cDc, ok_sIns, ok_sPopI, ok_sSetI, List.set_cons_zero, List.set_cons_succ, List.getElem?_cons_zero, List.getElem?_cons_succ, List.map_cons, List.map_nil, List.length_cons, List.length_nil, List.cons_append, List.nil_append, List.replicate_succ, List.replicate_zero, start3, frz, sets, tgName, tgTup, tgTL, tgsCons, tgsNil, wipe3, Nat.reduceSub, Nat.reduceAdd, Nat.reduceLT, ok_forNil, ok_forCons, dMulA_ti, opz_l, opz_t, catL_ll, repL_i, aListQ_l, aListQ_t, aListQ_s, isi2_tl_n, isi2_tl_b, isi2_tl_i, isi2_tl_s, isi2_tl_l, isi2_tl_t, dZipL_l, dLenA_t, dLenA_l, aListA_t, aListA_l, dRev_t, dLenA_d, dicOf_d, dIAdd_ii, dIAdd_ss, dIAdd_tt, dRpart_s, ops0, ops1, ops2, ops3, dZip_tt, if_true, if_false, ite_true, ite_false, reduceCtorEq])
    refine ⟨by decide, hT _ _ fun g2 h2 => ?_⟩
    refine ⟨by decide, by decide, ?_⟩
    refine same_lines hd ?_
    (try simp only [oks0, oks1, ok_aCatE, ok_aRepE, ok_eMake, ok_eFld, ok_sFldD, ok_eMeth, ok_sAppO, ok_sExtA, ok_iObj, ok_iZip, ok_aLcG, ok_sExt, ok_sExtL, ok_eRev, ok_aKeys, ok_eOrV, ok_sPopD, ok_cDc, ok_sIns, ok_sPopI, ok_sSetI, List.set_cons_zero, List.set_cons_succ, List.getElem?_cons_zero, List.getElem?_cons_succ, List.map_cons, List.map_nil, List.length_cons, List.length_nil, List.cons_append, List.nil_append, List.replicate_succ, List.replicate_zero, start3, frz, sets, tgName, tgTup, tgTL, tgsCons, tgsNil, wipe3, Nat.reduceSub, Nat.reduceAdd, Nat.reduceLT, ok_forNil, ok_forCons, dMulA_ti, opz_l, opz_t, catL_ll, repL_i, aListQ_l, aListQ_t, aListQ_s, isi2_tl_n, isi2_tl_b, isi2_tl_i, isi2_tl_s, isi2_tl_l, isi2_tl_t, dZipL_l, dLenA_t, dLenA_l, aListA_t, aListA_l, dRev_t, dLenA_d, dicOf_d, dIAdd_ii, dIAdd_ss, dIAdd_tt, dRpart_s, ops0, ops1, ops2, ops3, dZip_tt, if_true, if_false, ite_true, ite_false, reduceCtorEq])
    exact ⟨hg.trans h2, _, rfl⟩
  · obtain ⟨hg, x, rfl⟩ := hJ
    (try dsimp only); rw [seqK_nx]; (try simp only [oks0, oks1, ok_aCatE, ok_aRepE, ok_eMake, ok_eFld, ok_sFldD, ok_eMeth, ok_sAppO, ok_sExtA, ok_iObj, ok_iZip, ok_aLcG, ok_sExt, ok_sExtL, ok_eRev, ok_aKeys, ok_eOrV, ok_sPopD, ok_cDc, ok_sIns, ok_sPopI, ok_sSetI, List.set_cons_zero, List.set_cons_succ, List.getElem?_cons_zero, List.getElem?_cons_succ, List.map_cons, List.map_nil, List.length_cons, List.length_nil, List.cons_append, List.nil_append, List.replicate_succ, List.replicate_zero, start3, frz, sets, tgName, tgTup, tgTL, tgsCons, tgsNil, wipe3, Nat.reduceSub, Nat.reduceAdd, Nat.reduceLT, ok_forNil, ok_forCons, dMulA_ti, opz_l, opz_t, catL_ll, repL_i, aListQ_l, aListQ_t, aListQ_s, isi2_tl_n, isi2_tl_b, isi2_tl_i, isi2_tl_s, isi2_tl_l, isi2_tl_t, dZipL_l, dLenA_t, dLenA_l, aListA_t, aListA_l, dRev_t, dLenA_d, dicOf_d, dIAdd_ii, dIAdd_ss, dIAdd_tt, dRpart_s, ops0, ops1, ops2, ops3, dZip_tt, if_true, if_false, ite_true, ite_false, reduceCtorEq])
    exact w g' hg
theorem law_ok (ns : List Int) (hl : ns.length ≤ 63) : Ok (f_law [.lst (ns.map .int)] []) fun d _ => d = .bl true := by
  have main : ∀ (ls : List Tx) (g : Store) (a b : Option SV), ls.length ≤ 100 → LnOk ls → StOk 0 g → seqK
      (sSeq (sSet 5 (eApp f__law_single (aCons (eVar 2) aNil)))
      (sSeq (sIf (tOrD (tNotD (tTru (eApp f__law_told_right (aCons (eFn dTup (aCons (eC (.str [115, 105, 110, 103, 108, 101])) aNil)) (aCons (eVar 2) (aCons (eVar 5) aNil)))))) (tNotD (tTru (eApp f__law_told_right (aCons (eFn dTup (aCons (eC (.str [115, 105, 110, 103, 108, 101])) aNil)) (aCons (eVar 5) (aCons (eVar 5) aNil))))))) (sRet (eC (.bl false))) sNext)
      (sSeq (sFor (aItems (eL (aFn dLst (aCons (eC (.int 0)) (aCons (eC (.int 1)) (aCons (eC (.int 99)) (aCons (eFn dMin2 (aCons (eC (.int 99)) (aCons (eFn dLen (aCons (eVarB 2) aNil)) aNil))) (aCons (eOp dMod (eFn dMax2 (aCons (eC (.int 0)) (aCons (eOp dSub (eFn dLen (aCons (eVarB 2) aNil)) (eC (.int 1))) aNil))) (eC (.int 100))) (aCons (eApp f__law_next (aCons (eVar 1) (aCons (eC (.int 100)) aNil))) aNil))))))))) (tgName 6) lb_law_1)
      (sRet (eApp f__law_told_right (aCons (eFn dTup (aCons (eC (.str [99, 111, 117, 110, 116])) aNil)) (aCons (eVar 2) (aCons (eFn dTup (aCons (eFn dStr (aCons (eFn dLen (aCons (eVarB 2) aNil)) aNil)) aNil)) aNil)))))))) (runK fun d _ => d = .bl true) (.nx [some (SV.d (D.lst (List.map D.int ns))), some (SV.d (D.obj 0)), some (SV.d (D.tup (ls.map .str))), a, b, none, none, none, none]) g := by
    intro ls g a b h1 h2 h3
    have ss := sgl_sub none ls
    have h2s : LnOk (sgl none ls) := fun s hs => h2 s (ss.2 s hs)
    (try dsimp only); rw [seqK_nx]; (try simp only [oks0, oks1, ok_aCatE, ok_aRepE, ok_eMake, ok_eFld, ok_sFldD, ok_eMeth, ok_sAppO, ok_sExtA, ok_iObj, ok_iZip, ok_aLcG, ok_sExt, ok_sExtL, ok_eRev, ok_aKeys, ok_eOrV, ok_sPopD, ok_cDc, ok_sIns, ok_sPopI, ok_sSetI, List.set_cons_zero, List.set_cons_succ, List.getElem?_cons_zero, List.getElem?_cons_succ, List.map_cons, List.map_nil, List.length_cons, List.length_nil, List.cons_append, List.nil_append, List.replicate_succ, List.replicate_zero, start3, frz, sets, tgName, tgTup, tgTL, tgsCons, tgsNil, wipe3, Nat.reduceSub, Nat.reduceAdd, Nat.reduceLT, ok_forNil, ok_forCons, dMulA_ti, opz_l, opz_t, catL_ll, repL_i, aListQ_l, aListQ_t, aListQ_s, isi2_tl_n, isi2_tl_b, isi2_tl_i, isi2_tl_s, isi2_tl_l, isi2_tl_t, dZipL_l, dLenA_t, dLenA_l, aListA_t, aListA_l, dRev_t, dLenA_d, dicOf_d, dIAdd_ii, dIAdd_ss, dIAdd_tt, dRpart_s, ops0, ops1, ops2, ops3, dZip_tt, if_true, if_false, ite_true, ite_false, reduceCtorEq])
    refine lsingle_ok (by omega) ?_
    (try dsimp only); rw [seqK_nx]; (try simp only [oks0, oks1, ok_aCatE, ok_aRepE, ok_eMake, ok_eFld, ok_sFldD, ok_eMeth, ok_sAppO, ok_sExtA, ok_iObj, ok_iZip, ok_aLcG, ok_sExt, ok_sExtL, ok_eRev, ok_aKeys, ok_eOrV, ok_sPopD, ok_cDc, ok_sIns, ok_sPopI, ok_sSetI, List.set_cons_zero, List.set_cons_succ, List.getElem?_cons_zero, List.getElem?_cons_succ, List.map_cons, List.map_nil, List.length_cons, List.length_nil, List.cons_append, List.nil_append, List.replicate_succ, List.replicate_zero, start3, frz, sets, tgName, tgTup, tgTL, tgsCons, tgsNil, wipe3, Nat.reduceSub, Nat.reduceAdd, Nat.reduceLT, ok_forNil, ok_forCons, dMulA_ti, opz_l, opz_t, catL_ll, repL_i, aListQ_l, aListQ_t, aListQ_s, isi2_tl_n, isi2_tl_b, isi2_tl_i, isi2_tl_s, isi2_tl_l, isi2_tl_t, dZipL_l, dLenA_t, dLenA_l, aListA_t, aListA_l, dRev_t, dLenA_d, dicOf_d, dIAdd_ii, dIAdd_ss, dIAdd_tt, dRpart_s, ops0, ops1, ops2, ops3, dZip_tt, if_true, if_false, ite_true, ite_false, reduceCtorEq])
    refine ⟨by decide, ?_⟩
    refine right_ok (by omega) (fun g Q hw => told_single h2 h1 hw) fun g2 hg2 => ?_
    (try simp only [oks0, oks1, ok_aCatE, ok_aRepE, ok_eMake, ok_eFld, ok_sFldD, ok_eMeth, ok_sAppO, ok_sExtA, ok_iObj, ok_iZip, ok_aLcG, ok_sExt, ok_sExtL, ok_eRev, ok_aKeys, ok_eOrV, ok_sPopD, ok_cDc, ok_sIns, ok_sPopI, ok_sSetI, List.set_cons_zero, List.set_cons_succ, List.getElem?_cons_zero, List.getElem?_cons_succ, List.map_cons, List.map_nil, List.length_cons, List.length_nil, List.cons_append, List.nil_append, List.replicate_succ, List.replicate_zero, start3, frz, sets, tgName, tgTup, tgTL, tgsCons, tgsNil, wipe3, Nat.reduceSub, Nat.reduceAdd, Nat.reduceLT, ok_forNil, ok_forCons, dMulA_ti, opz_l, opz_t, catL_ll, repL_i, aListQ_l, aListQ_t, aListQ_s, isi2_tl_n, isi2_tl_b, isi2_tl_i, isi2_tl_s, isi2_tl_l, isi2_tl_t, dZipL_l, dLenA_t, dLenA_l, aListA_t, aListA_l, dRev_t, dLenA_d, dicOf_d, dIAdd_ii, dIAdd_ss, dIAdd_tt, dRpart_s, ops0, ops1, ops2, ops3, dZip_tt, if_true, if_false, ite_true, ite_false, reduceCtorEq])
    refine ⟨by decide, ?_⟩
    refine right_ok (by omega) (fun g Q hw => told_single h2s (by omega) (by rw [sgl_idem]; exact hw)) fun g3 hg3 => ?_
    (try simp only [oks0, oks1, ok_aCatE, ok_aRepE, ok_eMake, ok_eFld, ok_sFldD, ok_eMeth, ok_sAppO, ok_sExtA, ok_iObj, ok_iZip, ok_aLcG, ok_sExt, ok_sExtL, ok_eRev, ok_aKeys, ok_eOrV, ok_sPopD, ok_cDc, ok_sIns, ok_sPopI, ok_sSetI, List.set_cons_zero, List.set_cons_succ, List.getElem?_cons_zero, List.getElem?_cons_succ, List.map_cons, List.map_nil, List.length_cons, List.length_nil, List.cons_append, List.nil_append, List.replicate_succ, List.replicate_zero, start3, frz, sets, tgName, tgTup, tgTL, tgsCons, tgsNil, wipe3, Nat.reduceSub, Nat.reduceAdd, Nat.reduceLT, ok_forNil, ok_forCons, dMulA_ti, opz_l, opz_t, catL_ll, repL_i, aListQ_l, aListQ_t, aListQ_s, isi2_tl_n, isi2_tl_b, isi2_tl_i, isi2_tl_s, isi2_tl_l, isi2_tl_t, dZipL_l, dLenA_t, dLenA_l, aListA_t, aListA_l, dRev_t, dLenA_d, dicOf_d, dIAdd_ii, dIAdd_ss, dIAdd_tt, dRpart_s, ops0, ops1, ops2, ops3, dZip_tt, if_true, if_false, ite_true, ite_false, reduceCtorEq])
    (try dsimp only); rw [seqK_nx]; (try simp only [oks0, oks1, ok_aCatE, ok_aRepE, ok_eMake, ok_eFld, ok_sFldD, ok_eMeth, ok_sAppO, ok_sExtA, ok_iObj, ok_iZip, ok_aLcG, ok_sExt, ok_sExtL, ok_eRev, ok_aKeys, ok_eOrV, ok_sPopD, ok_cDc, ok_sIns, ok_sPopI, ok_sSetI, List.set_cons_zero, List.set_cons_succ, List.getElem?_cons_zero, List.getElem?_cons_succ, List.map_cons, List.map_nil, List.length_cons, List.length_nil, List.cons_append, List.nil_append, List.replicate_succ, List.replicate_zero, start3, frz, sets, tgName, tgTup, tgTL, tgsCons, tgsNil, wipe3, Nat.reduceSub, Nat.reduceAdd, Nat.reduceLT, dMulA_ti, opz_l, opz_t, catL_ll, repL_i, aListQ_l, aListQ_t, aListQ_s, isi2_tl_n, isi2_tl_b, isi2_tl_i, isi2_tl_s, isi2_tl_l, isi2_tl_t, dZipL_l, dLenA_t, dLenA_l, aListA_t, aListA_l, dRev_t, dLenA_d, dicOf_d, dIAdd_ii, dIAdd_ss, dIAdd_tt, dRpart_s, ops0, ops1, ops2, ops3, dZip_tt, if_true, if_false, ite_true, ite_false, reduceCtorEq])
    refine ⟨by decide, ?_⟩
    refine Ok.next (h3.grow (hg2.trans hg3)) (by decide) (by decide) fun v g4 a0 a1 h4 => ?_
    refine ⟨by decide, ?_⟩
    refine ok_for (fun ds ρ g' => StOk 0 g' ∧ (∀ d ∈ ds, ∃ k : Nat, d = .int k ∧ k < 100) ∧ ∃ x y, ρ = [some (SV.d (D.lst (List.map D.int ns))), some (SV.d (D.obj 0)), some (SV.d (D.tup (ls.map .str))), a, b, some (SV.d (.tup ((sgl none ls).map .str))), x, y, none]) ⟨h4, ?_, _, _, rfl⟩ (fun d r ρ g' hJ => ?_) (fun ρ g' hJ => ?_)
    · intro d hd
      simp only [List.mem_cons, List.not_mem_nil, or_false] at hd
      rcases hd with rfl | rfl | rfl | rfl | rfl | rfl
      · exact ⟨0, rfl, by decide⟩
      · exact ⟨1, rfl, by decide⟩
      · exact ⟨99, rfl, by decide⟩
      · refine ⟨min 99 ls.length, ?_, by omega⟩
        rw [List.length_map]
        congr 1
        split <;> omega
      · refine ⟨(max 0 ((ls.length : Int) - 1) % 100).toNat, ?_, by omega⟩
        rw [List.length_map]
        congr 1
        split <;> omega
      · exact ⟨v.toNat, by rw [Int.toNat_of_nonneg a0], by omega⟩
    · obtain ⟨h, hds, x, y, rfl⟩ := hJ
      obtain ⟨k, rfl, hk⟩ := hds d List.mem_cons_self
      refine ⟨_, rfl, ?_⟩
      unfold lb_law_1
      (try simp only [oks0, oks1, ok_aCatE, ok_aRepE, ok_eMake, ok_eFld, ok_sFldD, ok_eMeth, ok_sAppO, ok_sExtA, ok_iObj, ok_iZip, ok_aLcG, ok_sExt, ok_sExtL, ok_eRev, ok_aKeys, ok_eOrV, ok_sPopD, ok_cDc, ok_sIns, ok_sPopI, ok_sSetI, List.set_cons_zero, List.set_cons_succ, List.getElem?_cons_zero, List.getElem?_cons_succ, List.map_cons, List.map_nil, List.length_cons, List.length_nil, List.cons_append, List.nil_append, List.replicate_succ, List.replicate_zero, start3, frz, sets, tgName, tgTup, tgTL, tgsCons, tgsNil, wipe3, Nat.reduceSub, Nat.reduceAdd, Nat.reduceLT, ok_forNil, ok_forCons, dMulA_ti, opz_l, opz_t, catL_ll, repL_i, aListQ_l, aListQ_t, aListQ_s, isi2_tl_n, isi2_tl_b, isi2_tl_i, isi2_tl_s, isi2_tl_l, isi2_tl_t, dZipL_l, dLenA_t, dLenA_l, aListA_t, aListA_l, dRev_t, dLenA_d, dicOf_d, dIAdd_ii, dIAdd_ss, dIAdd_tt, dRpart_s, ops0, ops1, ops2, ops3, dZip_tt, if_true, if_false, ite_true, ite_false, reduceCtorEq])
      rw [cut_take _ k]
      have ks := strI_small k hk
      have tk : LnOk (ls.take k) := fun s hs => h2 s (List.mem_of_mem_take hs)
      (try dsimp only); rw [seqK_nx]; (try simp only [oks0, oks1, ok_aCatE, ok_aRepE, ok_eMake, ok_eFld, ok_sFldD, ok_eMeth, ok_sAppO, ok_sExtA, ok_iObj, ok_iZip, ok_aLcG, ok_sExt, ok_sExtL, ok_eRev, ok_aKeys, ok_eOrV, ok_sPopD, ok_cDc, ok_sIns, ok_sPopI, ok_sSetI, List.set_cons_zero, List.set_cons_succ, List.getElem?_cons_zero, List.getElem?_cons_succ, List.map_cons, List.map_nil, List.length_cons, List.length_nil, List.cons_append, List.nil_append, List.replicate_succ, List.replicate_zero, start3, frz, sets, tgName, tgTup, tgTL, tgsCons, tgsNil, wipe3, Nat.reduceSub, Nat.reduceAdd, Nat.reduceLT, ok_forNil, ok_forCons, dMulA_ti, opz_l, opz_t, catL_ll, repL_i, aListQ_l, aListQ_t, aListQ_s, isi2_tl_n, isi2_tl_b, isi2_tl_i, isi2_tl_s, isi2_tl_l, isi2_tl_t, dZipL_l, dLenA_t, dLenA_l, aListA_t, aListA_l, dRev_t, dLenA_d, dicOf_d, dIAdd_ii, dIAdd_ss, dIAdd_tt, dRpart_s, ops0, ops1, ops2, ops3, dZip_tt, if_true, if_false, ite_true, ite_false, reduceCtorEq])
      refine ⟨_, dStr_small (by omega) (by omega), ?_⟩
      (try simp only [oks0, oks1, ok_aCatE, ok_aRepE, ok_eMake, ok_eFld, ok_sFldD, ok_eMeth, ok_sAppO, ok_sExtA, ok_iObj, ok_iZip, ok_aLcG, ok_sExt, ok_sExtL, ok_eRev, ok_aKeys, ok_eOrV, ok_sPopD, ok_cDc, ok_sIns, ok_sPopI, ok_sSetI, List.set_cons_zero, List.set_cons_succ, List.getElem?_cons_zero, List.getElem?_cons_succ, List.map_cons, List.map_nil, List.length_cons, List.length_nil, List.cons_append, List.nil_append, List.replicate_succ, List.replicate_zero, start3, frz, sets, tgName, tgTup, tgTL, tgsCons, tgsNil, wipe3, Nat.reduceSub, Nat.reduceAdd, Nat.reduceLT, ok_forNil, ok_forCons, dMulA_ti, opz_l, opz_t, catL_ll, repL_i, aListQ_l, aListQ_t, aListQ_s, isi2_tl_n, isi2_tl_b, isi2_tl_i, isi2_tl_s, isi2_tl_l, isi2_tl_t, dZipL_l, dLenA_t, dLenA_l, aListA_t, aListA_l, dRev_t, dLenA_d, dicOf_d, dIAdd_ii, dIAdd_ss, dIAdd_tt, dRpart_s, ops0, ops1, ops2, ops3, dZip_tt, if_true, if_false, ite_true, ite_false, reduceCtorEq])
      refine ⟨by decide, ?_⟩
      rw [← List.map_take]
      refine right_ok (ls := ls) (due := ls.take k) (by rw [List.length_take]; omega) (fun g Q hw => told_first hk h2 h1 hw) fun g2 hg2 => ?_
      (try simp only [oks0, oks1, ok_aCatE, ok_aRepE, ok_eMake, ok_eFld, ok_sFldD, ok_eMeth, ok_sAppO, ok_sExtA, ok_iObj, ok_iZip, ok_aLcG, ok_sExt, ok_sExtL, ok_eRev, ok_aKeys, ok_eOrV, ok_sPopD, ok_cDc, ok_sIns, ok_sPopI, ok_sSetI, List.set_cons_zero, List.set_cons_succ, List.getElem?_cons_zero, List.getElem?_cons_succ, List.map_cons, List.map_nil, List.length_cons, List.length_nil, List.cons_append, List.nil_append, List.replicate_succ, List.replicate_zero, start3, frz, sets, tgName, tgTup, tgTL, tgsCons, tgsNil, wipe3, Nat.reduceSub, Nat.reduceAdd, Nat.reduceLT, ok_forNil, ok_forCons, dMulA_ti, opz_l, opz_t, catL_ll, repL_i, aListQ_l, aListQ_t, aListQ_s, isi2_tl_n, isi2_tl_b, isi2_tl_i, isi2_tl_s, isi2_tl_l, isi2_tl_t, dZipL_l, dLenA_t, dLenA_l, aListA_t, aListA_l, dRev_t, dLenA_d, dicOf_d, dIAdd_ii, dIAdd_ss, dIAdd_tt, dRpart_s, ops0, ops1, ops2, ops3, dZip_tt, if_true, if_false, ite_true, ite_false, reduceCtorEq])
      (try dsimp only); rw [seqK_nx]; (try simp only [oks0, oks1, ok_aCatE, ok_aRepE, ok_eMake, ok_eFld, ok_sFldD, ok_eMeth, ok_sAppO, ok_sExtA, ok_iObj, ok_iZip, ok_aLcG, ok_sExt, ok_sExtL, ok_eRev, ok_aKeys, ok_eOrV, ok_sPopD, ok_cDc, ok_sIns, ok_sPopI, ok_sSetI, List.set_cons_zero, List.set_cons_succ, List.getElem?_cons_zero, List.getElem?_cons_succ, List.map_cons, List.map_nil, List.length_cons, List.length_nil, List.cons_append, List.nil_append, List.replicate_succ, List.replicate_zero, start3, frz, sets, tgName, tgTup, tgTL, tgsCons, tgsNil, wipe3, Nat.reduceSub, Nat.reduceAdd, Nat.reduceLT, ok_forNil, ok_forCons, dMulA_ti, opz_l, opz_t, catL_ll, repL_i, aListQ_l, aListQ_t, aListQ_s, isi2_tl_n, isi2_tl_b, isi2_tl_i, isi2_tl_s, isi2_tl_l, isi2_tl_t, dZipL_l, dLenA_t, dLenA_l, aListA_t, aListA_l, dRev_t, dLenA_d, dicOf_d, dIAdd_ii, dIAdd_ss, dIAdd_tt, dRpart_s, ops0, ops1, ops2, ops3, dZip_tt, if_true, if_false, ite_true, ite_false, reduceCtorEq])
      rw [List.length_map, show (if (ls.length : Int) < (k : Int) then (ls.length : Int) else (k : Int)) = (((ls.take k).length : Nat) : Int) by rw [List.length_take]; split <;> omega]
      refine ⟨by decide, _, dStr_small (by omega) (by rw [List.length_take]; omega), by decide, ?_⟩
      refine right_ok (ls := ls.take k) (due := [strI (ls.take k).length]) (by simp) (fun g Q hw => told_count tk (by rw [List.length_take]; omega) hw) fun g3 hg3 => ?_
      (try simp only [oks0, oks1, ok_aCatE, ok_aRepE, ok_eMake, ok_eFld, ok_sFldD, ok_eMeth, ok_sAppO, ok_sExtA, ok_iObj, ok_iZip, ok_aLcG, ok_sExt, ok_sExtL, ok_eRev, ok_aKeys, ok_eOrV, ok_sPopD, ok_cDc, ok_sIns, ok_sPopI, ok_sSetI, List.set_cons_zero, List.set_cons_succ, List.getElem?_cons_zero, List.getElem?_cons_succ, List.map_cons, List.map_nil, List.length_cons, List.length_nil, List.cons_append, List.nil_append, List.replicate_succ, List.replicate_zero, start3, frz, sets, tgName, tgTup, tgTL, tgsCons, tgsNil, wipe3, Nat.reduceSub, Nat.reduceAdd, Nat.reduceLT, ok_forNil, ok_forCons, dMulA_ti, opz_l, opz_t, catL_ll, repL_i, aListQ_l, aListQ_t, aListQ_s, isi2_tl_n, isi2_tl_b, isi2_tl_i, isi2_tl_s, isi2_tl_l, isi2_tl_t, dZipL_l, dLenA_t, dLenA_l, aListA_t, aListA_l, dRev_t, dLenA_d, dicOf_d, dIAdd_ii, dIAdd_ss, dIAdd_tt, dRpart_s, ops0, ops1, ops2, ops3, dZip_tt, if_true, if_false, ite_true, ite_false, reduceCtorEq])
      exact ⟨(h.grow hg2).grow hg3, fun d hd => hds d (List.mem_cons_of_mem _ hd), _, _, rfl⟩
    · obtain ⟨h, hds, x, y, rfl⟩ := hJ
      (try dsimp only); rw [seqK_nx]; (try simp only [oks0, oks1, ok_aCatE, ok_aRepE, ok_eMake, ok_eFld, ok_sFldD, ok_eMeth, ok_sAppO, ok_sExtA, ok_iObj, ok_iZip, ok_aLcG, ok_sExt, ok_sExtL, ok_eRev, ok_aKeys, ok_eOrV, ok_sPopD, ok_cDc, ok_sIns, ok_sPopI, ok_sSetI, List.set_cons_zero, List.set_cons_succ, List.getElem?_cons_zero, List.getElem?_cons_succ, List.map_cons, List.map_nil, List.length_cons, List.length_nil, List.cons_append, List.nil_append, List.replicate_succ, List.replicate_zero, start3, frz, sets, tgName, tgTup, tgTL, tgsCons, tgsNil, wipe3, Nat.reduceSub, Nat.reduceAdd, Nat.reduceLT, ok_forNil, ok_forCons, dMulA_ti, opz_l, opz_t, catL_ll, repL_i, aListQ_l, aListQ_t, aListQ_s, isi2_tl_n, isi2_tl_b, isi2_tl_i, isi2_tl_s, isi2_tl_l, isi2_tl_t, dZipL_l, dLenA_t, dLenA_l, aListA_t, aListA_l, dRev_t, dLenA_d, dicOf_d, dIAdd_ii, dIAdd_ss, dIAdd_tt, dRpart_s, ops0, ops1, ops2, ops3, dZip_tt, if_true, if_false, ite_true, ite_false, reduceCtorEq])
      rw [List.length_map]
      refine ⟨by decide, _, dStr_small (by omega) (by omega), by decide, ?_⟩
      exact right_ok (ls := ls) (due := [strI ls.length]) (by simp) (fun g Q hw => told_count h2 h1 hw) fun g2 hg2 => rfl
  unfold f_law d_law
  (try simp only [oks0, oks1, ok_aCatE, ok_aRepE, ok_eMake, ok_eFld, ok_sFldD, ok_eMeth, ok_sAppO, ok_sExtA, ok_iObj, ok_iZip, ok_aLcG, ok_sExt, ok_sExtL, ok_eRev, ok_aKeys, ok_eOrV, ok_sPopD, ok_cDc, ok_sIns, ok_sPopI, ok_sSetI, List.set_cons_zero, List.set_cons_succ, List.getElem?_cons_zero, List.getElem?_cons_succ, List.map_cons, List.map_nil, List.length_cons, List.length_nil, List.cons_append, List.nil_append, List.replicate_succ, List.replicate_zero, start3, frz, sets, tgName, tgTup, tgTL, tgsCons, tgsNil, wipe3, Nat.reduceSub, Nat.reduceAdd, Nat.reduceLT, ok_forNil, ok_forCons, dMulA_ti, opz_l, opz_t, catL_ll, repL_i, aListQ_l, aListQ_t, aListQ_s, isi2_tl_n, isi2_tl_b, isi2_tl_i, isi2_tl_s, isi2_tl_l, isi2_tl_t, dZipL_l, dLenA_t, dLenA_l, aListA_t, aListA_l, dRev_t, dLenA_d, dicOf_d, dIAdd_ii, dIAdd_ss, dIAdd_tt, dRpart_s, ops0, ops1, ops2, ops3, dZip_tt, if_true, if_false, ite_true, ite_false, reduceCtorEq])
  refine state_ok ns hl fun g hg => ?_
  (try dsimp only); rw [seqK_nx]; (try simp only [oks0, oks1, ok_aCatE, ok_aRepE, ok_eMake, ok_eFld, ok_sFldD, ok_eMeth, ok_sAppO, ok_sExtA, ok_iObj, ok_iZip, ok_aLcG, ok_sExt, ok_sExtL, ok_eRev, ok_aKeys, ok_eOrV, ok_sPopD, ok_cDc, ok_sIns, ok_sPopI, ok_sSetI, List.set_cons_zero, List.set_cons_succ, List.getElem?_cons_zero, List.getElem?_cons_succ, List.map_cons, List.map_nil, List.length_cons, List.length_nil, List.cons_append, List.nil_append, List.replicate_succ, List.replicate_zero, start3, frz, sets, tgName, tgTup, tgTL, tgsCons, tgsNil, wipe3, Nat.reduceSub, Nat.reduceAdd, Nat.reduceLT, ok_forNil, ok_forCons, dMulA_ti, opz_l, opz_t, catL_ll, repL_i, aListQ_l, aListQ_t, aListQ_s, isi2_tl_n, isi2_tl_b, isi2_tl_i, isi2_tl_s, isi2_tl_l, isi2_tl_t, dZipL_l, dLenA_t, dLenA_l, aListA_t, aListA_l, dRev_t, dLenA_d, dicOf_d, dIAdd_ii, dIAdd_ss, dIAdd_tt, dRpart_s, ops0, ops1, ops2, ops3, dZip_tt, if_true, if_false, ite_true, ite_false, reduceCtorEq])
  refine lines_ok (top := 20) hg (by decide) fun ls g1 l1 l2 h1 => ?_
  (try dsimp only); rw [seqK_nx]; (try simp only [oks0, oks1, ok_aCatE, ok_aRepE, ok_eMake, ok_eFld, ok_sFldD, ok_eMeth, ok_sAppO, ok_sExtA, ok_iObj, ok_iZip, ok_aLcG, ok_sExt, ok_sExtL, ok_eRev, ok_aKeys, ok_eOrV, ok_sPopD, ok_cDc, ok_sIns, ok_sPopI, ok_sSetI, List.set_cons_zero, List.set_cons_succ, List.getElem?_cons_zero, List.getElem?_cons_succ, List.map_cons, List.map_nil, List.length_cons, List.length_nil, List.cons_append, List.nil_append, List.replicate_succ, List.replicate_zero, start3, frz, sets, tgName, tgTup, tgTL, tgsCons, tgsNil, wipe3, Nat.reduceSub, Nat.reduceAdd, Nat.reduceLT, ok_forNil, ok_forCons, dMulA_ti, opz_l, opz_t, catL_ll, repL_i, aListQ_l, aListQ_t, aListQ_s, isi2_tl_n, isi2_tl_b, isi2_tl_i, isi2_tl_s, isi2_tl_l, isi2_tl_t, dZipL_l, dLenA_t, dLenA_l, aListA_t, aListA_l, dRev_t, dLenA_d, dicOf_d, dIAdd_ii, dIAdd_ss, dIAdd_tt, dRpart_s, ops0, ops1, ops2, ops3, dZip_tt, if_true, if_false, ite_true, ite_false, reduceCtorEq])
  refine Ok.next h1 (by decide) (by decide) fun v g2 a0 a1 h2 => ?_
  (try simp only [oks0, oks1, ok_aCatE, ok_aRepE, ok_eMake, ok_eFld, ok_sFldD, ok_eMeth, ok_sAppO, ok_sExtA, ok_iObj, ok_iZip, ok_aLcG, ok_sExt, ok_sExtL, ok_eRev, ok_aKeys, ok_eOrV, ok_sPopD, ok_cDc, ok_sIns, ok_sPopI, ok_sSetI, List.set_cons_zero, List.set_cons_succ, List.getElem?_cons_zero, List.getElem?_cons_succ, List.map_cons, List.map_nil, List.length_cons, List.length_nil, List.cons_append, List.nil_append, List.replicate_succ, List.replicate_zero, start3, frz, sets, tgName, tgTup, tgTL, tgsCons, tgsNil, wipe3, Nat.reduceSub, Nat.reduceAdd, Nat.reduceLT, ok_forNil, ok_forCons, dMulA_ti, opz_l, opz_t, catL_ll, repL_i, aListQ_l, aListQ_t, aListQ_s, isi2_tl_n, isi2_tl_b, isi2_tl_i, isi2_tl_s, isi2_tl_l, isi2_tl_t, dZipL_l, dLenA_t, dLenA_l, aListA_t, aListA_l, dRev_t, dLenA_d, dicOf_d, dIAdd_ii, dIAdd_ss, dIAdd_tt, dRpart_s, ops0, ops1, ops2, ops3, dZip_tt, if_true, if_false, ite_true, ite_false, reduceCtorEq])
  have mid : ∀ (ls : List Tx) (g : Store), ls.length ≤ 100 → LnOk ls → StOk 0 g → seqK
      (sSeq (sIf (tOf (eOp dEq (eApp f__law_next (aCons (eVar 1) (aCons (eC (.int 2)) aNil))) (eC (.int 0)))) (sSeq (sOwn 3 (aFn dLst aNil))
      (sSeq (sFor (aItems (eVar 2)) (tgName 4) lb_law_0)
      (sSet 2 (eFn dTuple (aCons (eSl dSl (eVarB 3) oNone (oSome (eC (.int 100)))) aNil))))) sNext)
      (sSeq (sSet 5 (eApp f__law_single (aCons (eVar 2) aNil)))
      (sSeq (sIf (tOrD (tNotD (tTru (eApp f__law_told_right (aCons (eFn dTup (aCons (eC (.str [115, 105, 110, 103, 108, 101])) aNil)) (aCons (eVar 2) (aCons (eVar 5) aNil)))))) (tNotD (tTru (eApp f__law_told_right (aCons (eFn dTup (aCons (eC (.str [115, 105, 110, 103, 108, 101])) aNil)) (aCons (eVar 5) (aCons (eVar 5) aNil))))))) (sRet (eC (.bl false))) sNext)
      (sSeq (sFor (aItems (eL (aFn dLst (aCons (eC (.int 0)) (aCons (eC (.int 1)) (aCons (eC (.int 99)) (aCons (eFn dMin2 (aCons (eC (.int 99)) (aCons (eFn dLen (aCons (eVarB 2) aNil)) aNil))) (aCons (eOp dMod (eFn dMax2 (aCons (eC (.int 0)) (aCons (eOp dSub (eFn dLen (aCons (eVarB 2) aNil)) (eC (.int 1))) aNil))) (eC (.int 100))) (aCons (eApp f__law_next (aCons (eVar 1) (aCons (eC (.int 100)) aNil))) aNil))))))))) (tgName 6) lb_law_1)
      (sRet (eApp f__law_told_right (aCons (eFn dTup (aCons (eC (.str [99, 111, 117, 110, 116])) aNil)) (aCons (eVar 2) (aCons (eFn dTup (aCons (eFn dStr (aCons (eFn dLen (aCons (eVarB 2) aNil)) aNil)) aNil)) aNil))))))))) (runK fun d _ => d = .bl true) (.nx [some (SV.d (D.lst (List.map D.int ns))), some (SV.d (D.obj 0)), some (SV.d (D.tup (ls.map .str))), none, none, none, none, none, none]) g := by
    intro ls g l1 l2 h1
    (try dsimp only); rw [seqK_nx]; (try simp only [oks0, oks1, ok_aCatE, ok_aRepE, ok_eMake, ok_eFld, ok_sFldD, ok_eMeth, ok_sAppO, ok_sExtA, ok_iObj, ok_iZip, ok_aLcG, ok_sExt, ok_sExtL, ok_eRev, ok_aKeys, ok_eOrV, ok_sPopD, ok_cDc, ok_sIns, ok_sPopI, ok_sSetI, List.set_cons_zero, List.set_cons_succ, List.getElem?_cons_zero, List.getElem?_cons_succ, List.map_cons, List.map_nil, List.length_cons, List.length_nil, List.cons_append, List.nil_append, List.replicate_succ, List.replicate_zero, start3, frz, sets, tgName, tgTup, tgTL, tgsCons, tgsNil, wipe3, Nat.reduceSub, Nat.reduceAdd, Nat.reduceLT, ok_forNil, ok_forCons, dMulA_ti, opz_l, opz_t, catL_ll, repL_i, aListQ_l, aListQ_t, aListQ_s, isi2_tl_n, isi2_tl_b, isi2_tl_i, isi2_tl_s, isi2_tl_l, isi2_tl_t, dZipL_l, dLenA_t, dLenA_l, aListA_t, aListA_l, dRev_t, dLenA_d, dicOf_d, dIAdd_ii, dIAdd_ss, dIAdd_tt, dRpart_s, ops0, ops1, ops2, ops3, dZip_tt, if_true, if_false, ite_true, ite_false, reduceCtorEq])
    refine Ok.next h1 (by decide) (by decide) fun v g2 a0 a1 h2 => ?_
    (try simp only [oks0, oks1, ok_aCatE, ok_aRepE, ok_eMake, ok_eFld, ok_sFldD, ok_eMeth, ok_sAppO, ok_sExtA, ok_iObj, ok_iZip, ok_aLcG, ok_sExt, ok_sExtL, ok_eRev, ok_aKeys, ok_eOrV, ok_sPopD, ok_cDc, ok_sIns, ok_sPopI, ok_sSetI, List.set_cons_zero, List.set_cons_succ, List.getElem?_cons_zero, List.getElem?_cons_succ, List.map_cons, List.map_nil, List.length_cons, List.length_nil, List.cons_append, List.nil_append, List.replicate_succ, List.replicate_zero, start3, frz, sets, tgName, tgTup, tgTL, tgsCons, tgsNil, wipe3, Nat.reduceSub, Nat.reduceAdd, Nat.reduceLT, ok_forNil, ok_forCons, dMulA_ti, opz_l, opz_t, catL_ll, repL_i, aListQ_l, aListQ_t, aListQ_s, isi2_tl_n, isi2_tl_b, isi2_tl_i, isi2_tl_s, isi2_tl_l, isi2_tl_t, dZipL_l, dLenA_t, dLenA_l, aListA_t, aListA_l, dRev_t, dLenA_d, dicOf_d, dIAdd_ii, dIAdd_ss, dIAdd_tt, dRpart_s, ops0, ops1, ops2, ops3, dZip_tt, if_true, if_false, ite_true, ite_false, reduceCtorEq])
    by_cases hv : v = 0
    · rw [if_pos hv]
      rw [ok_sOwn _ _ _ (by simp)]
      (try simp only [oks0, oks1, ok_aCatE, ok_aRepE, ok_eMake, ok_eFld, ok_sFldD, ok_eMeth, ok_sAppO, ok_sExtA, ok_iObj, ok_iZip, ok_aLcG, ok_sExt, ok_sExtL, ok_eRev, ok_aKeys, ok_eOrV, ok_sPopD, ok_cDc, ok_sIns, ok_sPopI, ok_sSetI, List.set_cons_zero, List.set_cons_succ, List.getElem?_cons_zero, List.getElem?_cons_succ, List.map_cons, List.map_nil, List.length_cons, List.length_nil, List.cons_append, List.nil_append, List.replicate_succ, List.replicate_zero, start3, frz, sets, tgName, tgTup, tgTL, tgsCons, tgsNil, wipe3, Nat.reduceSub, Nat.reduceAdd, Nat.reduceLT, ok_forNil, ok_forCons, dMulA_ti, opz_l, opz_t, catL_ll, repL_i, aListQ_l, aListQ_t, aListQ_s, isi2_tl_n, isi2_tl_b, isi2_tl_i, isi2_tl_s, isi2_tl_l, isi2_tl_t, dZipL_l, dLenA_t, dLenA_l, aListA_t, aListA_l, dRev_t, dLenA_d, dicOf_d, dIAdd_ii, dIAdd_ss, dIAdd_tt, dRpart_s, ops0, ops1, ops2, ops3, dZip_tt, if_true, if_false, ite_true, ite_false, reduceCtorEq])
      refine ⟨by decide, ?_⟩
      (try dsimp only); rw [seqK_nx]; (try simp only [oks0, oks1, ok_aCatE, ok_aRepE, ok_eMake, ok_eFld, ok_sFldD, ok_eMeth, ok_sAppO, ok_sExtA, ok_iObj, ok_iZip, ok_aLcG, ok_sExt, ok_sExtL, ok_eRev, ok_aKeys, ok_eOrV, ok_sPopD, ok_cDc, ok_sIns, ok_sPopI, ok_sSetI, List.set_cons_zero, List.set_cons_succ, List.getElem?_cons_zero, List.getElem?_cons_succ, List.map_cons, List.map_nil, List.length_cons, List.length_nil, List.cons_append, List.nil_append, List.replicate_succ, List.replicate_zero, start3, frz, sets, tgName, tgTup, tgTL, tgsCons, tgsNil, wipe3, Nat.reduceSub, Nat.reduceAdd, Nat.reduceLT, dMulA_ti, opz_l, opz_t, catL_ll, repL_i, aListQ_l, aListQ_t, aListQ_s, isi2_tl_n, isi2_tl_b, isi2_tl_i, isi2_tl_s, isi2_tl_l, isi2_tl_t, dZipL_l, dLenA_t, dLenA_l, aListA_t, aListA_l, dRev_t, dLenA_d, dicOf_d, dIAdd_ii, dIAdd_ss, dIAdd_tt, dRpart_s, ops0, ops1, ops2, ops3, dZip_tt, if_true, if_false, ite_true, ite_false, reduceCtorEq])
      refine ok_for (fun ds ρ g' => StOk 0 g' ∧ ∃ (i : Nat) (l : List Tx) (a : Option SV), i ≤ ls.length ∧ ds = (ls.drop i).map D.str ∧ ρ = [some (SV.d (D.lst (List.map D.int ns))), some (SV.d (D.obj 0)), some (SV.d (D.tup (ls.map .str))), some (SV.own (l.map .str)), a, none, none, none, none] ∧ l.length ≤ 2 * i ∧ LnOk l) ⟨h2, 0, [], _, Nat.zero_le _, rfl, rfl, Nat.le_refl _, fun s hs => by cases hs⟩ (fun d r ρ g' hJ => ?_) (fun ρ g' hJ => ?_)
      · obtain ⟨h, i, l, a, hi, e, rfl, k1, k2⟩ := hJ
        have lt : i < ls.length := by
          apply Classical.byContradiction
          intro z
          rw [List.drop_of_length_le (by omega)] at e
          cases e
        rw [List.drop_eq_getElem_cons lt, List.map_cons] at e
        cases e
        have hx := l2 ls[i] (List.getElem_mem _)
        refine ⟨_, rfl, ?_⟩
        unfold lb_law_0
        (try simp only [oks0, oks1, ok_aCatE, ok_aRepE, ok_eMake, ok_eFld, ok_sFldD, ok_eMeth, ok_sAppO, ok_sExtA, ok_iObj, ok_iZip, ok_aLcG, ok_sExt, ok_sExtL, ok_eRev, ok_aKeys, ok_eOrV, ok_sPopD, ok_cDc, ok_sIns, ok_sPopI, ok_sSetI, List.set_cons_zero, List.set_cons_succ, List.getElem?_cons_zero, List.getElem?_cons_succ, List.map_cons, List.map_nil, List.length_cons, List.length_nil, List.cons_append, List.nil_append, List.replicate_succ, List.replicate_zero, start3, frz, sets, tgName, tgTup, tgTL, tgsCons, tgsNil, wipe3, Nat.reduceSub, Nat.reduceAdd, Nat.reduceLT, ok_forNil, ok_forCons, dMulA_ti, opz_l, opz_t, catL_ll, repL_i, aListQ_l, aListQ_t, aListQ_s, isi2_tl_n, isi2_tl_b, isi2_tl_i, isi2_tl_s, isi2_tl_l, isi2_tl_t, dZipL_l, dLenA_t, dLenA_l, aListA_t, aListA_l, dRev_t, dLenA_d, dicOf_d, dIAdd_ii, dIAdd_ss, dIAdd_tt, dRpart_s, ops0, ops1, ops2, ops3, dZip_tt, if_true, if_false, ite_true, ite_false, reduceCtorEq])
        generalize hm : (1 + (List.length ls[i] : Int) % 2).toNat = m
        have m2 : m ≤ 2 := by omega
        have er : (List.replicate m [D.str ls[i]]).flatten = (List.replicate m ls[i]).map .str := by
          rw [List.map_replicate]
          clear hm m2
          induction m with
          | zero => rfl
          | succ m ih => rw [List.replicate_succ, List.flatten_cons, ih, List.replicate_succ]; rfl
        rw [er]
        refine ⟨by decide, by unfold BIG; omega, by decide, ⟨by omega, by omega, by unfold BIG; omega⟩, _, rfl, by rw [List.length_map, List.length_map, List.length_replicate]; unfold BIG; omega, h, i + 1, l ++ List.replicate m ls[i], some (SV.d (D.str ls[i])), lt, rfl, by rw [List.map_append], by rw [List.length_append, List.length_replicate]; omega, fun s hs => ?_⟩
        rcases List.mem_append.mp hs with hs | hs
        · exact k2 s hs
        · rw [(List.mem_replicate.mp hs).2]; exact hx
      · obtain ⟨h, i, l, a, hi, e, rfl, k1, k2⟩ := hJ
        (try dsimp only); rw [seqK_nx]; (try simp only [oks0, oks1, ok_aCatE, ok_aRepE, ok_eMake, ok_eFld, ok_sFldD, ok_eMeth, ok_sAppO, ok_sExtA, ok_iObj, ok_iZip, ok_aLcG, ok_sExt, ok_sExtL, ok_eRev, ok_aKeys, ok_eOrV, ok_sPopD, ok_cDc, ok_sIns, ok_sPopI, ok_sSetI, List.set_cons_zero, List.set_cons_succ, List.getElem?_cons_zero, List.getElem?_cons_succ, List.map_cons, List.map_nil, List.length_cons, List.length_nil, List.cons_append, List.nil_append, List.replicate_succ, List.replicate_zero, start3, frz, sets, tgName, tgTup, tgTL, tgsCons, tgsNil, wipe3, Nat.reduceSub, Nat.reduceAdd, Nat.reduceLT, ok_forNil, ok_forCons, dMulA_ti, opz_l, opz_t, catL_ll, repL_i, aListQ_l, aListQ_t, aListQ_s, isi2_tl_n, isi2_tl_b, isi2_tl_i, isi2_tl_s, isi2_tl_l, isi2_tl_t, dZipL_l, dLenA_t, dLenA_l, aListA_t, aListA_l, dRev_t, dLenA_d, dicOf_d, dIAdd_ii, dIAdd_ss, dIAdd_tt, dRpart_s, ops0, ops1, ops2, ops3, dZip_tt, if_true, if_false, ite_true, ite_false, reduceCtorEq])
        rw [cut_take _ 100, ← List.map_take]
        exact main (l.take 100) g' _ _ (by rw [List.length_take]; omega) (fun s hs => k2 s (List.mem_of_mem_take hs)) h
    · rw [if_neg hv]
      exact main ls g2 _ _ l1 l2 h2
  by_cases hv : v = 0
  · rw [if_pos hv]
    refine Ok.next h2 (by decide) (by decide) fun k g3 b0 b1 h3 => ?_
    (try simp only [oks0, oks1, ok_aCatE, ok_aRepE, ok_eMake, ok_eFld, ok_sFldD, ok_eMeth, ok_sAppO, ok_sExtA, ok_iObj, ok_iZip, ok_aLcG, ok_sExt, ok_sExtL, ok_eRev, ok_aKeys, ok_eOrV, ok_sPopD, ok_cDc, ok_sIns, ok_sPopI, ok_sSetI, List.set_cons_zero, List.set_cons_succ, List.getElem?_cons_zero, List.getElem?_cons_succ, List.map_cons, List.map_nil, List.length_cons, List.length_nil, List.cons_append, List.nil_append, List.replicate_succ, List.replicate_zero, start3, frz, sets, tgName, tgTup, tgTL, tgsCons, tgsNil, wipe3, Nat.reduceSub, Nat.reduceAdd, Nat.reduceLT, ok_forNil, ok_forCons, dMulA_ti, opz_l, opz_t, catL_ll, repL_i, aListQ_l, aListQ_t, aListQ_s, isi2_tl_n, isi2_tl_b, isi2_tl_i, isi2_tl_s, isi2_tl_l, isi2_tl_t, dZipL_l, dLenA_t, dLenA_l, aListA_t, aListA_l, dRev_t, dLenA_d, dicOf_d, dIAdd_ii, dIAdd_ss, dIAdd_tt, dRpart_s, ops0, ops1, ops2, ops3, dZip_tt, if_true, if_false, ite_true, ite_false, reduceCtorEq])
    refine ⟨_, range1_ok (by omega) (by omega), ⟨by rw [rangeD_len]; unfold BIG; omega, rfl⟩, ?_⟩
    refine (ok_lcI (fun _ y => ∃ s : Tx, y = .str s ∧ s.length ≤ 80 ∧ Asc s) (fun _ g' => StOk 0 g') h3 fun i d hi g' hg' => ⟨_, rfl, ?_⟩).mono fun ys g4 hq => ?_
    · unfold le_law_0
      (try simp only [oks0, oks1, ok_aCatE, ok_aRepE, ok_eMake, ok_eFld, ok_sFldD, ok_eMeth, ok_sAppO, ok_sExtA, ok_iObj, ok_iZip, ok_aLcG, ok_sExt, ok_sExtL, ok_eRev, ok_aKeys, ok_eOrV, ok_sPopD, ok_cDc, ok_sIns, ok_sPopI, ok_sSetI, List.set_cons_zero, List.set_cons_succ, List.getElem?_cons_zero, List.getElem?_cons_succ, List.map_cons, List.map_nil, List.length_cons, List.length_nil, List.cons_append, List.nil_append, List.replicate_succ, List.replicate_zero, start3, frz, sets, tgName, tgTup, tgTL, tgsCons, tgsNil, wipe3, Nat.reduceSub, Nat.reduceAdd, Nat.reduceLT, ok_forNil, ok_forCons, dMulA_ti, opz_l, opz_t, catL_ll, repL_i, aListQ_l, aListQ_t, aListQ_s, isi2_tl_n, isi2_tl_b, isi2_tl_i, isi2_tl_s, isi2_tl_l, isi2_tl_t, dZipL_l, dLenA_t, dLenA_l, aListA_t, aListA_l, dRev_t, dLenA_d, dicOf_d, dIAdd_ii, dIAdd_ss, dIAdd_tt, dRpart_s, ops0, ops1, ops2, ops3, dZip_tt, if_true, if_false, ite_true, ite_false, reduceCtorEq])
      exact text_ok (top := 1) hg' (by decide) fun s g5 s1 s2 h5 => ⟨⟨s, rfl, by omega, s2⟩, h5⟩
    obtain ⟨h4, hl1, hall⟩ := hq
    rw [rangeD_len] at hl1
    have hys : ∀ y ∈ ys, ∃ s : Tx, y = D.str s ∧ s.length ≤ 80 ∧ Asc s := fun y hy => by
      obtain ⟨i, hi, rfl⟩ := List.getElem_of_mem hy
      exact hall i _ _ (List.getElem?_eq_getElem (by rw [rangeD_len]; omega)) (List.getElem?_eq_getElem hi)
    obtain ⟨ws, rfl⟩ := txts_of fun y hy => by obtain ⟨s, e, _⟩ := hys y hy; exact ⟨s, e⟩
    have hw : LnOk ws := fun u hu => by
      obtain ⟨s', e, q⟩ := hys _ (List.mem_map_of_mem hu)
      cases e
      exact q
    rw [List.length_map] at hl1
    exact mid ws g4 (by omega) hw h4
  · rw [if_neg hv]
    exact mid ls g2 (by omega) l2 h2
end W

namespace W
open PySem PySem.Spec PyProof.Rows L2 L3
theorem tx {K : PySem.W.Frag} {w : World} {h : Heap} {mg : Str → Option Value} (X : K.In h) (G : h.Ns mainGlobals mg) (c : SaysX faL fnL tsL (fun K => allT K atL && (allC K cfL && sameM K smL)) w K) : TopX K w mg where
  z_list := He.free_ok X G (c.t.d.fact 25 (f := .free "list") rfl)
  z_len := He.free_ok X G (c.t.d.fact 26 (f := .free "len") rfl)
  z_range := He.free_ok X G (c.t.d.fact 27 (f := .free "range") rfl)
  z_str := He.free_ok X G (c.t.d.fact 28 (f := .free "str") rfl)
  z_tuple := He.free_ok X G (c.t.d.fact 29 (f := .free "tuple") rfl)
  z_isinstance := He.free_ok X G (c.t.d.fact 30 (f := .free "isinstance") rfl)
  z_zip := He.free_ok X G (c.t.d.fact 31 (f := .free "zip") rfl)
  z_all := He.free_ok X G (c.t.d.fact 32 (f := .free "all") rfl)
  z_int := He.free_ok X G (c.t.d.fact 33 (f := .free "int") rfl)
  z_bool := He.free_ok X G (c.t.d.fact 34 (f := .free "bool") rfl)
  c_Count := He.cls_ok (c.t.d.fact 35 (f := .cls "Count") rfl)
  n_Count_words := He.noat_ok (c.t.d.fact 36 (f := .noat "Count" "words") rfl)
  c_Single := He.cls_ok (c.t.d.fact 37 (f := .cls "Single") rfl)
  n_Single_words := He.noat_ok (c.t.d.fact 38 (f := .noat "Single" "words") rfl)
  c_First := He.cls_ok (c.t.d.fact 39 (f := .cls "First") rfl)
  n_First_words := He.noat_ok (c.t.d.fact 40 (f := .noat "First" "words") rfl)
  g_Stream := He.glo_ok X G (c.t.d.fact 41 (f := .glo "Stream") rfl)
  cf_Stream___init__ := cfn_ok (allC_at 0 (Bool.and_eq_true_iff.mp (Bool.and_eq_true_iff.mp c.b).2).1 rfl)
  n_Count_lines := He.noat_ok (c.t.d.fact 42 (f := .noat "Count" "lines") rfl)
  g_Count := He.glo_ok X G (c.t.d.fact 43 (f := .glo "Count") rfl)
  mk_Count := He.mkr_ok (c.t.d.fact 44 (f := .mkr "Count") rfl)
  s_Count___init__ := sameM_at 0 (Bool.and_eq_true_iff.mp (Bool.and_eq_true_iff.mp c.b).2).2 rfl
  c_NUMBER := He.int_ok X G (c.t.d.fact 45 (f := .int "NUMBER" 18) rfl)
  c_FIGURES := He.str_ok X G (c.t.d.fact 46 (f := .str "FIGURES" (S [48, 49, 50, 51, 52, 53, 54, 55, 56, 57])) rfl)
  n_First_left := He.noat_ok (c.t.d.fact 47 (f := .noat "First" "left") rfl)
  n_Single_last := He.noat_ok (c.t.d.fact 48 (f := .noat "Single" "last") rfl)
  g_First := He.glo_ok X G (c.t.d.fact 49 (f := .glo "First") rfl)
  mk_First := He.mkr_ok (c.t.d.fact 50 (f := .mkr "First") rfl)
  g_Single := He.glo_ok X G (c.t.d.fact 51 (f := .glo "Single") rfl)
  mk_Single := He.mkr_ok (c.t.d.fact 52 (f := .mkr "Single") rfl)
  m_Count_feed := He.meth_ok (c.t.d.fact 53 (f := .meth "Count" "feed") rfl)
  s_Count_feed := sameM_at 1 (Bool.and_eq_true_iff.mp (Bool.and_eq_true_iff.mp c.b).2).2 rfl
  m_Single_feed := He.meth_ok (c.t.d.fact 54 (f := .meth "Single" "feed") rfl)
  m_First_feed := He.meth_ok (c.t.d.fact 55 (f := .meth "First" "feed") rfl)
  m_Count_close := He.meth_ok (c.t.d.fact 56 (f := .meth "Count" "close") rfl)
  m_Single_close := He.meth_ok (c.t.d.fact 57 (f := .meth "Single" "close") rfl)
  s_Single_close := sameM_at 2 (Bool.and_eq_true_iff.mp (Bool.and_eq_true_iff.mp c.b).2).2 rfl
  m_First_close := He.meth_ok (c.t.d.fact 58 (f := .meth "First" "close") rfl)
  s_First_close := sameM_at 3 (Bool.and_eq_true_iff.mp (Bool.and_eq_true_iff.mp c.b).2).2 rfl
  m_Count_ending := He.meth_ok (c.t.d.fact 59 (f := .meth "Count" "ending") rfl)
  s_Count_ending := sameM_at 4 (Bool.and_eq_true_iff.mp (Bool.and_eq_true_iff.mp c.b).2).2 rfl
  m_Single_ending := He.meth_ok (c.t.d.fact 60 (f := .meth "Single" "ending") rfl)
  s_Single_ending := sameM_at 5 (Bool.and_eq_true_iff.mp (Bool.and_eq_true_iff.mp c.b).2).2 rfl
  m_First_ending := He.meth_ok (c.t.d.fact 61 (f := .meth "First" "ending") rfl)
  s_First_ending := sameM_at 6 (Bool.and_eq_true_iff.mp (Bool.and_eq_true_iff.mp c.b).2).2 rfl
  c_MOST := He.int_ok X G (c.t.d.fact 62 (f := .int "MOST" 100) rfl)
  z_max := He.free_ok X G (c.t.d.fact 63 (f := .free "max") rfl)
  z_min := He.free_ok X G (c.t.d.fact 64 (f := .free "min") rfl)
  t_JOINED := tab_ok (He.glo_ok X G (c.t.d.fact 65 (f := .glo "JOINED") rfl)) (c.t.tab 0) (allT_at 0 (Bool.and_eq_true_iff.mp c.b).1 rfl)
  F__law_state := by
    obtain ⟨fd, F⟩ := c.t.d.def_ 0 (d := df__law_state) rfl
    exact ⟨⟨fd, F, F.bindsN fun _ _ _ _ _ _ us hl => match us, hl with | [_], _ => rfl⟩, He.glo_ok X G (c.t.d.fact 0 (f := .glo "_law_state") rfl)⟩
  F__law_next := by
    obtain ⟨fd, F⟩ := c.t.d.def_ 1 (d := df__law_next) rfl
    exact ⟨⟨fd, F, F.bindsN fun _ _ _ _ _ _ us hl => match us, hl with | [_, _], _ => rfl⟩, He.glo_ok X G (c.t.d.fact 1 (f := .glo "_law_next") rfl)⟩
  F__law_text := by
    obtain ⟨fd, F⟩ := c.t.d.def_ 2 (d := df__law_text) rfl
    exact ⟨⟨fd, F, F.bindsN fun _ _ _ _ _ _ us hl => match us, hl with | [_, _], _ => rfl⟩, He.glo_ok X G (c.t.d.fact 2 (f := .glo "_law_text") rfl)⟩
  F__law_figures := by
    obtain ⟨fd, F⟩ := c.t.d.def_ 3 (d := df__law_figures) rfl
    exact ⟨⟨fd, F, F.bindsN fun _ _ _ _ _ _ us hl => match us, hl with | [_], _ => rfl⟩, He.glo_ok X G (c.t.d.fact 3 (f := .glo "_law_figures") rfl)⟩
  F__law_line := by
    obtain ⟨fd, F⟩ := c.t.d.def_ 4 (d := df__law_line) rfl
    exact ⟨⟨fd, F, F.bindsN fun _ _ _ _ _ _ us hl => match us, hl with | [_], _ => rfl⟩, He.glo_ok X G (c.t.d.fact 4 (f := .glo "_law_line") rfl)⟩
  F__law_lines := by
    obtain ⟨fd, F⟩ := c.t.d.def_ 5 (d := df__law_lines) rfl
    exact ⟨⟨fd, F, F.bindsN fun _ _ _ _ _ _ us hl => match us, hl with | [_, _], _ => rfl⟩, He.glo_ok X G (c.t.d.fact 5 (f := .glo "_law_lines") rfl)⟩
  F__law_single := by
    obtain ⟨fd, F⟩ := c.t.d.def_ 6 (d := df__law_single) rfl
    exact ⟨⟨fd, F, F.bindsN fun _ _ _ _ _ _ us hl => match us, hl with | [_], _ => rfl⟩, He.glo_ok X G (c.t.d.fact 6 (f := .glo "_law_single") rfl)⟩
  F__law_same := by
    obtain ⟨fd, F⟩ := c.t.d.def_ 7 (d := df__law_same) rfl
    exact ⟨⟨fd, F, F.bindsN fun _ _ _ _ _ _ us hl => match us, hl with | [_, _], _ => rfl⟩, He.glo_ok X G (c.t.d.fact 7 (f := .glo "_law_same") rfl)⟩
  F_Stream____init__ := by
    obtain ⟨fd, F⟩ := c.t.d.def_ 8 (d := df_Stream____init__) rfl
    exact ⟨⟨fd, F, F.bindsN fun _ _ _ _ _ _ us hl => match us, hl with | [_, _], _ => rfl⟩⟩
  F_Gathering____init__ := by
    obtain ⟨fd, F⟩ := c.t.d.def_ 9 (d := df_Gathering____init__) rfl
    exact ⟨⟨fd, F, F.bindsN fun _ _ _ _ _ _ us hl => match us, hl with | [_, _], _ => rfl⟩⟩
  F_gathering_of := by
    obtain ⟨fd, F⟩ := c.t.d.def_ 10 (d := df_gathering_of) rfl
    exact ⟨⟨fd, F, F.bindsN fun _ _ _ _ _ _ us hl => match us, hl with | [_], _ => rfl⟩, He.glo_ok X G (c.t.d.fact 10 (f := .glo "gathering_of") rfl)⟩
  F_number_in := by
    obtain ⟨fd, F⟩ := c.t.d.def_ 11 (d := df_number_in) rfl
    exact ⟨⟨fd, F, F.bindsN fun _ _ _ _ _ _ us hl => match us, hl with | [_], _ => rfl⟩, He.glo_ok X G (c.t.d.fact 11 (f := .glo "number_in") rfl)⟩
  F_First____init__ := by
    obtain ⟨fd, F⟩ := c.t.d.def_ 12 (d := df_First____init__) rfl
    exact ⟨⟨fd, F, F.bindsN fun _ _ _ _ _ _ us hl => match us, hl with | [_, _], _ => rfl⟩⟩
  F_Single____init__ := by
    obtain ⟨fd, F⟩ := c.t.d.def_ 13 (d := df_Single____init__) rfl
    exact ⟨⟨fd, F, F.bindsN fun _ _ _ _ _ _ us hl => match us, hl with | [_, _], _ => rfl⟩⟩
  F_stream_of := by
    obtain ⟨fd, F⟩ := c.t.d.def_ 14 (d := df_stream_of) rfl
    exact ⟨⟨fd, F, F.bindsN fun _ _ _ _ _ _ us hl => match us, hl with | [_], _ => rfl⟩, He.glo_ok X G (c.t.d.fact 14 (f := .glo "stream_of") rfl)⟩
  F_Stream__close := by
    obtain ⟨fd, F⟩ := c.t.d.def_ 15 (d := df_Stream__close) rfl
    exact ⟨⟨fd, F, F.bindsN fun _ _ _ _ _ _ us hl => match us, hl with | [_], _ => rfl⟩⟩
  F_Count__close := by
    obtain ⟨fd, F⟩ := c.t.d.def_ 16 (d := df_Count__close) rfl
    exact ⟨⟨fd, F, F.bindsN fun _ _ _ _ _ _ us hl => match us, hl with | [_], _ => rfl⟩⟩
  F_Stream__ending := by
    obtain ⟨fd, F⟩ := c.t.d.def_ 17 (d := df_Stream__ending) rfl
    exact ⟨⟨fd, F, F.bindsN fun _ _ _ _ _ _ us hl => match us, hl with | [_], _ => rfl⟩⟩
  F_First__feed := by
    obtain ⟨fd, F⟩ := c.t.d.def_ 18 (d := df_First__feed) rfl
    exact ⟨⟨fd, F, F.bindsN fun _ _ _ _ _ _ us hl => match us, hl with | [_, _], _ => rfl⟩⟩
  F_Single__feed := by
    obtain ⟨fd, F⟩ := c.t.d.def_ 19 (d := df_Single__feed) rfl
    exact ⟨⟨fd, F, F.bindsN fun _ _ _ _ _ _ us hl => match us, hl with | [_, _], _ => rfl⟩⟩
  F_Gathering__feed := by
    obtain ⟨fd, F⟩ := c.t.d.def_ 20 (d := df_Gathering__feed) rfl
    exact ⟨⟨fd, F, F.bindsN fun _ _ _ _ _ _ us hl => match us, hl with | [_, _], _ => rfl⟩⟩
  F_streamed := by
    obtain ⟨fd, F⟩ := c.t.d.def_ 21 (d := df_streamed) rfl
    exact ⟨⟨fd, F, F.bindsN fun _ _ _ _ _ _ us hl => match us, hl with | [_, _], _ => rfl⟩, He.glo_ok X G (c.t.d.fact 21 (f := .glo "streamed") rfl)⟩
  F_told := by
    obtain ⟨fd, F⟩ := c.t.d.def_ 22 (d := df_told) rfl
    exact ⟨⟨fd, F, F.bindsN fun _ _ _ _ _ _ us hl => match us, hl with | [_, _], _ => rfl⟩, He.glo_ok X G (c.t.d.fact 22 (f := .glo "told") rfl)⟩
  F__law_told_right := by
    obtain ⟨fd, F⟩ := c.t.d.def_ 23 (d := df__law_told_right) rfl
    exact ⟨⟨fd, F, F.bindsN fun _ _ _ _ _ _ us hl => match us, hl with | [_, _, _], _ => rfl⟩, He.glo_ok X G (c.t.d.fact 23 (f := .glo "_law_told_right") rfl)⟩
  F_law := by
    obtain ⟨fd, F⟩ := c.t.d.def_ 24 (d := df_law) rfl
    exact ⟨⟨fd, F, F.bindsN fun _ _ _ _ _ _ us hl => match us, hl with | [_], _ => rfl⟩, He.glo_ok X G (c.t.d.fact 24 (f := .glo "law") rfl)⟩
theorem facts {P : Program} {w : World} {K : PySem.W.Frag} {h : Heap} {mg : Str → Option Value} {f : Addr} (X : K.In h) (G : h.Ns mainGlobals mg) (hfa : mg ("law" : Str) = some (.ref f)) (c : SaysX faL fnL tsL (fun K => allT K atL && (allC K cfL && sameM K smL)) w K) :
    ∃ fd : FuncData, (∀ (s : Shared) (v : Value), BindsTo s fd ⟨[v], []⟩ [("_law_script", v)]) ∧ ∀ base : Heap, K.In base → base.Ns mainGlobals mg → FnOk P w K mg base CX0 11 f fd ["_law_script"] (spD K 1 f_law) := by
  have T := tx X G c
  obtain ⟨fd, F⟩ := c.t.d.def_ 24 (d := df_law) rfl
  have e := hfa.symm.trans T.F_law.g
  cases e
  have b := FunD.bindsA (ps := ["_law_script"]) F fun _ _ _ _ _ _ us hl => match us, hl with | [_], _ => rfl
  refine ⟨fd, fun s v => b s [v] rfl, fun base _ _ => ?_⟩
  exact lawFn F (ok_law T)
end W
open PySem PySem.W PySem.Calls PyProof.Rows
theorem PySem.Challenge.cw_rowshell_k31_first_single_count_holds : PySem.Challenge.rw_rowshell_k31_first_single_count.Holds := by
  w_on; o_law
  refine HandSHeadRun.head_any (r := OpenLaw.row PySem.Challenge.rw_rowshell_k31_first_single_count) (q := view (OpenLaw.row PySem.Challenge.rw_rowshell_k31_first_single_count).prog [95]) (H := W.hkL) (ob := W.obL) (M := 8000) (loose := W.looseL) (d := HandSHeadRun.topDef (OpenLaw.row PySem.Challenge.rw_rowshell_k31_first_single_count).prog 95) (kwd := []) W.obL_eq
    (by kernel_rfl) (fun s => by kernel_rfl) W.runL (by kernel_rfl) (by kernel_rfl) (by kernel_rfl) (by rfl) (by first | assumption | decide +kernel) (by decide +kernel) ⟨rfl, rfl, rfl, rfl, rfl, by decide +kernel⟩ ?hw ?hc
  case hw => w_witness2
  case hc =>
    refine L2.walk_ofE (l := PySem.Challenge.rw_rowshell_k31_first_single_count) (n := 63) (k := 11) (x := "_law_script") (CX := L2.CX0) rfl (by decide) (by kernel_rfl) ⟨rfl, by decide, by decide⟩ ?F (fun _ _ _ _ z => z)
    intro w mg fa h Y G hmg0
    obtain ⟨K, KX, c⟩ := Y
    have hmg : mg ("law" : PySem.Str) = some (.ref fa) := by
      have e : (HandSHeadRun.topDef (OpenLaw.row PySem.Challenge.rw_rowshell_k31_first_single_count).prog 95).name = ("law" : PySem.Str) := by kernel_rfl
      rw [← e]
      exact hmg0
    obtain ⟨fd, hb, hF⟩ := W.facts (P := (PySem.Challenge.rw_rowshell_k31_first_single_count).prog) (w := w) KX G hmg c
    exact ⟨K, fd, L3.spD K 1 W.f_law, KX, hb, fun H a ns hl _ hS => L3.endD c.nl W.law_ok hl hS, hF⟩
