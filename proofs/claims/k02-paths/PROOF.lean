import PyProof.Rows.All
import Wide.All
import OpenK.AllK
import Wide.FinOn
import HandS.ForMost
import HandS.Evl
import HandS.Wide
import HandS.TupAny
import HandS.TupMul
import HandS.Style
import HandS.IsInst
import HandS.SortInts
import HandS.Deep
import HandS.Walk
import HandS.Codes
import PySem.Challenge.RW_seenlines_k02_paths
set_option Elab.async false
set_option linter.all false
set_option maxRecDepth 100000
set_option maxHeartbeats 4000000
/-! DL: Python over plain data. A rule a construct; a def's walk is a term of rules, its reading speaks of data and never of the heap. -/
namespace DL
open PySem PySem.Spec PyProof.Rows L2
abbrev Ex := Evl.Ex
abbrev Frag := PySem.W.Frag

/-! ### data in a heap -/
def keyD : Key → PyData
  | .inl i => .int i
  | .inr x => .str x
mutual
/-- the value v is the data, read off F -/
def At (K : Frag) (F : Hp) : PyData → V → Prop
  | .none, v => v = .non
  | .bool b, v => v = .bl b
  | .int i, v => v = .int i
  | .str x, v => v = .str x
  | .list ds, v => ∃ a xs, v = .ref a ∧ F a = some (.lst xs) ∧ AtAll K F ds xs
  | .tuple ds, v => ∃ a xs, v = .ref a ∧ SqT K F a xs ∧ AtAll K F ds xs
  | .dict ps, v => ∃ a kvs, v = .ref a ∧ F a = some (.dK kvs) ∧ AtKv K F ps kvs
def AtAll (K : Frag) (F : Hp) : List PyData → List V → Prop
  | [], vs => vs = []
  | d :: ds, vs => ∃ v r, vs = v :: r ∧ At K F d v ∧ AtAll K F ds r
def AtKv (K : Frag) (F : Hp) : List (PyData × PyData) → List (Key × V) → Prop
  | [], vs => vs = []
  | (k, d) :: ps, vs => ∃ k' v r, vs = (k', v) :: r ∧ k = keyD k' ∧ At K F d v ∧ AtKv K F ps r
end
mutual
theorem At.mono {K : Frag} {F F' : Hp} (e : Ex F F') : ∀ (d : PyData) (v : V), At K F d v → At K F' d v
  | .none, _, h => h
  | .bool _, _, h => h
  | .int _, _, h => h
  | .str _, _, h => h
  | .list ds, _, h => by
    obtain ⟨a, xs, rfl, hs, ha⟩ := h
    exact ⟨a, xs, rfl, e _ _ hs, AtAll.mono e ds xs ha⟩
  | .tuple ds, _, h => by
    obtain ⟨a, xs, rfl, hs, ha⟩ := h
    exact ⟨a, xs, rfl, Evl.ex_t e hs, AtAll.mono e ds xs ha⟩
  | .dict ps, _, h => by
    obtain ⟨a, kvs, rfl, hs, ha⟩ := h
    exact ⟨a, kvs, rfl, e _ _ hs, AtKv.mono e ps kvs ha⟩
theorem AtAll.mono {K : Frag} {F F' : Hp} (e : Ex F F') : ∀ (ds : List PyData) (vs : List V), AtAll K F ds vs → AtAll K F' ds vs
  | [], _, h => h
  | d :: ds, _, h => by
    obtain ⟨v, r, rfl, h1, h2⟩ := h
    exact ⟨v, r, rfl, At.mono e d v h1, AtAll.mono e ds r h2⟩
theorem AtKv.mono {K : Frag} {F F' : Hp} (e : Ex F F') : ∀ (ps : List (PyData × PyData)) (vs : List (Key × V)), AtKv K F ps vs → AtKv K F' ps vs
  | [], _, h => h
  | (k, d) :: ps, _, h => by
    obtain ⟨k', v, r, rfl, h0, h1, h2⟩ := h
    exact ⟨k', v, r, rfl, h0, At.mono e d v h1, AtKv.mono e ps r h2⟩
end
theorem AtAll.length {K : Frag} {F : Hp} : ∀ {ds : List PyData} {vs : List V}, AtAll K F ds vs → vs.length = ds.length
  | [], _, h => by cases h; rfl
  | d :: ds, _, h => by
    obtain ⟨v, r, rfl, _, h2⟩ := h
    rw [List.length_cons, List.length_cons, AtAll.length h2]
theorem AtAll.get {K : Frag} {F : Hp} : ∀ {ds : List PyData} {vs : List V} {i : Nat} {d : PyData}, AtAll K F ds vs → ds[i]? = some d → ∃ v, vs[i]? = some v ∧ At K F d v
  | [], _, _, _, _, e => by simp at e
  | d :: ds, _, 0, x, h, e => by
    obtain ⟨v, r, rfl, h1, _⟩ := h
    simp at e; subst e
    exact ⟨v, rfl, h1⟩
  | d :: ds, _, i + 1, x, h, e => by
    obtain ⟨v, r, rfl, _, h2⟩ := h
    obtain ⟨u, h3, h4⟩ := AtAll.get (i := i) (d := x) h2 (by simpa using e)
    exact ⟨u, by simpa using h3, h4⟩
theorem AtAll.append {K : Frag} {F : Hp} : ∀ {ds es : List PyData} {vs us : List V}, AtAll K F ds vs → AtAll K F es us → AtAll K F (ds ++ es) (vs ++ us)
  | [], _, _, _, h, g => by cases h; exact g
  | d :: ds, _, _, _, h, g => by
    obtain ⟨v, r, rfl, h1, h2⟩ := h
    exact ⟨v, _, rfl, h1, AtAll.append h2 g⟩
theorem AtAll.take {K : Frag} {F : Hp} : ∀ {ds : List PyData} {vs : List V} (n : Nat), AtAll K F ds vs → AtAll K F (ds.take n) (vs.take n)
  | _, _, 0, _ => rfl
  | [], _, _ + 1, h => by cases h; rfl
  | d :: ds, _, n + 1, h => by
    obtain ⟨v, r, rfl, h1, h2⟩ := h
    exact ⟨v, _, rfl, h1, AtAll.take n h2⟩
theorem AtAll.drop {K : Frag} {F : Hp} : ∀ {ds : List PyData} {vs : List V} (n : Nat), AtAll K F ds vs → AtAll K F (ds.drop n) (vs.drop n)
  | _, _, 0, h => h
  | [], _, _ + 1, h => by cases h; rfl
  | d :: ds, _, n + 1, h => by
    obtain ⟨v, r, rfl, _, h2⟩ := h
    exact AtAll.drop n h2
theorem AtAll.set {K : Frag} {F : Hp} {d : PyData} {v : V} (hv : At K F d v) : ∀ {ds : List PyData} {vs : List V} (n : Nat), AtAll K F ds vs → AtAll K F (ds.set n d) (vs.set n v)
  | [], _, _, h => by cases h; rfl
  | e :: ds, _, 0, h => by
    obtain ⟨u, r, rfl, _, h2⟩ := h
    exact ⟨v, r, rfl, hv, h2⟩
  | e :: ds, _, n + 1, h => by
    obtain ⟨u, r, rfl, h1, h2⟩ := h
    exact ⟨u, _, rfl, h1, AtAll.set hv n h2⟩
theorem AtAll.one {K : Frag} {F : Hp} {d : PyData} {v : V} (h : At K F d v) : AtAll K F [d] [v] := ⟨v, [], rfl, h, rfl⟩
/-- the top may stand in H, its parts in F -/
def AtT (K : Frag) (F H : Hp) : PyData → V → Prop
  | .list ds, v => ∃ a xs, v = .ref a ∧ H a = some (.lst xs) ∧ AtAll K F ds xs
  | d, v => At K F d v
theorem At.top {K : Frag} {F H : Hp} (e : Ex F H) : ∀ {d : PyData} {v : V}, At K F d v → AtT K F H d v
  | .none, _, h => h
  | .bool _, _, h => h
  | .int _, _, h => h
  | .str _, _, h => h
  | .tuple _, _, h => h
  | .dict _, _, h => h
  | .list ds, _, h => by
    obtain ⟨a, xs, rfl, hs, ha⟩ := h
    exact ⟨a, xs, rfl, e _ _ hs, ha⟩
theorem AtT.at {K : Frag} {F H : Hp} (e : Ex F H) : ∀ {d : PyData} {v : V}, AtT K F H d v → At K H d v
  | .none, _, h => h
  | .bool _, _, h => h
  | .int _, _, h => h
  | .str _, _, h => h
  | .tuple ds, v, h => At.mono e (.tuple ds) v h
  | .dict ds, v, h => At.mono e (.dict ds) v h
  | .list ds, _, h => by
    obtain ⟨a, xs, rfl, hs, ha⟩ := h
    exact ⟨a, xs, rfl, hs, AtAll.mono e _ _ ha⟩

/-! ### slots -/
/-- a slot: data that is never changed again; a list of one's own (t: none, made here; some k, the k-th list handed in to be changed) -/
inductive Sl where
  | d (x : PyData)
  | own (t : Option Nat) (xs : List PyData)
  | scr (ns : List Int)
abbrev De := List (Option Sl)
def Sl.isOwn : Sl → Bool
  | .d _ => false
  | .own _ _ => true
  | .scr _ => false
def SlAt (K : Frag) (H0 : Hp) (io : List Addr) (F H : Hp) : Sl → V → Prop
  | .d x, v => At K F x v
  | .own t ds, v => ∃ l xs, v = .ref l ∧ H l = some (.lst xs) ∧ F l = none ∧ AtAll K F ds xs ∧ (match t with | none => H0 l = none | some k => io[k]? = some l)
  | .scr ns, v => ∃ a, v = .ref a ∧ SqL K F a (ns.map V.int)
structure Rel (K : Frag) (F0 H0 : Hp) (io : List Addr) (F H : Hp) (σ : L2.St) (δ : De) : Prop where
  fh : Ex F H
  ff : Ex F0 F
  old : ∀ a, H0 a ≠ none → F a = F0 a
  keep : ∀ a o, H0 a = some o → a ∉ io → H a = some o
  dom : ∀ a, H0 a ≠ none → H a ≠ none
  len : δ.length = σ.length
  at_ : ∀ (i : Nat) s, δ[i]? = some (some s) → ∃ v, σ[i]? = some (some v) ∧ SlAt K H0 io F H s v
  sep : ∀ (i j : Nat) s t l, δ[i]? = some (some s) → δ[j]? = some (some t) → s.isOwn = true → t.isOwn = true → σ[i]? = some (some (.ref l)) → σ[j]? = some (some (.ref l)) → i = j

section
variable {K : Frag} {F0 H0 : Hp} {io : List Addr} {F H F' H' : Hp} {σ : L2.St} {δ : De}
theorem SlAt.move (e : Ex F F') {s : Sl} {v : V} (h : SlAt K H0 io F H s v) (g : ∀ l xs, s.isOwn = true → v = .ref l → H l = some (.lst xs) → F l = none → H' l = some (.lst xs) ∧ F' l = none) : SlAt K H0 io F' H' s v := by
  cases s with
  | d x => exact At.mono e x v h
  | own t ds =>
    obtain ⟨l, xs, rfl, h1, h2, h3, h4⟩ := h
    obtain ⟨g1, g2⟩ := g l xs rfl rfl h1 h2
    exact ⟨l, xs, rfl, g1, g2, AtAll.mono e _ _ h3, h4⟩
  | scr ns =>
    obtain ⟨a, rfl, h1⟩ := h
    exact ⟨a, rfl, Evl.ex_l e h1⟩
theorem ex_upd {p : Addr} {o : HO} (h : F p = none) : Ex F (upd F p o) := Evl.Ex.new h
theorem Rel.new0 (R : Rel K F0 H0 io F H σ δ) {p : Addr} (hp : H p = none) : H0 p = none := by
  cases q : H0 p with
  | none => rfl
  | some u => exact absurd hp (R.dom p (by rw [q]; simp))
/-- an owned list is changed, made data, or neither; what else H holds is kept; F grows by what H0 does not know -/
theorem Rel.grow (R : Rel K F0 H0 io F H σ δ) {F' H' : Hp} {δ' : De} (fh : Ex F' H') (e : Ex F F') (hn : ∀ a, H0 a ≠ none → F' a = F a) (hk : ∀ a o, H0 a = some o → a ∉ io → H a = some o → H' a = some o) (hd : ∀ a, H a ≠ none → H' a ≠ none)
    (hl : δ'.length = δ.length) (hs : ∀ (i : Nat) s, δ'[i]? = some (some s) → ∃ v, σ[i]? = some (some v) ∧ SlAt K H0 io F' H' s v) (ho : ∀ (i : Nat) s, δ'[i]? = some (some s) → s.isOwn = true → ∃ t, δ[i]? = some (some t) ∧ t.isOwn = true) : Rel K F0 H0 io F' H' σ δ' where
  fh := fh
  ff := R.ff.trans e
  old := fun a ha => by rw [hn a ha]; exact R.old a ha
  keep := fun a o ha hi => hk a o ha hi (R.keep a o ha hi)
  dom := fun a ha => hd a (R.dom a ha)
  len := hl.trans R.len
  at_ := hs
  sep := fun i j s t l e1 e2 o1 o2 v1 v2 => by
    obtain ⟨s', e1', o1'⟩ := ho i s e1 o1
    obtain ⟨t', e2', o2'⟩ := ho j t e2 o2
    exact R.sep i j s' t' l e1' e2' o1' o2' v1 v2
/-- a new object that is data from now on -/
theorem Rel.newF (R : Rel K F0 H0 io F H σ δ) {p : Addr} (hp : H p = none) (o : HO) : Rel K F0 H0 io (upd F p o) (upd H p o) σ δ := by
  have fp : F p = none := Evl.fresh_back R.fh hp
  have h0 := R.new0 hp
  have np : ∀ a, H0 a ≠ none → a ≠ p := fun a ha z => ha (by rw [z]; exact h0)
  have nh : ∀ a, H a ≠ none → a ≠ p := fun a ha z => ha (by rw [z]; exact hp)
  refine R.grow (fun a u e => ?_) (ex_upd fp) (fun a ha => upd_ne (np a ha)) (fun a u _ _ h => ?_) (fun a ha => ?_) rfl (fun i s e => ?_) fun i s e o => ⟨s, e, o⟩
  · by_cases h : a = p
    · subst h; rw [upd_same] at e ⊢; exact e
    · rw [upd_ne h] at e ⊢; exact R.fh a u e
  · rw [upd_ne (nh a (by rw [h]; simp))]; exact h
  · rw [upd_ne (nh a ha)]; exact ha
  · obtain ⟨v, e1, e2⟩ := R.at_ i s e
    refine ⟨v, e1, e2.move (ex_upd fp) fun l xs _ _ h1 h2 => ?_⟩
    have : l ≠ p := ne_of_none h1 hp
    rw [upd_ne this, upd_ne this]
    exact ⟨h1, h2⟩
/-- a new object that is nobody's yet -/
theorem Rel.newO (R : Rel K F0 H0 io F H σ δ) {p : Addr} (hp : H p = none) (o : HO) : Rel K F0 H0 io F (upd H p o) σ δ := by
  have nh : ∀ a, H a ≠ none → a ≠ p := fun a ha z => ha (by rw [z]; exact hp)
  refine R.grow (R.fh.trans (ex_upd hp)) (Evl.Ex.refl F) (fun _ _ => rfl) (fun a u _ _ h => ?_) (fun a ha => ?_) rfl (fun i s e => ?_) fun i s e o => ⟨s, e, o⟩
  · rw [upd_ne (nh a (by rw [h]; simp))]; exact h
  · rw [upd_ne (nh a ha)]; exact ha
  · obtain ⟨v, e1, e2⟩ := R.at_ i s e
    exact ⟨v, e1, e2.move (Evl.Ex.refl F) fun l xs _ _ h1 h2 => ⟨by rw [upd_ne (ne_of_none h1 hp)]; exact h1, h2⟩⟩

/-! ### results -/
/-- what an expression gives: data, the own list of a slot, a new list that nobody else has -/
inductive Rv where
  | d (x : PyData)
  | var (i : Nat)
  | new (xs : List PyData)
structure Loose (K : Frag) (H0 F H : Hp) (σ : L2.St) (δ : De) (l : Addr) (xs : List V) : Prop where
  h : H l = some (.lst xs)
  f : F l = none
  h0 : H0 l = none
  ns : ∀ (i : Nat) s, δ[i]? = some (some s) → s.isOwn = true → σ[i]? ≠ some (some (.ref l))
def RvAt (K : Frag) (H0 F H : Hp) (σ : L2.St) (δ : De) : Rv → V → Prop
  | .d x, v => At K F x v
  | .var i, v => σ[i]? = some (some v)
  | .new ds, v => ∃ l xs, v = .ref l ∧ Loose K H0 F H σ δ l xs ∧ AtAll K F ds xs
/-- what an evaluation leaves: F grows, loose lists stay loose, and a new list is none of them -/
structure Step (K : Frag) (H0 F H : Hp) (σ : L2.St) (δ : De) (F' H' : Hp) (δ' : De) (r : Rv) (v : V) : Prop where
  ex : Ex F F'
  ls : ∀ l xs, Loose K H0 F H σ δ l xs → Loose K H0 F' H' σ δ' l xs
  nw : ∀ l xs ds, Loose K H0 F H σ δ l xs → r = .new ds → v ≠ .ref l
theorem Step.trans {F1 H1 F2 H2 : Hp} {δ1 δ2 : De} {r s : Rv} {v w : V} (a : Step K H0 F H σ δ F1 H1 δ1 r v) (b : Step K H0 F1 H1 σ δ1 F2 H2 δ2 s w) : Step K H0 F H σ δ F2 H2 δ2 s w :=
  ⟨a.ex.trans b.ex, fun l xs h => b.ls l xs (a.ls l xs h), fun l xs ds h => b.nw l xs ds (a.ls l xs h)⟩
theorem Step.refl (r : Rv) {v : V} (h : ∀ ds, r ≠ .new ds := by intro _ z; cases z) : Step K H0 F H σ δ F H δ r v := ⟨Evl.Ex.refl F, fun _ _ h => h, fun _ _ ds _ z => absurd z (h ds)⟩
theorem Step.as {F1 H1 : Hp} {δ1 : De} {r : Rv} {v : V} (a : Step K H0 F H σ δ F1 H1 δ1 r v) (s : Rv) {w : V} (h : ∀ ds, s ≠ .new ds := by intro _ z; cases z) : Step K H0 F H σ δ F1 H1 δ1 s w := ⟨a.ex, a.ls, fun _ _ ds _ z => absurd z (h ds)⟩
theorem Step.newF {p : Addr} (hp : H p = none) (fp : F p = none) (o : HO) (r : Rv) {v : V} (h : ∀ ds, r ≠ .new ds := by intro _ z; cases z) : Step K H0 F H σ δ (upd F p o) (upd H p o) δ r v :=
  ⟨ex_upd fp, fun l xs L => by
    have n : l ≠ p := ne_of_none L.h hp
    exact ⟨by rw [upd_ne n]; exact L.h, by rw [upd_ne n]; exact L.f, L.h0, L.ns⟩, fun _ _ ds _ z => absurd z (h ds)⟩
theorem Step.newO {p : Addr} (hp : H p = none) (o : HO) (r : Rv) : Step K H0 F H σ δ F (upd H p o) δ r (.ref p) :=
  ⟨Evl.Ex.refl F, fun l xs L => by
    have n : l ≠ p := ne_of_none L.h hp
    exact ⟨by rw [upd_ne n]; exact L.h, L.f, L.h0, L.ns⟩, fun l xs _ L _ z => by cases z; exact ne_of_none L.h hp rfl⟩
/-- a loose list becomes data -/
theorem Rel.settle (R : Rel K F0 H0 io F H σ δ) {l : Addr} {xs : List V} (L : Loose K H0 F H σ δ l xs) : Rel K F0 H0 io (upd F l (.lst xs)) H σ δ := by
  refine R.grow (fun a u e => ?_) (ex_upd L.f) (fun a ha => ?_) (fun a u _ _ h => h) (fun a ha => ha) rfl (fun i s e => ?_) fun i s e o => ⟨s, e, o⟩
  · by_cases h : a = l
    · subst h; rw [upd_same] at e; cases e; exact L.h
    · rw [upd_ne h] at e; exact R.fh a u e
  · refine upd_ne fun z => ha ?_
    rw [z]; exact L.h0
  · obtain ⟨v, e1, e2⟩ := R.at_ i s e
    refine ⟨v, e1, e2.move (ex_upd L.f) fun m ys o hv h1 h2 => ⟨h1, ?_⟩⟩
    have : m ≠ l := fun z => L.ns i s e o (by rw [e1, hv, z])
    rw [upd_ne this]; exact h2
/-- the own list of a slot becomes data -/
theorem Rel.freeze (R : Rel K F0 H0 io F H σ δ) {i : Nat} {ds : List PyData} {v : V} (hi : δ[i]? = some (some (.own none ds))) (hv : σ[i]? = some (some v)) :
    ∃ F', Rel K F0 H0 io F' H σ (δ.set i (some (.d (.list ds)))) ∧ Step K H0 F H σ δ F' H (δ.set i (some (.d (.list ds)))) (.d .none) .non ∧ At K F' (.list ds) v := by
  obtain ⟨v', e1, l, xs, rfl, h1, h2, h3, h4⟩ := R.at_ i _ hi
  rw [hv] at e1; cases e1
  have ex := ex_upd (F := F) (p := l) (o := .lst xs) h2
  have hat : At K (upd F l (.lst xs)) (.list ds) (.ref l) := ⟨l, xs, rfl, upd_same, AtAll.mono ex _ _ h3⟩
  refine ⟨upd F l (.lst xs), R.grow (fun a u e => ?_) ex (fun a ha => ?_) (fun a u _ _ h => h) (fun a ha => ha) (by rw [List.length_set]) (fun j s e => ?_) fun j s e o => ?_, ⟨ex, fun m ys M => ⟨M.h, ?_, M.h0, fun j s e o => ?_⟩, fun _ _ _ _ z => nomatch z⟩, hat⟩
  · by_cases h : a = l
    · subst h; rw [upd_same] at e; cases e; exact h1
    · rw [upd_ne h] at e; exact R.fh a u e
  · refine upd_ne fun z => ha ?_
    rw [z]; exact h4
  · by_cases hj : i = j
    · subst hj
      rw [List.getElem?_set_self (List.getElem?_eq_some_iff.mp hi).1] at e
      cases e
      exact ⟨_, hv, hat⟩
    · rw [List.getElem?_set_ne hj] at e
      obtain ⟨u, e1, e2⟩ := R.at_ j s e
      refine ⟨u, e1, e2.move ex fun m ys o hu k1 k2 => ⟨k1, ?_⟩⟩
      have : m ≠ l := fun z => hj (R.sep i j _ s l hi e rfl o hv (by rw [e1, hu, z]))
      rw [upd_ne this]; exact k2
  · by_cases hj : i = j
    · subst hj
      rw [List.getElem?_set_self (List.getElem?_eq_some_iff.mp hi).1] at e
      cases e; cases o
    · rw [List.getElem?_set_ne hj] at e
      exact ⟨s, e, o⟩
  · rw [upd_ne fun z => M.ns i _ hi rfl (by rw [hv, z])]
    exact M.f
  · by_cases hj : i = j
    · subst hj
      rw [List.getElem?_set_self (List.getElem?_eq_some_iff.mp hi).1] at e
      cases e; cases o
    · rw [List.getElem?_set_ne hj] at e
      exact M.ns j s e o
end

/-- what simp is not to look into -/
class Box (α : Type) where
  val : α
def withBox {α : Type} (f : α → Prop) [b : Box α] : Prop := f b.val
def boxIf (c : Bool) [b : Box (Prop × Prop)] : Prop := if c = true then b.val.1 else b.val.2
theorem boxIf_t {b : Box (Prop × Prop)} : @boxIf true b = b.val.1 := rfl
theorem boxIf_f {b : Box (Prop × Prop)} : @boxIf false b = b.val.2 := rfl
theorem boxIf_of {c : Bool} {b : Box (Prop × Prop)} (h1 : c = true → b.val.1) (h2 : c = false → b.val.2) : @boxIf c b := by
  cases c with
  | true => exact h1 rfl
  | false => exact h2 rfl
/-! ### readings over data -/
abbrev DE := De → (Rv → De → Prop) → Prop
abbrev DT := De → (Bool → De → Prop) → Prop
abbrev DA := De → (List Rv → De → Prop) → Prop
def LE (K : Frag) (de : DE) : TE := fun σ H Q => ∃ F0 H0 io F δ q, Rel K F0 H0 io F H σ δ ∧ de δ q ∧ ∀ v F' H' r δ', Rel K F0 H0 io F' H' σ δ' → Step K H0 F H σ δ F' H' δ' r v → RvAt K H0 F' H' σ δ' r v → q r δ' → Q v H'
def LT (K : Frag) (dt : DT) : TT := fun σ H Q => ∃ F0 H0 io F δ q, Rel K F0 H0 io F H σ δ ∧ dt δ q ∧ ∀ b F' H' δ', Rel K F0 H0 io F' H' σ δ' → Step K H0 F H σ δ F' H' δ' (.d .none) .non → q b δ' → Q b H'
/-- v is none of the new lists among these -/
def NoNew (v : V) (rs : List Rv) (vs : List V) : Prop := ∀ (i : Nat) es, rs[i]? = some (.new es) → vs[i]? ≠ some v
/-- values, one by one; no two of them are one new list -/
inductive RvAll (K : Frag) (H0 F H : Hp) (σ : L2.St) (δ : De) : List Rv → List V → Prop
  | nil : RvAll K H0 F H σ δ [] []
  | cons {r rs v vs} : RvAt K H0 F H σ δ r v → RvAll K H0 F H σ δ rs vs → (∀ ds, r = .new ds → NoNew v rs vs) → RvAll K H0 F H σ δ (r :: rs) (v :: vs)
/-- no new list is left among arguments -/
def Rv.calm : Rv → Bool
  | .new _ => false
  | _ => true
def LA (K : Frag) (da : DA) : TA := fun σ H Q => ∃ F0 H0 io F δ q, Rel K F0 H0 io F H σ δ ∧ da δ q ∧ ∀ vs F' H' rs δ', Rel K F0 H0 io F' H' σ δ' → Step K H0 F H σ δ F' H' δ' (.d .none) .non → (∀ l xs, Loose K H0 F H σ δ l xs → NoNew (.ref l) rs vs) → RvAll K H0 F' H' σ δ' rs vs → q rs δ' → Q vs H'
/-- the ways out of a statement, but for going on -/
structure DEx where
  rt : Sl → De → Prop
  bk : De → Prop
  ct : De → Prop
abbrev DS := DEx → (De → Prop) → De → Prop
/-- what a def hands back: data, or a list that nobody else has -/
def RtAt (K : Frag) (H0 F H : Hp) : Sl → V → Prop
  | .d x, v => At K F x v
  | .own _ ds, v => ∃ l xs, v = .ref l ∧ H l = some (.lst xs) ∧ F l = none ∧ H0 l = none ∧ AtAll K F ds xs
  | .scr _, _ => False
structure Fits (K : Frag) (F0 H0 : Hp) (io : List Addr) (D : DEx) (nx : De → Prop) (E : Ends) : Prop where
  nx : ∀ σ δ F H, Rel K F0 H0 io F H σ δ → nx δ → E.nx σ H
  rt : ∀ σ δ F H s v, Rel K F0 H0 io F H σ δ → RtAt K H0 F H s v → D.rt s δ → E.rt v H
  bk : ∀ σ δ F H, Rel K F0 H0 io F H σ δ → D.bk δ → E.bk σ H
  ct : ∀ σ δ F H, Rel K F0 H0 io F H σ δ → D.ct δ → E.ct σ H
def LS (K : Frag) (ds : DS) : TS := fun E σ H => ∃ F0 H0 io F δ D nx, Rel K F0 H0 io F H σ δ ∧ ds D nx δ ∧ Fits K F0 H0 io D nx E
abbrev XE (X : Cx) (e : Expr) (de : DE) : Prop := PE X e (LE X.K de)
abbrev XT (X : Cx) (e : Expr) (dt : DT) : Prop := PT X e (LT X.K dt)
abbrev XW (X : Cx) (e : Expr) (dt : DT) : Prop := PW X e (LT X.K dt)
abbrev XA (X : Cx) (es : List Expr) (da : DA) : Prop := PA X es (LA X.K da)
abbrev XS (X : Cx) (st : Stmt) (ds : DS) : Prop := PS X st (LS X.K ds)
abbrev XSs (X : Cx) (st : List Stmt) (ds : DS) : Prop := PSs X st (LS X.K ds)
theorem pe_imp {X : Cx} {e : Expr} {t t' : TE} (h : PE X e t) (g : ∀ σ H Q, t' σ H Q → t σ H Q) : PE X e t' := ⟨fun pins s σ H Q I q => h.run pins s σ H Q I (g σ H Q q)⟩
theorem pt_imp {X : Cx} {e : Expr} {t t' : TT} (h : PT X e t) (g : ∀ σ H Q, t' σ H Q → t σ H Q) : PT X e t' := ⟨fun pins s σ H Q I q => h.run pins s σ H Q I (g σ H Q q)⟩
theorem pw_imp {X : Cx} {e : Expr} {t t' : TT} (h : PW X e t) (g : ∀ σ H Q, t' σ H Q → t σ H Q) : PW X e t' := ⟨fun w pins s σ H Q I q => h.run w pins s σ H Q I (g σ H Q q)⟩
theorem pa_imp {X : Cx} {es : List Expr} {t t' : TA} (h : PA X es t) (g : ∀ σ H Q, t' σ H Q → t σ H Q) : PA X es t' := ⟨fun pos pins s σ H Q I q => h.run pos pins s σ H Q I (g σ H Q q)⟩
theorem ps_imp {X : Cx} {e : Stmt} {t t' : TS} (h : PS X e t) (g : ∀ D σ H, t' D σ H → t D σ H) : PS X e t' := ⟨fun pins s σ H Q I q => h.run pins s σ H Q I (g Q σ H q)⟩
theorem pss_imp {X : Cx} {e : List Stmt} {t t' : TS} (h : PSs X e t) (g : ∀ D σ H, t' D σ H → t D σ H) : PSs X e t' := ⟨fun pins s σ H Q I q => h.run pins s σ H Q I (g Q σ H q)⟩
end DL

namespace DL
open PySem PySem.Spec PyProof.Rows L2
section
variable {K : Frag} {F0 H0 : Hp} {io : List Addr} {F H F' H' : Hp} {σ : L2.St} {δ δ' : De}
/-- a new list is settled as data -/
def sett : Rv → Rv
  | .new xs => .d (.list xs)
  | r => r
def deref (δ : De) : Rv → Option PyData
  | .d x => some x
  | .var i => match δ[i]? with
    | some (some (.own _ xs)) => some (.list xs)
    | some (some (.d x)) => some x
    | _ => none
  | .new xs => some (.list xs)
theorem Rel.sett {F1 H1 : Hp} {δ1 : De} (R : Rel K F0 H0 io F1 H1 σ δ1) {r : Rv} {v : V} (s : Step K H0 F H σ δ F1 H1 δ1 r v) (h : RvAt K H0 F1 H1 σ δ1 r v) : ∃ F2, Rel K F0 H0 io F2 H1 σ δ1 ∧ Step K H0 F H σ δ F2 H1 δ1 (DL.sett r) v ∧ RvAt K H0 F2 H1 σ δ1 (DL.sett r) v := by
  cases r with
  | d x => exact ⟨F1, R, s, h⟩
  | var i => exact ⟨F1, R, s, h⟩
  | new ds =>
    obtain ⟨l, xs, rfl, L, ha⟩ := h
    refine ⟨_, R.settle L, ⟨s.ex.trans (ex_upd L.f), fun m ys M => ?_, fun _ _ _ _ z => nomatch z⟩, l, xs, rfl, upd_same, AtAll.mono (ex_upd L.f) _ _ ha⟩
    have M1 := s.ls m ys M
    have n : m ≠ l := fun z => s.nw m ys ds M rfl (by rw [z])
    exact ⟨M1.h, by rw [upd_ne n]; exact M1.f, M1.h0, M1.ns⟩
theorem RvAt.keep {r : Rv} {v : V} (h : RvAt K H0 F H σ δ (DL.sett r) v) (e : Ex F F') : RvAt K H0 F' H' σ δ' (DL.sett r) v := by
  cases r with
  | d x => exact At.mono e x v h
  | var i => exact h
  | new ds => exact At.mono e (.list ds) v h
theorem Rel.peek (R : Rel K F0 H0 io F H σ δ) {r : Rv} {v : V} {d : PyData} (h : RvAt K H0 F H σ δ r v) (e : deref δ r = some d) : AtT K F H d v := by
  cases r with
  | d x => cases e; exact At.top R.fh h
  | new ds =>
    cases e
    obtain ⟨l, xs, rfl, L, ha⟩ := h
    exact ⟨l, xs, rfl, L.h, ha⟩
  | var i =>
    have hv : σ[i]? = some (some v) := h
    simp only [deref] at e
    split at e
    · rename_i t xs hd
      cases e
      obtain ⟨u, e1, l, ys, rfl, h1, h2, h3, _⟩ := R.at_ i _ hd
      rw [hv] at e1; cases e1
      exact ⟨l, ys, rfl, h1, h3⟩
    · rename_i x hd
      cases e
      obtain ⟨u, e1, h1⟩ := R.at_ i _ hd
      rw [hv] at e1; cases e1
      exact At.top R.fh h1
    · cases e
theorem LE.of {de : DE} {Q : VK} {q : Rv → De → Prop} (R : Rel K F0 H0 io F H σ δ) (h : de δ q) (k : ∀ v F' H' r δ', Rel K F0 H0 io F' H' σ δ' → Step K H0 F H σ δ F' H' δ' r v → RvAt K H0 F' H' σ δ' r v → q r δ' → Q v H') : LE K de σ H Q := ⟨F0, H0, io, F, δ, q, R, h, k⟩
theorem LT.of {de : DT} {Q : Bool → Hp → Prop} {q : Bool → De → Prop} (R : Rel K F0 H0 io F H σ δ) (h : de δ q) (k : ∀ b F' H' δ', Rel K F0 H0 io F' H' σ δ' → Step K H0 F H σ δ F' H' δ' (.d .none) .non → q b δ' → Q b H') : LT K de σ H Q := ⟨F0, H0, io, F, δ, q, R, h, k⟩
theorem LA.of {da : DA} {Q : List V → Hp → Prop} {q : List Rv → De → Prop} (R : Rel K F0 H0 io F H σ δ) (h : da δ q) (k : ∀ vs F' H' rs δ', Rel K F0 H0 io F' H' σ δ' → Step K H0 F H σ δ F' H' δ' (.d .none) .non → (∀ l xs, Loose K H0 F H σ δ l xs → NoNew (.ref l) rs vs) → RvAll K H0 F' H' σ δ' rs vs → q rs δ' → Q vs H') : LA K da σ H Q := ⟨F0, H0, io, F, δ, q, R, h, k⟩

/-! ### names and constants -/
def dVar (i : Nat) (δ : De) (q : Rv → De → Prop) : Prop := match δ[i]? with
  | some (some (.d x)) => q (.d x) δ
  | some (some _) => q (.var i) δ
  | _ => False
def dC (x : PyData) (δ : De) (q : Rv → De → Prop) : Prop := q (.d x) δ
theorem le_var {i : Nat} {Q : VK} (h : LE K (dVar i) σ H Q) : tVar i σ H Q := by
  obtain ⟨F0, H0, io, F, δ, q, R, h, k⟩ := h
  unfold dVar at h
  split at h
  · rename_i x hd
    obtain ⟨v, e1, e2⟩ := R.at_ i _ hd
    exact ⟨v, e1, k v F H (.d x) δ R (.refl _) e2 h⟩
  · rename_i s _ hd
    obtain ⟨v, e1, e2⟩ := R.at_ i _ hd
    exact ⟨v, e1, k v F H (.var i) δ R (.refl _) e1 h⟩
  · exact h.elim
theorem le_c {x : PyData} {v : V} {Q : VK} (hv : ∀ F, At K F x v) (h : LE K (dC x) σ H Q) : tC v σ H Q := by
  obtain ⟨F0, H0, io, F, δ, q, R, h, k⟩ := h
  exact k v F H (.d x) δ R (.refl _) (hv F) h

/-! ### operations on two values -/
/-- what is asked of two data -/
abbrev G2 := PyData → PyData → (Rv → Prop) → Prop
def two (δ : De) (r s : Rv) (k : PyData → PyData → Prop) : Prop := match deref δ (DL.sett r), deref δ (DL.sett s) with
  | some x, some y => k x y
  | _, _ => False
def kZ (q : Rv → De → Prop) (δ : De) (z : Rv) : Prop := q z δ
def kOp3 (g : G2) (q : Rv → De → Prop) (δ : De) (x y : PyData) : Prop := g x y (kZ q δ)
def kOp2 (g : G2) (r : Rv) (q : Rv → De → Prop) (s : Rv) (δ : De) : Prop := two δ r s (kOp3 g q δ)
def kOp1 (g : G2) (db : DE) (q : Rv → De → Prop) (r : Rv) (δ : De) : Prop := db δ (kOp2 g r q)
def dOp (g : G2) (da db : DE) (δ : De) (q : Rv → De → Prop) : Prop := da δ (kOp1 g db q)
def OpD (K : Frag) (r : R2) (g : G2) : Prop := ∀ (F0 H0 : Hp) (io : List Addr) (F H : Hp) (σ : L2.St) (δ : De) (x y : V) (d e : PyData) (q : Rv → Prop) (Q : VK), Rel K F0 H0 io F H σ δ → AtT K F H d x → AtT K F H e y → g d e q →
  (∀ v F' H' z, Rel K F0 H0 io F' H' σ δ → Step K H0 F H σ δ F' H' δ z v → RvAt K H0 F' H' σ δ z v → q z → Q v H') → r x y H Q
theorem le_op {r : R2} {g : G2} {da db : DE} {Q : VK} (ho : OpD K r g) (h : LE K (dOp g da db) σ H Q) : tOp r (LE K da) (LE K db) σ H Q := by
  obtain ⟨F0, H0, io, F, δ, q, R, h, k⟩ := h
  refine LE.of R h fun x F1 H1 r1 δ1 R1 e1 a1 h1 => ?_
  obtain ⟨F2, R2, e2, a2⟩ := R1.sett e1 a1
  refine LE.of R2 h1 fun y F3 H3 r3 δ3 R3 e3 a3 h3 => ?_
  obtain ⟨F4, R4, e4, a4⟩ := R3.sett e3 a3
  have a5 : RvAt K H0 F4 H3 σ δ3 (DL.sett r1) x := a2.keep e4.ex
  unfold kOp2 two at h3
  split at h3
  · rename_i d e hd he
    exact ho F0 H0 io F4 H3 σ δ3 x y d e _ Q R4 (R4.peek a5 hd) (R4.peek a4 he) h3 fun v F5 H5 z R5 e5 a5 h5 => k v F5 H5 z δ3 R5 ((e2.trans e4).trans e5) a5 h5
  · exact h3.elim
/-- either of two rules -/
theorem op_or {X : Cx} {f : Value → Value → Sem Value} {r r' : R2} (h : OpR X f r) (h' : OpR X f r') : OpR X f (fun x y H Q => r x y H Q ∨ r' x y H Q) := fun pins s σ H x y v u Q I rx ry q => q.elim (h pins s σ H x y v u Q I rx ry) (h' pins s σ H x y v u Q I rx ry)

/-! numbers -/
def gI (f : Int → Int → PyData) (x y : PyData) (q : Rv → Prop) : Prop := match x, y with
  | .int i, .int j => q (.d (f i j))
  | _, _ => False
def gIc (C : Int → Int → Prop) (f : Int → Int → PyData) (x y : PyData) (q : Rv → Prop) : Prop := match x, y with
  | .int i, .int j => C i j ∧ q (.d (f i j))
  | _, _ => False
/-- a scalar's value -/
def valOf : PyData → V
  | .bool b => .bl b
  | .int i => .int i
  | .str x => .str x
  | _ => .non
def isScal : PyData → Bool
  | .none => true
  | .bool _ => true
  | .int _ => true
  | .str _ => true
  | _ => false
theorem at_scal {x : PyData} (h : isScal x = true) : At K F x (valOf x) := by
  cases x <;> first | rfl | (unfold isScal at h; cases h)
theorem opd_I {f : Int → Int → PyData} (hf : ∀ i j, isScal (f i j) = true) : OpD K (rI0 fun i j => valOf (f i j)) (gI f) := fun F0 H0 io F H σ δ x y d e q Q R hx hy h k => by
  unfold gI at h
  split at h
  · rename_i i j
    cases hx; cases hy
    exact ⟨i, j, rfl, rfl, k _ F H (.d (f i j)) R (.refl _) (at_scal (hf i j)) h⟩
  · exact h.elim
theorem opd_Ic {C : Int → Int → Prop} {f : Int → Int → PyData} (hf : ∀ i j, isScal (f i j) = true) : OpD K (rI C fun i j => valOf (f i j)) (gIc C f) := fun F0 H0 io F H σ δ x y d e q Q R hx hy h k => by
  unfold gIc at h
  split at h
  · rename_i i j
    cases hx; cases hy
    exact ⟨i, j, rfl, rfl, h.1, k _ F H (.d (f i j)) R (.refl _) (at_scal (hf i j)) h.2⟩
  · exact h.elim
/-! + of ints, texts, lists, tuples -/
def gAdd (x y : PyData) (q : Rv → Prop) : Prop := match x, y with
  | .int i, .int j => q (.d (.int (i + j)))
  | .str a, .str b => a.length + b.length ≤ sizeLine ∧ q (.d (.str (a ++ b)))
  | .list xs, .list ys => xs.length + ys.length ≤ sizeLine ∧ q (.new (xs ++ ys))
  | .tuple xs, .tuple ys => xs.length + ys.length ≤ sizeLine ∧ q (.d (.tuple (xs ++ ys)))
  | _, _ => False
def rStrAdd : R2 := fun x y H Q => ∃ i j, x = .str i ∧ y = .str j ∧ i.length + j.length ≤ sizeLine ∧ Q (.str (i ++ j)) H
def rAddU (K : Frag) : R2 := fun x y H Q => (rI0 (fun i j => .int (i + j)) x y H Q ∨ rStrAdd x y H Q) ∨ (rCat x y H Q ∨ rCatA K x y H Q)
theorem op_addU {X : Cx} : OpR X (binaryOp .Add) (rAddU X.K) := op_or (op_or op_add op_add_str) (op_or op_cat op_catA)
theorem Rel.loose (R : Rel K F0 H0 io F H σ δ) {p : Addr} (hp : H p = none) (xs : List V) : Loose K H0 F (upd H p (.lst xs)) σ δ p xs :=
  ⟨upd_same, Evl.fresh_back R.fh hp, R.new0 hp, fun i s e o z => by
    obtain ⟨v, e1, e2⟩ := R.at_ i s e
    cases s with
    | d x => cases o
    | scr n => cases o
    | own t ds =>
      obtain ⟨l, ys, rfl, h1, _⟩ := e2
      rw [z] at e1; cases e1
      rw [hp] at h1; cases h1⟩
theorem opd_add : OpD K (rAddU K) gAdd := fun F0 H0 io F H σ δ x y d e q Q R hx hy h k => by
  unfold gAdd at h
  split at h
  · rename_i i j
    cases hx; cases hy
    exact .inl (.inl ⟨i, j, rfl, rfl, k _ F H (.d (.int (i + j))) R (.refl _) rfl h⟩)
  · rename_i a b
    cases hx; cases hy
    exact .inl (.inr ⟨a, b, rfl, rfl, h.1, k _ F H (.d (.str (a ++ b))) R (.refl _) rfl h.2⟩)
  · rename_i xs ys
    obtain ⟨a, us, rfl, h1, h2⟩ := hx
    obtain ⟨b, ws, rfl, h3, h4⟩ := hy
    refine .inr (.inl ⟨a, b, us, ws, rfl, rfl, h1, h3, by rw [h2.length, h4.length]; exact h.1, fun p hp => ?_⟩)
    exact k _ F _ (.new (xs ++ ys)) (R.newO hp _) (.newO hp _ _) ⟨p, _, rfl, R.loose hp _, h2.append h4⟩ h.2
  · rename_i xs ys
    obtain ⟨a, us, rfl, h1, h2⟩ := hx
    obtain ⟨b, ws, rfl, h3, h4⟩ := hy
    have hl1 := h2.length
    have hl2 := h4.length
    refine .inr (.inr ⟨a, b, us, ws, rfl, rfl, Evl.ex_t R.fh h1, Evl.ex_t R.fh h3, by rw [hl1, hl2]; exact h.1, fun z => ?_, fun _ z => ?_, fun _ _ p hp => ?_⟩)
    · have : xs = [] := by cases xs with
        | nil => rfl
        | cons c r => rw [z] at hl1; cases hl1
      subst this
      exact k _ F H (.d (.tuple ([] ++ ys))) R (.refl _) ⟨b, ws, rfl, h3, h4⟩ h.2
    · have : ys = [] := by cases ys with
        | nil => rfl
        | cons c r => rw [z] at hl2; cases hl2
      subst this
      refine k _ F H (.d (.tuple (xs ++ []))) R (.refl _) ⟨a, us, rfl, h1, ?_⟩ h.2
      rw [List.append_nil]; exact h2
    · have fp := Evl.fresh_back R.fh hp
      refine k _ _ _ (.d (.tuple (xs ++ ys))) (R.newF hp _) (.newF hp fp _ _) ⟨p, _, rfl, .inl (.inl upd_same), AtAll.mono (ex_upd fp) _ _ (h2.append h4)⟩ h.2
  · exact h.elim
/-! * of ints; a list, a tuple, times an int -/
def repS (x : Str) (n : Nat) : Str := ⟨(List.replicate n x.cps).foldl (· ++ ·) #[]⟩
theorem rep_size (c : Array Nat) : ∀ (n : Nat) (acc : Array Nat), ((List.replicate n c).foldl (· ++ ·) acc).size = acc.size + n * c.size
  | 0, acc => by simp
  | n + 1, acc => by
    rw [List.replicate_succ, List.foldl_cons, rep_size c n, Array.size_append, Nat.succ_mul]
    omega
theorem repS_length (x : Str) (n : Nat) : (repS x n).length = n * x.length := by
  show ((List.replicate n x.cps).foldl (· ++ ·) #[]).size = _
  rw [rep_size, Array.size_empty, Nat.zero_add]; rfl
def CRepS (x : Str) (k : Int) : Prop := 2 ≤ k ∧ k ≤ 1000 ∧ 0 < x.length ∧ x.length ≤ 1000
def rRepS : R2 := fun x y H Q => ∃ z k, x = .str z ∧ y = .int k ∧ CRepS z k ∧ Q (.str (repS z k.toNat)) H
theorem op_repS {X : Cx} : OpR X (binaryOp .Mult) rRepS := fun pins s σ H x y v u Q I rx ry h => by
  obtain ⟨z, k, rfl, rfl, ⟨h1, h2, h3, h4⟩, q⟩ := h
  obtain ⟨t, rfl⟩ := rx
  obtain ⟨t', rfl⟩ := ry
  have hm : z.length * k.toNat ≤ 1000 * 1000 := Nat.mul_le_mul h4 (by omega)
  have hb : z.length * k.toNat ≤ sizeLine := Nat.le_trans hm (by decide)
  refine PySem.P.mul_str ?_ (fun _ _ => ?_) (fun _ _ => ?_) ?_
  · rw [decide_eq_false (by omega), decide_eq_false (by omega)]; rfl
  · intro hgt
    have : (z.length : Int) * k ≤ (2 ^ 63 - 1) := by
      have : ((z.length * k.toNat : Nat) : Int) ≤ 1000 * 1000 := by omega
      rw [Int.natCast_mul, Int.toNat_of_nonneg (by omega)] at this
      omega
    have := Int.le_ediv_of_mul_le (by omega : 0 < k) this
    omega
  · first | exact decide_eq_false (by omega) | (unfold Builtin.Str.tooLong; exact decide_eq_false (by omega)) | (simp [Builtin.Str.tooLong]; omega)
  · rw [if_neg (by omega), if_neg (by
      rw [Bool.or_eq_true]
      rintro (z1 | z1)
      · have := eq_of_beq z1; omega
      · have := eq_of_beq z1; omega)]
    exact ⟨by first | exact decide_eq_false (by omega) | (show (repS z k.toNat).length ≤ sizeLine; rw [repS_length, Nat.mul_comm]; exact hb), .str _, H, I.tok _, ⟨_, rfl⟩, q⟩
def gMul (x y : PyData) (q : Rv → Prop) : Prop := match x, y with
  | .int i, .int j => CMulW i j ∧ q (.d (.int (i * j)))
  | .str z, .int k => CRepS z k ∧ q (.d (.str (repS z k.toNat)))
  | .list xs, .int k => (-(2 ^ 63) ≤ k ∧ k < 2 ^ 63 ∧ xs.length * k.toNat ≤ sizeLine) ∧ q (.new (List.replicate k.toNat xs).flatten)
  | _, _ => False
def rMulU : R2 := fun x y H Q => rI CMulW (fun i j => .int (i * j)) x y H Q ∨ rRep x y H Q ∨ rRepS x y H Q
theorem op_mulU {X : Cx} : OpR X (binaryOp .Mult) rMulU := op_or op_mulW (op_or op_rep op_repS)
theorem AtAll.rep {xs : List PyData} {vs : List V} (h : AtAll K F xs vs) : ∀ n : Nat, AtAll K F (List.replicate n xs).flatten (List.replicate n vs).flatten
  | 0 => rfl
  | n + 1 => by
    rw [List.replicate_succ, List.replicate_succ, List.flatten_cons, List.flatten_cons]
    exact h.append (AtAll.rep h n)
theorem opd_mul : OpD K rMulU gMul := fun F0 H0 io F H σ δ x y d e q Q R hx hy h k => by
  unfold gMul at h
  split at h
  · rename_i i j
    cases hx; cases hy
    exact .inl ⟨i, j, rfl, rfl, h.1, k _ F H (.d (.int (i * j))) R (.refl _) rfl h.2⟩
  · rename_i z n
    cases hx; cases hy
    exact .inr (.inr ⟨z, n, rfl, rfl, h.1, k _ F H (.d (.str (repS z n.toNat))) R (.refl _) rfl h.2⟩)
  · rename_i xs n
    obtain ⟨a, us, rfl, h1, h2⟩ := hx
    cases hy
    refine .inr (.inl ⟨a, n, us, rfl, rfl, h1, h.1.1, h.1.2.1, by rw [h2.length]; exact h.1.2.2, fun p hp => ?_⟩)
    exact k _ F _ (.new _) (R.newO hp _) (.newO hp _ _) ⟨p, _, rfl, R.loose hp _, h2.rep _⟩ h.2
  · exact h.elim
/-! == and != of data -/
mutual
def plain : PyData → Bool
  | .dict _ => false
  | .list ds => plainAll ds
  | .tuple ds => plainAll ds
  | .none => true
  | .bool _ => true
  | .int _ => true
  | .str _ => true
def plainAll : List PyData → Bool
  | [] => true
  | d :: ds => plain d && plainAll ds
end
mutual
theorem At.dp : ∀ (d : PyData) (v : V), plain d = true → At K F d v → Dp K F v d
  | .none, _, _, h => by cases h; exact .non
  | .bool b, _, _, h => by cases h; exact .bl b
  | .int i, _, _, h => by cases h; exact .int i
  | .str x, _, _, h => by cases h; exact .str x
  | .list ds, _, p, h => by
    obtain ⟨a, xs, rfl, h1, h2⟩ := h
    unfold plain at p
    exact .lst (.inl (.inl h1)) (AtAll.dp ds xs p h2)
  | .tuple ds, _, p, h => by
    obtain ⟨a, xs, rfl, h1, h2⟩ := h
    unfold plain at p
    exact .tup h1 (AtAll.dp ds xs p h2)
  | .dict _, _, p, _ => by unfold plain at p; cases p
theorem AtAll.dp : ∀ (ds : List PyData) (vs : List V), plainAll ds = true → AtAll K F ds vs → DpAll K F vs ds
  | [], _, _, h => by cases h; exact .nil
  | d :: ds, _, p, h => by
    obtain ⟨v, r, rfl, h1, h2⟩ := h
    unfold plainAll at p
    rw [Bool.and_eq_true] at p
    exact .cons (At.dp d v p.1 h1) (AtAll.dp ds r p.2 h2)
end
/-- fit to be compared -/
def cmpOk (x : PyData) : Bool := plain x && SeqAt.shaped x
def bothS : PyData → PyData → Bool
  | .str _, .str _ => true
  | _, _ => false
def cmp2 (x y : PyData) : Bool := bothS x y || (cmpOk x && cmpOk y)
def gEq (x y : PyData) (q : Rv → Prop) : Prop := cmp2 x y = true ∧ q (.d (.bool (PyData.eqv x y)))
def gNe (x y : PyData) (q : Rv → Prop) : Prop := cmp2 x y = true ∧ q (.d (.bool (!PyData.eqv x y)))
end
end DL

namespace DL
open PySem PySem.Spec PyProof.Rows L2
section
variable {K : Frag} {F0 H0 : Hp} {io : List Addr} {F H F' H' : Hp} {σ : L2.St} {δ δ' : De}
/-! ### what may be read besides: the script -/
def derefS (δ : De) : Rv → Option PyData
  | .d x => some x
  | .var i => match δ[i]? with
    | some (some (.own _ xs)) => some (.list xs)
    | some (some (.d x)) => some x
    | some (some (.scr ns)) => some (.list (ns.map .int))
    | _ => none
  | .new xs => some (.list xs)
def AtS (K : Frag) (F H : Hp) : PyData → V → Prop
  | .list ds, v => ∃ a xs, v = .ref a ∧ SqL K H a xs ∧ AtAll K F ds xs
  | d, v => At K F d v
theorem AtT.s : ∀ {d : PyData} {v : V}, AtT K F H d v → AtS K F H d v
  | .none, _, h => h
  | .bool _, _, h => h
  | .int _, _, h => h
  | .str _, _, h => h
  | .tuple _, _, h => h
  | .dict _, _, h => h
  | .list _, _, ⟨a, xs, e, h1, h2⟩ => ⟨a, xs, e, .inl (.inl h1), h2⟩
theorem atAll_ints : ∀ ns : List Int, AtAll K F (ns.map .int) (ns.map V.int)
  | [] => rfl
  | n :: ns => ⟨_, _, rfl, rfl, atAll_ints ns⟩
theorem Rel.peekS (R : Rel K F0 H0 io F H σ δ) {r : Rv} {v : V} {d : PyData} (h : RvAt K H0 F H σ δ r v) (e : derefS δ r = some d) : AtS K F H d v := by
  cases r with
  | d x => cases e; exact (At.top R.fh h).s
  | new ds => exact (R.peek (r := .new ds) h e).s
  | var i =>
    have hv : σ[i]? = some (some v) := h
    simp only [derefS] at e
    split at e
    · rename_i t xs hd
      exact (R.peek (r := .var i) h (by simp only [deref]; rw [hd]; exact e)).s
    · rename_i x hd
      exact (R.peek (r := .var i) h (by simp only [deref]; rw [hd]; exact e)).s
    · rename_i ns hd
      cases e
      obtain ⟨u, e1, a, rfl, h1⟩ := R.at_ i _ hd
      rw [hv] at e1; cases e1
      exact ⟨a, _, rfl, Evl.ex_l R.fh h1, atAll_ints ns⟩
    · cases e
def twoS (δ : De) (r s : Rv) (k : PyData → PyData → Prop) : Prop := match derefS δ (DL.sett r), derefS δ (DL.sett s) with
  | some x, some y => k x y
  | _, _ => False
def kOpS2 (g : G2) (r : Rv) (q : Rv → De → Prop) (s : Rv) (δ : De) : Prop := twoS δ r s (kOp3 g q δ)
def kOpS1 (g : G2) (db : DE) (q : Rv → De → Prop) (r : Rv) (δ : De) : Prop := db δ (kOpS2 g r q)
def dOpS (g : G2) (da db : DE) (δ : De) (q : Rv → De → Prop) : Prop := da δ (kOpS1 g db q)
def OpS (K : Frag) (r : R2) (g : G2) : Prop := ∀ (F0 H0 : Hp) (io : List Addr) (F H : Hp) (σ : L2.St) (δ : De) (x y : V) (d e : PyData) (q : Rv → Prop) (Q : VK), Rel K F0 H0 io F H σ δ → AtS K F H d x → AtS K F H e y → g d e q →
  (∀ v F' H' z, Rel K F0 H0 io F' H' σ δ → Step K H0 F H σ δ F' H' δ z v → RvAt K H0 F' H' σ δ z v → q z → Q v H') → r x y H Q
theorem le_opS {r : R2} {g : G2} {da db : DE} {Q : VK} (ho : OpS K r g) (h : LE K (dOpS g da db) σ H Q) : tOp r (LE K da) (LE K db) σ H Q := by
  obtain ⟨F0, H0, io, F, δ, q, R, h, k⟩ := h
  refine LE.of R h fun x F1 H1 r1 δ1 R1 e1 a1 h1 => ?_
  obtain ⟨F2, R2, e2, a2⟩ := R1.sett e1 a1
  refine LE.of R2 h1 fun y F3 H3 r3 δ3 R3 e3 a3 h3 => ?_
  obtain ⟨F4, R4, e4, a4⟩ := R3.sett e3 a3
  have a5 : RvAt K H0 F4 H3 σ δ3 (DL.sett r1) x := a2.keep e4.ex
  unfold kOpS2 twoS at h3
  split at h3
  · rename_i d e hd he
    exact ho F0 H0 io F4 H3 σ δ3 x y d e _ Q R4 (R4.peekS a5 hd) (R4.peekS a4 he) h3 fun v F5 H5 z R5 e5 a5 h5 => k v F5 H5 z δ3 R5 ((e2.trans e4).trans e5) a5 h5
  · exact h3.elim
/-! a value's truth -/
def truth : PyData → Option Bool
  | .none => some false
  | .bool b => some b
  | .int i => some (i != 0)
  | .str y => if y.length ≤ sizeLine then some ((y.length : Int) != 0) else none
  | .list xs => some (!xs.isEmpty)
  | .tuple xs => some (!xs.isEmpty)
  | .dict kvs => some (!kvs.isEmpty)
theorem AtAll.isEmpty {ds : List PyData} {vs : List V} (h : AtAll K F ds vs) : (!ds.isEmpty) = !vs.isEmpty := by
  have := h.length
  cases ds <;> cases vs <;> first | rfl | cases this
theorem AtKv.isEmpty : ∀ {ds : List (PyData × PyData)} {vs : List (Key × V)}, AtKv K F ds vs → (!ds.isEmpty) = !vs.isEmpty
  | [], _, h => by cases h; rfl
  | (a, b) :: r, _, h => by obtain ⟨_, _, _, rfl, _⟩ := h; rfl
theorem tru_at (fh : Ex F H) {d : PyData} {v : V} {b : Bool} (h : AtS K F H d v) (e : truth d = some b) : TruV K v H b := by
  cases d with
  | none => cases h; cases e; rfl
  | bool c => cases h; cases e; rfl
  | int i => cases h; cases e; rfl
  | str y =>
    cases h
    simp only [truth] at e
    split at e
    · rename_i hy
      cases e
      exact ⟨hy, rfl⟩
    · cases e
  | list xs =>
    obtain ⟨a, us, rfl, h1, h2⟩ := h
    cases e
    exact .inl ⟨us, h1, h2.isEmpty⟩
  | tuple xs =>
    obtain ⟨a, us, rfl, h1, h2⟩ := h
    cases e
    exact .inr (.inl ⟨us, Evl.ex_t fh h1, h2.isEmpty⟩)
  | dict ps =>
    obtain ⟨a, us, rfl, h1, h2⟩ := h
    cases e
    exact .inr (.inr ⟨us, fh _ _ h1, h2.isEmpty⟩)
def kTru (q : Bool → De → Prop) (r : Rv) (δ1 : De) : Prop := match derefS δ1 (DL.sett r) with
  | some d => (match truth d with
    | some b => q b δ1
    | none => False)
  | none => False
def dTru (de : DE) (δ : De) (q : Bool → De → Prop) : Prop := de δ (kTru q)
theorem lt_tru {de : DE} {Q : Bool → Hp → Prop} (h : LT K (dTru de) σ H Q) : LE K de σ H fun x H' => ∃ k, TruV K x H' k ∧ Q k H' := by
  obtain ⟨F0, H0, io, F, δ, q, R, h, k⟩ := h
  refine LE.of R h fun x F1 H1 r1 δ1 R1 e1 a1 h1 => ?_
  obtain ⟨F2, R2, e2, a2⟩ := R1.sett e1 a1
  try (first | simp only [kTru] at h1 | simp only [kTest] at h1 | simp only [kAndV] at h1 | simp only [kOrV] at h1 | simp only [kNotV] at h1 | simp only [kCh4] at h1)
  split at h1
  · rename_i d hd
    split at h1
    · rename_i b hb
      exact ⟨b, tru_at R2.fh (R2.peekS a2 hd) hb, k b F2 H1 δ1 R2 (e2.as _) h1⟩
    · exact h1.elim
  · exact h1.elim
/-- a test of a comparison: its value is a bool -/
def kTest (q : Bool → De → Prop) (r : Rv) (δ1 : De) : Prop := match r with
  | .d (.bool b) => q b δ1
  | _ => False
def dTest (de : DE) (δ : De) (q : Bool → De → Prop) : Prop := de δ (kTest q)
theorem lt_test {de : DE} {te : TE} {Q : Bool → Hp → Prop} (ho : ∀ Q : VK, LE K de σ H Q → te σ H Q) (h : LT K (dTest de) σ H Q) : tTest te σ H Q := by
  obtain ⟨F0, H0, io, F, δ, q, R, h, k⟩ := h
  refine ho _ (LE.of R h fun x F1 H1 r1 δ1 R1 e1 a1 h1 => ?_)
  try (first | simp only [kTru] at h1 | simp only [kTest] at h1 | simp only [kAndV] at h1 | simp only [kOrV] at h1 | simp only [kNotV] at h1 | simp only [kCh4] at h1)
  split at h1
  · rename_i b
    cases a1
    exact ⟨b, rfl, k b F1 H1 δ1 R1 (e1.as _) h1⟩
  · exact h1.elim
/-! and, or, not; if else -/
def kAnd (u : DT) (q : Bool → De → Prop) (c : Bool) (δ1 : De) : Prop := @boxIf c ⟨(u δ1 q, q false δ1)⟩
def dAnd (t u : DT) (δ : De) (q : Bool → De → Prop) : Prop := t δ (kAnd u q)
def kOr (u : DT) (q : Bool → De → Prop) (c : Bool) (δ1 : De) : Prop := @boxIf c ⟨(q true δ1, u δ1 q)⟩
def dOr (t u : DT) (δ : De) (q : Bool → De → Prop) : Prop := t δ (kOr u q)
def kNot (q : Bool → De → Prop) (c : Bool) (δ1 : De) : Prop := q (!c) δ1
def dNot (t : DT) (δ : De) (q : Bool → De → Prop) : Prop := t δ (kNot q)
theorem lt_and {t u : DT} {Q : Bool → Hp → Prop} (h : LT K (dAnd t u) σ H Q) : tAnd (LT K t) (LT K u) σ H Q := by
  obtain ⟨F0, H0, io, F, δ, q, R, h, k⟩ := h
  refine LT.of R h fun b F1 H1 δ1 R1 e1 h1 => ?_
  cases b with
  | true => exact iteT (LT.of R1 h1 fun b F2 H2 δ2 R2 e2 h2 => k b F2 H2 δ2 R2 (e1.trans e2) h2)
  | false => exact iteF (k false F1 H1 δ1 R1 e1 h1)
theorem lt_or {t u : DT} {Q : Bool → Hp → Prop} (h : LT K (dOr t u) σ H Q) : tOr (LT K t) (LT K u) σ H Q := by
  obtain ⟨F0, H0, io, F, δ, q, R, h, k⟩ := h
  refine LT.of R h fun b F1 H1 δ1 R1 e1 h1 => ?_
  cases b with
  | true => exact iteT (k true F1 H1 δ1 R1 e1 h1)
  | false => exact iteF (LT.of R1 h1 fun b F2 H2 δ2 R2 e2 h2 => k b F2 H2 δ2 R2 (e1.trans e2) h2)
theorem lt_not {t : DT} {Q : Bool → Hp → Prop} (h : LT K (dNot t) σ H Q) : tNot (LT K t) σ H Q := by
  obtain ⟨F0, H0, io, F, δ, q, R, h, k⟩ := h
  exact LT.of R h fun b F1 H1 δ1 R1 e1 h1 => k (!b) F1 H1 δ1 R1 e1 h1
/-- as values: bools but for the last -/
def kAndV (b : DE) (q : Rv → De → Prop) (r : Rv) (δ1 : De) : Prop := match r with
  | .d (.bool c) => @boxIf c ⟨(b δ1 q, q (.d (.bool false)) δ1)⟩
  | _ => False
def dAndV (a b : DE) (δ : De) (q : Rv → De → Prop) : Prop := a δ (kAndV b q)
def kOrV (b : DE) (q : Rv → De → Prop) (r : Rv) (δ1 : De) : Prop := match r with
  | .d (.bool c) => @boxIf c ⟨(q (.d (.bool true)) δ1, b δ1 q)⟩
  | _ => False
def dOrV (a b : DE) (δ : De) (q : Rv → De → Prop) : Prop := a δ (kOrV b q)
def kNotV (q : Rv → De → Prop) (r : Rv) (δ1 : De) : Prop := match r with
  | .d (.bool c) => q (.d (.bool (!c))) δ1
  | _ => False
def dNotV (a : DE) (δ : De) (q : Rv → De → Prop) : Prop := a δ (kNotV q)
theorem le_andV {a b : DE} {Q : VK} (h : LE K (dAndV a b) σ H Q) : tAndV (LE K a) (LE K b) σ H Q := by
  obtain ⟨F0, H0, io, F, δ, q, R, h, k⟩ := h
  refine LE.of R h fun x F1 H1 r1 δ1 R1 e1 a1 h1 => ?_
  try (first | simp only [kTru] at h1 | simp only [kTest] at h1 | simp only [kAndV] at h1 | simp only [kOrV] at h1 | simp only [kNotV] at h1 | simp only [kCh4] at h1)
  split at h1
  · rename_i c
    cases a1
    refine ⟨c, rfl, ?_⟩
    cases c with
    | true => exact iteT (LE.of R1 h1 fun v F2 H2 r δ2 R2 e2 a2 h2 => k v F2 H2 r δ2 R2 (e1.trans e2) a2 h2)
    | false => exact iteF (k _ F1 H1 (.d (.bool false)) δ1 R1 (e1.as _) rfl h1)
  · exact h1.elim
theorem le_orV {a b : DE} {Q : VK} (h : LE K (dOrV a b) σ H Q) : tOrV (LE K a) (LE K b) σ H Q := by
  obtain ⟨F0, H0, io, F, δ, q, R, h, k⟩ := h
  refine LE.of R h fun x F1 H1 r1 δ1 R1 e1 a1 h1 => ?_
  try (first | simp only [kTru] at h1 | simp only [kTest] at h1 | simp only [kAndV] at h1 | simp only [kOrV] at h1 | simp only [kNotV] at h1 | simp only [kCh4] at h1)
  split at h1
  · rename_i c
    cases a1
    refine ⟨c, rfl, ?_⟩
    cases c with
    | true => exact iteT (k _ F1 H1 (.d (.bool true)) δ1 R1 (e1.as _) rfl h1)
    | false => exact iteF (LE.of R1 h1 fun v F2 H2 r δ2 R2 e2 a2 h2 => k v F2 H2 r δ2 R2 (e1.trans e2) a2 h2)
  · exact h1.elim
theorem le_notV {a : DE} {Q : VK} (h : LE K (dNotV a) σ H Q) : tNotV (LE K a) σ H Q := by
  obtain ⟨F0, H0, io, F, δ, q, R, h, k⟩ := h
  refine LE.of R h fun x F1 H1 r1 δ1 R1 e1 a1 h1 => ?_
  try (first | simp only [kTru] at h1 | simp only [kTest] at h1 | simp only [kAndV] at h1 | simp only [kOrV] at h1 | simp only [kNotV] at h1 | simp only [kCh4] at h1)
  split at h1
  · rename_i c
    cases a1
    exact ⟨c, rfl, k _ F1 H1 (.d (.bool (!c))) δ1 R1 (e1.as _) rfl h1⟩
  · exact h1.elim
def kIf (a b : DE) (q : Rv → De → Prop) (c : Bool) (δ1 : De) : Prop := @boxIf c ⟨(a δ1 q, b δ1 q)⟩
def dIf (t : DT) (a b : DE) (δ : De) (q : Rv → De → Prop) : Prop := t δ (kIf a b q)
theorem le_if {t : DT} {a b : DE} {Q : VK} (h : LE K (dIf t a b) σ H Q) : tIf (LT K t) (LE K a) (LE K b) σ H Q := by
  obtain ⟨F0, H0, io, F, δ, q, R, h, k⟩ := h
  refine LT.of R h fun c F1 H1 δ1 R1 e1 h1 => ?_
  cases c with
  | true => exact iteT (LE.of R1 h1 fun v F2 H2 r δ2 R2 e2 a2 h2 => k v F2 H2 r δ2 R2 (e1.trans e2) a2 h2)
  | false => exact iteF (LE.of R1 h1 fun v F2 H2 r δ2 R2 e2 a2 h2 => k v F2 H2 r δ2 R2 (e1.trans e2) a2 h2)
/-! a chain of two comparisons -/
def kCh4 (g' : G2) (c : DE) (q : Rv → De → Prop) (s : Rv) (δ2 : De) (z : Rv) : Prop := match z with
  | .d (.bool k) => @boxIf k ⟨(c δ2 (kOpS2 g' s q), q (.d (.bool false)) δ2)⟩
  | _ => False
def kCh3 (g g' : G2) (c : DE) (q : Rv → De → Prop) (s : Rv) (δ2 : De) (x y : PyData) : Prop := g x y (kCh4 g' c q s δ2)
def kCh2 (g g' : G2) (c : DE) (q : Rv → De → Prop) (r : Rv) (s : Rv) (δ2 : De) : Prop := twoS δ2 r s (kCh3 g g' c q s δ2)
def kCh1 (g g' : G2) (b c : DE) (q : Rv → De → Prop) (r : Rv) (δ1 : De) : Prop := b δ1 (kCh2 g g' c q r)
def dChain (g g' : G2) (a b c : DE) (δ : De) (q : Rv → De → Prop) : Prop := a δ (kCh1 g g' b c q)
theorem le_chain {r r' : R2} {g g' : G2} {a b c : DE} {Q : VK} (ho : OpS K r g) (ho' : OpS K r' g') (h : LE K (dChain g g' a b c) σ H Q) : tChain r r' (LE K a) (LE K b) (LE K c) σ H Q := by
  obtain ⟨F0, H0, io, F, δ, q, R, h, k⟩ := h
  refine LE.of R h fun x F1 H1 r1 δ1 R1 e1 a1 h1 => ?_
  obtain ⟨F2, R2, e2, a2⟩ := R1.sett e1 a1
  refine LE.of R2 h1 fun y F3 H3 r3 δ3 R3 e3 a3 h3 => ?_
  obtain ⟨F4, R4, e4, a4⟩ := R3.sett e3 a3
  have a5 : RvAt K H0 F4 H3 σ δ3 (DL.sett r1) x := a2.keep e4.ex
  unfold kCh2 twoS at h3
  split at h3
  · rename_i d e hd he
    refine ho F0 H0 io F4 H3 σ δ3 x y d e _ _ R4 (R4.peekS a5 hd) (R4.peekS a4 he) h3 fun v F5 H5 z R5 e5 a6 h5 => ?_
    have ex5 := (e2.trans e4).trans e5
    try (first | simp only [kTru] at h5 | simp only [kTest] at h5 | simp only [kAndV] at h5 | simp only [kOrV] at h5 | simp only [kNotV] at h5 | simp only [kCh4] at h5)
    split at h5
    · rename_i kb
      cases a6
      refine ⟨kb, rfl, ?_⟩
      cases kb with
      | true =>
        refine iteT (LE.of R5 h5 fun w F6 H6 r6 δ6 R6 e6 a7 h6 => ?_)
        obtain ⟨F7, R7, e7, a8⟩ := R6.sett e6 a7
        have a9 : RvAt K H0 F7 H6 σ δ6 (DL.sett r3) y := a4.keep (e5.ex.trans e7.ex)
        unfold kOpS2 twoS at h6
        split at h6
        · rename_i d2 e2' hd2 he2
          exact ho' F0 H0 io F7 H6 σ δ6 y w d2 e2' _ Q R7 (R7.peekS a9 hd2) (R7.peekS a8 he2) h6 fun v F8 H8 z R8 e8 a8 h8 => k v F8 H8 z δ6 R8 ((ex5.trans e7).trans e8) a8 h8
        · exact h6.elim
      | false => exact iteF (k _ F5 H5 (.d (.bool false)) δ3 R5 (ex5.as _) rfl h5)
    · exact h5.elim
  · exact h3.elim
/-! xs[i], t[i], s[i] -/
def gIx (x y : PyData) (q : Rv → Prop) : Prop := match x, y with
  | .list xs, .int i => (match atI xs i with
    | some z => q (.d z)
    | none => False)
  | .tuple xs, .int i => (match atI xs i with
    | some z => q (.d z)
    | none => False)
  | .str z, .int i => z.length ≤ sizeLine ∧ (match atI z.cps.toList i with
    | some c => q (.d (.str ⟨#[c]⟩))
    | none => False)
  | _, _ => False
theorem AtAll.atI {ds : List PyData} {vs : List V} {i : Int} {d : PyData} (h : AtAll K F ds vs) (e : L2.atI ds i = some d) : ∃ v, L2.atI vs i = some v ∧ At K F d v := by
  unfold L2.atI at e ⊢
  rw [h.length]
  cases q : ixN ds.length i with
  | none => rw [q] at e; cases e
  | some j => rw [q] at e; exact h.get e
def rIxU (K : Frag) : R2 := fun x y H Q => rIxL K x y H Q ∨ rIxT K x y H Q ∨ rIxS x y H Q
theorem ix_or {X : Cx} {r r' : R2} (h : IxR X r) (h' : IxR X r') : IxR X (fun x y H Q => r x y H Q ∨ r' x y H Q) := fun a b pins s σ H x y v u Q I rx ry q e => q.elim (fun q => h a b pins s σ H x y v u Q I rx ry q e) fun q => h' a b pins s σ H x y v u Q I rx ry q e
theorem ix_U {X : Cx} : IxR X (rIxU X.K) := ix_or ix_list (ix_or ix_tup ix_str)
theorem ops_ix : OpS K (rIxU K) gIx := fun F0 H0 io F H σ δ x y d e q Q R hx hy h k => by
  unfold gIx at h
  split at h
  · rename_i xs i
    obtain ⟨a, us, rfl, h1, h2⟩ := hx
    cases hy
    split at h
    · rename_i z hz
      obtain ⟨v, e1, e2⟩ := h2.atI hz
      exact .inl ⟨a, us, i, v, rfl, rfl, h1, e1, k v F H (.d z) R (.refl _) e2 h⟩
    · exact h.elim
  · rename_i xs i
    obtain ⟨a, us, rfl, h1, h2⟩ := hx
    cases hy
    split at h
    · rename_i z hz
      obtain ⟨v, e1, e2⟩ := h2.atI hz
      exact .inr (.inl ⟨a, us, i, v, rfl, rfl, Evl.ex_t R.fh h1, e1, k v F H (.d z) R (.refl _) e2 h⟩)
    · exact h.elim
  · rename_i z i
    cases hx; cases hy
    obtain ⟨hl, h⟩ := h
    split at h
    · rename_i c hc
      exact .inr (.inr ⟨z, i, c, rfl, rfl, hl, hc, k _ F H (.d (.str ⟨#[c]⟩)) R (.refl _) rfl h⟩)
    · exact h.elim
  · exact h.elim
/-! comparisons: ints, texts -/
def gCmp (f : Int → Int → Bool) (g : List Nat → List Nat → Bool) (x y : PyData) (q : Rv → Prop) : Prop := match x, y with
  | .int i, .int j => q (.d (.bool (f i j)))
  | .str a, .str b => q (.d (.bool (g a.cps.toList b.cps.toList)))
  | _, _ => False
def rStrC (g : List Nat → List Nat → Bool) : R2 := fun x y H Q => ∃ i j, x = .str i ∧ y = .str j ∧ Q (.bl (g i.cps.toList j.cps.toList)) H
def rCmp (f : Int → Int → Bool) (g : List Nat → List Nat → Bool) : R2 := fun x y H Q => rI0 (fun i j => .bl (f i j)) x y H Q ∨ rStrC g x y H Q
theorem ops_cmp {f : Int → Int → Bool} {g : List Nat → List Nat → Bool} : OpS K (rCmp f g) (gCmp f g) := fun F0 H0 io F H σ δ x y d e q Q R hx hy h k => by
  unfold gCmp at h
  split at h
  · rename_i i j
    cases hx; cases hy
    exact .inl ⟨i, j, rfl, rfl, k _ F H (.d (.bool (f i j))) R (.refl _) rfl h⟩
  · rename_i a b
    cases hx; cases hy
    exact .inr ⟨a, b, rfl, rfl, k _ F H (.d (.bool (g a.cps.toList b.cps.toList))) R (.refl _) rfl h⟩
  · exact h.elim
abbrev gLt : G2 := gCmp (fun i j => decide (i < j)) fun a b => decide (a < b)
abbrev gLe : G2 := gCmp (fun i j => decide (i ≤ j)) fun a b => !decide (b < a)
abbrev gGt : G2 := gCmp (fun i j => decide (j < i)) fun a b => decide (b < a)
abbrev gGe : G2 := gCmp (fun i j => decide (j ≤ i)) fun a b => !decide (a < b)
theorem op_ltU {X : Cx} : OpR X (compareOp .Lt) (rCmp (fun i j => decide (i < j)) fun a b => decide (a < b)) := op_or op_lt op_lt_str
theorem op_leU {X : Cx} : OpR X (compareOp .LtE) (rCmp (fun i j => decide (i ≤ j)) fun a b => !decide (b < a)) := op_or op_le op_le_str
theorem op_gtU {X : Cx} : OpR X (compareOp .Gt) (rCmp (fun i j => decide (j < i)) fun a b => decide (b < a)) := op_or op_gt op_gt_str
theorem op_geU {X : Cx} : OpR X (compareOp .GtE) (rCmp (fun i j => decide (j ≤ i)) fun a b => !decide (a < b)) := op_or op_ge op_ge_str
theorem OpD.s {r : R2} {g : G2} (h : OpS K r g) : OpD K r g := fun F0 H0 io F H σ δ x y d e q Q R hx hy hg k => h F0 H0 io F H σ δ x y d e q Q R hx.s hy.s hg k
/-! is None, is not None; is True .. -/
theorem AtS.non (h : AtS K F H .none v) : v = V.non := h
theorem AtS.ne : ∀ {d : PyData} {v : V}, AtS K F H d v → d ≠ .none → v ≠ .non
  | .none, _, _, n => absurd rfl n
  | .bool _, _, h, _ => by cases h; exact fun z => nomatch z
  | .int _, _, h, _ => by cases h; exact fun z => nomatch z
  | .str _, _, h, _ => by cases h; exact fun z => nomatch z
  | .tuple _, _, h, _ => by obtain ⟨_, _, rfl, _⟩ := h; exact fun z => nomatch z
  | .dict _, _, h, _ => by obtain ⟨_, _, rfl, _⟩ := h; exact fun z => nomatch z
  | .list _, _, h, _ => by obtain ⟨_, _, rfl, _⟩ := h; exact fun z => nomatch z
def isNone : PyData → Bool
  | .none => true
  | _ => false
theorem AtS.isN {d : PyData} {v : V} (h : AtS K F H d v) : decide (v = .non) = isNone d := by
  cases d <;> first
    | (cases h; rfl)
    | exact decide_eq_false (h.ne fun z => nomatch z)
def rIs : R2 := fun x y H Q => (y = .non ∧ Q (.bl (decide (x = .non))) H) ∨ rIsB x y H Q
def rIsNot : R2 := fun x y H Q => (y = .non ∧ Q (.bl (!decide (x = .non))) H) ∨ rNotB x y H Q
theorem op_isU {X : Cx} : OpR X (compareOp .Is) rIs := op_or op_isN op_isBl
theorem op_isNotU {X : Cx} : OpR X (compareOp .IsNot) rIsNot := op_or op_notN op_notBl
def gIs1 (x y : PyData) (q : Rv → Prop) : Prop := match y with
  | .none => q (.d (.bool (isNone x)))
  | .bool b => (match x with
    | .bool c => q (.d (.bool (decide (c = b))))
    | _ => False)
  | _ => False
def gIs0 (x y : PyData) (q : Rv → Prop) : Prop := match y with
  | .none => q (.d (.bool (!isNone x)))
  | .bool b => (match x with
    | .bool c => q (.d (.bool (!decide (c = b))))
    | _ => False)
  | _ => False
theorem ops_is : OpS K rIs gIs1 := fun F0 H0 io F H σ δ x y d e q Q R hx hy h k => by
  unfold gIs1 at h
  split at h
  · cases hy
    refine .inl ⟨rfl, ?_⟩
    rw [hx.isN]
    exact k _ F H (.d (.bool (isNone d))) R (.refl _) rfl h
  · rename_i b
    cases hy
    split at h
    · rename_i c
      cases hx
      exact .inr ⟨c, b, rfl, rfl, k _ F H (.d (.bool (decide (c = b)))) R (.refl _) rfl h⟩
    · exact h.elim
  · exact h.elim
theorem ops_isNot : OpS K rIsNot gIs0 := fun F0 H0 io F H σ δ x y d e q Q R hx hy h k => by
  unfold gIs0 at h
  split at h
  · cases hy
    refine .inl ⟨rfl, ?_⟩
    rw [hx.isN]
    exact k _ F H (.d (.bool (!isNone d))) R (.refl _) rfl h
  · rename_i b
    cases hy
    split at h
    · rename_i c
      cases hx
      exact .inr ⟨c, b, rfl, rfl, k _ F H (.d (.bool (!decide (c = b)))) R (.refl _) rfl h⟩
    · exact h.elim
  · exact h.elim
end
end DL

namespace DL
open PySem PySem.Spec PyProof.Rows L2
section
variable {K : Frag} {F0 H0 : Hp} {io : List Addr} {F H F' H' : Hp} {σ : L2.St} {δ δ' : De}
/-! ### argument lists -/
def dNil (δ : De) (q : List Rv → De → Prop) : Prop := q [] δ
def kCons2 (q : List Rv → De → Prop) (r : Rv) (rs : List Rv) (δ : De) : Prop := q (DL.sett r :: rs) δ
def kCons1 (dr : DA) (q : List Rv → De → Prop) (r : Rv) (δ : De) : Prop := dr δ (kCons2 q r)
def dCons (da : DE) (dr : DA) (δ : De) (q : List Rv → De → Prop) : Prop := da δ (kCons1 dr q)
theorem la_nil {Q : List V → Hp → Prop} (h : LA K dNil σ H Q) : tNil σ H Q := by
  obtain ⟨F0, H0, io, F, δ, q, R, h, k⟩ := h
  exact k [] F H [] δ R (.refl _) (fun _ _ _ i es z => by simp at z) .nil h
theorem la_cons {da : DE} {dr : DA} {Q : List V → Hp → Prop} (h : LA K (dCons da dr) σ H Q) : tCons (LE K da) (LA K dr) σ H Q := by
  obtain ⟨F0, H0, io, F, δ, q, R, h, k⟩ := h
  refine LE.of R h fun x F1 H1 r1 δ1 R1 e1 a1 h1 => ?_
  obtain ⟨F2, R2, e2, a2⟩ := R1.sett e1 a1
  refine LA.of R2 h1 fun vs F3 H3 rs δ3 R3 e3 n3 a3 h3 => k (x :: vs) F3 H3 _ δ3 R3 (e2.trans e3) (fun l xs L i es z => ?_) (.cons (a2.keep e3.ex) a3 fun ds z => ?_) h3
  · cases i with
    | zero => cases r1 <;> simp [DL.sett] at z
    | succ i => exact n3 l xs (e2.ls l xs L) i es (by simpa using z)
  · cases r1 <;> simp [DL.sett] at z
/-- all of them as data: own lists are made data -/
def frzs : List Rv → De → Option (List PyData × De)
  | [], δ => some ([], δ)
  | .d x :: rs, δ => match frzs rs δ with
    | some (xs, δ') => some (x :: xs, δ')
    | none => none
  | .new _ :: _, _ => none
  | .var i :: rs, δ => match δ[i]? with
    | some (some (.d x)) => (match frzs rs δ with
      | some (xs, δ') => some (x :: xs, δ')
      | none => none)
    | some (some (.own none ys)) => (match frzs rs (δ.set i (some (.d (.list ys)))) with
      | some (xs, δ') => some (.list ys :: xs, δ')
      | none => none)
    | _ => none
def keepD : Rv → V → Hp → Prop
  | .new _, _, _ => False
  | _, _, _ => True
theorem RvAt.on {r : Rv} {v : V} (h : RvAt K H0 F H σ δ r v) (hr : ∀ xs, r ≠ .new xs) (e : Ex F F') : RvAt K H0 F' H' σ δ' r v := by
  cases r with
  | d x => exact At.mono e x v h
  | var i => exact h
  | new xs => exact absurd rfl (hr xs)
theorem Rel.frzs : ∀ (rs : List Rv) (vs : List V) (δ : De) (xs : List PyData) (δ' : De) (F : Hp), Rel K F0 H0 io F H σ δ → (∀ F' δ', Ex F F' → (∀ (i : Nat) v, σ[i]? = some (some v) → True) → RvAll K H0 F' H σ δ' rs vs) → frzs rs δ = some (xs, δ') →
    ∃ F', Rel K F0 H0 io F' H σ δ' ∧ Step K H0 F H σ δ F' H δ' (.d .none) .non ∧ AtAll K F' xs vs
  | [], vs, δ, xs, δ', F, R, ha, e => by
    cases e
    have h := ha F δ (Evl.Ex.refl F) fun _ _ _ => trivial
    cases h
    exact ⟨F, R, .refl _, rfl⟩
  | .new ys :: rs, vs, δ, xs, δ', F, R, ha, e => by
    simp only [DL.frzs] at e
    cases e
  | .d x :: rs, vs, δ, xs, δ', F, R, ha, e => by
    simp only [DL.frzs] at e
    split at e
    · rename_i ys δ1 h1
      cases e
      have h := ha F δ (Evl.Ex.refl F) fun _ _ _ => trivial
      cases h with
      | @cons _ _ v vs hv hr _ =>
        obtain ⟨F2, R2, e2, a2⟩ := Rel.frzs rs vs δ ys _ F R (fun F' δ' e' t => by
          have h := ha F' δ' e' t
          cases h
          assumption) h1
        exact ⟨F2, R2, e2, v, vs, rfl, At.mono e2.ex x v hv, a2⟩
    · cases e
  | .var i :: rs, vs, δ, xs, δ', F, R, ha, e => by
    have h := ha F δ (Evl.Ex.refl F) fun _ _ _ => trivial
    cases h with
    | @cons _ _ v vs hv hr _ =>
      have hr' : ∀ F' δ', Ex F F' → (∀ (i : Nat) v, σ[i]? = some (some v) → True) → RvAll K H0 F' H σ δ' rs vs := fun F' δ' e' t => by
        have h := ha F' δ' e' t
        cases h
        assumption
      have hv' : σ[i]? = some (some v) := hv
      simp only [DL.frzs] at e
      split at e
      · rename_i x hx
        split at e
        · rename_i ys δ1 h1
          cases e
          obtain ⟨u, e1, a1⟩ := R.at_ i _ hx
          rw [hv'] at e1; cases e1
          obtain ⟨F2, R2, e2, a2⟩ := Rel.frzs rs vs δ ys _ F R hr' h1
          exact ⟨F2, R2, e2, v, vs, rfl, At.mono e2.ex x v a1, a2⟩
        · cases e
      · rename_i ys hx
        split at e
        · rename_i zs δ1 h1
          cases e
          obtain ⟨F1, R1, e1, a1⟩ := R.freeze hx hv'
          obtain ⟨F2, R2, e2, a2⟩ := Rel.frzs rs vs _ zs _ F1 R1 (fun F' δ' e' t => hr' F' δ' (e1.ex.trans e') t) h1
          exact ⟨F2, R2, e1.trans e2, v, vs, rfl, At.mono e2.ex _ v a1, a2⟩
        · cases e
      · cases e
theorem RvAll.on : ∀ {rs : List Rv} {vs : List V}, RvAll K H0 F H σ δ rs vs → (∀ xs, Rv.new xs ∉ rs) → Ex F F' → RvAll K H0 F' H' σ δ' rs vs
  | _, _, .nil, _, _ => .nil
  | _, _, .cons h t n, hn, e => .cons (h.on (fun xs z => hn xs (by rw [z]; exact List.mem_cons_self)) e) (t.on (fun xs z => hn xs (List.mem_cons_of_mem _ z)) e) n
theorem frzs_calm : ∀ {rs : List Rv} {δ : De} {p : List PyData × De}, frzs rs δ = some p → ∀ xs, Rv.new xs ∉ rs
  | [], _, _, _, _ => by simp
  | .d x :: rs, δ, p, e, xs => by
    simp only [DL.frzs] at e
    split at e
    · rename_i h1
      intro z
      rcases List.mem_cons.mp z with z | z
      · cases z
      · exact frzs_calm h1 xs z
    · cases e
  | .new ys :: rs, δ, p, e, xs => by
    simp only [DL.frzs] at e
    cases e
  | .var i :: rs, δ, p, e, xs => by
    simp only [DL.frzs] at e
    intro z
    rcases List.mem_cons.mp z with z | z
    · cases z
    · split at e
      · split at e
        · rename_i h1
          exact frzs_calm h1 xs z
        · cases e
      · split at e
        · rename_i h1
          exact frzs_calm h1 xs z
        · cases e
      · cases e
theorem Rel.frz (R : Rel K F0 H0 io F H σ δ) {rs : List Rv} {vs : List V} {xs : List PyData} (h : RvAll K H0 F H σ δ rs vs) (e : DL.frzs rs δ = some (xs, δ')) : ∃ F', Rel K F0 H0 io F' H σ δ' ∧ Step K H0 F H σ δ F' H δ' (.d .none) .non ∧ AtAll K F' xs vs :=
  R.frzs rs vs δ xs δ' F (fun F' δ' e' _ => h.on (frzs_calm e) e') e
/-- the arguments as data, own lists made data -/
def kFrz (k : List PyData → De → Prop) (rs : List Rv) (δ1 : De) : Prop := match frzs rs δ1 with
  | some (xs, δ2) => k xs δ2
  | none => False
def dFrz (da : DA) (k : List PyData → De → Prop) (δ : De) : Prop := da δ (kFrz k)
def kTup (q : Rv → De → Prop) (xs : List PyData) (δ : De) : Prop := xs.length ≤ sizeLine ∧ q (.d (.tuple xs)) δ
def kLst (q : Rv → De → Prop) (xs : List PyData) (δ : De) : Prop := xs.length ≤ sizeLine ∧ q (.new xs) δ
def dTup (da : DA) (δ : De) (q : Rv → De → Prop) : Prop := dFrz da (kTup q) δ
def dLst (da : DA) (δ : De) (q : Rv → De → Prop) : Prop := dFrz da (kLst q) δ
theorem la_frz {da : DA} {k : List PyData → De → Prop} {Q : List V → Hp → Prop} (R : Rel K F0 H0 io F H σ δ) (h : dFrz da k δ) (hk : ∀ vs F' H' xs δ', Rel K F0 H0 io F' H' σ δ' → Step K H0 F H σ δ F' H' δ' (.d .none) .non → AtAll K F' xs vs → k xs δ' → Q vs H') : LA K da σ H Q := by
  refine LA.of R h fun vs F1 H1 rs δ1 R1 e1 _ a1 h1 => ?_
  try (first | simp only [kFrz] at h1 | simp only [kCB] at h1 | simp only [kIsi] at h1 | simp only [kTup] at h1 | simp only [kLst] at h1)
  split at h1
  · rename_i xs δ2 hx
    obtain ⟨F2, R2, e2, a2⟩ := R1.frz a1 hx
    exact hk vs F2 H1 xs δ2 R2 (e1.trans e2) a2 h1
  · exact h1.elim
theorem le_tup {da : DA} {Q : VK} (h : LE K (dTup da) σ H Q) : tTup (LA K da) σ H Q := by
  obtain ⟨F0, H0, io, F, δ, q, R, h, k⟩ := h
  refine la_frz R h fun vs F1 H1 xs δ1 R1 e1 a1 h1 => ?_
  refine ⟨by rw [a1.length]; exact h1.1, fun p hp => ?_⟩
  have fp := Evl.fresh_back R1.fh hp
  exact k _ _ _ (.d (.tuple xs)) δ1 (R1.newF hp _) (e1.trans (.newF hp fp _ _)) ⟨p, vs, rfl, .inl (.inl upd_same), AtAll.mono (ex_upd fp) _ _ a1⟩ h1.2
theorem le_lst {da : DA} {Q : VK} (h : LE K (dLst da) σ H Q) : tLst (LA K da) σ H Q := by
  obtain ⟨F0, H0, io, F, δ, q, R, h, k⟩ := h
  refine la_frz R h fun vs F1 H1 xs δ1 R1 e1 a1 h1 => ?_
  refine ⟨by rw [a1.length]; exact h1.1, fun p hp => ?_⟩
  exact k _ F1 _ (.new xs) δ1 (R1.newO hp _) (e1.trans (.newO hp _ _)) ⟨p, vs, rfl, R1.loose hp _, a1⟩ h1.2
/-! ### built-ins by values -/
abbrev G1 := List PyData → (Rv → Prop) → Prop
def derefs (δ : De) : List Rv → Option (List PyData)
  | [] => some []
  | r :: rs => match derefS δ r, derefs δ rs with
    | some x, some xs => some (x :: xs)
    | _, _ => none
inductive AtSs (K : Frag) (F H : Hp) : List PyData → List V → Prop
  | nil : AtSs K F H [] []
  | cons {d ds v vs} : AtS K F H d v → AtSs K F H ds vs → AtSs K F H (d :: ds) (v :: vs)
theorem Rel.peeks (R : Rel K F0 H0 io F H σ δ) : ∀ {rs : List Rv} {vs : List V} {xs : List PyData}, RvAll K H0 F H σ δ rs vs → derefs δ rs = some xs → AtSs K F H xs vs
  | _, _, _, .nil, e => by cases e; exact .nil
  | _, _, _, .cons h t _, e => by
    simp only [derefs] at e
    split at e
    · rename_i x xs h1 h2
      cases e
      exact .cons (R.peekS h h1) (Rel.peeks R t h2)
    · cases e
def kCB (g : G1) (q : Rv → De → Prop) (rs : List Rv) (δ1 : De) : Prop := match derefs δ1 rs with
  | some xs => g xs (kZ q δ1)
  | none => False
def dCB (g : G1) (da : DA) (δ : De) (q : Rv → De → Prop) : Prop := da δ (kCB g q)
def CbD (K : Frag) (r : List V → Hp → VK → Prop) (g : G1) : Prop := ∀ (F0 H0 : Hp) (io : List Addr) (F H : Hp) (σ : L2.St) (δ : De) (vs : List V) (xs : List PyData) (q : Rv → Prop) (Q : VK), Rel K F0 H0 io F H σ δ → AtSs K F H xs vs → g xs q →
  (∀ v F' H' z, Rel K F0 H0 io F' H' σ δ → Step K H0 F H σ δ F' H' δ z v → RvAt K H0 F' H' σ δ z v → q z → Q v H') → r vs H Q
theorem le_cb {r : List V → Hp → VK → Prop} {g : G1} {da : DA} {Q : VK} (ho : CbD K r g) (h : LE K (dCB g da) σ H Q) : tCB r (LA K da) σ H Q := by
  obtain ⟨F0, H0, io, F, δ, q, R, h, k⟩ := h
  refine LA.of R h fun vs F1 H1 rs δ1 R1 e1 _ a1 h1 => ?_
  try (first | simp only [kFrz] at h1 | simp only [kCB] at h1 | simp only [kIsi] at h1 | simp only [kTup] at h1 | simp only [kLst] at h1)
  split at h1
  · rename_i xs hx
    exact ho F0 H0 io F1 H1 σ δ1 vs xs _ Q R1 (R1.peeks a1 hx) h1 fun v F2 H2 z R2 e2 a2 h2 => k v F2 H2 z δ1 R2 (e1.trans e2) a2 h2
  · exact h1.elim
def gLen (xs : List PyData) (q : Rv → Prop) : Prop := match xs with
  | [.str y] => y.length ≤ sizeLine ∧ q (.d (.int y.length))
  | [.list ys] => q (.d (.int ys.length))
  | [.tuple ys] => q (.d (.int ys.length))
  | _ => False
theorem cb_len : CbD K (fun xs H Q => ∃ x n, xs = [x] ∧ LenV K x H n ∧ Q (.int n) H) gLen := fun F0 H0 io F H σ δ vs xs q Q R ha h k => by
  unfold gLen at h
  split at h
  · rename_i y
    cases ha with | cons h1 t => cases t; cases h1; exact ⟨_, _, rfl, ⟨h.1, rfl⟩, k _ F H (.d (.int y.length)) R (.refl _) rfl h.2⟩
  · rename_i ys
    cases ha with
    | cons h1 t =>
      cases t
      obtain ⟨a, us, rfl, h2, h3⟩ := h1
      refine ⟨_, us.length, rfl, .inl ⟨us, h2, rfl⟩, k _ F H (.d (.int ys.length)) R (.refl _) ?_ h⟩
      show V.int _ = V.int _
      rw [h3.length]
  · rename_i ys
    cases ha with
    | cons h1 t =>
      cases t
      obtain ⟨a, us, rfl, h2, h3⟩ := h1
      refine ⟨_, us.length, rfl, .inr ⟨us, Evl.ex_t R.fh h2, rfl⟩, k _ F H (.d (.int ys.length)) R (.refl _) ?_ h⟩
      show V.int _ = V.int _
      rw [h3.length]
  · exact h.elim
def gInt (xs : List PyData) (q : Rv → Prop) : Prop := match xs with
  | [.int i] => q (.d (.int i))
  | [.bool b] => q (.d (.int (if b then 1 else 0)))
  | _ => False
theorem cb_int : CbD K (fun xs H Q => (∃ i, xs = [.int i] ∧ Q (.int i) H) ∨ ∃ k, xs = [.bl k] ∧ Q (.int (if k then 1 else 0)) H) gInt := fun F0 H0 io F H σ δ vs xs q Q R ha h k => by
  unfold gInt at h
  split at h
  · rename_i i
    cases ha with | cons h1 t => cases t; cases h1; exact .inl ⟨i, rfl, k _ F H (.d (.int i)) R (.refl _) rfl h⟩
  · rename_i b
    cases ha with | cons h1 t => cases t; cases h1; exact .inr ⟨b, rfl, k _ F H (.d (.int (if b then 1 else 0))) R (.refl _) rfl h⟩
  · exact h.elim
def gAbs (xs : List PyData) (q : Rv → Prop) : Prop := match xs with
  | [.int i] => q (.d (.int (if i < 0 then -i else i)))
  | _ => False
theorem cb_abs : CbD K (fun xs H Q => ∃ i, xs = [.int i] ∧ Q (.int (if i < 0 then -i else i)) H) gAbs := fun F0 H0 io F H σ δ vs xs q Q R ha h k => by
  unfold gAbs at h
  split at h
  · rename_i i
    cases ha with | cons h1 t => cases t; cases h1; exact ⟨i, rfl, k _ F H (.d (.int (if i < 0 then -i else i))) R (.refl _) rfl h⟩
  · exact h.elim
def g2I (f : Int → Int → Int) (xs : List PyData) (q : Rv → Prop) : Prop := match xs with
  | [.int i, .int j] => q (.d (.int (f i j)))
  | _ => False
theorem cb_2I {f : Int → Int → Int} : CbD K (fun xs H Q => ∃ i j, xs = [.int i, .int j] ∧ Q (.int (f i j)) H) (g2I f) := fun F0 H0 io F H σ δ vs xs q Q R ha h k => by
  unfold g2I at h
  split at h
  · rename_i i j
    cases ha with
    | cons h1 t =>
      cases t with
      | cons h2 t => cases t; cases h1; cases h2; exact ⟨i, j, rfl, k _ F H (.d (.int (f i j))) R (.refl _) rfl h⟩
  · exact h.elim
abbrev gMax2 : G1 := g2I fun i j => if j > i then j else i
abbrev gMin2 : G1 := g2I fun i j => if j < i then j else i
def gTuple (xs : List PyData) (q : Rv → Prop) : Prop := match xs with
  | [.list ys] => q (.d (.tuple ys))
  | [.tuple ys] => q (.d (.tuple ys))
  | _ => False
theorem cb_tuple : CbD K (fun xs H Q => ∃ p ys, xs = [.ref p] ∧ ((SqL K H p ys ∧ ∀ l, H l = none → Q (.ref l) (upd H l (.tup ys))) ∨ (SqT K H p ys ∧ Q (.ref p) H))) gTuple := fun F0 H0 io F H σ δ vs xs q Q R ha h k => by
  unfold gTuple at h
  split at h
  · rename_i ys
    cases ha with
    | cons h1 t =>
      cases t
      obtain ⟨a, us, rfl, h2, h3⟩ := h1
      refine ⟨a, us, rfl, .inl ⟨h2, fun p hp => ?_⟩⟩
      have fp := Evl.fresh_back R.fh hp
      exact k _ _ _ (.d (.tuple ys)) (R.newF hp _) (.newF hp fp _ _) ⟨p, us, rfl, .inl (.inl upd_same), AtAll.mono (ex_upd fp) _ _ h3⟩ h
  · rename_i ys
    cases ha with
    | cons h1 t =>
      cases t
      obtain ⟨a, us, rfl, h2, h3⟩ := h1
      exact ⟨a, us, rfl, .inr ⟨Evl.ex_t R.fh h2, k _ F H (.d (.tuple ys)) R (.refl _) ⟨a, us, rfl, h2, h3⟩ h⟩⟩
  · exact h.elim
def gList (xs : List PyData) (q : Rv → Prop) : Prop := match xs with
  | [.list ys] => q (.new ys)
  | [.tuple ys] => q (.new ys)
  | _ => False
theorem cb_list : CbD K (fun xs H Q => ∃ p ys, xs = [.ref p] ∧ (SqL K H p ys ∨ SqT K H p ys) ∧ ∀ l, H l = none → Q (.ref l) (upd H l (.lst ys))) gList := fun F0 H0 io F H σ δ vs xs q Q R ha h k => by
  unfold gList at h
  split at h
  · rename_i ys
    cases ha with
    | cons h1 t =>
      cases t
      obtain ⟨a, us, rfl, h2, h3⟩ := h1
      exact ⟨a, us, rfl, .inl h2, fun p hp => k _ F _ (.new ys) (R.newO hp _) (.newO hp _ _) ⟨p, us, rfl, R.loose hp _, h3⟩ h⟩
  · rename_i ys
    cases ha with
    | cons h1 t =>
      cases t
      obtain ⟨a, us, rfl, h2, h3⟩ := h1
      exact ⟨a, us, rfl, .inr (Evl.ex_t R.fh h2), fun p hp => k _ F _ (.new ys) (R.newO hp _) (.newO hp _ _) ⟨p, us, rfl, R.loose hp _, h3⟩ h⟩
  · exact h.elim
/-- bools alone -/
def bools : List PyData → Option (List Bool)
  | [] => some []
  | .bool b :: r => (bools r).map (b :: ·)
  | _ => none
theorem bools_at : ∀ {ds : List PyData} {vs : List V} {bs : List Bool}, AtAll K F ds vs → bools ds = some bs → vs = bs.map V.bl
  | [], _, _, h, e => by cases h; cases e; rfl
  | .bool b :: r, _, bs, h, e => by
    obtain ⟨v, u, rfl, h1, h2⟩ := h
    cases h1
    simp only [bools] at e
    cases q : bools r with
    | none => rw [q] at e; cases e
    | some cs => rw [q] at e; cases e; rw [bools_at h2 q]; rfl
  | .none :: _, _, _, _, e => by cases e
  | .int _ :: _, _, _, _, e => by cases e
  | .str _ :: _, _, _, _, e => by cases e
  | .list _ :: _, _, _, _, e => by cases e
  | .tuple _ :: _, _, _, _, e => by cases e
  | .dict _ :: _, _, _, _, e => by cases e
def gAll (xs : List PyData) (q : Rv → Prop) : Prop := match xs with
  | [.list ys] => (match bools ys with
    | some bs => q (.d (.bool (bs.all id)))
    | none => False)
  | _ => False
def gAny (xs : List PyData) (q : Rv → Prop) : Prop := match xs with
  | [.list ys] => (match bools ys with
    | some bs => q (.d (.bool (bs.any id)))
    | none => False)
  | _ => False
theorem cb_all : CbD K (rAll K) gAll := fun F0 H0 io F H σ δ vs xs q Q R ha h k => by
  unfold gAll at h
  split at h
  · rename_i ys
    split at h
    · rename_i bs hb
      cases ha with
      | cons h1 t =>
        cases t
        obtain ⟨a, us, rfl, h2, h3⟩ := h1
        rw [bools_at h3 hb] at h2
        exact ⟨a, bs, rfl, h2, k _ F H (.d (.bool (bs.all id))) R (.refl _) rfl h⟩
    · exact h.elim
  · exact h.elim
theorem cb_any : CbD K (rAny K) gAny := fun F0 H0 io F H σ δ vs xs q Q R ha h k => by
  unfold gAny at h
  split at h
  · rename_i ys
    split at h
    · rename_i bs hb
      cases ha with
      | cons h1 t =>
        cases t
        obtain ⟨a, us, rfl, h2, h3⟩ := h1
        rw [bools_at h3 hb] at h2
        exact ⟨a, bs, rfl, h2, k _ F H (.d (.bool (bs.any id))) R (.refl _) rfl h⟩
    · exact h.elim
  · exact h.elim
/-! isinstance(x, T) -/
def tyD : PyData → String
  | .none => "NoneType"
  | .bool _ => "bool"
  | .int _ => "int"
  | .str _ => "str"
  | .list _ => "list"
  | .tuple _ => "tuple"
  | .dict _ => "dict"
def isTy (T : String) (d : PyData) : Bool := tyD d == T || (T == "int" && tyD d == "bool")
theorem tyX_at (fh : Ex F H) {d : PyData} {v : V} (h : AtS K F H d v) : TyX K H v (.type (tyD d)) := by
  cases d with
  | none => cases h; exact .base .non
  | bool b => cases h; exact .base (.bl b)
  | int b => cases h; exact .base (.int b)
  | str b => cases h; exact .base (.str b)
  | list ds =>
    obtain ⟨a, us, rfl, h2, h3⟩ := h
    rcases h2 with (h2 | ⟨o, h2⟩) | ⟨o, its, n, hk, hc, _⟩
    · exact .base (.lst h2)
    · exact .base (.frz h2)
    · exact .kList hk hc
  | tuple ds =>
    obtain ⟨a, us, rfl, h2, h3⟩ := h
    rcases Evl.ex_t fh h2 with (h2 | ⟨o, h2⟩) | ⟨o, its, n, hk, hc, _⟩
    · exact .base (.tup h2)
    · exact .fTuple h2
    · exact .kTuple hk hc
  | dict ps =>
    obtain ⟨a, us, rfl, h2, h3⟩ := h
    exact .base (.dK (fh _ _ h2))
def kIsi (T : String) (q : Rv → De → Prop) (r : Rv) (δ1 : De) : Prop := match derefS δ1 (DL.sett r) with
  | some d => q (.d (.bool (isTy T d))) δ1
  | none => False
def dIsi (T : String) (de : DE) (δ : De) (q : Rv → De → Prop) : Prop := de δ (kIsi T q)
theorem le_isi {T : String} {de : DE} {Q : VK} (hT : ∀ t ∈ ["NoneType", "bool", "int", "str", "list", "tuple", "dict"], kitB t T = some (t == T || (T == "int" && t == "bool"))) (h : LE K (dIsi T de) σ H Q) : tCB (rIsi K) (tCons (LE K de) (tCons (tC (.ty T)) tNil)) σ H Q := by
  obtain ⟨F0, H0, io, F, δ, q, R, h, k⟩ := h
  refine LE.of R h fun x F1 H1 r1 δ1 R1 e1 a1 h1 => ?_
  obtain ⟨F2, R2, e2, a2⟩ := R1.sett e1 a1
  try (first | simp only [kFrz] at h1 | simp only [kCB] at h1 | simp only [kIsi] at h1 | simp only [kTup] at h1 | simp only [kLst] at h1)
  split at h1
  · rename_i d hd
    have hm : tyD d ∈ ["NoneType", "bool", "int", "str", "list", "tuple", "dict"] := by cases d <;> simp [tyD]
    exact ⟨x, .ty T, _, _, _, rfl, .ty T, tyX_at R2.fh (R2.peekS a2 hd), kit_ty (hT _ hm), k _ F2 H1 (.d (.bool (isTy T d))) δ1 R2 (e2.as _) rfl h1⟩
  · exact h1.elim
end
end DL

namespace DL
open PySem PySem.Spec PyProof.Rows L2
section
variable {K : Frag} {F0 H0 : Hp} {io : List Addr} {F H F' H' : Hp} {σ : L2.St} {δ δ' : De}
/-! ### stores to a slot -/
theorem Rel.put (R : Rel K F0 H0 io F H σ δ) (i : Nat) {s : Sl} {v : V} (hs : SlAt K H0 io F H s v)
    (ho : s.isOwn = true → ∀ (j : Nat) t l, j ≠ i → δ[j]? = some (some t) → t.isOwn = true → v = .ref l → σ[j]? ≠ some (some (.ref l))) : Rel K F0 H0 io F H (σ.set i (some v)) (δ.set i (some s)) where
  fh := R.fh
  ff := R.ff
  old := R.old
  keep := R.keep
  dom := R.dom
  len := by rw [List.length_set, List.length_set]; exact R.len
  at_ := fun j t e => by
    by_cases hj : i = j
    · subst hj
      have hl : i < δ.length := by
        have := (List.getElem?_eq_some_iff.mp e).1
        rw [List.length_set] at this; exact this
      rw [List.getElem?_set_self hl] at e
      cases e
      exact ⟨v, List.getElem?_set_self (by rw [← R.len]; exact hl), hs⟩
    · rw [List.getElem?_set_ne hj] at e ⊢
      exact R.at_ j t e
  sep := fun j k s1 s2 l e1 e2 o1 o2 v1 v2 => by
    have hl : ∀ {n : Nat} {t : Sl}, (δ.set i (some s))[n]? = some (some t) → n < δ.length := fun e => by
      have := (List.getElem?_eq_some_iff.mp e).1
      rw [List.length_set] at this; exact this
    by_cases hj : i = j
    · by_cases hk : i = k
      · rw [← hj, ← hk]
      · subst hj
        have h1 := hl e1
        rw [List.getElem?_set_self h1] at e1
        rw [List.getElem?_set_self (by rw [← R.len]; exact h1)] at v1
        rw [List.getElem?_set_ne hk] at e2 v2
        cases e1; cases v1
        exact absurd v2 (ho o1 k s2 l (fun z => hk z.symm) e2 o2 rfl)
    · rw [List.getElem?_set_ne hj] at e1 v1
      by_cases hk : i = k
      · subst hk
        have h2 := hl e2
        rw [List.getElem?_set_self h2] at e2
        rw [List.getElem?_set_self (by rw [← R.len]; exact h2)] at v2
        cases e2; cases v2
        exact absurd v1 (ho o2 j s1 l (fun z => hj z.symm) e1 o1 rfl)
      · rw [List.getElem?_set_ne hk] at e2 v2
        exact R.sep j k s1 s2 l e1 e2 o1 o2 v1 v2
theorem Rel.putD (R : Rel K F0 H0 io F H σ δ) (i : Nat) {x : PyData} {v : V} (h : At K F x v) : Rel K F0 H0 io F H (σ.set i (some v)) (δ.set i (some (.d x))) := R.put i h fun z => nomatch z
def dPut (δ : De) (i : Nat) : Rv → Option De
  | .d x => some (δ.set i (some (.d x)))
  | .new xs => some (δ.set i (some (.own none xs)))
  | .var j => match δ[j]? with
    | some (some (.own none xs)) => some ((δ.set j (some (.d (.list xs)))).set i (some (.d (.list xs))))
    | some (some (.d x)) => some (δ.set i (some (.d x)))
    | some (some (.scr ns)) => some (δ.set i (some (.scr ns)))
    | _ => none
theorem Rel.dput (R : Rel K F0 H0 io F H σ δ) {i : Nat} {r : Rv} {v : V} (h : RvAt K H0 F H σ δ r v) (e : dPut δ i r = some δ') : ∃ F', Rel K F0 H0 io F' H (σ.set i (some v)) δ' ∧ Ex F F' := by
  cases r with
  | d x => cases e; exact ⟨F, R.putD i h, Evl.Ex.refl F⟩
  | new xs =>
    cases e
    obtain ⟨l, us, rfl, L, ha⟩ := h
    exact ⟨F, R.put i (s := .own none xs) ⟨l, us, rfl, L.h, L.f, ha, L.h0⟩ fun _ j t m _ e1 o1 z => by cases z; exact L.ns j t e1 o1, Evl.Ex.refl F⟩
  | var j =>
    have hv : σ[j]? = some (some v) := h
    simp only [dPut] at e
    split at e
    · rename_i xs hx
      cases e
      obtain ⟨F1, R1, e1, a1⟩ := R.freeze hx hv
      exact ⟨F1, R1.putD i a1, e1.ex⟩
    · rename_i x hx
      cases e
      obtain ⟨u, e1, a1⟩ := R.at_ j _ hx
      rw [hv] at e1; cases e1
      exact ⟨F, R.putD i a1, Evl.Ex.refl F⟩
    · rename_i ns hx
      cases e
      obtain ⟨u, e1, a1⟩ := R.at_ j _ hx
      rw [hv] at e1; cases e1
      exact ⟨F, R.put i (s := .scr ns) a1 (fun z => nomatch z), Evl.Ex.refl F⟩
    · cases e
/-! ### statements -/
theorem LS.of {ds : DS} {D : DEx} {nx : De → Prop} {E : Ends} (R : Rel K F0 H0 io F H σ δ) (h : ds D nx δ) (f : Fits K F0 H0 io D nx E) : LS K ds E σ H := ⟨F0, H0, io, F, δ, D, nx, R, h, f⟩
def dNext (_ : DEx) (nx : De → Prop) (δ : De) : Prop := nx δ
def dSeq (a b : DS) (D : DEx) (nx : De → Prop) (δ : De) : Prop := a D (b D nx) δ
def kRet (D : DEx) (r : Rv) (δ1 : De) : Prop := match r with
  | .d x => D.rt (.d x) δ1
  | .new xs => D.rt (.own none xs) δ1
  | .var j => match δ1[j]? with
    | some (some (.own none xs)) => D.rt (.own none xs) (δ1.set j none)
    | some (some (.d x)) => D.rt (.d x) δ1
    | _ => False
def dRet (de : DE) (D : DEx) (_ : De → Prop) (δ : De) : Prop := de δ (kRet D)
def dRetN (D : DEx) (_ : De → Prop) (δ : De) : Prop := D.rt (.d .none) δ
def kAsg (i : Nat) (nx : De → Prop) (r : Rv) (δ1 : De) : Prop := match dPut δ1 i r with
  | some δ2 => nx δ2
  | none => False
def dAsg (i : Nat) (de : DE) (_ : DEx) (nx : De → Prop) (δ : De) : Prop := de δ (kAsg i nx)
def kDrop (nx : De → Prop) (_ : Rv) (δ1 : De) : Prop := nx δ1
def dDrop (de : DE) (_ : DEx) (nx : De → Prop) (δ : De) : Prop := de δ (kDrop nx)
def kIfS (a b : DS) (D : DEx) (nx : De → Prop) (c : Bool) (δ1 : De) : Prop := @boxIf c ⟨(a D nx δ1, b D nx δ1)⟩
def dIfS (t : DT) (a b : DS) (D : DEx) (nx : De → Prop) (δ : De) : Prop := t δ (kIfS a b D nx)
def dBreak (D : DEx) (_ : De → Prop) (δ : De) : Prop := D.bk δ
def dCont (D : DEx) (_ : De → Prop) (δ : De) : Prop := D.ct δ
def dNever (_ : DEx) (_ : De → Prop) (_ : De) : Prop := False
variable {E : Ends}
theorem ls_next (h : LS K dNext E σ H) : tNext E σ H := by
  obtain ⟨F0, H0, io, F, δ, D, nx, R, h, f⟩ := h
  exact f.nx σ δ F H R h
theorem ls_break (h : LS K dBreak E σ H) : tBreak E σ H := by
  obtain ⟨F0, H0, io, F, δ, D, nx, R, h, f⟩ := h
  exact f.bk σ δ F H R h
theorem ls_cont (h : LS K dCont E σ H) : tCont E σ H := by
  obtain ⟨F0, H0, io, F, δ, D, nx, R, h, f⟩ := h
  exact f.ct σ δ F H R h
theorem ls_never (h : LS K dNever E σ H) : tNever E σ H := by
  obtain ⟨F0, H0, io, F, δ, D, nx, R, h, f⟩ := h
  exact h
theorem ls_seq {a b : DS} (h : LS K (dSeq a b) E σ H) : tSeq (LS K a) (LS K b) E σ H := by
  obtain ⟨F0, H0, io, F, δ, D, nx, R, h, f⟩ := h
  exact LS.of R h ⟨fun σ δ F H R h => LS.of R h f, f.rt, f.bk, f.ct⟩
theorem ls_if {t : DT} {a b : DS} (h : LS K (dIfS t a b) E σ H) : tIfS (LT K t) (LS K a) (LS K b) E σ H := by
  obtain ⟨F0, H0, io, F, δ, D, nx, R, h, f⟩ := h
  refine LT.of R h fun c F1 H1 δ1 R1 e1 h1 => ?_
  cases c with
  | true => exact iteT (LS.of R1 h1 f)
  | false => exact iteF (LS.of R1 h1 f)
theorem ls_drop {de : DE} (h : LS K (dDrop de) E σ H) : tDrop (LE K de) E σ H := by
  obtain ⟨F0, H0, io, F, δ, D, nx, R, h, f⟩ := h
  exact LE.of R h fun v F1 H1 r δ1 R1 e1 a1 h1 => f.nx σ δ1 F1 H1 R1 h1
/-- a slot is forgotten -/
theorem Rel.drop (R : Rel K F0 H0 io F H σ δ) (j : Nat) : Rel K F0 H0 io F H σ (δ.set j none) := by
  have back : ∀ {i : Nat} {s : Sl}, (δ.set j none)[i]? = some (some s) → δ[i]? = some (some s) := fun {i s} e => by
    by_cases hj : j = i
    · subst hj
      have := (List.getElem?_eq_some_iff.mp e).1
      rw [List.length_set] at this
      rw [List.getElem?_set_self this] at e
      cases e
    · rw [List.getElem?_set_ne hj] at e; exact e
  exact ⟨R.fh, R.ff, R.old, R.keep, R.dom, by rw [List.length_set]; exact R.len, fun i s e => R.at_ i s (back e), fun i k s t l e1 e2 => R.sep i k s t l (back e1) (back e2)⟩
theorem ls_ret {de : DE} (h : LS K (dRet de) E σ H) : tRet (LE K de) E σ H := by
  obtain ⟨F0, H0, io, F, δ, D, nx, R, h, f⟩ := h
  refine LE.of R h fun v F1 H1 r δ1 R1 e1 a1 h1 => ?_
  try (first | simp only [kRet] at h1 | simp only [kAsg] at h1 | simp only [kUnp] at h1)
  cases r with
  | d x => exact f.rt σ δ1 F1 H1 (.d x) v R1 a1 h1
  | new xs =>
    obtain ⟨l, us, rfl, L, ha⟩ := a1
    exact f.rt σ δ1 F1 H1 (.own none xs) _ R1 ⟨l, us, rfl, L.h, L.f, L.h0, ha⟩ h1
  | var j =>
    have hv : σ[j]? = some (some v) := a1
    try (first | simp only [kRet] at h1 | simp only [kAsg] at h1 | simp only [kUnp] at h1)
    split at h1
    · rename_i xs hx
      obtain ⟨u, e2, l, us, rfl, k1, k2, k3, k4⟩ := R1.at_ j _ hx
      rw [hv] at e2; cases e2
      exact f.rt σ _ F1 H1 (.own none xs) _ (R1.drop j) ⟨l, us, rfl, k1, k2, k4, k3⟩ h1
    · rename_i x hx
      obtain ⟨u, e2, k1⟩ := R1.at_ j _ hx
      rw [hv] at e2; cases e2
      exact f.rt σ δ1 F1 H1 (.d x) _ R1 k1 h1
    · exact h1.elim
theorem ls_retN (h : LS K dRetN E σ H) : tRetN E σ H := by
  obtain ⟨F0, H0, io, F, δ, D, nx, R, h, f⟩ := h
  exact f.rt σ δ F H (.d .none) .non R rfl h
theorem ls_asg {i : Nat} {de : DE} (h : LS K (dAsg i de) E σ H) : tAsg (LE K de) (gName i) E σ H := by
  obtain ⟨F0, H0, io, F, δ, D, nx, R, h, f⟩ := h
  refine LE.of R h fun v F1 H1 r δ1 R1 e1 a1 h1 => ?_
  try (first | simp only [kRet] at h1 | simp only [kAsg] at h1 | simp only [kUnp] at h1)
  split at h1
  · rename_i δ2 hp
    obtain ⟨F2, R2, _⟩ := R1.dput a1 hp
    exact f.nx _ δ2 F2 H1 R2 h1
  · exact h1.elim
/-! ### targets: a name, a tuple of targets -/
abbrev DG := PyData → De → (De → Prop) → Prop
abbrev DGs := List PyData → De → (De → Prop) → Prop
def dgName (i : Nat) (x : PyData) (δ : De) (q : De → Prop) : Prop := q (δ.set i (some (.d x)))
def dgTup (n : Nat) (g : DGs) (x : PyData) (δ : De) (q : De → Prop) : Prop := match x with
  | .tuple xs => xs.length = n ∧ g xs δ q
  | _ => False
def dgNil (xs : List PyData) (δ : De) (q : De → Prop) : Prop := match xs with
  | [] => q δ
  | _ => False
def kgCons (gs : DGs) (r : List PyData) (q : De → Prop) (δ1 : De) : Prop := gs r δ1 q
def dgCons (g : DG) (gs : DGs) (xs : List PyData) (δ : De) (q : De → Prop) : Prop := match xs with
  | x :: r => g x δ (kgCons gs r q)
  | _ => False
/-- a target touches the slots tv alone, and leaves data there -/
structure Touch (tv : List Nat) (σ : L2.St) (δ : De) (σ' : L2.St) (δ' : De) : Prop where
  len : σ'.length = σ.length
  out : ∀ k, k ∉ tv → σ'[k]? = σ[k]?
  own : ∀ (k : Nat) s, δ'[k]? = some (some s) → s.isOwn = true → δ[k]? = some (some s) ∧ σ'[k]? = σ[k]?
theorem Touch.refl {tv : List Nat} : Touch tv σ δ σ δ := ⟨rfl, fun _ _ => rfl, fun _ _ h _ => ⟨h, rfl⟩⟩
theorem Touch.trans {tv tw : List Nat} {σ1 σ2 : L2.St} {δ1 δ2 : De} (a : Touch tv σ δ σ1 δ1) (b : Touch tw σ1 δ1 σ2 δ2) : Touch (tv ++ tw) σ δ σ2 δ2 :=
  ⟨b.len.trans a.len, fun k hk => by rw [List.mem_append, not_or] at hk; exact (b.out k hk.2).trans (a.out k hk.1), fun k s h o => by
    obtain ⟨h1, e1⟩ := b.own k s h o
    obtain ⟨h2, e2⟩ := a.own k s h1 o
    exact ⟨h2, e1.trans e2⟩⟩
theorem Touch.name {i : Nat} {x : PyData} {v : V} : Touch [i] σ δ (σ.set i (some v)) (δ.set i (some (.d x))) :=
  ⟨List.length_set, fun k hk => List.getElem?_set_ne fun z => hk (by rw [z]; exact List.mem_cons_self), fun k s h o => by
    by_cases hj : i = k
    · subst hj
      have := (List.getElem?_eq_some_iff.mp h).1
      rw [List.length_set] at this
      rw [List.getElem?_set_self this] at h
      cases h; cases o
    · rw [List.getElem?_set_ne hj] at h
      exact ⟨h, List.getElem?_set_ne hj⟩⟩
def TgOk (K : Frag) (tv : List Nat) (g : TG) (dg : DG) : Prop := ∀ (F0 H0 : Hp) (io : List Addr) (F H : Hp) (σ : L2.St) (δ : De) (x : PyData) (v : V) (q : De → Prop) (Q : L2.St → Hp → Prop), Rel K F0 H0 io F H σ δ → At K F x v → dg x δ q → (∀ σ' δ', Rel K F0 H0 io F H σ' δ' → Touch tv σ δ σ' δ' → q δ' → Q σ' H) → g v σ H Q
def TgsOk (K : Frag) (tv : List Nat) (g : TGs) (dg : DGs) : Prop := ∀ (F0 H0 : Hp) (io : List Addr) (F H : Hp) (σ : L2.St) (δ : De) (xs : List PyData) (vs : List V) (q : De → Prop) (Q : L2.St → Hp → Prop), Rel K F0 H0 io F H σ δ → AtAll K F xs vs → dg xs δ q → (∀ σ' δ', Rel K F0 H0 io F H σ' δ' → Touch tv σ δ σ' δ' → q δ' → Q σ' H) → g vs σ H Q
theorem tg_name {i : Nat} : TgOk K [i] (gName i) (dgName i) := fun F0 H0 io F H σ δ x v q Q R a h k => k _ _ (R.putD i a) .name h
theorem tgs_nil : TgsOk K [] gNil dgNil := fun F0 H0 io F H σ δ xs vs q Q R a h k => by
  cases xs with
  | nil => cases a; exact ⟨rfl, k _ _ R .refl h⟩
  | cons _ _ => exact h.elim
theorem tgs_cons {g : TG} {gs : TGs} {dg : DG} {dgs : DGs} {tv tw : List Nat} (h1 : TgOk K tv g dg) (h2 : TgsOk K tw gs dgs) : TgsOk K (tv ++ tw) (gCons g gs) (dgCons dg dgs) := fun F0 H0 io F H σ δ xs vs q Q R a h k => by
  cases xs with
  | nil => exact h.elim
  | cons x r =>
    obtain ⟨v, us, rfl, a1, a2⟩ := a
    exact ⟨v, us, rfl, h1 F0 H0 io F H σ δ x v _ _ R a1 h fun σ' δ' R' t' h' => h2 F0 H0 io F H σ' δ' r us q Q R' a2 h' fun σ2 δ2 R2 t2 h2 => k σ2 δ2 R2 (t'.trans t2) h2⟩
theorem tg_tup {n : Nat} {g : TGs} {dg : DGs} {tv : List Nat} (h1 : TgsOk K tv g dg) : TgOk K tv (gTup K n g) (dgTup n dg) := fun F0 H0 io F H σ δ x v q Q R a h k => by
  cases x with
  | tuple xs =>
    obtain ⟨p, us, rfl, a1, a2⟩ := a
    exact ⟨p, us, rfl, Evl.ex_t R.fh a1, by rw [a2.length]; exact h.1, h1 F0 H0 io F H σ δ xs us q Q R a2 h.2 k⟩
  | _ => exact h.elim
/-- data of one result -/
def frz1 (r : Rv) (δ : De) : Option (PyData × De) := match DL.sett r with
  | .d x => some (x, δ)
  | .var i => (match δ[i]? with
    | some (some (.d x)) => some (x, δ)
    | some (some (.own none ys)) => some (.list ys, δ.set i (some (.d (.list ys))))
    | _ => none)
  | .new _ => none
theorem Rel.frz1 {F1 H1 : Hp} {δ1 δ2 : De} {x : PyData} (R : Rel K F0 H0 io F1 H1 σ δ1) {r : Rv} {v : V} (s : Step K H0 F H σ δ F1 H1 δ1 r v) (h : RvAt K H0 F1 H1 σ δ1 r v) (e : DL.frz1 r δ1 = some (x, δ2)) :
    ∃ F2, Rel K F0 H0 io F2 H1 σ δ2 ∧ Step K H0 F H σ δ F2 H1 δ2 (.d x) v ∧ At K F2 x v := by
  obtain ⟨F2, R2, s2, a2⟩ := R.sett s h
  unfold DL.frz1 at e
  split at e
  · rename_i y hy
    cases e
    rw [hy] at a2
    exact ⟨F2, R2, s2.as _, a2⟩
  · rename_i i hi
    rw [hi] at a2
    have hv : σ[i]? = some (some v) := a2
    split at e
    · rename_i y hx
      cases e
      obtain ⟨u, e1, a1⟩ := R2.at_ i _ hx
      rw [hv] at e1; cases e1
      exact ⟨F2, R2, s2.as _, a1⟩
    · rename_i ys hx
      cases e
      obtain ⟨F3, R3, s3, a3⟩ := R2.freeze hx hv
      exact ⟨F3, R3, (s2.trans s3).as _, a3⟩
    · cases e
  · cases e
def kUnp (dg : DG) (nx : De → Prop) (r : Rv) (δ1 : De) : Prop := match frz1 r δ1 with
  | some (x, δ2) => dg x δ2 nx
  | none => False
def dUnp (dg : DG) (de : DE) (_ : DEx) (nx : De → Prop) (δ : De) : Prop := de δ (kUnp dg nx)
theorem ls_unp {g : TG} {dg : DG} {de : DE} {tv : List Nat} (hg : TgOk K tv g dg) (h : LS K (dUnp dg de) E σ H) : tAsg (LE K de) g E σ H := by
  obtain ⟨F0, H0, io, F, δ, D, nx, R, h, f⟩ := h
  refine LE.of R h fun v F1 H1 r δ1 R1 e1 a1 h1 => ?_
  try (first | simp only [kRet] at h1 | simp only [kAsg] at h1 | simp only [kUnp] at h1)
  split at h1
  · rename_i x δ2 hp
    obtain ⟨F2, R2, _, a2⟩ := R1.frz1 e1 a1 hp
    exact hg F0 H0 io F2 H1 σ δ2 x v _ _ R2 a2 h1 fun σ' δ' R' _ h' => f.nx σ' δ' F2 H1 R' h'
  · exact h1.elim
/-! ### loops -/
structure Gives (K : Frag) (J : It) (items : List PyData) (F : Hp) : Prop where
  go : ∀ (i : Nat) (F' H' : Hp), Ex F F' → Ex F' H' → i < items.length → J.go i H'
  stop : ∀ (F' H' : Hp), Ex F F' → Ex F' H' → J.stop items.length H'
  yld : ∀ (i : Nat) (F' H' : Hp) (x : V) (H'' : Hp), Ex F F' → Ex F' H' → i < items.length → J.yld i H' x H'' → ∃ d, items[i]? = some d ∧ ((H'' = H' ∧ At K F' d x) ∨ ∃ T o, H' T = none ∧ H'' = upd H' T o ∧ At K (upd F' T o) d x)
abbrev DI := De → (List PyData → De → Prop) → Prop
def ItOk (K : Frag) (wi : TI) (di : DI) : Prop := ∀ (F0 H0 : Hp) (io : List Addr) (F H : Hp) (σ : L2.St) (δ : De) (q : List PyData → De → Prop) (R : It → Hp → Prop), Rel K F0 H0 io F H σ δ → di δ q →
  (∀ J F' H' items δ', Rel K F0 H0 io F' H' σ δ' → Step K H0 F H σ δ F' H' δ' (.d .none) .non → Gives K J items F' → q items δ' → R J H') → wi σ H R
def dLoop (dg : DG) (body : DS) (D : DEx) (nx : De → Prop) : List PyData → De → Prop
  | [], δ => nx δ
  | x :: xs, δ => dg x δ (body { rt := D.rt, bk := nx, ct := dLoop dg body D nx xs } (dLoop dg body D nx xs))
def dFor (di : DI) (dg : DG) (body : DS) (D : DEx) (nx : De → Prop) (δ : De) : Prop := di δ (dLoop dg body D nx)
theorem Rel.rebase {F1 : Hp} (R : Rel K F0 H0 io F1 H' σ δ') {F H : Hp} {σ1 : L2.St} {δ1 : De} (S : Rel K F1 H0 io F H σ1 δ1) : Rel K F0 H0 io F H σ1 δ1 :=
  ⟨S.fh, R.ff.trans S.ff, fun a ha => (S.old a ha).trans (R.old a ha), S.keep, S.dom, S.len, S.at_, S.sep⟩
theorem Rel.here (R : Rel K F0 H0 io F H σ δ) : Rel K F H0 io F H σ δ := ⟨R.fh, Evl.Ex.refl F, fun _ _ => rfl, R.keep, R.dom, R.len, R.at_, R.sep⟩
theorem ls_for {wi : TI} {di : DI} {g : TG} {dg : DG} {body : DS} {tv : List Nat} (hi : ItOk K wi di) (hg : TgOk K tv g dg) (h : LS K (dFor di dg body) E σ H) : tFor wi g (LS K body) E σ H := by
  obtain ⟨F0, H0, io, F, δ, D, nx, R, h, f⟩ := h
  refine hi F0 H0 io F H σ δ _ _ R h fun J F1 H1 items δ1 R1 _ gv h1 => ?_
  refine ⟨fun i m σ' H' => ∃ F' δ', Rel K F1 H0 io F' H' σ' δ' ∧ i + m = items.length ∧ dLoop dg body D nx (items.drop i) δ', ⟨items.length, F1, δ1, R1.here, Nat.zero_add _, h1⟩, fun i m σ' H' hw => ?_⟩
  obtain ⟨F', δ', R', em, hl⟩ := hw
  by_cases hlt : i < items.length
  · right
    refine ⟨gv.go i F' H' R'.ff R'.fh hlt, fun σ2 H2 => ∃ F2 δ2, Rel K F1 H0 io F2 H2 σ2 δ2 ∧ dLoop dg body D nx (items.drop (i + 1)) δ2, fun σ2 H2 ⟨F2, δ2, R2, h2⟩ => ⟨m - 1, by omega, F2, δ2, R2, by omega, h2⟩, fun x H'' hy => ?_⟩
    obtain ⟨d, hd, hx⟩ := gv.yld i F' H' x H'' R'.ff R'.fh hlt hy
    have hdr : items.drop i = d :: items.drop (i + 1) := by
      rw [List.drop_eq_getElem_cons hlt]
      rw [List.getElem?_eq_getElem hlt] at hd
      cases hd; rfl
    rw [hdr] at hl
    have go : ∀ F3 H3, Rel K F1 H0 io F3 H3 σ' δ' → At K F3 d x → g x σ' H3 fun σ2 H2 => LS K body { E with nx := fun σ2 H2 => ∃ F2 δ2, Rel K F1 H0 io F2 H2 σ2 δ2 ∧ dLoop dg body D nx (items.drop (i + 1)) δ2, ct := fun σ2 H2 => ∃ F2 δ2, Rel K F1 H0 io F2 H2 σ2 δ2 ∧ dLoop dg body D nx (items.drop (i + 1)) δ2, bk := E.nx } σ2 H2 := fun F3 H3 R3 a3 =>
      hg F1 H0 io F3 H3 σ' δ' d x _ _ R3 a3 hl fun σ4 δ4 R4 _ h4 => LS.of R4 h4 ⟨fun σ5 δ5 F5 H5 R5 h5 => ⟨F5, δ5, R5, h5⟩, fun σ5 δ5 F5 H5 s v R5 a5 h5 => f.rt σ5 δ5 F5 H5 s v (R1.rebase R5) a5 h5,
        fun σ5 δ5 F5 H5 R5 h5 => f.nx σ5 δ5 F5 H5 (R1.rebase R5) h5, fun σ5 δ5 F5 H5 R5 h5 => ⟨F5, δ5, R5, h5⟩⟩
    rcases hx with ⟨rfl, a⟩ | ⟨T, o, hT, rfl, a⟩
    · exact go F' _ R' a
    · exact go _ _ (R'.newF hT o) a
  · left
    have hie : i = items.length := by omega
    subst hie
    refine ⟨gv.stop F' H' R'.ff R'.fh, ?_⟩
    rw [List.drop_length] at hl
    exact f.nx σ' δ' F' H' (R1.rebase R') hl
def dWhile (t : DT) (body : DS) (D : DEx) (nx : De → Prop) (δ : De) : Prop := ∃ W : Nat → De → Prop, (∃ m, W m δ) ∧ ∀ m δ, W m δ → t δ fun c δ1 => @boxIf c ⟨(body { rt := D.rt, bk := nx, ct := fun δ' => ∃ m', m' < m ∧ W m' δ' } (fun δ' => ∃ m', m' < m ∧ W m' δ') δ1, nx δ1)⟩
theorem ls_while {t : DT} {body : DS} (h : LS K (dWhile t body) E σ H) : tWhile (LT K t) (LS K body) E σ H := by
  obtain ⟨F0, H0, io, F, δ, D, nx, R, ⟨W, ⟨m0, w0⟩, turn⟩, f⟩ := h
  refine ⟨fun m σ' H' => ∃ F' δ', Rel K F0 H0 io F' H' σ' δ' ∧ W m δ', ⟨m0, F, δ, R, w0⟩, fun m σ' H' hw => ?_⟩
  obtain ⟨F', δ', R', hw⟩ := hw
  refine LT.of R' (turn m δ' hw) fun c F1 H1 δ1 R1 e1 h1 => ?_
  cases c with
  | true =>
    refine iteT ⟨fun σ2 H2 => ∃ m' F2 δ2, m' < m ∧ Rel K F0 H0 io F2 H2 σ2 δ2 ∧ W m' δ2, fun σ2 H2 ⟨m', F2, δ2, hm, R2, h2⟩ => ⟨m', hm, F2, δ2, R2, h2⟩, ?_⟩
    exact LS.of R1 h1 ⟨fun σ5 δ5 F5 H5 R5 ⟨m', hm, h5⟩ => ⟨m', F5, δ5, hm, R5, h5⟩, f.rt, f.nx, fun σ5 δ5 F5 H5 R5 ⟨m', hm, h5⟩ => ⟨m', F5, δ5, hm, R5, h5⟩⟩
  | false => exact iteF (f.nx σ' δ1 F1 H1 R1 h1)
end
end DL

namespace DL
open PySem PySem.Spec PyProof.Rows L2
section
variable {K : Frag} {F0 H0 : Hp} {io : List Addr} {F H F' H' : Hp} {σ : L2.St} {δ δ' : De}
/-! ### comprehensions -/
def wipeD (δ : De) : List Nat → De
  | [] => δ
  | v :: vs => (wipeD δ vs).set v none
def keptD : Option (Option Sl) → Option Sl
  | some (some (.own _ _)) => none
  | some s => s
  | none => none
/-- the slots vs as they were ahead, the others as they are now -/
def backD (δ δ' : De) : List Nat → De
  | [] => δ'
  | v :: vs => (backD δ δ' vs).set v (keptD δ[v]?)
theorem wipeD_length (δ : De) : ∀ vs : List Nat, (wipeD δ vs).length = δ.length
  | [] => rfl
  | v :: vs => by unfold wipeD; rw [List.length_set, wipeD_length δ vs]
theorem wipeD_some {δ : De} {i : Nat} {s : Sl} : ∀ {vs : List Nat}, (wipeD δ vs)[i]? = some (some s) → δ[i]? = some (some s) ∧ i ∉ vs
  | [], h => ⟨h, by simp⟩
  | v :: vs, h => by
    unfold wipeD at h
    by_cases hi : v = i
    · subst hi
      have := (List.getElem?_eq_some_iff.mp h).1
      rw [List.length_set] at this
      rw [List.getElem?_set_self this] at h
      cases h
    · rw [List.getElem?_set_ne hi] at h
      obtain ⟨h1, h2⟩ := wipeD_some h
      exact ⟨h1, by simp only [List.mem_cons, not_or]; exact ⟨fun e => hi e.symm, h2⟩⟩
theorem backD_length (δ δ' : De) : ∀ vs : List Nat, (backD δ δ' vs).length = δ'.length
  | [] => rfl
  | v :: vs => by unfold backD; rw [List.length_set, backD_length δ δ' vs]
theorem backD_some {δ δ' : De} {i : Nat} {s : Sl} : ∀ {vs : List Nat}, (backD δ δ' vs)[i]? = some (some s) → (i ∈ vs ∧ δ[i]? = some (some s) ∧ s.isOwn = false) ∨ (i ∉ vs ∧ δ'[i]? = some (some s))
  | [], h => .inr ⟨by simp, h⟩
  | v :: vs, h => by
    unfold backD at h
    by_cases hi : v = i
    · subst hi
      have := (List.getElem?_eq_some_iff.mp h).1
      rw [List.length_set] at this
      rw [List.getElem?_set_self this] at h
      refine .inl ⟨List.mem_cons_self, ?_⟩
      cases q : δ[v]? with
      | none => rw [q] at h; cases h
      | some o =>
        cases o with
        | none => rw [q] at h; cases h
        | some t =>
          rw [q] at h
          cases t with
          | d x => cases h; exact ⟨rfl, rfl⟩
          | own t xs => cases h
          | scr ns => cases h; exact ⟨rfl, rfl⟩
    · rw [List.getElem?_set_ne hi] at h
      rcases backD_some h with ⟨h1, h2⟩ | ⟨h1, h2⟩
      · exact .inl ⟨List.mem_cons_of_mem _ h1, h2⟩
      · exact .inr ⟨by simp only [List.mem_cons, not_or]; exact ⟨fun e => hi e.symm, h1⟩, h2⟩
theorem wipe_at {σ : L2.St} {i : Nat} : ∀ {vs : List Nat}, i ∉ vs → (wipe σ vs)[i]? = σ[i]? := fun h => wipe_out h
theorem wipe_in {σ : L2.St} {i : Nat} : ∀ {vs : List Nat}, i ∈ vs → (wipe σ vs)[i]? = if i < σ.length then some none else none
  | [], h => by simp at h
  | v :: vs, h => by
    unfold wipe
    by_cases hi : v = i
    · subst hi
      by_cases hl : v < σ.length
      · rw [if_pos hl, List.getElem?_set_self (by rw [wipe_length]; exact hl)]
      · rw [if_neg hl]
        exact List.getElem?_eq_none (by rw [List.length_set, wipe_length]; omega)
    · rw [List.getElem?_set_ne hi]
      rcases List.mem_cons.mp h with z | z
      · exact absurd z.symm hi
      · exact wipe_in z
theorem wipe_congr {σ σ' : L2.St} {vs : List Nat} (hl : σ'.length = σ.length) (h : ∀ k, k ∉ vs → σ'[k]? = σ[k]?) : wipe σ' vs = wipe σ vs := by
  refine List.ext_getElem? fun k => ?_
  by_cases hk : k ∈ vs
  · rw [wipe_in hk, wipe_in hk, hl]
  · rw [wipe_at hk, wipe_at hk, h k hk]
theorem Rel.wipe (R : Rel K F0 H0 io F H σ δ) (vs : List Nat) : Rel K F0 H0 io F H (wipe σ vs) (wipeD δ vs) where
  fh := R.fh
  ff := R.ff
  old := R.old
  keep := R.keep
  dom := R.dom
  len := by rw [wipeD_length, wipe_length]; exact R.len
  at_ := fun i s e => by
    obtain ⟨h1, h2⟩ := wipeD_some e
    obtain ⟨v, e1, e2⟩ := R.at_ i s h1
    exact ⟨v, by rw [wipe_at h2]; exact e1, e2⟩
  sep := fun i j s t l e1 e2 o1 o2 v1 v2 => by
    obtain ⟨h1, g1⟩ := wipeD_some e1
    obtain ⟨h2, g2⟩ := wipeD_some e2
    rw [wipe_at g1] at v1
    rw [wipe_at g2] at v2
    exact R.sep i j s t l h1 h2 o1 o2 v1 v2
theorem Rel.back {σ2 : L2.St} {δ2 : De} {vs : List Nat} (R : Rel K F0 H0 io F H σ δ) (R2 : Rel K F0 H0 io F' H' σ2 δ2) (hl : σ2.length = σ.length) (h : ∀ k, k ∉ vs → σ2[k]? = σ[k]?) (e : Ex F F') : Rel K F0 H0 io F' H' σ (backD δ δ2 vs) where
  fh := R2.fh
  ff := R2.ff
  old := R2.old
  keep := R2.keep
  dom := R2.dom
  len := by rw [backD_length, R2.len, hl]
  at_ := fun i s es => by
    rcases backD_some es with ⟨_, h2, o⟩ | ⟨h1, h2⟩
    · obtain ⟨v, e1, e2⟩ := R.at_ i s h2
      exact ⟨v, e1, e2.move e fun l xs z => by rw [o] at z; cases z⟩
    · obtain ⟨v, e1, e2⟩ := R2.at_ i s h2
      exact ⟨v, by rw [← h i h1]; exact e1, e2⟩
  sep := fun i j s t l e1 e2 o1 o2 v1 v2 => by
    rcases backD_some e1 with ⟨_, _, o⟩ | ⟨g1, h1⟩
    · rw [o] at o1; cases o1
    · rcases backD_some e2 with ⟨_, _, o⟩ | ⟨g2, h2⟩
      · rw [o] at o2; cases o2
      · exact R2.sep i j s t l h1 h2 o1 o2 (by rw [h i g1]; exact v1) (by rw [h j g2]; exact v2)
/-- a loose list changes -/
theorem Rel.updLoose (R : Rel K F0 H0 io F H σ δ) {l : Addr} {xs : List V} (L : Loose K H0 F H σ δ l xs) (ys : List V) : Rel K F0 H0 io F (upd H l (.lst ys)) σ δ := by
  refine R.grow (fun a u e => ?_) (Evl.Ex.refl F) (fun _ _ => rfl) (fun a u h0 _ h => ?_) (fun a ha => ?_) rfl (fun i s e => ?_) fun i s e o => ⟨s, e, o⟩
  · rw [upd_ne (ne_of_none e L.f)]
    exact R.fh a u e
  · rw [upd_ne (ne_of_none h0 L.h0)]; exact h
  · by_cases h : a = l
    · subst h; rw [upd_same]; simp
    · rw [upd_ne h]; exact ha
  · obtain ⟨v, e1, e2⟩ := R.at_ i s e
    refine ⟨v, e1, e2.move (Evl.Ex.refl F) fun m zs o hv h1 h2 => ⟨?_, h2⟩⟩
    rw [upd_ne fun z => L.ns i s e o (by rw [e1, hv, z])]
    exact h1
theorem Loose.upd {l m : Addr} {xs ys : List V} (L : Loose K H0 F H σ δ l xs) (n : l ≠ m) : Loose K H0 F (L2.upd H m (.lst ys)) σ δ l xs := ⟨by rw [upd_ne n]; exact L.h, L.f, L.h0, L.ns⟩
theorem Loose.now {l : Addr} {xs ys : List V} (L : Loose K H0 F H σ δ l xs) : Loose K H0 F (L2.upd H l (.lst ys)) σ δ l ys := ⟨upd_same, L.f, L.h0, L.ns⟩
/-- into a block, and out of it -/
theorem Loose.into {σ4 : L2.St} {δ4 : De} {vs tv : List Nat} {l : Addr} {xs : List V} (L : Loose K H0 F H σ δ l xs) (t : Touch tv (wipe σ vs) (wipeD δ vs) σ4 δ4) : Loose K H0 F H σ4 δ4 l xs :=
  ⟨L.h, L.f, L.h0, fun i s e o => by
    obtain ⟨h1, h2⟩ := t.own i s e o
    obtain ⟨h3, h4⟩ := wipeD_some h1
    rw [h2, wipe_at h4]
    exact L.ns i s h3 o⟩
theorem Loose.outof {σ4 : L2.St} {δ4 : De} {vs : List Nat} {l : Addr} {xs : List V} (L : Loose K H0 F H σ4 δ4 l xs) (h : ∀ k, k ∉ vs → σ4[k]? = σ[k]?) : Loose K H0 F H σ (backD δ δ4 vs) l xs :=
  ⟨L.h, L.f, L.h0, fun i s e o => by
    rcases backD_some e with ⟨_, _, o'⟩ | ⟨g1, h1⟩
    · rw [o'] at o; cases o
    · rw [← h i g1]
      exact L.ns i s h1 o⟩
def lcLoop (dg : DG) (dt : DT) (de : DE) (vs : List Nat) (k : List PyData → De → Prop) : List PyData → List PyData → De → Prop
  | [], acc, δ => k acc δ
  | x :: xs, acc, δ => dg x (wipeD δ vs) fun δ1 => dt δ1 fun b δ2 => if b = true then de δ2 (fun r δ3 => match frz1 r δ3 with
      | some (y, δ4) => lcLoop dg dt de vs k xs (acc ++ [y]) (backD δ δ4 vs)
      | none => False) else lcLoop dg dt de vs k xs acc (backD δ δ2 vs)
def kLcE (q : Rv → De → Prop) (acc : List PyData) (δ : De) : Prop := q (.new acc) δ
def kLc (dg : DG) (dt : DT) (de : DE) (vs : List Nat) (q : Rv → De → Prop) (items : List PyData) (δ1 : De) : Prop := items.length ≤ sizeLine ∧ lcLoop dg dt de vs (kLcE q) items [] δ1
def dLc (di : DI) (dg : DG) (dt : DT) (de : DE) (vs : List Nat) (δ : De) (q : Rv → De → Prop) : Prop := di δ (kLc dg dt de vs q)
theorem le_lc {wi : TI} {di : DI} {g : TG} {dg : DG} {tt : TT} {dt : DT} {de : DE} {vs tv : List Nat} {Q : VK} (hi : ItOk K wi di) (hg : TgOk K tv g dg) (hv : ∀ k ∈ tv, k ∈ vs) (ht : ∀ (σ : L2.St) (H : Hp) (Q : Bool → Hp → Prop), LT K dt σ H Q → tt σ H Q)
    (h : LE K (dLc di dg dt de vs) σ H Q) : tLc wi g tt (LE K de) vs σ H Q := by
  obtain ⟨F0, H0, io, F, δ, q, R, h, k⟩ := h
  refine hi F0 H0 io F H σ δ _ _ R h fun J F1 H1 items δ1 R1 s1 gv h1 D hD => ?_
  obtain ⟨hz, h1⟩ := h1
  refine ⟨fun i m H' => ∃ F' δ' acc us, Rel K F0 H0 io F' H' σ δ' ∧ Ex F1 F' ∧ Loose K H0 F' H' σ δ' D us ∧ AtAll K F' acc us ∧ acc.length ≤ i ∧ (∀ l xs, Loose K H0 F H σ δ l xs → Loose K H0 F' H' σ δ' l xs ∧ l ≠ D) ∧ Ex F F' ∧ i + m = items.length ∧
    lcLoop dg dt de vs (fun acc δ2 => q (.new acc) δ2) (items.drop i) acc δ', ⟨items.length, F1, δ1, [], [], R1.newO hD _, Evl.Ex.refl F1, R1.loose hD [], rfl, Nat.le_refl _, fun l xs L => ?_, s1.ex, Nat.zero_add _, h1⟩, fun i m H' hw => ?_⟩
  · have L1 := s1.ls l xs L
    exact ⟨(Step.newO hD (.lst []) (.d .none)).ls l xs L1, ne_of_none L1.h hD⟩
  · obtain ⟨F', δ', acc, us, R', e', LD, ha, hai, hls, ef, em, hl⟩ := hw
    by_cases hlt : i < items.length
    · right
      refine ⟨gv.go i F' H' e' R'.fh hlt, fun H2 => ∃ F2 δ2 acc2 us2, Rel K F0 H0 io F2 H2 σ δ2 ∧ Ex F1 F2 ∧ Loose K H0 F2 H2 σ δ2 D us2 ∧ AtAll K F2 acc2 us2 ∧ acc2.length ≤ i + 1 ∧ (∀ l xs, Loose K H0 F H σ δ l xs → Loose K H0 F2 H2 σ δ2 l xs ∧ l ≠ D) ∧ Ex F F2 ∧
        lcLoop dg dt de vs (fun acc δ2 => q (.new acc) δ2) (items.drop (i + 1)) acc2 δ2, fun H2 ⟨F2, δ2, acc2, us2, R2, x1, x2, x3, x4, x5, x6, x7⟩ => ⟨m - 1, by omega, F2, δ2, acc2, us2, R2, x1, x2, x3, x4, x5, x6, by omega, x7⟩, fun x H'' hy => ?_⟩
      obtain ⟨d, hd, hx⟩ := gv.yld i F' H' x H'' e' R'.fh hlt hy
      have hdr : items.drop i = d :: items.drop (i + 1) := by
        rw [List.drop_eq_getElem_cons hlt]
        rw [List.getElem?_eq_getElem hlt] at hd
        cases hd; rfl
      rw [hdr] at hl
      obtain ⟨F3, R3, s3, a3⟩ : ∃ F3, Rel K F0 H0 io F3 H'' σ δ' ∧ Step K H0 F' H' σ δ' F3 H'' δ' (.d .none) .non ∧ At K F3 d x := by
        rcases hx with ⟨rfl, a⟩ | ⟨T, o, hT, rfl, a⟩
        · exact ⟨F', R', .refl _, a⟩
        · exact ⟨_, R'.newF hT o, .newF hT (Evl.fresh_back R'.fh hT) o _, a⟩
      refine hg F0 H0 io F3 H'' _ _ d x _ _ (R3.wipe vs) a3 hl fun σ4 δ4 R4 t4 h4 => ?_
      have out : ∀ k, k ∉ vs → σ4[k]? = σ[k]? := fun k hk => (t4.out k fun z => hk (hv k z)).trans (wipe_at hk)
      have len4 : σ4.length = σ.length := t4.len.trans (wipe_length σ vs)
      refine ⟨wipe_congr len4 out, ht _ _ _ (LT.of R4 h4 fun b F5 H5 δ5 R5 s5 h5 => ?_)⟩
      have LD5 := s5.ls D us ((s3.ls D us LD).into t4)
      cases b with
      | true =>
        refine iteT (LE.of R5 h5 fun y F6 H6 r6 δ6 R6 s6 a6 h6 => ?_)
        try (first | simp only [kLcE] at h6)
        split at h6
        · rename_i yd δ7 hp
          obtain ⟨F7, R7, s7, a7⟩ := R6.frz1 s6 a6 hp
          have LD7 := s7.ls D us LD5
          have ex7 : Ex F' F7 := (s3.ex.trans s5.ex).trans s7.ex
          have LDo := LD7.outof (δ := δ') out
          have Rb := R'.back R7 len4 out ex7
          refine ⟨us, LD7.h, by rw [ha.length]; omega, F7, _, acc ++ [yd], us ++ [y], Rb.updLoose LDo _, e'.trans ex7, LDo.now, (AtAll.mono ex7 _ _ ha).append (AtAll.one a7), by rw [List.length_append]; show acc.length + 1 ≤ i + 1; omega, fun l xs L => ?_, ef.trans ex7, h6⟩
          obtain ⟨L1, n1⟩ := hls l xs L
          exact ⟨((s7.ls l xs (s5.ls l xs ((s3.ls l xs L1).into t4))).outof out).upd n1, n1⟩
        · exact h6.elim
      | false =>
        have ex5 : Ex F' F5 := s3.ex.trans s5.ex
        refine iteF ⟨F5, _, acc, us, R'.back R5 len4 out ex5, e'.trans ex5, LD5.outof out, AtAll.mono ex5 _ _ ha, by omega, fun l xs L => ?_, ef.trans ex5, h5⟩
        obtain ⟨L1, n1⟩ := hls l xs L
        exact ⟨(s5.ls l xs ((s3.ls l xs L1).into t4)).outof out, n1⟩
    · left
      have hie : i = items.length := by omega
      subst hie
      refine ⟨gv.stop F' H' e' R'.fh, ?_⟩
      rw [List.drop_length] at hl
      exact k _ F' H' (.new acc) δ' R' ⟨ef, fun l xs L => (hls l xs L).1, fun l xs _ L _ z => by cases z; exact (hls _ xs L).2 rfl⟩ ⟨D, us, rfl, LD, ha⟩ hl
end
end DL

namespace DL
open PySem PySem.Spec PyProof.Rows L2
section
variable {K : Frag} {F0 H0 : Hp} {io : List Addr} {F H F' H' : Hp} {σ : L2.St} {δ δ' : De}
/-! ### what is walked: lists, tuples, texts -/
def iSeq (K : Frag) (tl : TE) : TI := fun σ H R => tl σ H fun x H1 => (∃ a xs, x = .ref a ∧ SqL K H1 a xs ∧ R (Itl K a) H1) ∨ (∃ a xs, x = .ref a ∧ SqT K H1 a xs ∧ R (Itt K a) H1) ∨ ∃ z, x = .str z ∧ R (Its z) H1
theorem pi_seq {X : Cx} {tg l : Expr} {tl : TE} (hl : PE X l tl) : PI X tg l (iSeq X.K tl) := ⟨fun pins s σ H R I h => thn (hl.run pins s σ H _ I h) fun v s1 ⟨x, H1, I1, r1, q1⟩ => by
  rcases q1 with ⟨a, xs, rfl, hq, q⟩ | ⟨a, xs, rfl, hq, q⟩ | ⟨z, rfl, q⟩
  · cases r1
    obtain ⟨its, _, p, _⟩ := I1.list hq
    exact wpAny_pyIter_list p.isList (pi_one (tk := s1.toks) I1 _ (turn_list a _) ⟨_, Heap.get?_push_size _ rfl, rfl, rfl⟩ q)
  · cases r1
    obtain ⟨its, _, p, _⟩ := I1.tuple hq
    exact wpAny_pyIter_tuple (items := its.toArray) p (pi_one (tk := s1.toks) I1 _ (turn_tuple a _) ⟨_, Heap.get?_push_size _ rfl, rfl, rfl⟩ q)
  · obtain ⟨t, rfl⟩ := r1
    by_cases ha : z.cps.all (· < 128) = true
    · exact wpAny_pyIter_ascii ha (pi_one (tk := s1.toks) I1 _ (turn_str _ z t _ (.inl rfl)) ⟨_, Heap.get?_push_size _ rfl, rfl, rfl⟩ q)
    · exact wpAny_pyIter_wide (Bool.eq_false_iff.mpr ha) (pi_one (tk := s1.toks) I1 _ (turn_str _ z t _ (.inr rfl)) ⟨_, Heap.get?_push_size _ rfl, rfl, rfl⟩ q)⟩
def itemsOf : PyData → Option (List PyData)
  | .list xs => some xs
  | .tuple xs => some xs
  | .str z => some (z.cps.toList.map fun c => .str ⟨#[c]⟩)
  | _ => none
def kSeqI (q : List PyData → De → Prop) (r : Rv) (δ1 : De) : Prop := match frz1 r δ1 with
  | some (x, δ2) => (match itemsOf x with
    | some xs => q xs δ2
    | none => False)
  | none => False
def dSeqI (de : DE) (δ : De) (q : List PyData → De → Prop) : Prop := de δ (kSeqI q)
theorem gives_list {a : Addr} {us : List V} {xs : List PyData} (h : F a = some (.lst us)) (ha : AtAll K F xs us) : Gives K (Itl K a) xs F where
  go := fun i F' H' e e' hi => by
    obtain ⟨v, h1, _⟩ := ha.get (List.getElem?_eq_getElem hi)
    exact ⟨us, v, .inl (.inl (e' _ _ (e _ _ h))), h1⟩
  stop := fun F' H' e e' => ⟨us, .inl (.inl (e' _ _ (e _ _ h))), by rw [ha.length]; exact Nat.le_refl _⟩
  yld := fun i F' H' x H'' e e' hi hy => by
    obtain ⟨rfl, hx⟩ := hy
    obtain ⟨v, h1, h2⟩ := ha.get (List.getElem?_eq_getElem hi)
    have := hx us (.inl (.inl (e' _ _ (e _ _ h))))
    rw [h1] at this; cases this
    exact ⟨_, List.getElem?_eq_getElem hi, .inl ⟨rfl, At.mono e _ _ h2⟩⟩
theorem gives_tup {a : Addr} {us : List V} {xs : List PyData} (h : SqT K F a us) (ha : AtAll K F xs us) : Gives K (Itt K a) xs F where
  go := fun i F' H' e e' hi => by
    obtain ⟨v, h1, _⟩ := ha.get (List.getElem?_eq_getElem hi)
    exact ⟨us, v, Evl.ex_t e' (Evl.ex_t e h), h1⟩
  stop := fun F' H' e e' => ⟨us, Evl.ex_t e' (Evl.ex_t e h), by rw [ha.length]; exact Nat.le_refl _⟩
  yld := fun i F' H' x H'' e e' hi hy => by
    obtain ⟨rfl, hx⟩ := hy
    obtain ⟨v, h1, h2⟩ := ha.get (List.getElem?_eq_getElem hi)
    have := hx us (Evl.ex_t e' (Evl.ex_t e h))
    rw [h1] at this; cases this
    exact ⟨_, List.getElem?_eq_getElem hi, .inl ⟨rfl, At.mono e _ _ h2⟩⟩
theorem gives_str {z : Str} : Gives K (Its z) (z.cps.toList.map fun c => .str ⟨#[c]⟩) F where
  go := fun i F' H' e e' hi => by
    show i < z.cps.size
    simpa using hi
  stop := fun F' H' e e' => by
    show z.cps.size ≤ _
    simp
  yld := fun i F' H' x H'' e e' hi hy => by
    obtain ⟨rfl, c, hc, rfl⟩ := hy
    refine ⟨.str ⟨#[c]⟩, ?_, .inl ⟨rfl, rfl⟩⟩
    rw [List.getElem?_map, Array.getElem?_toList, hc]
    rfl
theorem it_seq {de : DE} : ItOk K (iSeq K (LE K de)) (dSeqI de) := fun F0 H0 io F H σ δ q R' R h k => by
  refine LE.of R h fun v F1 H1 r δ1 R1 e1 a1 h1 => ?_
  try (first | simp only [kSeqI] at h1 | simp only [kRng1] at h1 | simp only [kRng2] at h1 | simp only [kEnum] at h1 | simp only [kZip] at h1)
  split at h1
  · rename_i x δ2 hp
    obtain ⟨F2, R2, s2, a2⟩ := R1.frz1 e1 a1 hp
    split at h1
    · rename_i xs hx
      cases x with
      | list ys =>
        cases hx
        obtain ⟨a, us, rfl, h2, h3⟩ := a2
        exact .inl ⟨a, us, rfl, .inl (.inl (R2.fh _ _ h2)), k _ F2 H1 xs δ2 R2 (s2.as _) (gives_list h2 h3) h1⟩
      | tuple ys =>
        cases hx
        obtain ⟨a, us, rfl, h2, h3⟩ := a2
        exact .inr (.inl ⟨a, us, rfl, Evl.ex_t R2.fh h2, k _ F2 H1 xs δ2 R2 (s2.as _) (gives_tup h2 h3) h1⟩)
      | str z =>
        cases hx
        cases a2
        exact .inr (.inr ⟨z, rfl, k _ F2 H1 _ δ2 R2 (s2.as _) gives_str h1⟩)
      | _ => cases hx
    · exact h1.elim
  · exact h1.elim
/-! ranges -/
def rangeD (lo : Int) (n : Nat) : List PyData := (List.range n).map fun i => .int (lo + (i : Nat))
theorem rangeD_length {lo : Int} {n : Nat} : (rangeD lo n).length = n := by unfold rangeD; rw [List.length_map, List.length_range]
theorem rangeD_get {lo : Int} {n i : Nat} (h : i < n) : (rangeD lo n)[i]? = some (.int (lo + (i : Nat))) := by
  unfold rangeD
  rw [List.getElem?_map, List.getElem?_range h]; rfl
theorem gives_range {lo : Int} {n : Nat} : Gives K (Itr lo n) (rangeD lo n) F where
  go := fun i F' H' e e' hi => by rw [rangeD_length] at hi; exact hi
  stop := fun F' H' e e' => by rw [rangeD_length]; exact Nat.le_refl _
  yld := fun i F' H' x H'' e e' hi hy => by
    obtain ⟨rfl, rfl⟩ := hy
    rw [rangeD_length] at hi
    exact ⟨_, rangeD_get hi, .inl ⟨rfl, rfl⟩⟩
def kRng1 (q : List PyData → De → Prop) (rs : List Rv) (δ1 : De) : Prop := match rs with
  | [.d (.int j)] => (-(2 ^ 62) ≤ j ∧ j < 2 ^ 62) ∧ q (rangeD 0 j.toNat) δ1
  | _ => False
def kRng2 (q : List PyData → De → Prop) (rs : List Rv) (δ1 : De) : Prop := match rs with
  | [.d (.int i), .d (.int j)] => (-(2 ^ 62) ≤ i ∧ i < 2 ^ 62 ∧ -(2 ^ 62) ≤ j ∧ j < 2 ^ 62) ∧ q (rangeD i (j - i).toNat) δ1
  | _ => False
def dRng1 (da : DA) (δ : De) (q : List PyData → De → Prop) : Prop := da δ (kRng1 q)
def dRng2 (da : DA) (δ : De) (q : List PyData → De → Prop) : Prop := da δ (kRng2 q)
theorem it_rng1 {da : DA} : ItOk K (iRng1 (LA K da)) (dRng1 da) := fun F0 H0 io F H σ δ q R' R h k => by
  refine LA.of R h fun vs F1 H1 rs δ1 R1 e1 nn a1 h1 => ?_
  try (first | simp only [kSeqI] at h1 | simp only [kRng1] at h1 | simp only [kRng2] at h1 | simp only [kEnum] at h1 | simp only [kZip] at h1)
  split at h1
  · rename_i j
    cases a1 with
    | cons h2 t _ => cases t; cases h2; exact ⟨j, rfl, h1.1.1, h1.1.2, k _ F1 H1 _ δ1 R1 e1 gives_range h1.2⟩
  · exact h1.elim
theorem it_rng2 {da : DA} : ItOk K (iRng2 (LA K da)) (dRng2 da) := fun F0 H0 io F H σ δ q R' R h k => by
  refine LA.of R h fun vs F1 H1 rs δ1 R1 e1 nn a1 h1 => ?_
  try (first | simp only [kSeqI] at h1 | simp only [kRng1] at h1 | simp only [kRng2] at h1 | simp only [kEnum] at h1 | simp only [kZip] at h1)
  split at h1
  · rename_i i j
    cases a1 with
    | cons h2 t _ =>
      cases t with
      | cons h3 t _ => cases t; cases h2; cases h3; exact ⟨i, j, rfl, h1.1, k _ F1 H1 _ δ1 R1 e1 gives_range h1.2⟩
  · exact h1.elim
/-- lo, lo + c, .. (n of them) -/
def rangeC (lo c : Int) (n : Nat) : List PyData := (List.range n).map fun i => .int (lo + (i : Nat) * c)
theorem rangeC_length {lo c : Int} {n : Nat} : (rangeC lo c n).length = n := by unfold rangeC; rw [List.length_map, List.length_range]
theorem gives_rangeC {lo c : Int} {n : Nat} : Gives K (Itc lo c n) (rangeC lo c n) F where
  go := fun i F' H' e e' hi => by rw [rangeC_length] at hi; exact hi
  stop := fun F' H' e e' => by rw [rangeC_length]; exact Nat.le_refl _
  yld := fun i F' H' x H'' e e' hi hy => by
    obtain ⟨rfl, rfl⟩ := hy
    rw [rangeC_length] at hi
    refine ⟨.int (lo + (i : Nat) * c), ?_, .inl ⟨rfl, rfl⟩⟩
    unfold rangeC
    rw [List.getElem?_map, List.getElem?_range hi]; rfl
/-- enumerate(list), zip(list, list) -/
def enumD (xs : List PyData) : List PyData := xs.zipIdx.map fun p => .tuple [.int (p.2 : Nat), p.1]
def zipD (xs ys : List PyData) : List PyData := (xs.zip ys).map fun p => .tuple [p.1, p.2]
theorem enumD_length {xs : List PyData} : (enumD xs).length = xs.length := by unfold enumD; rw [List.length_map, List.length_zipIdx]
theorem at_pair {T : Addr} {x y : V} {d e : PyData} (h1 : At K F d x) (h2 : At K F e y) (hT : F T = none) : At K (upd F T (.tup [x, y])) (.tuple [d, e]) (.ref T) :=
  ⟨T, _, rfl, .inl (.inl upd_same), x, _, rfl, At.mono (ex_upd hT) _ _ h1, AtAll.one (At.mono (ex_upd hT) _ _ h2)⟩
theorem gives_enum {a : Addr} {us : List V} {xs : List PyData} (h : F a = some (.lst us)) (ha : AtAll K F xs us) : Gives K (Ite K a) (enumD xs) F where
  go := fun i F' H' e e' hi => by
    rw [enumD_length] at hi
    obtain ⟨v, h1, _⟩ := ha.get (List.getElem?_eq_getElem hi)
    exact ⟨us, v, .inl (.inl (e' _ _ (e _ _ h))), h1⟩
  stop := fun F' H' e e' => ⟨us, .inl (.inl (e' _ _ (e _ _ h))), by rw [ha.length, enumD_length]; exact Nat.le_refl _⟩
  yld := fun i F' H' v H'' e e' hi hy => by
    rw [enumD_length] at hi
    obtain ⟨T, x, rfl, hT, rfl, hx⟩ := hy
    obtain ⟨w, h1, h2⟩ := ha.get (List.getElem?_eq_getElem hi)
    have := hx us (.inl (.inl (e' _ _ (e _ _ h))))
    rw [h1] at this; cases this
    refine ⟨.tuple [.int (i : Nat), xs[i]], ?_, .inr ⟨T, _, hT, rfl, at_pair rfl (At.mono e _ _ h2) (Evl.fresh_back e' hT)⟩⟩
    unfold enumD
    rw [List.getElem?_map, List.getElem?_zipIdx, List.getElem?_eq_getElem hi]
    simp
theorem gives_zip {a b : Addr} {us ws : List V} {xs ys : List PyData} (h : F a = some (.lst us)) (ha : AtAll K F xs us) (h' : F b = some (.lst ws)) (hb : AtAll K F ys ws) : Gives K (Itz K a b) (zipD xs ys) F where
  go := fun i F' H' e e' hi => by
    unfold zipD at hi
    rw [List.length_map, List.length_zip] at hi
    have i1 : i < xs.length := by omega
    have i2 : i < ys.length := by omega
    obtain ⟨v, h1, _⟩ := ha.get (List.getElem?_eq_getElem i1)
    obtain ⟨w, h2, _⟩ := hb.get (List.getElem?_eq_getElem i2)
    exact ⟨us, ws, v, w, .inl (.inl (e' _ _ (e _ _ h))), .inl (.inl (e' _ _ (e _ _ h'))), h1, h2⟩
  stop := fun F' H' e e' => ⟨us, ws, .inl (.inl (e' _ _ (e _ _ h))), .inl (.inl (e' _ _ (e _ _ h'))), by
    unfold zipD
    rw [ha.length, hb.length, List.length_map, List.length_zip]
    omega⟩
  yld := fun i F' H' v H'' e e' hi hy => by
    unfold zipD at hi ⊢
    rw [List.length_map, List.length_zip] at hi
    have i1 : i < xs.length := by omega
    have i2 : i < ys.length := by omega
    obtain ⟨T, x, y, rfl, hT, rfl, hx, hy⟩ := hy
    obtain ⟨w1, h1, k1⟩ := ha.get (List.getElem?_eq_getElem i1)
    obtain ⟨w2, h2, k2⟩ := hb.get (List.getElem?_eq_getElem i2)
    have e1 := hx us (.inl (.inl (e' _ _ (e _ _ h))))
    have e2 := hy ws (.inl (.inl (e' _ _ (e _ _ h'))))
    rw [h1] at e1; cases e1
    rw [h2] at e2; cases e2
    refine ⟨.tuple [xs[i], ys[i]], ?_, .inr ⟨T, _, hT, rfl, at_pair (At.mono e _ _ k1) (At.mono e _ _ k2) (Evl.fresh_back e' hT)⟩⟩
    rw [List.getElem?_map, List.getElem?_eq_getElem (by rw [List.length_zip]; omega)]
    simp
def kEnum (q : List PyData → De → Prop) (xs : List PyData) (δ2 : De) : Prop := match xs with
  | [.list ys] => q (enumD ys) δ2
  | _ => False
def kZip (q : List PyData → De → Prop) (xs : List PyData) (δ2 : De) : Prop := match xs with
  | [.list ys, .list zs] => q (zipD ys zs) δ2
  | _ => False
def dEnum (da : DA) (δ : De) (q : List PyData → De → Prop) : Prop := dFrz da (kEnum q) δ
def dZip (da : DA) (δ : De) (q : List PyData → De → Prop) : Prop := dFrz da (kZip q) δ
theorem it_enum {da : DA} : ItOk K (iEnum K (LA K da)) (dEnum da) := fun F0 H0 io F H σ δ q R' R h k => by
  refine la_frz R h fun vs F1 H1 xs δ1 R1 e1 a1 h1 => ?_
  try (first | simp only [kSeqI] at h1 | simp only [kRng1] at h1 | simp only [kRng2] at h1 | simp only [kEnum] at h1 | simp only [kZip] at h1)
  split at h1
  · rename_i ys
    obtain ⟨v, r, rfl, a2, a3⟩ := a1
    cases a3
    obtain ⟨a, us, rfl, h2, h3⟩ := a2
    exact ⟨a, us, rfl, .inl (.inl (R1.fh _ _ h2)), k _ F1 H1 _ δ1 R1 e1 (gives_enum h2 h3) h1⟩
  · exact h1.elim
theorem it_zip {da : DA} : ItOk K (iZip K (LA K da)) (dZip da) := fun F0 H0 io F H σ δ q R' R h k => by
  refine la_frz R h fun vs F1 H1 xs δ1 R1 e1 a1 h1 => ?_
  try (first | simp only [kSeqI] at h1 | simp only [kRng1] at h1 | simp only [kRng2] at h1 | simp only [kEnum] at h1 | simp only [kZip] at h1)
  split at h1
  · rename_i ys zs
    obtain ⟨v, r, rfl, a2, w, r', rfl, a3, a4⟩ := a1
    cases a4
    obtain ⟨a, us, rfl, h2, h3⟩ := a2
    obtain ⟨b, ws, rfl, h4, h5⟩ := a3
    exact ⟨a, b, us, ws, rfl, .inl (.inl (R1.fh _ _ h2)), .inl (.inl (R1.fh _ _ h4)), k _ F1 H1 _ δ1 R1 e1 (gives_zip h2 h3 h4 h5) h1⟩
  · exact h1.elim
end
end DL

namespace DL
open PySem PySem.Spec PyProof.Rows L2
/-! ### defs: the promise, where nothing is being shown (repr) further out -/
structure FnG (P : Program) (w : World) (K : Frag) (mg : Str → Option Value) (base : Heap) (CX : CXT) (k : Nat) (f : Addr) (fd : FuncData) (ps : List Str) (sp : Sp) : Prop where
  len : ∀ vs H Q E, sp vs H Q E → vs.length = ps.length
  run : ∀ (A : Around) (outer : List Env) (s : Shared) (H : Hp) (args : Args) (us : List Value) (vs : List V) (Q : VK) (E : XK), A.guards = some [] → Room k A → Env0 P w K mg base A outer s H → BindsTo s fd args (ps.zip us) → Vals vs us → sp vs H Q E →
    codeAny (model P w) A (.call (.ref f) args) (CR CX outer P w H s Q E) s
theorem FnG.mono {P : Program} {w : World} {K : Frag} {mg : Str → Option Value} {base : Heap} {CX : CXT} {j k : Nat} {f : Addr} {fd : FuncData} {ps : List Str} {sp : Sp} (F : FnG P w K mg base CX j f fd ps sp) (h : j ≤ k) : FnG P w K mg base CX k f fd ps sp :=
  ⟨F.len, fun A outer s H args us vs Q E hg hr => F.run A outer s H args us vs Q E hg (hr.mono h)⟩
theorem fnG_of {CX : CXT} {P : Program} {w : World} {K : Frag} {mg : Str → Option Value} {base : Heap} {k : Nat} {f : Addr} {nm qual : Str} {params : Arguments} {body : List Stmt} {scope : Scope} {dV kV doc pm cdv ct oc : Value} {an od : Option Addr}
    {osl : Array (Option Value)} {N ps : List Str} {sp : Sp} (lk : K.lookup f = some ⟨oc, od, .func (PySem.W.fnOf nm qual params body scope dV kV doc pm an cdv ct), osl⟩) (hcd : PySem.W.codeIn K cdv qual = true) (S : FnScope N ps scope)
    (hlen : ∀ vs H Q E, sp vs H Q E → vs.length = ps.length)
    (hb0 : ∀ (A : Around) (outer : List Env) (s : Shared) (H : Hp) (vs : List V) (Q : VK) (E : XK), A.guards = some [] → Room k (A.deeper (envOfC qual scope s.heap.objs.size f cdv)) → sp vs H Q E →
      ∃ t, PSs (cxOf CX P w K mg base N qual scope f cdv A outer s H E) body t ∧ t { nx := fun _ H' => Q .non H', rt := Q } (start N vs) H) :
    FnG P w K mg base CX (k + 1) f (PySem.W.fnOf nm qual params body scope dV kV doc pm an cdv ct) ps sp := ⟨hlen, fun A outer s H args us vs Q E hgd hr e0 hb r hsp => by
  have keepB : ∀ b o, base.get? b = some o → s.heap.get? b = some o := fun b o e => (e0.bs b o e).1
  have KX : K.In s.heap := e0.mod.kin.keeps keepB
  refine codeAny_call_function hr.depth (KX _ _ lk) rfl S.co S.gen rfl (PySem.W.codeRec_of KX hcd) (hb _ _ _ _ (wpAny_newFunctionEnv_cells S.kind (fun y hy => ?_) fun env he s1 x => ?_))
  · obtain ⟨n, v⟩ := y
    rcases S.par n (List.of_mem_zip hy).1 with q | q
    · exact .inl q
    · exact .inr ⟨q, PySem.W.cellsFrom_some _ _ _ (.inl q)⟩
  subst he
  refine ⟨(e0.mod.nolimit.keeps keepB).keeps x.toInCall.keep, codeAny_func ?_⟩
  obtain ⟨t, ht, hq⟩ := hb0 A outer s H vs Q E hgd (hr.deeper _) hsp
  refine wpAny_mono (ht.run [] s1 (start N vs) H _ (inv_start S hr.hd e0 (hlen _ _ _ _ hsp) r x) hq) (fun fl s' hs => ?_) fun _ _ hs => hs
  cases fl with
  | ret u =>
    obtain ⟨v, σ', H', J, rv, q⟩ := hs
    exact ⟨v, H', J.os, J.bare, J.base, J.hok, rv, q⟩
  | next =>
    obtain ⟨σ', H', J, q⟩ := hs
    exact ⟨.non, H', J.os, J.bare, J.base, J.hok, rfl, q⟩
  | brk => exact hs.elim fun _ h => h.elim fun _ h => False.elim h.2
  | cont => exact hs.elim fun _ h => h.elim fun _ h => False.elim h.2⟩
section
variable {X : Cx} {CX : CXT} {k : Nat} {f : Addr} {fd : FuncData} {ps : List Str} {sp : Sp} {E : XK} {x : Str} {p pos : Pos} {e : Expr} {es : List Expr} {t : TA}
theorem runG {pins : List (Addr × Obj)} {σ : L2.St} {H : Hp} {s : Shared} {Q : VK} {args : Args} {us : List Value} {vs : List V} (F : FnG X.prog X.w X.K X.mg X.base CX k f fd ps sp) (gd : X.A.guards = some []) (hr : Room k X.A) (hb : BindsTo s fd args (ps.zip us)) (hx : Passes CX X E)
    (I : Inv X pins σ H s) (r : Vals vs us) (h : sp vs H Q E) : codeAny (model X.prog X.w) X.A (.call (.ref f) args) (fun r s' => match r with | .ok (.ret u) => EP X pins σ Q u s' | .ok _ => False | .error e => X.xe e s') s := by
  refine codeAny_mono (F.run X.A X.stack s H args us vs Q E gd hr I.env0 hb r h) fun r s' hq => ?_
  cases r with
  | error e => exact hx pins σ H s e s' I hq
  | ok fl =>
    cases fl with
    | ret u => exact I.after hq
    | _ => exact False.elim hq
theorem runG_wp {pins : List (Addr × Obj)} {σ : L2.St} {H : Hp} {s : Shared} {Q : VK} {us : List Value} {vs : List V} (F : FnG X.prog X.w X.K X.mg X.base CX k f fd ps sp) (gd : X.A.guards = some []) (hr : Room k X.A) (hb : Binds X.K fd ps []) (hx : Passes CX X E)
    (I : Inv X pins σ H s) (r : Vals vs us) (h : sp vs H Q E) : wpAny (model X.prog X.w) X.A (call (.ref f) us) (EP X pins σ Q) X.xe s := by
  have hl : (us ++ []).length = ps.length := by rw [List.append_nil, ← r.length]; exact F.len _ _ _ _ h
  have hb' := hb s us I.kIn hl
  rw [List.append_nil] at hb'
  refine wpAny_call (codeAny_mono (runG F gd hr hb' hx I r h) fun r s' hq => ?_)
  cases r with
  | error e => exact hq
  | ok fl =>
    cases fl with
    | ret u => exact hq
    | _ => exact False.elim hq
/-- f(e, ..) -/
theorem pe_callG (F : FnG X.prog X.w X.K X.mg X.base CX k f fd ps sp) (gd : X.A.guards = some []) (hr : Room k X.A) (hg : Gl X x) (hm : X.mg x = some (.ref f)) (hk : PySem.W.keepIn X.K (.ref f) = true) (hb : Binds X.K fd ps []) (hx : Passes CX X E)
    (ha : PA X (e :: es) t) (hdb : (x == ("__debug__" : Str)) = false := by decide) (he : starEach (e :: es) X.env = (false, eval e X.env) :: starEach es X.env := by rfl) (hpl : (backTo pos (starEach es X.env)).any (·.1) = false := by rfl) :
    PE X (.Call (.Name x p) (e :: es) [] pos) (tCall sp [] E t) := ⟨fun pins s σ H Q I h =>
  wpAny_Call_Name_kw (ld_glob I hg hm (PySem.W.callWith_K (h₀ := X.base) I.ok.mod.kin hk (thn (ha.run pos pins s σ H _ I h) fun us s1 ⟨vs, H1, I1, r, q⟩ => ⟨I1.kIn, runG_wp F gd hr hb hx I1 r (by
    have q' : sp (vs ++ []) H1 Q E := q
    rw [List.append_nil] at q'
    exact q')⟩) he hpl) hdb)⟩
/-- f() -/
theorem pe_callG0 (F : FnG X.prog X.w X.K X.mg X.base CX k f fd ps sp) (gd : X.A.guards = some []) (hr : Room k X.A) (hg : Gl X x) (hm : X.mg x = some (.ref f)) (hk : PySem.W.keepIn X.K (.ref f) = true) (hb : Binds X.K fd ps []) (hx : Passes CX X E)
    (hdb : (x == ("__debug__" : Str)) = false := by decide) : PE X (.Call (.Name x p) [] [] pos) (tCall sp [] E tNil) := ⟨fun pins s σ H Q I h =>
  wpAny_Call_Name_kw (ld_glob I hg hm (PySem.W.callWith_K0 I.kIn hk (runG_wp (us := []) (vs := []) F gd hr hb hx I .nil h)) hdb)⟩
end
/-! ### promises over data -/
/-- the arguments, what is wanted of the result and of the lists that were handed in to be changed -/
abbrev DSp := List Sl → (Sl → List (List PyData) → Prop) → Prop
inductive Args2 (K : Frag) (io : List Addr) (F H : Hp) : List Sl → List V → Prop
  | nil : Args2 K io F H [] []
  | cons {s ss v vs} : SlAt K H io F H s v → Args2 K io F H ss vs → Args2 K io F H (s :: ss) (v :: vs)
/-- the tags of the lists handed in: n, n + 1, .. -/
def tagged : Nat → List Sl → Nat → Prop
  | n, [], m => n = m
  | n, .own (some k) _ :: r, m => k = n ∧ tagged (n + 1) r m
  | _, .own none _ :: _, _ => False
  | n, _ :: r, m => tagged n r m
structure After (K : Frag) (io : List Addr) (F H F' H' : Hp) (s : Sl) (v : V) (ios : List (List PyData)) : Prop where
  ex : Ex F F'
  fh : Ex F' H'
  old : ∀ a, H a ≠ none → F' a = F a
  keep : ∀ a o, H a = some o → a ∉ io → H' a = some o
  dom : ∀ a, H a ≠ none → H' a ≠ none
  rt : RtAt K H F' H' s v
  ios : ∀ (k : Nat) l, io[k]? = some l → ∃ xs ys, ios[k]? = some xs ∧ H' l = some (.lst ys) ∧ F' l = none ∧ AtAll K F' xs ys
def spD (K : Frag) (n : Nat) (S : DSp) : Sp := fun vs H Q _ => ∃ F io as q, Ex F H ∧ io.Nodup ∧ as.length = n ∧ tagged 0 as io.length ∧ Args2 K io F H as vs ∧ S as q ∧ ∀ v F' H' s ios, After K io F H F' H' s v ios → q s ios → Q v H'
/-- what the lists that were handed in are at the end -/
def outs : List Sl → De → Option (List (List PyData))
  | [], _ => some []
  | .own (some k) _ :: r, some (.own (some k') xs) :: δ => if k = k' then (outs r δ).map (xs :: ·) else none
  | .own _ _ :: _, _ => none
  | _ :: r, _ :: δ => outs r δ
  | _ :: _, [] => none
def endsD (as : List Sl) (q : Sl → List (List PyData) → Prop) : DEx where
  rt := fun s δ => match outs as δ with
    | some ios => q s ios
    | none => False
  bk := fun _ => False
  ct := fun _ => False
def nxD (as : List Sl) (q : Sl → List (List PyData) → Prop) (δ : De) : Prop := match outs as δ with
  | some ios => q (.d .none) ios
  | none => False
theorem endsD_rt {as : List Sl} {q : Sl → List (List PyData) → Prop} {s : Sl} {δ : De} : (endsD as q).rt s δ = (match outs as δ with
  | some ios => q s ios
  | none => False) := rfl
def initD (n : Nat) (as : List Sl) : De := as.map some ++ List.replicate (n - as.length) none
theorem Args2.length {K : Frag} {io : List Addr} {F H : Hp} : ∀ {as : List Sl} {vs : List V}, Args2 K io F H as vs → vs.length = as.length
  | _, _, .nil => rfl
  | _, _, .cons _ t => by rw [List.length_cons, List.length_cons, Args2.length t]
theorem Args2.get {K : Frag} {io : List Addr} {F H : Hp} : ∀ {as : List Sl} {vs : List V} {i : Nat} {s : Sl}, Args2 K io F H as vs → as[i]? = some s → ∃ v, vs[i]? = some v ∧ SlAt K H io F H s v
  | _, _, _, _, .nil, e => by simp at e
  | _, _, 0, _, .cons h _, e => by simp at e; subst e; exact ⟨_, rfl, h⟩
  | _, _, i + 1, s, .cons _ t, e => by
    obtain ⟨v, h1, h2⟩ := Args2.get (i := i) (s := s) t (by simpa using e)
    exact ⟨v, by simpa using h1, h2⟩
theorem tagged_get : ∀ {as : List Sl} {n m i k : Nat} {xs : List PyData}, tagged n as m → as[i]? = some (.own (some k) xs) → n ≤ k ∧ k < m
  | [], _, _, _, _, _, _, e => by simp at e
  | .own (some c) ys :: r, n, m, 0, k, xs, h, e => by
    obtain ⟨rfl, h2⟩ := h
    simp at e
    obtain ⟨rfl, rfl⟩ := e
    refine ⟨Nat.le_refl _, ?_⟩
    exact Nat.lt_of_lt_of_le (Nat.lt_succ_self _) (le_of h2)
  | .own (some c) ys :: r, n, m, i + 1, k, xs, h, e => by
    obtain ⟨rfl, h2⟩ := h
    have := tagged_get (i := i) h2 (by simpa using e)
    exact ⟨by omega, this.2⟩
  | .own none ys :: r, _, _, _, _, _, h, _ => h.elim
  | .d x :: r, n, m, 0, k, xs, h, e => by simp at e
  | .d x :: r, n, m, i + 1, k, xs, h, e => tagged_get (as := r) (i := i) h (by simpa using e)
  | .scr x :: r, n, m, 0, k, xs, h, e => by simp at e
  | .scr x :: r, n, m, i + 1, k, xs, h, e => tagged_get (as := r) (i := i) h (by simpa using e)
where le_of : ∀ {as : List Sl} {n m : Nat}, tagged n as m → n ≤ m
  | [], _, _, h => Nat.le_of_eq h
  | .own (some c) ys :: r, n, m, h => Nat.le_trans (Nat.le_succ n) (le_of h.2)
  | .own none ys :: r, _, _, h => h.elim
  | .d x :: r, n, m, h => le_of (as := r) h
  | .scr x :: r, n, m, h => le_of (as := r) h
theorem tagged_inj : ∀ {as : List Sl} {n m i j k : Nat} {xs ys : List PyData}, tagged n as m → as[i]? = some (.own (some k) xs) → as[j]? = some (.own (some k) ys) → i = j
  | [], _, _, _, _, _, _, _, _, e, _ => by simp at e
  | .own (some c) zs :: r, n, m, 0, 0, k, xs, ys, h, e1, e2 => rfl
  | .own (some c) zs :: r, n, m, 0, j + 1, k, xs, ys, h, e1, e2 => by
    obtain ⟨rfl, h2⟩ := h
    simp at e1
    have := tagged_get (i := j) h2 (by simpa using e2)
    omega
  | .own (some c) zs :: r, n, m, i + 1, 0, k, xs, ys, h, e1, e2 => by
    obtain ⟨rfl, h2⟩ := h
    simp at e2
    have := tagged_get (i := i) h2 (by simpa using e1)
    omega
  | .own (some c) zs :: r, n, m, i + 1, j + 1, k, xs, ys, h, e1, e2 => by
    rw [tagged_inj (i := i) (j := j) h.2 (by simpa using e1) (by simpa using e2)]
  | .own none zs :: r, _, _, _, _, _, _, _, h, _, _ => h.elim
  | .d x :: r, n, m, 0, j, k, xs, ys, h, e1, e2 => by simp at e1
  | .d x :: r, n, m, i + 1, 0, k, xs, ys, h, e1, e2 => by simp at e2
  | .d x :: r, n, m, i + 1, j + 1, k, xs, ys, h, e1, e2 => by
    rw [tagged_inj (as := r) (i := i) (j := j) h (by simpa using e1) (by simpa using e2)]
  | .scr x :: r, n, m, 0, j, k, xs, ys, h, e1, e2 => by simp at e1
  | .scr x :: r, n, m, i + 1, 0, k, xs, ys, h, e1, e2 => by simp at e2
  | .scr x :: r, n, m, i + 1, j + 1, k, xs, ys, h, e1, e2 => by
    rw [tagged_inj (as := r) (i := i) (j := j) h (by simpa using e1) (by simpa using e2)]
theorem initD_some {n i : Nat} {as : List Sl} {s : Sl} (h : (initD n as)[i]? = some (some s)) : as[i]? = some s := by
  unfold initD at h
  by_cases hi : i < as.length
  · rw [List.getElem?_append_left (by rw [List.length_map]; exact hi), List.getElem?_map] at h
    cases q : as[i]? with
    | none => rw [q] at h; cases h
    | some t => rw [q] at h; cases h; rfl
  · rw [List.getElem?_append_right (by rw [List.length_map]; omega)] at h
    have := List.mem_of_getElem? h
    have := List.eq_of_mem_replicate this
    cases this
section
variable {K : Frag} {F0 H0 : Hp} {io : List Addr} {F H F' H' : Hp} {σ : L2.St} {δ δ' : De}
theorem rel_start {N : List Str} {as : List Sl} {vs : List V} (fh : Ex F H) (nd : io.Nodup) (tg : tagged 0 as io.length) (ha : Args2 K io F H as vs) (hn : as.length ≤ N.length) : Rel K F H io F H (L2.start N vs) (initD N.length as) where
  fh := fh
  ff := Evl.Ex.refl F
  old := fun _ _ => rfl
  keep := fun _ _ h _ => h
  dom := fun _ h => h
  len := by
    unfold initD L2.start
    rw [List.length_append, List.length_append, List.length_map, List.length_map, List.length_replicate, List.length_replicate, ha.length]
  at_ := fun i s e => by
    obtain ⟨v, h1, h2⟩ := ha.get (initD_some e)
    refine ⟨v, ?_, h2⟩
    unfold L2.start
    have hi : i < vs.length := (List.getElem?_eq_some_iff.mp h1).1
    rw [List.getElem?_append_left (by rw [List.length_map]; exact hi), List.getElem?_map, h1]
    rfl
  sep := fun i j s t l e1 e2 o1 o2 v1 v2 => by
    have a1 := initD_some e1
    have a2 := initD_some e2
    obtain ⟨v, g1, h1⟩ := ha.get a1
    obtain ⟨w, g2, h2⟩ := ha.get a2
    have st : ∀ {i : Nat} {v : V}, vs[i]? = some v → (L2.start N vs)[i]? = some (some v) := fun {i v} h1 => by
      unfold L2.start
      have hi : i < vs.length := (List.getElem?_eq_some_iff.mp h1).1
      rw [List.getElem?_append_left (by rw [List.length_map]; exact hi), List.getElem?_map, h1]
      rfl
    rw [st g1] at v1; cases v1
    rw [st g2] at v2; cases v2
    cases s with
    | d x => cases o1
    | scr x => cases o1
    | own c xs =>
      cases t with
      | d x => cases o2
      | scr x => cases o2
      | own c' ys =>
        obtain ⟨l1, us, z1, k1, _, _, k2⟩ := h1
        obtain ⟨l2, ws, z2, k3, _, _, k4⟩ := h2
        cases z1; cases z2
        cases c with
        | none => rw [k1] at k2; cases k2
        | some c =>
          cases c' with
          | none => rw [k3] at k4; cases k4
          | some c' =>
            have b1 := (tagged_get tg a1).2
            have b2 := (tagged_get tg a2).2
            have e : c = c' := by
              have k2' : io[c]? = some l := k2
              have k4' : io[c']? = some l := k4
              rw [List.getElem?_eq_getElem b1] at k2'
              rw [List.getElem?_eq_getElem b2] at k4'
              have ee : io[c] = io[c'] := (Option.some.inj k2').trans (Option.some.inj k4').symm
              have pw := List.pairwise_iff_getElem.mp nd
              rcases Nat.lt_trichotomy c c' with z | z | z
              · exact absurd ee (pw c c' b1 b2 z)
              · exact z
              · exact absurd ee.symm (pw c' c b2 b1 z)
            subst e
            exact tagged_inj tg a1 a2
theorem outs_get : ∀ {as : List Sl} {δ : De} {ios : List (List PyData)} {n m : Nat}, tagged n as m → outs as δ = some ios → ∀ k, n ≤ k → k < m → ∃ (i : Nat) (xs : List PyData), δ[i]? = some (some (.own (some k) xs)) ∧ ios[k - n]? = some xs
  | [], δ, ios, n, m, h, e, k, h1, h2 => by
    have : n = m := h
    omega
  | .own (some c) zs :: r, [], ios, n, m, h, e, k, h1, h2 => by simp [outs] at e
  | .own (some c) zs :: r, none :: δ, ios, n, m, h, e, k, h1, h2 => by simp [outs] at e
  | .own (some c) zs :: r, some (.d x) :: δ, ios, n, m, h, e, k, h1, h2 => by simp [outs] at e
  | .own (some c) zs :: r, some (.scr x) :: δ, ios, n, m, h, e, k, h1, h2 => by simp [outs] at e
  | .own (some c) zs :: r, some (.own none x) :: δ, ios, n, m, h, e, k, h1, h2 => by simp [outs] at e
  | .own (some c) zs :: r, some (.own (some c') xs) :: δ, ios, n, m, h, e, k, h1, h2 => by
    obtain ⟨rfl, ht⟩ := h
    simp only [outs] at e
    split at e
    · rename_i hc
      subst hc
      cases q : outs r δ with
      | none => rw [q] at e; cases e
      | some js =>
        rw [q] at e
        cases e
        by_cases hk : k = c
        · subst hk
          exact ⟨0, xs, rfl, by simp⟩
        · obtain ⟨i, ys, g1, g2⟩ := outs_get ht q k (by omega) h2
          refine ⟨i + 1, ys, by simpa using g1, ?_⟩
          rw [show k - c = (k - (c + 1)) + 1 by omega]
          simpa using g2
    · cases e
  | .own none zs :: r, _, _, _, _, h, _, _, _, _ => h.elim
  | .d x :: r, [], ios, n, m, h, e, k, h1, h2 => by simp [outs] at e
  | .d x :: r, o :: δ, ios, n, m, h, e, k, h1, h2 => by
    obtain ⟨i, ys, g1, g2⟩ := outs_get (as := r) (δ := δ) h (by simpa [outs] using e) k h1 h2
    exact ⟨i + 1, ys, by simpa using g1, g2⟩
  | .scr x :: r, [], ios, n, m, h, e, k, h1, h2 => by simp [outs] at e
  | .scr x :: r, o :: δ, ios, n, m, h, e, k, h1, h2 => by
    obtain ⟨i, ys, g1, g2⟩ := outs_get (as := r) (δ := δ) h (by simpa [outs] using e) k h1 h2
    exact ⟨i + 1, ys, by simpa using g1, g2⟩
theorem after_of {as : List Sl} {ios : List (List PyData)} {s : Sl} {v : V} (R : Rel K F H io F' H' σ δ) (rt : RtAt K H F' H' s v) (tg : tagged 0 as io.length) (e : outs as δ = some ios) : After K io F H F' H' s v ios where
  ex := R.ff
  fh := R.fh
  old := R.old
  keep := R.keep
  dom := R.dom
  rt := rt
  ios := fun k l hk => by
    obtain ⟨i, xs, g1, g2⟩ := outs_get tg e k (Nat.zero_le _) (List.getElem?_eq_some_iff.mp hk).1
    obtain ⟨v, e1, l', ys, rfl, h1, h2, h3, h4⟩ := R.at_ i _ g1
    have h4' : io[k]? = some l' := h4
    rw [hk] at h4'; cases h4'
    exact ⟨xs, ys, g2, h1, h2, h3⟩
/-- THE RULE for a def over data: its body's walk, and what its reading comes to -/
theorem fnD {P : Program} {w : World} {mg : Str → Option Value} {base : Heap} {x qual : Str} {st : Stmt} {f : Addr} {fd : FuncData} {N ps : List Str} {k : Nat} {S : DSp} {ds : DS} (Fn : Fun K x qual st f fd) (sc : FnScope N ps (defScope st)) (hN : ps.length ≤ N.length)
    (walk : ∀ (cdv : Value) (A : Around) (outer : List Env) (s : Shared) (H : Hp) (E : XK), A.guards = some [] → Room k (A.deeper (envOfC qual (defScope st) s.heap.objs.size f cdv)) → XSs (cxOf CX0 P w K mg base N qual (defScope st) f cdv A outer s H E).nox (defBody st) ds)
    (spec : ∀ as q, as.length = ps.length → S as q → ds (endsD as q) (nxD as q) (initD N.length as)) : FnG P w K mg base CX0 (k + 1) f fd ps (spD K ps.length S) := by
  obtain ⟨oc, od, kV, doc, pm, an, cdv, ct, osl, rfl, lk, hcd⟩ := Fn.ex
  refine fnG_of lk hcd sc (fun vs H Q E h => ?_) fun A outer s H vs Q E hgd hr hsp => ?_
  · obtain ⟨F, io, as, q, _, _, hl, _, ha, _⟩ := h
    rw [ha.length, hl]
  · obtain ⟨F, io, as, q, fh, nd, hl, tg, ha, hS, hQ⟩ := hsp
    have R := rel_start (N := N) fh nd tg ha (by rw [hl]; exact hN)
    refine ⟨_, PSs.nox (walk cdv A outer s H E hgd hr), LS.of R (spec as q hl hS) ⟨fun σ δ F' H' R' h => ?_, fun σ δ F' H' s v R' rt h => ?_, fun _ _ _ _ _ h => h.elim, fun _ _ _ _ _ h => h.elim⟩⟩
    · unfold nxD at h
      try dsimp only at h
      split at h
      · rename_i ios e
        exact hQ .non F' H' (.d .none) ios (after_of R' rfl tg e) h
      · exact h.elim
    · unfold endsD at h
      try dsimp only at h
      split at h
      · rename_i ios e
        exact hQ v F' H' s ios (after_of R' rt tg e) h
      · exact h.elim
end
end DL

namespace DL
open PySem PySem.Spec PyProof.Rows L2
section
variable {K : Frag} {F0 H0 : Hp} {io : List Addr} {F H F' H' : Hp} {σ : L2.St} {δ δ' : De}
/-! ### a call of a def: which arguments are lists handed in to be changed (true), the others data -/
def frzF : List Bool → List Rv → De → De
  | false :: ms, .var i :: rs, δ => match δ[i]? with
    | some (some (.own none ys)) => frzF ms rs (δ.set i (some (.d (.list ys))))
    | _ => frzF ms rs δ
  | _ :: ms, _ :: rs, δ => frzF ms rs δ
  | _, _, δ => δ
def argsD : List Bool → List Rv → De → Nat → Option (List Sl)
  | [], [], _, _ => some []
  | true :: ms, .var i :: rs, δ, n => match δ[i]?, argsD ms rs δ (n + 1) with
    | some (some (.own _ xs)), some as => some (.own (some n) xs :: as)
    | _, _ => none
  | false :: ms, .d x :: rs, δ, n => match argsD ms rs δ n with
    | some as => some (.d x :: as)
    | none => none
  | false :: ms, .var i :: rs, δ, n => match δ[i]?, argsD ms rs δ n with
    | some (some (.d x)), some as => some (.d x :: as)
    | some (some (.scr ns)), some as => some (.scr ns :: as)
    | _, _ => none
  | _, _, _, _ => none
def iosD : List Bool → List Rv → List Nat
  | true :: ms, .var i :: rs => i :: iosD ms rs
  | _ :: ms, _ :: rs => iosD ms rs
  | _, _ => []
/-- the lists as they are behind the call -/
def putBack : De → List Nat → List (List PyData) → Option De
  | δ, [], _ => some δ
  | δ, i :: is, ys :: yss => match δ[i]? with
    | some (some (.own t _)) => putBack (δ.set i (some (.own t ys))) is yss
    | _ => none
  | _, _ :: _, [] => none
def rvOf : Sl → Option Rv
  | .d x => some (.d x)
  | .own _ xs => some (.new xs)
  | .scr _ => none
def kCall2 (q : Rv → De → Prop) (is : List Nat) (δ1 : De) (s : Sl) (ios : List (List PyData)) : Prop := match rvOf s, putBack δ1 is ios with
  | some r, some δ3 => q r δ3
  | _, _ => False
def kCall (ms : List Bool) (S : DSp) (q : Rv → De → Prop) (rs : List Rv) (δ1 : De) : Prop := match argsD ms rs (frzF ms rs δ1) 0 with
  | some as => (iosD ms rs).Nodup ∧ S as (kCall2 q (iosD ms rs) (frzF ms rs δ1))
  | none => False
def dCall (ms : List Bool) (S : DSp) (da : DA) (δ : De) (q : Rv → De → Prop) : Prop := da δ (kCall ms S q)
/-- the addresses of slots -/
inductive Addrs (σ : L2.St) : List Nat → List Addr → Prop
  | nil : Addrs σ [] []
  | cons {i is l ls} : σ[i]? = some (some (.ref l)) → Addrs σ is ls → Addrs σ (i :: is) (l :: ls)
theorem Addrs.get : ∀ {is : List Nat} {ls : List Addr} {k : Nat} {l : Addr}, Addrs σ is ls → ls[k]? = some l → ∃ i, is[k]? = some i ∧ σ[i]? = some (some (.ref l))
  | _, _, _, _, .nil, e => by simp at e
  | _, _, 0, _, .cons h _, e => by simp at e; subst e; exact ⟨_, rfl, h⟩
  | _, _, k + 1, l, .cons _ t, e => by
    obtain ⟨i, h1, h2⟩ := Addrs.get (k := k) (l := l) t (by simpa using e)
    exact ⟨i, by simpa using h1, h2⟩
theorem Addrs.mem : ∀ {is : List Nat} {ls : List Addr} {l : Addr}, Addrs σ is ls → l ∈ ls → ∃ i, i ∈ is ∧ σ[i]? = some (some (.ref l))
  | _, _, _, .nil, e => by simp at e
  | _, _, l, .cons (i := j) h t, e => by
    rcases List.mem_cons.mp e with z | z
    · subst z; exact ⟨j, List.mem_cons_self, h⟩
    · obtain ⟨i, h1, h2⟩ := Addrs.mem t z
      exact ⟨i, List.mem_cons_of_mem _ h1, h2⟩
theorem Addrs.length : ∀ {is : List Nat} {ls : List Addr}, Addrs σ is ls → ls.length = is.length
  | _, _, .nil => rfl
  | _, _, .cons _ t => by rw [List.length_cons, List.length_cons, Addrs.length t]
theorem Rel.frzF : ∀ (ms : List Bool) (rs : List Rv) (vs : List V) (δ : De) (F : Hp), Rel K F0 H0 io F H σ δ → RvAll K H0 F H σ δ rs vs →
    ∃ F2, Rel K F0 H0 io F2 H σ (DL.frzF ms rs δ) ∧ Step K H0 F H σ δ F2 H (DL.frzF ms rs δ) (.d .none) .non
  | [], rs, vs, δ, F, R, ha => by
    have e : DL.frzF [] rs δ = δ := by simp [DL.frzF]
    rw [e]
    exact ⟨F, R, .refl _⟩
  | true :: ms, [], vs, δ, F, R, ha => by
    have e : DL.frzF (true :: ms) [] δ = δ := by simp [DL.frzF]
    rw [e]
    exact ⟨F, R, .refl _⟩
  | false :: ms, [], vs, δ, F, R, ha => by
    have e : DL.frzF (false :: ms) [] δ = δ := by simp [DL.frzF]
    rw [e]
    exact ⟨F, R, .refl _⟩
  | true :: ms, r :: rs, _, δ, F, R, .cons _ t _ => by
    have e : DL.frzF (true :: ms) (r :: rs) δ = DL.frzF ms rs δ := by cases r <;> simp [DL.frzF]
    rw [e]
    exact Rel.frzF ms rs _ δ F R t
  | false :: ms, .d x :: rs, _, δ, F, R, .cons _ t _ => by
    have e : DL.frzF (false :: ms) (.d x :: rs) δ = DL.frzF ms rs δ := by simp [DL.frzF]
    rw [e]
    exact Rel.frzF ms rs _ δ F R t
  | false :: ms, .new x :: rs, _, δ, F, R, .cons _ t _ => by
    have e : DL.frzF (false :: ms) (.new x :: rs) δ = DL.frzF ms rs δ := by simp [DL.frzF]
    rw [e]
    exact Rel.frzF ms rs _ δ F R t
  | false :: ms, .var i :: rs, _, δ, F, R, .cons (v := v) (vs := vs) h t n => by
    have hv : σ[i]? = some (some v) := h
    simp only [DL.frzF]
    split
    · rename_i ys hx
      obtain ⟨F1, R1, s1, _⟩ := R.freeze hx hv
      have go : ∀ {rs : List Rv} {vs : List V}, RvAll K H0 F H σ δ rs vs → RvAll K H0 F1 H σ (δ.set i (some (.d (.list ys)))) rs vs := fun {rs vs} a => by
        induction a with
        | nil => exact .nil
        | cons h t n ih =>
          refine .cons ?_ ih n
          rename_i r rs v vs
          cases r with
          | d x => exact At.mono s1.ex x v h
          | var j => exact h
          | new xs =>
            obtain ⟨l, us, rfl, L, ha⟩ := h
            exact ⟨l, us, rfl, s1.ls l us L, AtAll.mono s1.ex _ _ ha⟩
      obtain ⟨F2, R2, s2⟩ := Rel.frzF ms rs vs _ F1 R1 (go t)
      exact ⟨F2, R2, s1.trans s2⟩
    · exact Rel.frzF ms rs _ δ F R t
theorem RvAll.step {rs : List Rv} {vs : List V} {F1 H1 : Hp} {δ1 : De} {r : Rv} {v : V} (a : RvAll K H0 F H σ δ rs vs) (s : Step K H0 F H σ δ F1 H1 δ1 r v) : RvAll K H0 F1 H1 σ δ1 rs vs := by
  induction a with
  | nil => exact .nil
  | cons h t n ih =>
    refine .cons ?_ ih n
    rename_i r rs v vs
    cases r with
    | d x => exact At.mono s.ex x v h
    | var j => exact h
    | new xs =>
      obtain ⟨l, us, rfl, L, ha⟩ := h
      exact ⟨l, us, rfl, s.ls l us L, AtAll.mono s.ex _ _ ha⟩
theorem args_ok (R : Rel K F0 H0 io F H σ δ) : ∀ (ms : List Bool) (rs : List Rv) (vs : List V) (n : Nat) (as : List Sl), RvAll K H0 F H σ δ rs vs → argsD ms rs δ n = some as →
    ∃ ls, Addrs σ (iosD ms rs) ls ∧ tagged n as (n + ls.length) ∧ (∀ i ∈ iosD ms rs, ∃ t xs, δ[i]? = some (some (.own t xs))) ∧ ∀ pre : List Addr, pre.length = n → Args2 K (pre ++ ls) F H as vs
  | [], [], _, n, as, .nil, e => by
    simp only [argsD] at e
    cases e
    exact ⟨[], by simp only [iosD]; exact .nil, rfl, by simp [iosD], fun _ _ => .nil⟩
  | [], _ :: _, _, n, as, _, e => by simp [argsD] at e
  | true :: _, [], _, n, as, _, e => by simp [argsD] at e
  | false :: _, [], _, n, as, _, e => by simp [argsD] at e
  | true :: _, .d _ :: _, _, n, as, _, e => by simp [argsD] at e
  | true :: _, .new _ :: _, _, n, as, _, e => by simp [argsD] at e
  | false :: _, .new _ :: _, _, n, as, _, e => by simp [argsD] at e
  | true :: ms, .var i :: rs, _, n, as, .cons (v := v) (vs := vs) h t _, e => by
    have hv : σ[i]? = some (some v) := h
    simp only [argsD] at e
    split at e
    · rename_i c xs as' hx hm
      cases e
      obtain ⟨ls, a1, a2, a3, a4⟩ := args_ok R ms rs vs (n + 1) as' t hm
      obtain ⟨u, e1, l, ys, rfl, k1, k2, k3, k4⟩ := R.at_ i _ hx
      rw [hv] at e1; cases e1
      refine ⟨l :: ls, ?_, ⟨rfl, ?_⟩, fun j hj => ?_, fun pre hp => .cons ⟨l, ys, rfl, k1, k2, k3, ?_⟩ ?_⟩
      · simp only [iosD]; exact .cons hv a1
      · rw [List.length_cons, show n + (ls.length + 1) = n + 1 + ls.length by omega]; exact a2
      · simp only [iosD] at hj
        rcases List.mem_cons.mp hj with z | z
        · subst z; exact ⟨_, _, hx⟩
        · exact a3 j z
      · show (pre ++ l :: ls)[n]? = some l
        rw [List.getElem?_append_right (by omega), hp, Nat.sub_self]; rfl
      · have := a4 (pre ++ [l]) (by rw [List.length_append, hp]; rfl)
        rw [List.append_assoc] at this
        exact this
    · cases e
  | false :: ms, .d x :: rs, _, n, as, .cons (v := v) (vs := vs) h t _, e => by
    simp only [argsD] at e
    split at e
    · rename_i as' hm
      cases e
      obtain ⟨ls, a1, a2, a3, a4⟩ := args_ok R ms rs vs n as' t hm
      exact ⟨ls, by simp only [iosD]; exact a1, a2, by simp only [iosD]; exact a3, fun pre hp => .cons h (a4 pre hp)⟩
    · cases e
  | false :: ms, .var i :: rs, _, n, as, .cons (v := v) (vs := vs) h t _, e => by
    have hv : σ[i]? = some (some v) := h
    simp only [argsD] at e
    split at e
    · rename_i x as' hx hm
      cases e
      obtain ⟨ls, a1, a2, a3, a4⟩ := args_ok R ms rs vs n as' t hm
      obtain ⟨u, e1, k1⟩ := R.at_ i _ hx
      rw [hv] at e1; cases e1
      exact ⟨ls, by simp only [iosD]; exact a1, a2, by simp only [iosD]; exact a3, fun pre hp => .cons k1 (a4 pre hp)⟩
    · rename_i x as' hx hm
      cases e
      obtain ⟨ls, a1, a2, a3, a4⟩ := args_ok R ms rs vs n as' t hm
      obtain ⟨u, e1, k1⟩ := R.at_ i _ hx
      rw [hv] at e1; cases e1
      exact ⟨ls, by simp only [iosD]; exact a1, a2, by simp only [iosD]; exact a3, fun pre hp => .cons k1 (a4 pre hp)⟩
    · cases e
/-- what putBack leaves at a slot -/
theorem putBack_at : ∀ (is : List Nat) (yss : List (List PyData)) (δ δ3 : De), is.Nodup → putBack δ is yss = some δ3 → δ3.length = δ.length ∧ (∀ j, j ∉ is → δ3[j]? = δ[j]?) ∧ ∀ (k i : Nat), is[k]? = some i → ∃ t xs ys, δ[i]? = some (some (.own t xs)) ∧ yss[k]? = some ys ∧ δ3[i]? = some (some (.own t ys))
  | [], yss, δ, δ3, nd, e => by
    simp only [putBack] at e
    cases e
    exact ⟨rfl, fun _ _ => rfl, fun k i h => by simp at h⟩
  | i :: is, [], δ, δ3, nd, e => by simp [putBack] at e
  | i :: is, ys :: yss, δ, δ3, nd, e => by
    simp only [putBack] at e
    split at e
    · rename_i t xs hx
      obtain ⟨n1, n2⟩ := List.nodup_cons.mp nd
      obtain ⟨l1, l2, l3⟩ := putBack_at is yss _ δ3 n2 e
      have hi : i < δ.length := (List.getElem?_eq_some_iff.mp hx).1
      refine ⟨by rw [l1, List.length_set], fun j hj => ?_, fun k c hk => ?_⟩
      · rw [List.mem_cons, not_or] at hj
        rw [l2 j hj.2, List.getElem?_set_ne (fun z => hj.1 z.symm)]
      · cases k with
        | zero =>
          simp at hk
          subst hk
          exact ⟨t, xs, ys, hx, rfl, by rw [l2 i n1, List.getElem?_set_self hi]⟩
        | succ k =>
          obtain ⟨t', xs', ys', g1, g2, g3⟩ := l3 k c (by simpa using hk)
          have hc : i ≠ c := fun z => n1 (by rw [z]; exact List.mem_of_getElem? (show is[k]? = some c by simpa using hk))
          rw [List.getElem?_set_ne hc] at g1
          exact ⟨t', xs', ys', g1, by simpa using g2, g3⟩
    · cases e
theorem le_call {ms : List Bool} {S : DSp} {da : DA} {n : Nat} {E : XK} {Q : VK} (hl : ∀ as q, S as q → as.length = n) (h : LE K (dCall ms S da) σ H Q) : tCall (spD K n S) [] E (LA K da) σ H Q := by
  obtain ⟨F0, H0, io, F, δ, q, R, h, k⟩ := h
  refine LA.of R h fun vs F1 H1 rs δ1 R1 e1 nn a1 h1 => ?_
  try (first | simp only [kCall] at h1 | simp only [kCall2] at h1)
  split at h1
  · rename_i as hm
    obtain ⟨nd, hS⟩ := h1
    obtain ⟨F2, R2, s2⟩ := R1.frzF ms rs vs δ1 F1 a1
    obtain ⟨ls, b1, b2, b3, b4⟩ := args_ok R2 ms rs vs 0 as (a1.step s2) hm
    have b4' := b4 [] rfl
    rw [List.nil_append] at b4'
    -- the lists' addresses are unlike
    have lnd : ls.Nodup := by
      refine List.pairwise_iff_getElem.mpr fun i j hi hj hij z => ?_
      obtain ⟨c, c1, c2⟩ := b1.get (List.getElem?_eq_getElem hi)
      obtain ⟨d, d1, d2⟩ := b1.get (List.getElem?_eq_getElem hj)
      obtain ⟨t, xs, ow⟩ := b3 c (List.mem_of_getElem? c1)
      obtain ⟨t', xs', ow'⟩ := b3 d (List.mem_of_getElem? d1)
      rw [z] at c2
      have := R2.sep c d _ _ _ ow ow' rfl rfl c2 d2
      subst this
      have ci := (List.getElem?_eq_some_iff.mp c1)
      have di := (List.getElem?_eq_some_iff.mp d1)
      have pw := List.pairwise_iff_getElem.mp nd i j ci.1 di.1 hij
      exact pw (ci.2.trans di.2.symm)
    show spD K n S (vs ++ []) H1 Q E
    rw [List.append_nil]
    refine ⟨F2, ls, as, _, R2.fh, lnd, hl _ _ hS, by rw [Nat.zero_add] at b2; exact b2, b4', hS, fun v F' H' s ios A h3 => ?_⟩
    try (first | simp only [kCall] at h3 | simp only [kCall2] at h3)
    split at h3
    · rename_i r δ3 hr hp
      obtain ⟨p1, p2, p3⟩ := putBack_at _ _ _ _ nd hp
      -- a slot that owns its list, and is none of those handed in, is kept
      have own : ∀ (j : Nat) (s : Sl) (l : Addr), j ∉ iosD ms rs → (DL.frzF ms rs δ1)[j]? = some (some s) → s.isOwn = true → σ[j]? = some (some (.ref l)) → l ∉ ls := fun j s l hj e o hv hm => by
        obtain ⟨c, c1, c2⟩ := b1.mem hm
        obtain ⟨t, xs, ow⟩ := b3 c c1
        exact hj (by rw [R2.sep j c _ _ _ e ow o rfl hv c2]; exact c1)
      have R3 : Rel K F0 H0 io F' H' σ δ3 := by
        refine R2.grow A.fh A.ex (fun a ha => A.old a (R2.dom a ha)) (fun a o h0 hi hh => A.keep a o hh fun hm => ?_) A.dom p1 (fun j s e => ?_) fun j s e o => ?_
        · obtain ⟨c, c1, c2⟩ := b1.mem hm
          obtain ⟨t, xs, ow⟩ := b3 c c1
          obtain ⟨u, e1, l, us, rfl, k1, k2, k3, k4⟩ := R2.at_ c _ ow
          rw [c2] at e1; cases e1
          cases t with
          | none =>
            have k4' : H0 a = none := k4
            rw [h0] at k4'; cases k4'
          | some t =>
            have k4' : io[t]? = some a := k4
            exact hi (List.mem_of_getElem? k4')
        · by_cases hj : j ∈ iosD ms rs
          · obtain ⟨kk, hk, hkj⟩ := List.getElem_of_mem hj
            have hkj' : (iosD ms rs)[kk]? = some j := by rw [List.getElem?_eq_getElem hk, hkj]
            obtain ⟨t, xs, ys, g1, g2, g3⟩ := p3 kk j hkj'
            rw [e] at g3; cases g3
            obtain ⟨u, e1, l, us, rfl, k1, k2, k3, k4⟩ := R2.at_ j _ g1
            have hls : ls[kk]? = some l := by
              have hlt : kk < ls.length := by rw [b1.length]; exact hk
              obtain ⟨c, c1, c2⟩ := b1.get (List.getElem?_eq_getElem hlt)
              rw [hkj'] at c1; cases c1
              rw [c2] at e1
              rw [List.getElem?_eq_getElem hlt]
              cases e1; rfl
            obtain ⟨zs, ws, i1, i2, i3, i4⟩ := A.ios kk l hls
            rw [g2] at i1; cases i1
            exact ⟨_, e1, l, ws, rfl, i2, i3, i4, k4⟩
          · rw [p2 j hj] at e
            obtain ⟨u, e1, e2⟩ := R2.at_ j s e
            refine ⟨u, e1, e2.move A.ex fun l us o hu k1 k2 => ?_⟩
            subst hu
            exact ⟨A.keep l _ k1 (own j s l hj e o e1), by rw [A.old l (by rw [k1]; simp)]; exact k2⟩
        · by_cases hj : j ∈ iosD ms rs
          · obtain ⟨t, xs, ow⟩ := b3 j hj
            exact ⟨_, ow, rfl⟩
          · rw [p2 j hj] at e
            exact ⟨s, e, o⟩
      have lo : ∀ l xs, Loose K H0 F2 H1 σ (DL.frzF ms rs δ1) l xs → Loose K H0 F' H' σ δ3 l xs := fun l xs L => by
        have nl : l ∉ ls := fun hm => by
          obtain ⟨c, c1, c2⟩ := b1.mem hm
          obtain ⟨t, xs, ow⟩ := b3 c c1
          exact L.ns c _ ow rfl c2
        refine ⟨A.keep l _ L.h nl, by rw [A.old l (by rw [L.h]; simp)]; exact L.f, L.h0, fun j s e o => ?_⟩
        by_cases hj : j ∈ iosD ms rs
        · obtain ⟨t, xs, ow⟩ := b3 j hj
          exact L.ns j _ ow rfl
        · rw [p2 j hj] at e
          exact L.ns j s e o
      have rt := A.rt
      cases s with
      | d x =>
        cases hr
        exact k v F' H' (.d x) δ3 R3 ((e1.trans s2).trans ⟨A.ex, lo, fun _ _ _ _ z => nomatch z⟩) rt h3
      | scr x => cases hr
      | own t xs =>
        cases hr
        obtain ⟨l, us, rfl, r1, r2, r3, r4⟩ := rt
        refine k _ F' H' (.new xs) δ3 R3 ((e1.trans s2).trans ⟨A.ex, lo, fun m ys _ L _ z => ?_⟩) ⟨l, us, rfl, ⟨r1, r2, ?_, fun j s e o z => ?_⟩, r4⟩ h3
        · cases z
          have := L.h
          rw [r3] at this; cases this
        · cases qq : H0 l with
          | none => rfl
          | some u => exact absurd r3 (R2.dom l (by rw [qq]; simp))
        · obtain ⟨u, e1, e2⟩ := R3.at_ j s e
          rw [z] at e1; cases e1
          obtain ⟨t', e3, o3⟩ : ∃ t', (DL.frzF ms rs δ1)[j]? = some (some t') ∧ t'.isOwn = true := by
            by_cases hj : j ∈ iosD ms rs
            · obtain ⟨t, xs, ow⟩ := b3 j hj
              exact ⟨_, ow, rfl⟩
            · rw [p2 j hj] at e
              exact ⟨s, e, o⟩
          obtain ⟨u2, e4, e5⟩ := R2.at_ j t' e3
          rw [z] at e4; cases e4
          cases t' with
          | d x => cases o3
          | scr x => cases o3
          | own c ws =>
            obtain ⟨l', vs', zz, w1, _⟩ := e5
            cases zz
            rw [r3] at w1; cases w1
    · exact h3.elim
  · exact h1.elim
end
end DL

namespace DL
open PySem PySem.Spec PyProof.Rows L2
section
variable {K : Frag} {F0 H0 : Hp} {io : List Addr} {F H F' H' : Hp} {σ : L2.St} {δ δ' : De} {E : Ends}
/-! ### a, b = x, y: new lists stay one's own -/
def kConsN2 (q : List Rv → De → Prop) (r : Rv) (rs : List Rv) (δ : De) : Prop := q (r :: rs) δ
def kConsN1 (dr : DA) (q : List Rv → De → Prop) (r : Rv) (δ : De) : Prop := dr δ (kConsN2 q r)
def dConsN (da : DE) (dr : DA) (δ : De) (q : List Rv → De → Prop) : Prop := da δ (kConsN1 dr q)
theorem la_consN {da : DE} {dr : DA} {Q : List V → Hp → Prop} (h : LA K (dConsN da dr) σ H Q) : tCons (LE K da) (LA K dr) σ H Q := by
  obtain ⟨F0, H0, io, F, δ, q, R, h, k⟩ := h
  refine LE.of R h fun x F1 H1 r1 δ1 R1 e1 a1 h1 => ?_
  refine LA.of R1 h1 fun vs F3 H3 rs δ3 R3 e3 n3 a3 h3 => k (x :: vs) F3 H3 _ δ3 R3 (e1.trans e3) (fun l xs L i es z => ?_) (.cons ?_ a3 fun ds z => ?_) h3
  · cases i with
    | zero =>
      have z' : r1 = .new es := by simpa using z
      intro w
      have w' : x = .ref l := by simpa using w
      exact e1.nw l xs es L z' w'
    | succ i => exact n3 l xs (e1.ls l xs L) i es (by simpa using z)
  · cases r1 with
    | d y => exact At.mono e3.ex y x a1
    | var i => exact a1
    | new ds =>
      obtain ⟨l, us, rfl, L, ha⟩ := a1
      exact ⟨l, us, rfl, e3.ls l us L, AtAll.mono e3.ex _ _ ha⟩
  · subst z
    obtain ⟨l, us, rfl, L, ha⟩ := a1
    exact n3 l us L
/-- values as data or new lists -/
def stab : List Rv → De → Option (List Rv × De)
  | [], δ => some ([], δ)
  | .d x :: rs, δ => match stab rs δ with
    | some (ss, δ') => some (.d x :: ss, δ')
    | none => none
  | .new xs :: rs, δ => match stab rs δ with
    | some (ss, δ') => some (.new xs :: ss, δ')
    | none => none
  | .var i :: rs, δ => match δ[i]? with
    | some (some (.d x)) => (match stab rs δ with
      | some (ss, δ') => some (.d x :: ss, δ')
      | none => none)
    | some (some (.own none ys)) => (match stab rs (δ.set i (some (.d (.list ys)))) with
      | some (ss, δ') => some (.d (.list ys) :: ss, δ')
      | none => none)
    | _ => none
def setsD : De → List Nat → List Rv → Option De
  | δ, [], [] => some δ
  | δ, i :: is, .d x :: rs => setsD (δ.set i (some (.d x))) is rs
  | δ, i :: is, .new xs :: rs => setsD (δ.set i (some (.own none xs))) is rs
  | _, _, _ => none
def setsV : L2.St → List Nat → List V → L2.St
  | σ, i :: is, v :: vs => setsV (σ.set i (some v)) is vs
  | σ, _, _ => σ
theorem stab_new : ∀ {rs ss : List Rv} {δ δ' : De}, stab rs δ = some (ss, δ') → ss.length = rs.length ∧ ∀ (i : Nat) es, ss[i]? = some (.new es) → rs[i]? = some (.new es)
  | [], ss, δ, δ', e => by
    simp only [stab] at e
    cases e
    exact ⟨rfl, fun _ _ h => h⟩
  | .d x :: rs, ss, δ, δ', e => by
    simp only [stab] at e
    split at e
    · rename_i ss' δ1 h1
      cases e
      obtain ⟨a, b⟩ := stab_new h1
      exact ⟨by rw [List.length_cons, List.length_cons, a], fun i es h => by
        cases i with
        | zero => simp at h
        | succ i => simpa using b i es (by simpa using h)⟩
    · cases e
  | .new x :: rs, ss, δ, δ', e => by
    simp only [stab] at e
    split at e
    · rename_i ss' δ1 h1
      cases e
      obtain ⟨a, b⟩ := stab_new h1
      exact ⟨by rw [List.length_cons, List.length_cons, a], fun i es h => by
        cases i with
        | zero => simpa using h
        | succ i => simpa using b i es (by simpa using h)⟩
    · cases e
  | .var j :: rs, ss, δ, δ', e => by
    simp only [stab] at e
    split at e
    · split at e
      · rename_i ss' δ1 h1
        cases e
        obtain ⟨a, b⟩ := stab_new h1
        exact ⟨by rw [List.length_cons, List.length_cons, a], fun i es h => by
          cases i with
          | zero => simp at h
          | succ i => simpa using b i es (by simpa using h)⟩
      · cases e
    · split at e
      · rename_i ss' δ1 h1
        cases e
        obtain ⟨a, b⟩ := stab_new h1
        exact ⟨by rw [List.length_cons, List.length_cons, a], fun i es h => by
          cases i with
          | zero => simp at h
          | succ i => simpa using b i es (by simpa using h)⟩
      · cases e
    · cases e
theorem Rel.stab : ∀ (rs ss : List Rv) (vs : List V) (δ δ' : De) (F : Hp), Rel K F0 H0 io F H σ δ → RvAll K H0 F H σ δ rs vs → stab rs δ = some (ss, δ') → ∃ F', Rel K F0 H0 io F' H σ δ' ∧ Step K H0 F H σ δ F' H δ' (.d .none) .non ∧ RvAll K H0 F' H σ δ' ss vs
  | [], ss, _, δ, δ', F, R, .nil, e => by
    simp only [DL.stab] at e
    cases e
    exact ⟨F, R, .refl _, .nil⟩
  | .d x :: rs, ss, _, δ, δ', F, R, .cons h t n, e => by
    simp only [DL.stab] at e
    split at e
    · rename_i ss' δ1 h1
      cases e
      obtain ⟨F1, R1, s1, a1⟩ := Rel.stab rs ss' _ δ _ F R t h1
      exact ⟨F1, R1, s1, .cons (At.mono s1.ex _ _ h) a1 fun _ z => nomatch z⟩
    · cases e
  | .new x :: rs, ss, _, δ, δ', F, R, .cons h t n, e => by
    simp only [DL.stab] at e
    split at e
    · rename_i ss' δ1 h1
      cases e
      obtain ⟨F1, R1, s1, a1⟩ := Rel.stab rs ss' _ δ _ F R t h1
      obtain ⟨l, us, rfl, L, ha⟩ := h
      refine ⟨F1, R1, s1, .cons ⟨l, us, rfl, s1.ls l us L, AtAll.mono s1.ex _ _ ha⟩ a1 fun ds z i es hi => n x rfl i es ((stab_new h1).2 i es hi)⟩
    · cases e
  | .var j :: rs, ss, _, δ, δ', F, R, .cons (v := v) h t n, e => by
    have hv : σ[j]? = some (some v) := h
    simp only [DL.stab] at e
    split at e
    · rename_i x hx
      split at e
      · rename_i ss' δ1 h1
        cases e
        obtain ⟨F1, R1, s1, a1⟩ := Rel.stab rs ss' _ δ _ F R t h1
        obtain ⟨u, e1, k1⟩ := R.at_ j _ hx
        rw [hv] at e1; cases e1
        exact ⟨F1, R1, s1, .cons (At.mono s1.ex _ _ k1) a1 fun _ z => nomatch z⟩
      · cases e
    · rename_i ys hx
      split at e
      · rename_i ss' δ1 h1
        cases e
        obtain ⟨F2, R2, s2, k2⟩ := R.freeze hx hv
        obtain ⟨F1, R1, s1, a1⟩ := Rel.stab rs ss' _ _ _ F2 R2 (t.step s2) h1
        exact ⟨F1, R1, s2.trans s1, .cons (At.mono s1.ex _ _ k2) a1 fun _ z => nomatch z⟩
      · cases e
    · cases e
theorem Rel.setsD : ∀ (is : List Nat) (rs : List Rv) (vs : List V) (σ : L2.St) (δ δ' : De), Rel K F0 H0 io F H σ δ → RvAll K H0 F H σ δ rs vs → setsD δ is rs = some δ' → Rel K F0 H0 io F H (setsV σ is vs) δ'
  | [], [], _, σ, δ, δ', R, .nil, e => by
    simp only [DL.setsD] at e
    cases e
    exact R
  | [], _ :: _, _, σ, δ, δ', R, _, e => by simp [DL.setsD] at e
  | _ :: _, [], _, σ, δ, δ', R, _, e => by simp [DL.setsD] at e
  | i :: is, .var j :: rs, _, σ, δ, δ', R, _, e => by simp [DL.setsD] at e
  | i :: is, .d x :: rs, _, σ, δ, δ', R, .cons (v := v) (vs := vs) h t n, e => by
    simp only [DL.setsD] at e
    refine Rel.setsD is rs vs _ _ δ' (R.putD i h) ?_ e
    have go : ∀ {rs : List Rv} {vs : List V} {is : List Nat} {δ2 : De}, DL.setsD δ2 is rs = some δ' → RvAll K H0 F H σ δ rs vs → RvAll K H0 F H (σ.set i (some v)) (δ.set i (some (.d x))) rs vs := fun {rs vs} is δ2 e a => by
      induction a generalizing is δ2 with
      | nil => exact .nil
      | cons h t n ih =>
        rename_i r rs w ws
        cases is with
        | nil => simp [DL.setsD] at e
        | cons c is =>
          cases r with
          | d y => exact .cons h (ih _ _ (by simpa [DL.setsD] using e)) n
          | var c => simp [DL.setsD] at e
          | new ys =>
            obtain ⟨l, us, rfl, L, ha⟩ := h
            refine .cons ⟨l, us, rfl, ⟨L.h, L.f, L.h0, fun j s es o => ?_⟩, ha⟩ (ih _ _ (by simpa [DL.setsD] using e)) n
            obtain ⟨g1, g2⟩ := (Touch.name (i := i) (x := x) (v := v) (σ := σ) (δ := δ)).own j s es o
            rw [g2]
            exact L.ns j s g1 o
    exact go e t
  | i :: is, .new xs :: rs, _, σ, δ, δ', R, .cons (v := v) (vs := vs) h t n, e => by
    simp only [DL.setsD] at e
    obtain ⟨l0, us0, rfl, L0, ha0⟩ := h
    have R2 : Rel K F0 H0 io F H (σ.set i (some (.ref l0))) (δ.set i (some (.own none xs))) := R.put i (s := .own none xs) ⟨l0, us0, rfl, L0.h, L0.f, ha0, L0.h0⟩ fun _ j t m _ e1 o1 z => by cases z; exact L0.ns j t e1 o1
    refine Rel.setsD is rs vs _ _ δ' R2 ?_ e
    have go : ∀ {rs : List Rv} {vs : List V} {is : List Nat} {δ2 : De}, DL.setsD δ2 is rs = some δ' → RvAll K H0 F H σ δ rs vs → NoNew (.ref l0) rs vs → RvAll K H0 F H (σ.set i (some (.ref l0))) (δ.set i (some (.own none xs))) rs vs := fun {rs vs} is δ2 e a nn => by
      induction a generalizing is δ2 with
      | nil => exact .nil
      | cons h t n ih =>
        rename_i r rs w ws
        have nn' : NoNew (.ref l0) rs ws := fun i es z => by simpa using nn (i + 1) es (by simpa using z)
        cases is with
        | nil => simp [DL.setsD] at e
        | cons c is =>
          cases r with
          | d y => exact .cons h (ih _ _ (by simpa [DL.setsD] using e) nn') n
          | var c => simp [DL.setsD] at e
          | new ys =>
            obtain ⟨l, us, rfl, L, ha⟩ := h
            have nl : l ≠ l0 := fun z => nn 0 ys rfl (by rw [z]; rfl)
            refine .cons ⟨l, us, rfl, ⟨L.h, L.f, L.h0, fun j s es o => ?_⟩, ha⟩ (ih _ _ (by simpa [DL.setsD] using e) nn') n
            by_cases hj : i = j
            · subst hj
              have hlt : i < δ.length := by
                have := (List.getElem?_eq_some_iff.mp es).1
                rw [List.length_set] at this; exact this
              rw [List.getElem?_set_self (by rw [← R.len]; exact hlt)]
              intro z
              cases z
              exact nl rfl
            · rw [List.getElem?_set_ne hj] at es ⊢
              exact L.ns j s es o
    exact go e t (n xs rfl)
def kPar (is : List Nat) (nx : De → Prop) (rs : List Rv) (δ1 : De) : Prop := match stab rs δ1 with
  | some (ss, δ2) => (match setsD δ2 is ss with
    | some δ3 => nx δ3
    | none => False)
  | none => False
def dPar (is : List Nat) (da : DA) (_ : DEx) (nx : De → Prop) (δ : De) : Prop := da δ (kPar is nx)
theorem ls_parG {is : List Nat} {da : DA} {t : (L2.St → Hp → (List V → Hp → Prop) → Prop) → TS} (h : LS K (dPar is da) E σ H) : LA K da σ H fun vs H1 => vs.length = is.length ∧ E.nx (setsV σ is vs) H1 := by
  obtain ⟨F0, H0, io, F, δ, D, nx, R, h, f⟩ := h
  refine LA.of R h fun vs F1 H1 rs δ1 R1 e1 nn a1 h1 => ?_
  try (first | simp only [kPar] at h1)
  split at h1
  · rename_i ss δ2 hst
    split at h1
    · rename_i δ3 hset
      obtain ⟨F2, R2, s2, a2⟩ := Rel.stab rs ss vs δ1 δ2 F1 R1 a1 hst
      have R3 := Rel.setsD is ss vs σ δ2 δ3 R2 a2 hset
      refine ⟨?_, f.nx _ δ3 F2 H1 R3 h1⟩
      have l1 : ∀ {is : List Nat} {rs : List Rv} {δ : De}, DL.setsD δ is rs = some δ3 → rs.length = is.length := fun {is} => by
        induction is with
        | nil =>
          intro rs δ e
          cases rs with
          | nil => rfl
          | cons r rs => simp [DL.setsD] at e
        | cons i is ih =>
          intro rs δ e
          cases rs with
          | nil => simp [DL.setsD] at e
          | cons r rs =>
            cases r with
            | d x => rw [List.length_cons, List.length_cons, ih (by simpa [DL.setsD] using e)]
            | new x => rw [List.length_cons, List.length_cons, ih (by simpa [DL.setsD] using e)]
            | var x => simp [DL.setsD] at e
      have l2 : ∀ {rs : List Rv} {vs : List V} {F H : Hp} {δ : De}, RvAll K H0 F H σ δ rs vs → vs.length = rs.length := fun a => by
        induction a with
        | nil => rfl
        | cons _ _ _ ih => rw [List.length_cons, List.length_cons, ih]
      rw [l2 a2, l1 hset]
    · exact h1.elim
  · exact h1.elim
theorem la_mono {da : DA} {Q Q' : List V → Hp → Prop} (h : LA K da σ H Q) (g : ∀ vs H, Q vs H → Q' vs H) : LA K da σ H Q' := by
  obtain ⟨F0, H0, io, F, δ, q, R, h, k⟩ := h
  exact ⟨F0, H0, io, F, δ, q, R, h, fun vs F' H' rs δ' R' s n a hq => g vs H' (k vs F' H' rs δ' R' s n a hq)⟩
theorem ls_par2 {i j : Nat} {da : DA} (h : LS K (dPar [i, j] da) E σ H) : tPar i j (LA K da) E σ H := la_mono (ls_parG (t := fun _ => tNext) h) fun vs H1 ⟨hl, hq⟩ => by
  match vs, hl, hq with
  | [v, w], _, hq => exact ⟨v, w, rfl, hq⟩
theorem ls_par3 {i j l : Nat} {da : DA} (h : LS K (dPar [i, j, l] da) E σ H) : tPar3 i j l (LA K da) E σ H := la_mono (ls_parG (t := fun _ => tNext) h) fun vs H1 ⟨hl, hq⟩ => by
  match vs, hl, hq with
  | [u, v, w], _, hq => exact ⟨u, v, w, rfl, hq⟩
end
end DL

namespace DL
open PySem PySem.Spec PyProof.Rows L2
section
variable {K : Frag} {F0 H0 : Hp} {io : List Addr} {F H F' H' : Hp} {σ : L2.St} {δ δ' : De} {E : Ends}
/-! ### an own list changes -/
theorem Rel.updOwn (R : Rel K F0 H0 io F H σ δ) {i : Nat} {t : Option Nat} {xs ys : List PyData} {l : Addr} {us : List V} (hx : δ[i]? = some (some (.own t xs))) (hv : σ[i]? = some (some (.ref l))) (ha : AtAll K F ys us) :
    Rel K F0 H0 io F (upd H l (.lst us)) σ (δ.set i (some (.own t ys))) := by
  obtain ⟨v, e1, l', ws, rfl, h1, h2, h3, h4⟩ := R.at_ i _ hx
  rw [hv] at e1; cases e1
  have hi : i < δ.length := (List.getElem?_eq_some_iff.mp hx).1
  refine R.grow (fun a u e => ?_) (Evl.Ex.refl F) (fun _ _ => rfl) (fun a u h0 hio h => ?_) (fun a ha => ?_) (by rw [List.length_set]) (fun j s e => ?_) fun j s e o => ?_
  · rw [upd_ne (ne_of_none e h2)]
    exact R.fh a u e
  · have : a ≠ l := fun z => by
      subst z
      cases t with
      | none =>
        have h4' : H0 a = none := h4
        rw [h0] at h4'; cases h4'
      | some k =>
        have h4' : io[k]? = some a := h4
        exact hio (List.mem_of_getElem? h4')
    rw [upd_ne this]; exact h
  · by_cases h : a = l
    · subst h; rw [upd_same]; simp
    · rw [upd_ne h]; exact ha
  · by_cases hj : i = j
    · subst hj
      rw [List.getElem?_set_self hi] at e
      cases e
      exact ⟨_, hv, l, us, rfl, upd_same, h2, ha, h4⟩
    · rw [List.getElem?_set_ne hj] at e
      obtain ⟨u, e1, e2⟩ := R.at_ j s e
      refine ⟨u, e1, e2.move (Evl.Ex.refl F) fun m zs o hu k1 k2 => ⟨?_, k2⟩⟩
      have : m ≠ l := fun z => hj (R.sep i j _ s l hx e rfl o hv (by rw [e1, hu, z]))
      rw [upd_ne this]; exact k1
  · by_cases hj : i = j
    · subst hj; exact ⟨_, hx, rfl⟩
    · rw [List.getElem?_set_ne hj] at e; exact ⟨s, e, o⟩
theorem Step.updOwn {i : Nat} {t : Option Nat} {xs ys : List PyData} {l : Addr} {us : List V} (hx : δ[i]? = some (some (.own t xs))) (hv : σ[i]? = some (some (.ref l))) (r : Rv) {v : V} (h : ∀ ds, r ≠ .new ds := by intro _ z; cases z) :
    Step K H0 F H σ δ F (upd H l (.lst us)) (δ.set i (some (.own t ys))) r v := by
  have hi : i < δ.length := (List.getElem?_eq_some_iff.mp hx).1
  refine ⟨Evl.Ex.refl F, fun m zs L => ⟨?_, L.f, L.h0, fun j s e o => ?_⟩, fun _ _ ds _ z => absurd z (h ds)⟩
  · rw [upd_ne fun z => L.ns i _ hx rfl (by rw [hv, z])]
    exact L.h
  · by_cases hj : i = j
    · subst hj; exact L.ns i _ hx rfl
    · rw [List.getElem?_set_ne hj] at e; exact L.ns j s e o
/-- xs.append(e) -/
def kApp (i : Nat) (nx : De → Prop) (r : Rv) (δ1 : De) : Prop := match frz1 r δ1 with
  | some (x, δ2) => (match δ2[i]? with
    | some (some (.own t ys)) => ys.length < sizeLine ∧ nx (δ2.set i (some (.own t (ys ++ [x]))))
    | _ => False)
  | none => False
def dApp (i : Nat) (de : DE) (_ : DEx) (nx : De → Prop) (δ : De) : Prop := match δ[i]? with
  | some (some (.own _ _)) => de δ (kApp i nx)
  | _ => False
theorem Rel.ownAt (R : Rel K F0 H0 io F H σ δ) {i : Nat} {t : Option Nat} {xs : List PyData} (hx : δ[i]? = some (some (.own t xs))) : ∃ l us, σ[i]? = some (some (.ref l)) ∧ H l = some (.lst us) ∧ AtAll K F xs us := by
  obtain ⟨v, e1, l', ws, rfl, h1, h2, h3, h4⟩ := R.at_ i _ hx
  exact ⟨l', ws, e1, h1, h3⟩
theorem ls_app {i : Nat} {de : DE} (h : LS K (dApp i de) E σ H) : tDrop (tBM K "list" rAppend (tVar i) (tCons (LE K de) tNil)) E σ H := by
  obtain ⟨F0, H0, io, F, δ, D, nx, R, h, f⟩ := h
  unfold dApp at h
  split at h
  · rename_i t xs hx
    obtain ⟨l, us, hv, hl, ha⟩ := R.ownAt hx
    refine ⟨_, hv, .inl ⟨rfl, us, .inl (.inl hl)⟩, LE.of R h fun v F1 H1 r δ1 R1 e1 a1 h1 => ?_⟩
    try (first | simp only [kApp] at h1 | simp only [kSetI] at h1 | simp only [kSetI2] at h1 | simp only [kPart] at h1 | simp only [kSl3] at h1 | simp only [kJoin1] at h1 | simp only [kJoin2] at h1)
    split at h1
    · rename_i x δ2 hp
      obtain ⟨F2, R2, s2, a2⟩ := R1.frz1 e1 a1 hp
      split at h1
      · rename_i c ys hy
        obtain ⟨l', us', hv', hl', ha'⟩ := R2.ownAt hy
        rw [hv] at hv'; cases hv'
        exact ⟨l, us', v, rfl, rfl, hl', by rw [ha'.length]; exact h1.1, f.nx _ _ F2 _ (R2.updOwn hy hv (ha'.append (AtAll.one a2))) h1.2⟩
      · exact h1.elim
    · exact h1.elim
  · exact h.elim
/-- xs[k] = e -/
def kSetI2 (i : Nat) (nx : De → Prop) (x : PyData) (s : Rv) (δ3 : De) : Prop := match s, δ3[i]? with
  | .d (.int k), some (some (.own t ys)) => (match ixN ys.length k with
    | some j => nx (δ3.set i (some (.own t (ys.set j x))))
    | none => False)
  | _, _ => False
def kSetI (i : Nat) (dk : DE) (nx : De → Prop) (r : Rv) (δ1 : De) : Prop := match frz1 r δ1 with
  | some (x, δ2) => (match δ2[i]? with
    | some (some (.own _ _)) => dk δ2 (kSetI2 i nx x)
    | _ => False)
  | none => False
def dSetI (i : Nat) (dk de : DE) (_ : DEx) (nx : De → Prop) (δ : De) : Prop := de δ (kSetI i dk nx)
theorem ls_setI {i : Nat} {dk de : DE} (h : LS K (dSetI i dk de) E σ H) : tAsg (LE K de) (gSub (tVar i) (LE K dk) rSetL) E σ H := by
  obtain ⟨F0, H0, io, F, δ, D, nx, R, h, f⟩ := h
  refine LE.of R h fun v F1 H1 r δ1 R1 e1 a1 h1 => ?_
  try (first | simp only [kApp] at h1 | simp only [kSetI] at h1 | simp only [kSetI2] at h1 | simp only [kPart] at h1 | simp only [kSl3] at h1 | simp only [kJoin1] at h1 | simp only [kJoin2] at h1)
  split at h1
  · rename_i x δ2 hp
    obtain ⟨F2, R2, s2, a2⟩ := R1.frz1 e1 a1 hp
    split at h1
    · rename_i t0 ys0 hy0
      obtain ⟨l0, us0, hv0, hl0, ha0⟩ := R2.ownAt hy0
      refine ⟨_, hv0, LE.of R2 h1 fun w F3 H3 s δ3 R3 e3 a3 h3 => ?_⟩
      try (first | simp only [kApp] at h3 | simp only [kSetI] at h3 | simp only [kSetI2] at h3 | simp only [kPart] at h3 | simp only [kSl3] at h3 | simp only [kJoin1] at h3 | simp only [kJoin2] at h3)
      split at h3
      · rename_i k t ys hy
        split at h3
        · rename_i j hj
          obtain ⟨l, us, hv, hl, ha⟩ := R3.ownAt hy
          rw [hv0] at hv; cases hv
          cases a3
          exact ⟨l0, us, k, j, rfl, rfl, hl, by rw [ha.length]; exact hj, f.nx _ _ F3 _ (R3.updOwn hy hv0 (ha.set (At.mono e3.ex _ _ a2) j)) h3⟩
        · exact h3.elim
      · exact h3.elim
    · exact h1.elim
  · exact h1.elim
/-! ### slices -/
abbrev DO := De → (Option Int → De → Prop) → Prop
def LO (K : Frag) (dp : DO) : TO := fun σ H Q => ∃ F0 H0 io F δ q, Rel K F0 H0 io F H σ δ ∧ dp δ q ∧ ∀ o F' H' δ', Rel K F0 H0 io F' H' σ δ' → Step K H0 F H σ δ F' H' δ' (.d .none) .non → q o δ' → Q o H'
def dNoPart (δ : De) (q : Option Int → De → Prop) : Prop := q none δ
def kPart (q : Option Int → De → Prop) (r : Rv) (δ1 : De) : Prop := match r with
  | .d (.int i) => q (some i) δ1
  | _ => False
def dPart (de : DE) (δ : De) (q : Option Int → De → Prop) : Prop := de δ (kPart q)
theorem lo_none {Q : Option Int → Hp → Prop} (h : LO K dNoPart σ H Q) : tNoPart σ H Q := by
  obtain ⟨F0, H0, io, F, δ, q, R, h, k⟩ := h
  exact k none F H δ R (.refl _) h
theorem lo_some {de : DE} {Q : Option Int → Hp → Prop} (h : LO K (dPart de) σ H Q) : tPart (LE K de) σ H Q := by
  obtain ⟨F0, H0, io, F, δ, q, R, h, k⟩ := h
  refine LE.of R h fun v F1 H1 r δ1 R1 e1 a1 h1 => ?_
  try (first | simp only [kApp] at h1 | simp only [kSetI] at h1 | simp only [kSetI2] at h1 | simp only [kPart] at h1 | simp only [kSl3] at h1 | simp only [kJoin1] at h1 | simp only [kJoin2] at h1)
  split at h1
  · rename_i i
    cases a1
    exact ⟨i, rfl, k (some i) F1 H1 δ1 R1 (e1.as _) h1⟩
  · exact h1.elim
def cutD {α : Type} (xs : List α) (lo hi : Option Int) : List α := (xs.drop (HT.sIx xs.length 0 lo)).take (HT.sIx xs.length xs.length hi - HT.sIx xs.length 0 lo)
def gSl (x : PyData) (lo hi : Option Int) (q : Rv → Prop) : Prop := match x with
  | .list xs => q (.new (cutD xs lo hi))
  | .tuple xs => q (.d (.tuple (cutD xs lo hi)))
  | .str z => z.length ≤ sizeLine ∧ q (.d (.str (cutS z lo hi)))
  | _ => False
def kSl3 (q : Rv → De → Prop) (r : Rv) (lo hi : Option Int) (δ3 : De) : Prop := match derefS δ3 (DL.sett r) with
  | some x => gSl x lo hi (kZ q δ3)
  | none => False
def kSl2 (dh : DO) (q : Rv → De → Prop) (r : Rv) (lo : Option Int) (δ2 : De) : Prop := dh δ2 (kSl3 q r lo)
def kSl1 (dl dh : DO) (q : Rv → De → Prop) (r : Rv) (δ1 : De) : Prop := dl δ1 (kSl2 dh q r)
def dSl (de : DE) (dl dh : DO) (δ : De) (q : Rv → De → Prop) : Prop := de δ (kSl1 dl dh q)
theorem AtAll.cut {ds : List PyData} {vs : List V} (h : AtAll K F ds vs) (lo hi : Option Int) : AtAll K F (cutD ds lo hi) (cutV vs lo hi) := by
  unfold cutD cutV
  rw [h.length]
  exact (h.drop _).take _
def rSlU (K : Frag) : V → Option Int → Option Int → Hp → VK → Prop := fun x lo hi H Q => (rSlL K x lo hi H Q ∨ rSlA K x lo hi H Q) ∨ rSlS x lo hi H Q
theorem sl_U {X : Cx} : SlR X (rSlU X.K) := (SlR.or (SlR.or sl_list sl_tupA) sl_str)
theorem le_sl {de : DE} {dl dh : DO} {Q : VK} (h : LE K (dSl de dl dh) σ H Q) : tSl (rSlU K) (LE K de) (LO K dl) (LO K dh) σ H Q := by
  obtain ⟨F0, H0, io, F, δ, q, R, h, k⟩ := h
  refine LE.of R h fun v F1 H1 r δ1 R1 e1 a1 h1 => ?_
  obtain ⟨F2, R2, e2, a2⟩ := R1.sett e1 a1
  refine ⟨F0, H0, io, F2, δ1, _, R2, h1, fun lo F3 H3 δ3 R3 e3 h3 => ⟨F0, H0, io, F3, δ3, _, R3, h3, fun hi F4 H4 δ4 R4 e4 h4 => ?_⟩⟩
  have a4 : RvAt K H0 F4 H4 σ δ4 (DL.sett r) v := a2.keep (e3.ex.trans e4.ex)
  have st := (e2.trans e3).trans e4
  try (first | simp only [kApp] at h4 | simp only [kSetI] at h4 | simp only [kSetI2] at h4 | simp only [kPart] at h4 | simp only [kSl3] at h4 | simp only [kJoin1] at h4 | simp only [kJoin2] at h4)
  split at h4
  · rename_i x hx
    have hs := R4.peekS a4 hx
    cases x with
    | list xs =>
      obtain ⟨a, us, rfl, k1, k2⟩ := hs
      exact .inl (.inl ⟨a, us, rfl, k1, fun p hp => k _ F4 _ (.new _) δ4 (R4.newO hp _) (st.trans (.newO hp _ _)) ⟨p, _, rfl, R4.loose hp _, k2.cut lo hi⟩ h4⟩)
    | tuple xs =>
      obtain ⟨a, us, rfl, k1, k2⟩ := hs
      refine .inl (.inr ⟨a, us, rfl, Evl.ex_t R4.fh k1, fun hw => ?_, fun _ p hp => ?_⟩)
      · refine k _ F4 H4 (.d (.tuple _)) δ4 R4 (st.trans (.refl _)) ⟨a, us, rfl, k1, ?_⟩ h4
        have e1 : HT.sIx xs.length 0 lo = 0 := by rw [← k2.length]; exact hw.1
        have e2 : HT.sIx xs.length xs.length hi = xs.length := by
          have := hw.2
          rw [k2.length] at this; exact this
        unfold cutD
        rw [e1, e2, Nat.sub_zero, List.drop_zero, List.take_length]
        exact k2
      · have fp := Evl.fresh_back R4.fh hp
        exact k _ _ _ (.d (.tuple _)) δ4 (R4.newF hp _) (st.trans (.newF hp fp _ _)) ⟨p, _, rfl, .inl (.inl upd_same), AtAll.mono (ex_upd fp) _ _ (k2.cut lo hi)⟩ h4
    | str z =>
      cases hs
      exact .inr ⟨z, rfl, h4.1, k _ F4 H4 (.d (.str (cutS z lo hi))) δ4 R4 (st.trans (.refl _)) rfl h4.2⟩
    | none => exact h4.elim
    | bool _ => exact h4.elim
    | int _ => exact h4.elim
    | dict _ => exact h4.elim
  · exact h4.elim
/-! ### x in xs (flat or deep), a sign in a text -/
def gIn (neg : Bool) (x y : PyData) (q : Rv → Prop) : Prop := match y with
  | .list ys => (cmpOk x = true ∧ cmpOk (.list ys) = true) ∧ q (.d (.bool (Bool.xor neg (ys.any fun z => PyData.eqv z x))))
  | .tuple ys => (isScal x = true ∧ ys.all isScal = true) ∧ q (.d (.bool (Bool.xor neg (ys.any fun z => PyData.eqv z x))))
  | .str b => (match x with
    | .str a => (match a.cps.toList with
      | [c] => q (.d (.bool (Bool.xor neg (decide (c ∈ b.cps.toList)))))
      | _ => False)
    | _ => False)
  | _ => False
theorem flat_scal {d : PyData} {v : V} (h : At K F d v) (hs : isScal d = true) : flatV v = true := by
  cases d <;> first | (cases h; rfl) | (unfold isScal at hs; cases hs)
theorem eqV_scal {d e : PyData} {v w : V} (h : At K F d v) (h' : At K F e w) (hs : isScal d = true) (hs' : isScal e = true) : eqV v w = PyData.eqv d e := by
  cases d <;> cases e <;> first
    | (cases h; cases h'; rfl)
    | (unfold isScal at hs; cases hs; done)
    | (unfold isScal at hs'; cases hs'; done)
    | (cases h; cases h'; simp [eqV, PyData.eqv])
theorem flat_all : ∀ {ds : List PyData} {vs : List V}, AtAll K F ds vs → ds.all isScal = true → vs.all flatV = true
  | [], _, h, _ => by cases h; rfl
  | d :: ds, _, h, hs => by
    obtain ⟨v, r, rfl, h1, h2⟩ := h
    rw [List.all_cons, Bool.and_eq_true] at hs ⊢
    exact ⟨flat_scal h1 hs.1, flat_all h2 hs.2⟩
theorem inV_scal {e : PyData} {w : V} (h' : At K F e w) (hs' : isScal e = true) : ∀ {ds : List PyData} {vs : List V}, AtAll K F ds vs → ds.all isScal = true → inV w vs = ds.any fun z => PyData.eqv z e
  | [], _, h, _ => by cases h; rfl
  | d :: ds, _, h, hs => by
    obtain ⟨v, r, rfl, h1, h2⟩ := h
    rw [List.all_cons, Bool.and_eq_true] at hs
    have := inV_scal h' hs' h2 hs.2
    unfold inV at this ⊢
    rw [List.any_cons, List.any_cons, this, eqV_scal h1 h' hs.1 hs']
def rSign (neg : Bool) : R2 := fun x y H Q => ∃ (c : Nat) (z : Str), x = .str ⟨#[c]⟩ ∧ y = .str z ∧ Q (.bl (Bool.xor neg (decide (c ∈ z.cps.toList)))) H
def rInU (K : Frag) : R2 := fun x y H Q => (rInD K x y H Q ∨ rIn K false x y H Q) ∨ rSign false x y H Q
def rNotInU (K : Frag) : R2 := fun x y H Q => (rNotInD K x y H Q ∨ rIn K true x y H Q) ∨ rSign true x y H Q
theorem op_inU {X : Cx} (hu : X.A.units + 65 < cLine) : OpR X (compareOp .In) (rInU X.K) := op_or (op_or (op_inD hu) op_in_seq) fun pins s σ H x y v u Q I rx ry h => by
  obtain ⟨c, z, e1, e2, q⟩ := h
  exact op_in_sign pins s σ H x y v u Q I rx ry ⟨c, z, e1, e2, by rw [Bool.false_xor] at q; exact q⟩
theorem op_notInU {X : Cx} (hu : X.A.units + 65 < cLine) : OpR X (compareOp .NotIn) (rNotInU X.K) := op_or (op_or (op_notInD hu) op_notIn_seq) fun pins s σ H x y v u Q I rx ry h => by
  obtain ⟨c, z, e1, e2, q⟩ := h
  exact op_notIn_sign pins s σ H x y v u Q I rx ry ⟨c, z, e1, e2, by rw [Bool.true_xor] at q; exact q⟩
theorem str_one {a : Str} {c : Nat} (h : a.cps.toList = [c]) : a = ⟨#[c]⟩ := by
  obtain ⟨cps⟩ := a
  congr 1
  apply Array.ext'
  exact h
theorem AtS.dp (fh : Ex F H) : ∀ {d : PyData} {v : V}, AtS K F H d v → plain d = true → Dp K H v d
  | .none, v, h, p => At.dp .none v p h
  | .bool b, v, h, p => At.dp (.bool b) v p h
  | .int i, v, h, p => At.dp (.int i) v p h
  | .str x, v, h, p => At.dp (.str x) v p h
  | .tuple ds, v, h, p => At.dp (.tuple ds) v p (At.mono fh _ _ h)
  | .dict ds, v, h, p => At.dp (.dict ds) v p (At.mono fh _ _ h)
  | .list ds, v, h, p => by
    obtain ⟨a, xs, rfl, h1, h2⟩ := h
    unfold plain at p
    exact .lst h1 (AtAll.dp ds xs p (AtAll.mono fh _ _ h2))
theorem AtS.scal {d : PyData} {v : V} (h : AtS K F H d v) (hs : isScal d = true) : At K F d v := by
  cases d <;> first | exact h | (unfold isScal at hs; cases hs)
theorem ops_in : OpS K (rInU K) (gIn false) := fun F0 H0 io F H σ δ x y d e q Q R hx hy h k => by
  unfold gIn at h
  split at h
  · rename_i ys
    obtain ⟨⟨h1, h2⟩, h3⟩ := h
    unfold cmpOk at h1 h2
    rw [Bool.and_eq_true] at h1 h2
    rw [Bool.false_xor] at h3
    exact .inl (.inl ⟨d, ys, hx.dp R.fh h1.1, hy.dp R.fh h2.1, h1.2, h2.2, k _ F H (.d (.bool _)) R (.refl _) rfl h3⟩)
  · rename_i ys
    obtain ⟨⟨h1, h2⟩, h3⟩ := h
    rw [Bool.false_xor] at h3
    obtain ⟨a, us, rfl, g1, g2⟩ := hy
    refine .inl (.inr ⟨a, us, rfl, .inr (Evl.ex_t R.fh g1), flat_scal (hx.scal h1) h1, flat_all g2 h2, ?_⟩)
    refine k _ F H (.d (.bool _)) R (.refl _) ?_ h3
    show V.bl _ = V.bl _
    rw [if_neg Bool.false_ne_true, inV_scal (hx.scal h1) h1 g2 h2]
  · rename_i b
    split at h
    · rename_i a
      split at h
      · rename_i c hc
        cases hx; cases hy
        refine .inr ⟨c, b, by rw [str_one hc], rfl, k _ F H (.d (.bool _)) R (.refl _) rfl h⟩
      · exact h.elim
    · exact h.elim
  · exact h.elim
theorem ops_notIn : OpS K (rNotInU K) (gIn true) := fun F0 H0 io F H σ δ x y d e q Q R hx hy h k => by
  unfold gIn at h
  split at h
  · rename_i ys
    obtain ⟨⟨h1, h2⟩, h3⟩ := h
    unfold cmpOk at h1 h2
    rw [Bool.and_eq_true] at h1 h2
    rw [Bool.true_xor] at h3
    exact .inl (.inl ⟨d, ys, hx.dp R.fh h1.1, hy.dp R.fh h2.1, h1.2, h2.2, k _ F H (.d (.bool _)) R (.refl _) rfl h3⟩)
  · rename_i ys
    obtain ⟨⟨h1, h2⟩, h3⟩ := h
    rw [Bool.true_xor] at h3
    obtain ⟨a, us, rfl, g1, g2⟩ := hy
    refine .inl (.inr ⟨a, us, rfl, .inr (Evl.ex_t R.fh g1), flat_scal (hx.scal h1) h1, flat_all g2 h2, ?_⟩)
    refine k _ F H (.d (.bool _)) R (.refl _) ?_ h3
    show V.bl _ = V.bl _
    rw [if_pos rfl, inV_scal (hx.scal h1) h1 g2 h2]
  · rename_i b
    split at h
    · rename_i a
      split at h
      · rename_i c hc
        cases hx; cases hy
        refine .inr ⟨c, b, by rw [str_one hc], rfl, k _ F H (.d (.bool _)) R (.refl _) rfl h⟩
      · exact h.elim
    · exact h.elim
  · exact h.elim
def rEqU (K : Frag) : R2 := fun x y H Q => rEqD K x y H Q ∨ rEq x y H Q
def rNeU (K : Frag) : R2 := fun x y H Q => rNeD K x y H Q ∨ rNe x y H Q
theorem op_eqU {X : Cx} (hu : X.A.units + 64 < cLine) : OpR X (compareOp .Eq) (rEqU X.K) := op_or (op_eqD hu) op_eq
theorem op_neU {X : Cx} (hu : X.A.units + 64 < cLine) : OpR X (compareOp .NotEq) (rNeU X.K) := op_or (op_neD hu) op_ne
theorem eqv_str {a b : Str} : PyData.eqv (.str a) (.str b) = decide (V.str a = V.str b) := by
  have : PyData.eqv (.str a) (.str b) = (a == b) := by simp [PyData.eqv]
  rw [this]
  by_cases h : a = b
  · subst h; simp
  · simp [h]
theorem ops_eq : OpS K (rEqU K) gEq := fun F0 H0 io F H σ δ x y d e q Q R hx hy h k => by
  obtain ⟨h0, h3⟩ := h
  unfold cmp2 at h0
  rw [Bool.or_eq_true] at h0
  rcases h0 with h0 | h0
  · cases d <;> cases e <;> first | (unfold bothS at h0; cases h0; done) | skip
    cases hx; cases hy
    rw [eqv_str] at h3
    exact .inr ⟨rfl, k _ F H (.d (.bool _)) R (.refl _) rfl h3⟩
  · rw [Bool.and_eq_true] at h0
    obtain ⟨h1, h2⟩ := h0
    unfold cmpOk at h1 h2
    rw [Bool.and_eq_true] at h1 h2
    exact .inl ⟨d, e, hx.dp R.fh h1.1, hy.dp R.fh h2.1, h1.2, h2.2, k _ F H (.d (.bool (PyData.eqv d e))) R (.refl _) rfl h3⟩
theorem ops_ne : OpS K (rNeU K) gNe := fun F0 H0 io F H σ δ x y d e q Q R hx hy h k => by
  obtain ⟨h0, h3⟩ := h
  unfold cmp2 at h0
  rw [Bool.or_eq_true] at h0
  rcases h0 with h0 | h0
  · cases d <;> cases e <;> first | (unfold bothS at h0; cases h0; done) | skip
    cases hx; cases hy
    rw [eqv_str] at h3
    exact .inr ⟨rfl, k _ F H (.d (.bool _)) R (.refl _) rfl h3⟩
  · rw [Bool.and_eq_true] at h0
    obtain ⟨h1, h2⟩ := h0
    unfold cmpOk at h1 h2
    rw [Bool.and_eq_true] at h1 h2
    exact .inl ⟨d, e, hx.dp R.fh h1.1, hy.dp R.fh h2.1, h1.2, h2.2, k _ F H (.d (.bool (!PyData.eqv d e))) R (.refl _) rfl h3⟩
/-! ### sep.join(texts) -/
def strs' : List PyData → Option (List Str)
  | [] => some []
  | .str b :: r => (strs' r).map (b :: ·)
  | _ => none
theorem strs_at : ∀ {ds : List PyData} {vs : List V} {bs : List Str}, AtAll K F ds vs → strs' ds = some bs → vs = bs.map V.str
  | [], _, _, h, e => by cases h; cases e; rfl
  | .str b :: r, _, bs, h, e => by
    obtain ⟨v, u, rfl, h1, h2⟩ := h
    cases h1
    simp only [strs'] at e
    cases q : strs' r with
    | none => rw [q] at e; cases e
    | some cs => rw [q] at e; cases e; rw [strs_at h2 q]; rfl
  | .none :: _, _, _, _, e => by cases e
  | .int _ :: _, _, _, _, e => by cases e
  | .bool _ :: _, _, _, _, e => by cases e
  | .list _ :: _, _, _, _, e => by cases e
  | .tuple _ :: _, _, _, _, e => by cases e
  | .dict _ :: _, _, _, _, e => by cases e
def kJoin2 (q : Rv → De → Prop) (a : Str) (s : Rv) (δ2 : De) : Prop := match derefS δ2 (DL.sett s) with
  | some (.list ys) => (match strs' ys with
    | some zs => (zs.map (·.length)).sum + zs.length * a.length ≤ 16777216 ∧ q (.d (.str (Txt.join a zs))) δ2
    | none => False)
  | _ => False
def kJoin1 (de : DE) (q : Rv → De → Prop) (r : Rv) (δ1 : De) : Prop := match r with
  | .d (.str a) => de δ1 (kJoin2 q a)
  | _ => False
def dJoin (ds de : DE) (δ : De) (q : Rv → De → Prop) : Prop := ds δ (kJoin1 de q)
theorem le_join {ds de : DE} {Q : VK} (h : LE K (dJoin ds de) σ H Q) : tM1 (fun x xs H Q => ∃ a p, ∃ ys : List Str, x = .str a ∧ xs = [.ref p] ∧ (SqL K H p (ys.map V.str) ∨ SqT K H p (ys.map V.str)) ∧ (ys.map (·.length)).sum + ys.length * a.length ≤ 16777216 ∧ Q (.str (Txt.join a ys)) H) (LE K ds) (LE K de) σ H Q := by
  obtain ⟨F0, H0, io, F, δ, q, R, h, k⟩ := h
  refine LE.of R h fun v F1 H1 r δ1 R1 e1 a1 h1 => ?_
  try (first | simp only [kApp] at h1 | simp only [kSetI] at h1 | simp only [kSetI2] at h1 | simp only [kPart] at h1 | simp only [kSl3] at h1 | simp only [kJoin1] at h1 | simp only [kJoin2] at h1)
  split at h1
  · rename_i a
    cases a1
    refine ⟨⟨a, rfl⟩, LE.of R1 h1 fun w F2 H2 s δ2 R2 e2 a2 h2 => ?_⟩
    obtain ⟨F3, R3, e3, a3⟩ := R2.sett e2 a2
    try (first | simp only [kApp] at h2 | simp only [kSetI] at h2 | simp only [kSetI2] at h2 | simp only [kPart] at h2 | simp only [kSl3] at h2 | simp only [kJoin1] at h2 | simp only [kJoin2] at h2)
    split at h2
    · rename_i ys hy
      split at h2
      · rename_i zs hz
        obtain ⟨p, us, rfl, g1, g2⟩ := R3.peekS a3 hy
        rw [strs_at g2 hz] at g1
        exact ⟨a, p, zs, rfl, rfl, .inl g1, h2.1, k _ F3 H2 (.d (.str _)) δ2 R3 ((e1.trans e3).trans (.refl _)) rfl h2.2⟩
      · exact h2.elim
    · exact h2.elim
  · exact h1.elim
end
section
variable {X : Cx}
/-- ** of ints of any size -/
def CPowW (i j : Int) : Prop := 0 ≤ j ∧ (Builtin.Int.intBits i : Int) * j ≤ 2 ^ 27
theorem op_powW : OpR X (binaryOp .Pow) (rI CPowW fun i j => .int (i ^ j.toNat)) := opI fun _ _ _ _ _ _ _ hc q => pow_int hc.1 hc.2 q
end
end DL

namespace DL
open PySem PySem.Spec PyProof.Rows L2
section
variable {K : Frag} {F0 H0 : Hp} {io : List Addr} {F H F' H' : Hp} {σ : L2.St} {δ δ' : De} {E : Ends}
theorem atAll_strs : ∀ ys : List Str, AtAll K F (ys.map PyData.str) (ys.map V.str)
  | [] => rfl
  | y :: r => ⟨.str y, r.map V.str, rfl, rfl, atAll_strs r⟩
/-! ### text.split(sep), text.upper() -/
def kSplit2 (q : Rv → De → Prop) (a : Str) (s : Rv) (δ2 : De) : Prop := match s with
  | .d (.str b) => (b.length == 0) = false ∧ a.length ≤ 16777000 ∧ q (.new ((Txt.split a b).map .str)) δ2
  | _ => False
def kSplit1 (de : DE) (q : Rv → De → Prop) (r : Rv) (δ1 : De) : Prop := match r with
  | .d (.str a) => de δ1 (kSplit2 q a)
  | _ => False
def dSplit (ds de : DE) (δ : De) (q : Rv → De → Prop) : Prop := ds δ (kSplit1 de q)
theorem le_split {ds de : DE} {Q : VK} (h : LE K (dSplit ds de) σ H Q) : tM1 (fun x xs H Q => ∃ a b, x = .str a ∧ xs = [.str b] ∧ (b.length == 0) = false ∧ a.length + 2 ≤ sizeLine ∧ rNewStrs (Txt.split a b) H Q) (LE K ds) (LE K de) σ H Q := by
  obtain ⟨F0, H0, io, F, δ, q, R, h, k⟩ := h
  refine LE.of R h fun v F1 H1 r δ1 R1 e1 a1 h1 => ?_
  simp only [kSplit1] at h1
  split at h1
  · rename_i a
    cases a1
    refine ⟨⟨a, rfl⟩, LE.of R1 h1 fun w F2 H2 s δ2 R2 e2 a2 h2 => ?_⟩
    simp only [kSplit2] at h2
    split at h2
    · rename_i b
      cases a2
      have hz : a.length + 2 ≤ sizeLine := Nat.le_trans (Nat.add_le_add_right h2.2.1 2) (by decide)
      exact ⟨a, b, rfl, rfl, h2.1, hz, fun p hp => k _ F2 _ (.new _) δ2 (R2.newO hp _) ((e1.trans e2).trans (.newO hp _ _)) ⟨p, _, rfl, R2.loose hp _, atAll_strs _⟩ h2.2.2⟩
    · exact h2.elim
  · exact h1.elim
def kUpper (q : Rv → De → Prop) (r : Rv) (δ1 : De) : Prop := match r with
  | .d (.str a) => a.length ≤ 5592405 ∧ q (.d (.str (Txt.upper a))) δ1
  | _ => False
def dUpper (ds : DE) (δ : De) (q : Rv → De → Prop) : Prop := ds δ (kUpper q)
theorem le_upper {ds : DE} {Q : VK} (h : LE K (dUpper ds) σ H Q) : tM0 (fun x xs H Q => ∃ a, x = .str a ∧ xs = [] ∧ a.length ≤ 5592405 ∧ Q (.str (Txt.upper a)) H) (LE K ds) σ H Q := by
  obtain ⟨F0, H0, io, F, δ, q, R, h, k⟩ := h
  refine LE.of R h fun v F1 H1 r δ1 R1 e1 a1 h1 => ?_
  simp only [kUpper] at h1
  split at h1
  · rename_i a
    cases a1
    exact ⟨⟨a, rfl⟩, a, rfl, rfl, h1.1, k _ F1 H1 (.d (.str _)) δ1 R1 (e1.trans (.refl _)) rfl h1.2⟩
  · exact h1.elim
end
end DL

namespace DL
open PySem PySem.Spec PyProof.Rows L2
section
variable {X : Cx} {a b c e l : Expr} {es : List Expr} {da db dc de : DE} {dt du : DT} {ds ds' : DS} {dA : DA} {pos p pos' : Pos} {st : Stmt} {sts : List Stmt}
/-! ### the rules by short names: expressions -/
theorem xv (i : Nat) {x : Str} (hN : X.N[i]? = some x := by rfl) (hv : Vis X.env.scope x := by first | exact Or.inl rfl | exact Or.inr (Or.inl rfl) | exact Or.inr (Or.inr rfl)) (hd : (x == ("__debug__" : Str)) = false := by decide) (hcd : (x == ("__classdict__" : Str)) = false := by decide) :
    XE X (.Name x pos) (dVar i) := pe_imp (pe_var hN hv hd hcd) fun _ _ _ => le_var
theorem xi {i : Int} {j} : XE X (.Constant (.int i) j pos) (dC (.int i)) := pe_imp pe_int fun _ _ _ => le_c fun _ => rfl
theorem xs {i : Str} {j} : XE X (.Constant (.str i) j pos) (dC (.str i)) := pe_imp pe_str fun _ _ _ => le_c fun _ => rfl
theorem xb {i : Bool} {j} : XE X (.Constant (.bool i) j pos) (dC (.bool i)) := pe_imp pe_bl fun _ _ _ => le_c fun _ => rfl
theorem xn {j} : XE X (.Constant .none j pos) (dC .none) := pe_imp pe_non fun _ _ _ => le_c fun _ => rfl
/-- a module's constant -/
theorem xgI {x : Str} {i : Int} (hg : Gl X x) (hm : ∃ t, X.mg x = some (.int i t)) (hd : (x == ("__debug__" : Str)) = false := by decide) : XE X (.Name x pos) (dC (.int i)) := by
  obtain ⟨t, hm⟩ := hm
  exact pe_imp (pe_glob (v := .int i) hg hm ⟨t, rfl⟩ hd) fun _ _ _ => le_c fun _ => rfl
theorem xgS {x : Str} {i : Str} (hg : Gl X x) (hm : ∃ t, X.mg x = some (.str i t)) (hd : (x == ("__debug__" : Str)) = false := by decide) : XE X (.Name x pos) (dC (.str i)) := by
  obtain ⟨t, hm⟩ := hm
  exact pe_imp (pe_glob (v := .str i) hg hm ⟨t, rfl⟩ hd) fun _ _ _ => le_c fun _ => rfl
theorem x_op {op : Operator} {r : R2} {g : G2} (ho : OpR X (binaryOp op) r) (hg : OpD X.K r g) (ha : XE X a da) (hb : XE X b db) : XE X (.BinOp a op b pos) (dOp g da db) := pe_imp (pe_op ho ha hb) fun _ _ _ => le_op hg
theorem xAdd (ha : XE X a da) (hb : XE X b db) : XE X (.BinOp a .Add b pos) (dOp gAdd da db) := x_op op_addU opd_add ha hb
theorem xSub (ha : XE X a da) (hb : XE X b db) : XE X (.BinOp a .Sub b pos) (dOp (gI fun i j => .int (i - j)) da db) := x_op op_sub (opd_I fun _ _ => rfl) ha hb
theorem xMul (ha : XE X a da) (hb : XE X b db) : XE X (.BinOp a .Mult b pos) (dOp gMul da db) := x_op op_mulU opd_mul ha hb
theorem xDiv (ha : XE X a da) (hb : XE X b db) : XE X (.BinOp a .FloorDiv b pos) (dOp (gIc CDivW fun i j => .int (i / j)) da db) := x_op op_fdivW (opd_Ic fun _ _ => rfl) ha hb
theorem xMod (ha : XE X a da) (hb : XE X b db) : XE X (.BinOp a .Mod b pos) (dOp (gIc (fun _ j => 0 < j) fun i j => .int (i % j)) da db) := x_op op_mod (opd_Ic fun _ _ => rfl) ha hb
theorem xPow (ha : XE X a da) (hb : XE X b db) : XE X (.BinOp a .Pow b pos) (dOp (gIc CPowW fun i j => .int (i ^ j.toNat)) da db) := x_op op_powW (opd_Ic fun _ _ => rfl) ha hb
theorem xShr (ha : XE X a da) (hb : XE X b db) : XE X (.BinOp a .RShift b pos) (dOp (gIc (fun _ j => 0 ≤ j) fun i j => .int (i / 2 ^ j.toNat)) da db) := x_op op_shr (opd_Ic fun _ _ => rfl) ha hb
theorem xBand (ha : XE X a da) (hb : XE X b db) : XE X (.BinOp a .BitAnd b pos) (dOp (gI fun i j => .int (Builtin.bitAnd i j)) da db) := x_op op_and (opd_I fun _ _ => rfl) ha hb
theorem xNeg {i : Int} {j p} : XE X (.UnaryOp .USub (.Constant (.int i) j p) pos) (dC (.int (-i))) := pe_imp (pe_un un_neg pe_int) fun _ _ _ h => ⟨i, rfl, le_c (K := X.K) (x := .int (-i)) (v := .int (-i)) (fun _ => rfl) h⟩
/-- comparisons, as values and as tests -/
theorem x_cmp {op : CmpOp} {r : R2} {g : G2} (ho : OpR X (compareOp op) r) (hg : OpS X.K r g) (ha : XE X a da) (hb : XE X b db) (hm : behindInMarks op b = false) : XE X (.Compare a [op] [b] pos) (dOpS g da db) := pe_imp (pe_cmpR ho ha hb hm) fun _ _ _ => le_opS hg
theorem t_cmp {op : CmpOp} {r : R2} {g : G2} (ho : OpR X (compareOp op) r) (hg : OpS X.K r g) (ha : XE X a da) (hb : XE X b db) (hm : behindInMarks op b = false) : XT X (.Compare a [op] [b] pos) (dTest (dOpS g da db)) := pt_imp (pt_cmpR ho ha hb hm) fun _ _ _ => lt_test fun _ => le_opS hg
theorem xEq (hu : X.A.units + 64 < cLine) (ha : XE X a da) (hb : XE X b db) : XE X (.Compare a [.Eq] [b] pos) (dOpS gEq da db) := x_cmp (op_eqU hu) ops_eq ha hb (nomark _)
theorem xNe (hu : X.A.units + 64 < cLine) (ha : XE X a da) (hb : XE X b db) : XE X (.Compare a [.NotEq] [b] pos) (dOpS gNe da db) := x_cmp (op_neU hu) ops_ne ha hb (nomark _)
theorem xLt (ha : XE X a da) (hb : XE X b db) : XE X (.Compare a [.Lt] [b] pos) (dOpS gLt da db) := x_cmp op_ltU ops_cmp ha hb (nomark _)
theorem xLe (ha : XE X a da) (hb : XE X b db) : XE X (.Compare a [.LtE] [b] pos) (dOpS gLe da db) := x_cmp op_leU ops_cmp ha hb (nomark _)
theorem xGt (ha : XE X a da) (hb : XE X b db) : XE X (.Compare a [.Gt] [b] pos) (dOpS gGt da db) := x_cmp op_gtU ops_cmp ha hb (nomark _)
theorem xGe (ha : XE X a da) (hb : XE X b db) : XE X (.Compare a [.GtE] [b] pos) (dOpS gGe da db) := x_cmp op_geU ops_cmp ha hb (nomark _)
theorem xIs (ha : XE X a da) (hb : XE X b db) : XE X (.Compare a [.Is] [b] pos) (dOpS gIs1 da db) := x_cmp op_isU ops_is ha hb (nomark _)
theorem xIsNot (ha : XE X a da) (hb : XE X b db) : XE X (.Compare a [.IsNot] [b] pos) (dOpS gIs0 da db) := x_cmp op_isNotU ops_isNot ha hb (nomark _)
theorem xIn (hu : X.A.units + 65 < cLine) (ha : XE X a da) (hb : XE X b db) (hm : behindInMarks .In b = false := by rfl) : XE X (.Compare a [.In] [b] pos) (dOpS (gIn false) da db) := x_cmp (op_inU hu) ops_in ha hb hm
theorem xNotIn (hu : X.A.units + 65 < cLine) (ha : XE X a da) (hb : XE X b db) (hm : behindInMarks .NotIn b = false := by rfl) : XE X (.Compare a [.NotIn] [b] pos) (dOpS (gIn true) da db) := x_cmp (op_notInU hu) ops_notIn ha hb hm
theorem tEq (hu : X.A.units + 64 < cLine) (ha : XE X a da) (hb : XE X b db) : XT X (.Compare a [.Eq] [b] pos) (dTest (dOpS gEq da db)) := t_cmp (op_eqU hu) ops_eq ha hb (nomark _)
theorem tNe (hu : X.A.units + 64 < cLine) (ha : XE X a da) (hb : XE X b db) : XT X (.Compare a [.NotEq] [b] pos) (dTest (dOpS gNe da db)) := t_cmp (op_neU hu) ops_ne ha hb (nomark _)
theorem tLt (ha : XE X a da) (hb : XE X b db) : XT X (.Compare a [.Lt] [b] pos) (dTest (dOpS gLt da db)) := t_cmp op_ltU ops_cmp ha hb (nomark _)
theorem tLe (ha : XE X a da) (hb : XE X b db) : XT X (.Compare a [.LtE] [b] pos) (dTest (dOpS gLe da db)) := t_cmp op_leU ops_cmp ha hb (nomark _)
theorem tGt (ha : XE X a da) (hb : XE X b db) : XT X (.Compare a [.Gt] [b] pos) (dTest (dOpS gGt da db)) := t_cmp op_gtU ops_cmp ha hb (nomark _)
theorem tGe (ha : XE X a da) (hb : XE X b db) : XT X (.Compare a [.GtE] [b] pos) (dTest (dOpS gGe da db)) := t_cmp op_geU ops_cmp ha hb (nomark _)
theorem tIs (ha : XE X a da) (hb : XE X b db) : XT X (.Compare a [.Is] [b] pos) (dTest (dOpS gIs1 da db)) := t_cmp op_isU ops_is ha hb (nomark _)
theorem tIsNot (ha : XE X a da) (hb : XE X b db) : XT X (.Compare a [.IsNot] [b] pos) (dTest (dOpS gIs0 da db)) := t_cmp op_isNotU ops_isNot ha hb (nomark _)
theorem tIn (hu : X.A.units + 65 < cLine) (ha : XE X a da) (hb : XE X b db) (hm : behindInMarks .In b = false := by rfl) : XT X (.Compare a [.In] [b] pos) (dTest (dOpS (gIn false) da db)) := t_cmp (op_inU hu) ops_in ha hb hm
theorem tNotIn (hu : X.A.units + 65 < cLine) (ha : XE X a da) (hb : XE X b db) (hm : behindInMarks .NotIn b = false := by rfl) : XT X (.Compare a [.NotIn] [b] pos) (dTest (dOpS (gIn true) da db)) := t_cmp (op_notInU hu) ops_notIn ha hb hm
/-- a < b < c; the rules of the two comparisons are written out -/
theorem xChain {op op' : CmpOp} {r r' : R2} {g g' : G2} (ho : OpR X (compareOp op) r) (hg : OpS X.K r g) (ho' : OpR X (compareOp op') r') (hg' : OpS X.K r' g') (ha : XE X a da) (hb : XE X b db) (hc : XE X c dc) (hm : lastMarks [op, op'] [b, c] = false := by with_unfolding_all rfl) :
    XE X (.Compare a [op, op'] [b, c] pos) (dChain g g' da db dc) := pe_imp (pe_chain ho ho' ha hb hc hm) fun _ _ _ => le_chain hg hg'
theorem tChain' {op op' : CmpOp} {r r' : R2} {g g' : G2} (ho : OpR X (compareOp op) r) (hg : OpS X.K r g) (ho' : OpR X (compareOp op') r') (hg' : OpS X.K r' g') (ha : XE X a da) (hb : XE X b db) (hc : XE X c dc) (hm : lastMarks [op, op'] [b, c] = false := by with_unfolding_all rfl) :
    XT X (.Compare a [op, op'] [b, c] pos) (dTest (dChain g g' da db dc)) := pt_imp (pt_chain ho ho' ha hb hc hm) fun _ _ _ => lt_test fun _ => le_chain hg hg'
/-- tests -/
theorem tTru (ha : XE X a da) (he : ∀ whole, isTrue a X.env whole = (do let v ← whole; standAt a.pos; holding [v] (truthy v)) := by intro _; rfl) : XT X a (dTru da) := pt_imp (pt_truth ha he) fun _ _ _ => lt_tru
theorem tNot' (ha : XT X a dt) : XT X (.UnaryOp .Not a pos) (dNot dt) := pt_imp (pt_not ha) fun _ _ _ => lt_not
theorem wAnd1 (ha : XT X a dt) : XW X (.BoolOp .And [a] pos) dt := pw_and1 ha
theorem wOr1 (ha : XT X a dt) : XW X (.BoolOp .Or [a] pos) dt := pw_or1 ha
theorem wAnd (ha : XT X a dt) (hb : XW X (.BoolOp .And (b :: es) pos) du) : XW X (.BoolOp .And (a :: b :: es) pos) (dAnd dt du) := pw_imp (pw_and ha hb) fun _ _ _ => lt_and
theorem wOr (ha : XT X a dt) (hb : XW X (.BoolOp .Or (b :: es) pos) du) : XW X (.BoolOp .Or (a :: b :: es) pos) (dOr dt du) := pw_imp (pw_or ha hb) fun _ _ _ => lt_or
theorem tW (h : XW X a dt) : XT X a dt := h.pt
theorem xAnd (ha : XE X a da) (hb : XE X (.BoolOp .And (b :: es) pos) db) : XE X (.BoolOp .And (a :: b :: es) pos) (dAndV da db) := pe_imp (pe_and ha hb) fun _ _ _ => le_andV
theorem xOr (ha : XE X a da) (hb : XE X (.BoolOp .Or (b :: es) pos) db) : XE X (.BoolOp .Or (a :: b :: es) pos) (dOrV da db) := pe_imp (pe_or ha hb) fun _ _ _ => le_orV
theorem xOne {op} (ha : XE X a da) : XE X (.BoolOp op [a] pos) da := pe_one ha
theorem xNot (ha : XE X a da) : XE X (.UnaryOp .Not a pos) (dNotV da) := pe_imp (pe_not ha) fun _ _ _ => le_notV
theorem xIf (hc : XT X c dt) (ha : XE X a da) (hb : XE X b db) : XE X (.IfExp c a b pos) (dIf dt da db) := pe_imp (pe_ifExp hc ha hb) fun _ _ _ => le_if
/-- displays, items, slices -/
theorem an : XA X [] dNil := pa_imp pa_nil fun _ _ _ => la_nil
theorem ac (ha : XE X e de) (hr : XA X es dA) (hs : starEach (e :: es) X.env = (false, eval e X.env) :: starEach es X.env := by rfl) : XA X (e :: es) (dCons de dA) := pa_imp (pa_cons ha hr hs) fun _ _ _ => la_cons
theorem acN (ha : XE X e de) (hr : XA X es dA) (hs : starEach (e :: es) X.env = (false, eval e X.env) :: starEach es X.env := by rfl) : XA X (e :: es) (dConsN de dA) := pa_imp (pa_cons ha hr hs) fun _ _ _ => la_consN
theorem xTup {k} (h : XA X es dA) : XE X (.Tuple es k pos) (dTup dA) := pe_imp (pe_tup h) fun _ _ _ => le_tup
theorem xLst (h : XA X es dA) : XE X (.List es pos) (dLst dA) := pe_imp (pe_lst h) fun _ _ _ => le_lst
theorem xIx (ha : XE X a da) (hb : XE X b db) (hs : PlainIx b := by exact fun _ _ => rfl) : XE X (.Subscript a b pos) (dOpS gIx da db) := pe_imp (pe_ix ix_U ha hb hs) fun _ _ _ => le_opS ops_ix
theorem oN : PO X none (LO X.K dNoPart) := ⟨fun pins s σ H Q I h => po_none.run pins s σ H Q I (lo_none h)⟩
theorem oS (h : XE X e de) : PO X (some e) (LO X.K (dPart de)) := ⟨fun pins s σ H Q I q => (po_some h).run pins s σ H Q I (lo_some q)⟩
theorem xSl {lo hi : Option Expr} {dl dh : DO} (he : XE X e de) (hl : PO X lo (LO X.K dl)) (hh : PO X hi (LO X.K dh)) : XE X (.Subscript e (.Slice lo hi none p) pos) (dSl de dl dh) := pe_imp (pe_slice sl_U he hl hh) fun _ _ _ => le_sl
/-- built-ins -/
theorem xCB {x : Str} {id : String} {r : List V → Hp → VK → Prop} {g : G1} (hc : CallR X (.builtin id) r) (hg : CbD X.K r g) (hl : Gl X x) (hm : X.mg x = none) (hv : bootBuiltins x = some (.builtin id)) (ha : XA X (e :: es) dA) (hn : x ≠ "__name__" := by decide) (hdb : (x == ("__debug__" : Str)) = false := by decide)
    (he : starEach (e :: es) X.env = (false, eval e X.env) :: starEach es X.env := by rfl) (hpl : (backTo pos (starEach es X.env)).any (·.1) = false := by rfl) : XE X (.Call (.Name x p) (e :: es) [] pos) (dCB g dA) := pe_imp (pe_callB hc hl hm hv ha hn hdb he hpl) fun _ _ _ => le_cb hg
theorem xCT {x : Str} {T : String} {r : List V → Hp → VK → Prop} {g : G1} (hc : CallR X (.type T) r) (hg : CbD X.K r g) (hl : Gl X x) (hm : X.mg x = none) (hv : bootBuiltins x = some (.type T)) (ha : XA X (e :: es) dA) (hn : x ≠ "__name__" := by decide) (hdb : (x == ("__debug__" : Str)) = false := by decide)
    (he : starEach (e :: es) X.env = (false, eval e X.env) :: starEach es X.env := by rfl) (hpl : (backTo pos (starEach es X.env)).any (·.1) = false := by rfl) : XE X (.Call (.Name x p) (e :: es) [] pos) (dCB g dA) := pe_imp (pe_callTy hc hl hm hv ha hn hdb he hpl) fun _ _ _ => le_cb hg
theorem xIsi {T : String} {x : Str} {p2 : Pos} (hT : ∀ t ∈ ["NoneType", "bool", "int", "str", "list", "tuple", "dict"], kitB t T = some (t == T || (T == "int" && t == "bool"))) (hl : Gl X "isinstance") (hm : X.mg "isinstance" = none) (hl2 : Gl X x) (hm2 : X.mg x = none) (hv2 : bootBuiltins x = some (.type T)) (ha : XE X e de) (hn : x ≠ "__name__" := by decide) (hdb : (x == ("__debug__" : Str)) = false := by decide)
    (he : starEach [e, .Name x p2] X.env = (false, eval e X.env) :: starEach [.Name x p2] X.env := by rfl) (hpl : (backTo pos (starEach [.Name x p2] X.env)).any (·.1) = false := by rfl) (he2 : starEach [.Name x p2] X.env = (false, eval (.Name x p2) X.env) :: starEach [] X.env := by rfl) :
    XE X (.Call (.Name "isinstance" p) [e, .Name x p2] [] pos) (dIsi T de) :=
  pe_imp (pe_callB call_isi hl hm (by decide +kernel) (pa_cons ha (pa_cons (pe_bltn (v := .ty T) hl2 hm2 hv2 rfl hn hdb) pa_nil he2) he) (by decide) (by decide) he hpl) fun _ _ _ => le_isi hT
theorem xJoin {o : Expr} {ap : Pos} (ho : XE X o da) (he : XE X e de) (h : PE X (.Call (.Attribute o "join" ap) [e] [] pos) (tM1 (fun x xs H Q => ∃ a p, ∃ ys : List Str, x = .str a ∧ xs = [.ref p] ∧ (SqL X.K H p (ys.map V.str) ∨ SqT X.K H p (ys.map V.str)) ∧ (ys.map (·.length)).sum + ys.length * a.length ≤ 16777216 ∧ Q (.str (Txt.join a ys)) H) (LE X.K da) (LE X.K de))) :
    XE X (.Call (.Attribute o "join" ap) [e] [] pos) (dJoin da de) := pe_imp h fun _ _ _ => le_join
theorem xSplit {o : Expr} {ap : Pos} (ho : XE X o da) (he : XE X e de) (h : PE X (.Call (.Attribute o "split" ap) [e] [] pos) (tM1 (fun x xs H Q => ∃ a b, x = .str a ∧ xs = [.str b] ∧ (b.length == 0) = false ∧ a.length + 2 ≤ sizeLine ∧ rNewStrs (Txt.split a b) H Q) (LE X.K da) (LE X.K de))) :
    XE X (.Call (.Attribute o "split" ap) [e] [] pos) (dSplit da de) := pe_imp h fun _ _ _ => le_split
theorem xUpper {o : Expr} {ap : Pos} (ho : XE X o da) (h : PE X (.Call (.Attribute o "upper" ap) [] [] pos) (tM0 (fun x xs H Q => ∃ a, x = .str a ∧ xs = [] ∧ a.length ≤ 5592405 ∧ Q (.str (Txt.upper a)) H) (LE X.K da))) :
    XE X (.Call (.Attribute o "upper" ap) [] [] pos) (dUpper da) := pe_imp h fun _ _ _ => le_upper
/-- calls of defs -/
theorem xCall {k : Nat} {f : Addr} {fd : FuncData} {ps : List Str} {S : DSp} {x : Str} (ms : List Bool) (F : FnG X.prog X.w X.K X.mg X.base CX0 k f fd ps (spD X.K ps.length S)) (hS : ∀ as q, S as q → as.length = ps.length) (gd : X.A.guards = some []) (hr : Room k X.A) (hg : Gl X x) (hm : X.mg x = some (.ref f)) (hk : PySem.W.keepIn X.K (.ref f) = true) (hb : Binds X.K fd ps [])
    (ha : XA X (e :: es) dA) (hdb : (x == ("__debug__" : Str)) = false := by decide) (he : starEach (e :: es) X.env = (false, eval e X.env) :: starEach es X.env := by rfl) (hpl : (backTo pos (starEach es X.env)).any (·.1) = false := by rfl) :
    XE X (.Call (.Name x p) (e :: es) [] pos) (dCall ms S dA) := pe_imp (pe_callG (E := E0) F gd hr hg hm hk hb pass0 ha hdb he hpl) fun _ _ _ => le_call hS
theorem xCall0 {k : Nat} {f : Addr} {fd : FuncData} {S : DSp} {x : Str} (F : FnG X.prog X.w X.K X.mg X.base CX0 k f fd [] (spD X.K 0 S)) (hS : ∀ as q, S as q → as.length = 0) (gd : X.A.guards = some []) (hr : Room k X.A) (hg : Gl X x) (hm : X.mg x = some (.ref f)) (hk : PySem.W.keepIn X.K (.ref f) = true) (hb : Binds X.K fd [] [])
    (hdb : (x == ("__debug__" : Str)) = false := by decide) : XE X (.Call (.Name x p) [] [] pos) (dCall [] S dNil) := pe_imp (pe_callG0 (E := E0) F gd hr hg hm hk hb pass0 hdb) fun σ H Q h => by
  have := le_call (E := E0) hS h
  obtain ⟨F0, H0, io, F, δ, q, R, h2, k⟩ := h
  exact le_call (da := dNil) (E := E0) hS ⟨F0, H0, io, F, δ, q, R, h2, k⟩ |> fun z => by
    have z' : LA X.K dNil σ H (fun vs H1 => spD X.K 0 S (vs ++ []) H1 Q E0) := z
    exact la_nil z'
/-- comprehensions -/
theorem xLc {elt tg iter : Expr} {ifs : List Expr} {scope : Scope} {own : List (Str × Nat)} {wi : TI} {di : DI} {g : TG} {dg : DG} {tt : TT} {tv : List Nat} (hc : X.calm = true) (hN : X.N.Nodup) (hI : ItOk X.K wi di) (hG : TgOk X.K tv g dg) (hv : ∀ k ∈ tv, k ∈ own.map (·.2)) (hT : ∀ (σ : L2.St) (H : Hp) (Q : Bool → Hp → Prop), LT X.K dt σ H Q → tt σ H Q)
    (hi : PI X tg iter wi) (ok : BlkOk X.N X.env.scope scope own) (hg : ∀ (s : Shared) (H : Hp) (C : Addr) (cl : List (Str × Addr)) (fp : List Addr), PG (X.blk s H scope (compEnvC scope cl C X.env) fp) tg g)
    (ht : ∀ (s : Shared) (H : Hp) (C : Addr) (cl : List (Str × Addr)) (fp : List Addr), PTs (X.blk s H scope (compEnvC scope cl C X.env) fp) ifs tt) (he : ∀ (s : Shared) (H : Hp) (C : Addr) (cl : List (Str × Addr)) (fp : List Addr), XE (X.blk s H scope (compEnvC scope cl C X.env) fp) elt de) (hs : ∀ x, foldedSetIterable iter X.env x = pure x := by intro _; rfl) :
    XE X (.ListComp elt [⟨tg, iter, ifs, 0⟩] scope pos) (dLc di dg dt de (own.map (·.2))) := pe_imp (pe_lc hc hN hi ok hg ht he hs) fun _ _ _ => le_lc hI hG hv hT
def dYes (δ : De) (q : Bool → De → Prop) : Prop := q true δ
theorem lt_yes {K : Frag} (σ : L2.St) (H : Hp) (Q : Bool → Hp → Prop) (h : LT K dYes σ H Q) : tYes σ H Q := by
  obtain ⟨F0, H0, io, F, δ, q, R, h, k⟩ := h
  exact k true F H δ R (.refl _) h
/-! ### statements -/
theorem sN : XSs X [] dNext := pss_imp pss_nil fun _ _ _ => ls_next
theorem sC (h1 : XS X st ds) (h2 : XSs X sts ds') : XSs X (st :: sts) (dSeq ds ds') := pss_imp (pss_cons h1 h2) fun _ _ _ => ls_seq
theorem s1 (h : XS X st ds) : XSs X [st] ds := pss_one h
theorem sRet (h : XE X e de) : XS X (.Return (some e) pos) (dRet de) := ps_imp (ps_ret h) fun _ _ _ => ls_ret
theorem sRetN : XS X (.Return none pos) dRetN := ps_imp ps_retN fun _ _ _ => ls_retN
theorem sIf {p q : List Stmt} (hc : XT X c dt) (ha : XSs X p ds) (hb : XSs X q ds') : XS X (.If c p q pos) (dIfS dt ds ds') := ps_imp (ps_if hc ha hb) fun _ _ _ => ls_if
theorem sPass : XS X (.Pass pos) dNext := ps_imp ps_pass fun _ _ _ => ls_next
theorem sBreak : XS X (.Break pos) dBreak := ps_imp ps_break fun _ _ _ => ls_break
theorem sCont : XS X (.Continue pos) dCont := ps_imp ps_continue fun _ _ _ => ls_cont
theorem sNever : XS X st dNever := ps_imp ps_never fun _ _ _ => ls_never
theorem sDrop (h : XE X e de) (hs : swapsWith e none pos.line X.env = pure false := by rfl) : XS X (.Expr e pos) (dDrop de) := ps_imp (ps_expr h hs) fun _ _ _ => ls_drop
theorem sDoc {x j pos'} : XS X (.Expr (.Constant (.str x) j pos) pos') dNext := ps_imp ps_doc fun _ _ _ => ls_next
theorem sSet (i : Nat) {x : Str} (hN : X.N.Nodup) (he : XE X e de) (hi : X.N[i]? = some x := by rfl) (hx : Loc X.env.scope x := by first | exact Or.inl rfl | exact Or.inr rfl) (hs : swapsWith e (some (.Name x pos')) pos.line X.env = pure false := by rfl) (hf : X.fn x = true ∨ X.env.scope.names.lookup x = some .local := by first | exact .inl rfl | exact .inr rfl | assumption) :
    XS X (.Assign [.Name x pos'] e pos) (dAsg i de) := ps_imp (ps_set hN hi hx he hs hf) fun _ _ _ => ls_asg
theorem ls_asg' {K : Frag} {σ : L2.St} {H : Hp} {E : Ends} {i : Nat} {te : TE} (ho : ∀ Q, LE K de σ H Q → te σ H Q) (h : LS K (dAsg i de) E σ H) : tAsg te (gName i) E σ H := by
  obtain ⟨F0, H0, io, F, δ, D, nx, R, h, f⟩ := h
  refine ho _ (LE.of R h fun v F1 H1 r δ1 R1 e1 a1 h1 => ?_)
  try (first | simp only [kAsg] at h1)
  split at h1
  · rename_i δ2 hp
    obtain ⟨F2, R2, _⟩ := R1.dput a1 hp
    exact f.nx _ δ2 F2 H1 R2 h1
  · exact h1.elim
/-- y = [.. for ..], y a plain local -/
theorem sSetLc (i : Nat) {y : Str} {py spos : Pos} {elt tg iter : Expr} {ifs : List Expr} {scope : Scope} {own : List (Str × Nat)} {wi : TI} {di : DI} {g : TG} {dg : DG} {tt : TT} {tv : List Nat} (hc : X.calm = true) (hN : X.N.Nodup) (hI : ItOk X.K wi di) (hG : TgOk X.K tv g dg) (hv : ∀ k ∈ tv, k ∈ own.map (·.2)) (hT : ∀ (σ : L2.St) (H : Hp) (Q : Bool → Hp → Prop), LT X.K dt σ H Q → tt σ H Q)
    (hsw : swapsWith (.ListComp elt [⟨tg, iter, ifs, 0⟩] scope pos) (some (.Name y py)) spos.line X.env = pure true)
    (hi : PI X tg iter wi) (ok : BlkOk X.N X.env.scope scope own) (hg : ∀ (s : Shared) (H : Hp) (C : Addr) (cl : List (Str × Addr)) (fp : List Addr), PG (X.blk s H scope (compEnvC scope cl C X.env) fp) tg g)
    (ht : ∀ (s : Shared) (H : Hp) (C : Addr) (cl : List (Str × Addr)) (fp : List Addr), PTs (X.blk s H scope (compEnvC scope cl C X.env) fp) ifs tt) (he : ∀ (s : Shared) (H : Hp) (C : Addr) (cl : List (Str × Addr)) (fp : List Addr), XE (X.blk s H scope (compEnvC scope cl C X.env) fp) elt de) (hy : X.N[i]? = some y := by rfl) (hyl : X.env.scope.names.lookup y = some .local := by rfl) (hs : ∀ x, foldedSetIterable iter X.env x = pure x := by intro _; rfl) :
    XS X (.Assign [.Name y py] (.ListComp elt [⟨tg, iter, ifs, 0⟩] scope pos) spos) (dAsg i (dLc di dg dt de (own.map (·.2)))) := ps_imp (ps_setLc hc hN hy hyl hsw hi ok hg ht he hs) fun _ _ _ => ls_asg' fun _ => le_lc hI hG hv hT
theorem sUnp {tg : Expr} {g : TG} {dg : DG} {tv : List Nat} (hG : TgOk X.K tv g dg) (he : XE X e de) (hg : PG X tg g) (hs : swapsWithSole [tg] e pos.line X.env = pure false := by rfl) (hw : swappedStores [tg] e X.env = pure none := by rfl) (h1 : (assignEach [tg] X.env).map (·.2) = [assign tg X.env] := by rfl) :
    XS X (.Assign [tg] e pos) (dUnp dg de) := ps_imp (ps_asg he hg hs hw h1) fun _ _ _ => ls_unp hG
theorem sPar2 {i j : Nat} {x y : Str} {px py pt : Pos} {kt k2 pt2} (hN : X.N.Nodup) (ha : XA X [a, b] dA) (hc : X.calm = true := by rfl) (hi : X.N[i]? = some x := by rfl) (hj : X.N[j]? = some y := by rfl) (hij : i ≠ j := by decide) (hx : X.env.scope.names.lookup x = some .local := by rfl) (hy : X.env.scope.names.lookup y = some .local := by rfl)
    (hw : swappedStores [.Tuple [.Name x px, .Name y py] kt pt] (.Tuple [a, b] k2 pt2) X.env = pure (some [x, y]) := by rfl) (hs : swapsWithSole [.Tuple [.Name x px, .Name y py] kt pt] (.Tuple [a, b] k2 pt2) pos.line X.env = pure false := by rfl) :
    XS X (.Assign [.Tuple [.Name x px, .Name y py] kt pt] (.Tuple [a, b] k2 pt2) pos) (dPar [i, j] dA) := ps_imp (ps_par hc hN hi hj hij hx hy ha hw hs) fun _ _ _ => ls_par2
theorem sPar3 {i j m : Nat} {x y z : Str} {px py pz pt : Pos} {kt k2 pt2} (hN : X.N.Nodup) (ha : XA X [a, b, c] dA) (hc : X.calm = true := by rfl) (hi : X.N[i]? = some x := by rfl) (hj : X.N[j]? = some y := by rfl) (hl : X.N[m]? = some z := by rfl) (hij : i ≠ j := by decide) (hil : i ≠ m := by decide) (hjl : j ≠ m := by decide) (hx : X.env.scope.names.lookup x = some .local := by rfl) (hy : X.env.scope.names.lookup y = some .local := by rfl) (hz : X.env.scope.names.lookup z = some .local := by rfl)
    (hw : swappedStores [.Tuple [.Name x px, .Name y py, .Name z pz] kt pt] (.Tuple [a, b, c] k2 pt2) X.env = pure (some [x, y, z]) := by rfl) (hs : swapsWithSole [.Tuple [.Name x px, .Name y py, .Name z pz] kt pt] (.Tuple [a, b, c] k2 pt2) pos.line X.env = pure false := by rfl) :
    XS X (.Assign [.Tuple [.Name x px, .Name y py, .Name z pz] kt pt] (.Tuple [a, b, c] k2 pt2) pos) (dPar [i, j, m] dA) := ps_imp (ps_par3 hc hN hi hj hl hij hil hjl hx hy hz ha hw hs) fun _ _ _ => ls_par3
theorem sFor {tg iter : Expr} {wi : TI} {di : DI} {g : TG} {dg : DG} {tv : List Nat} {body : List Stmt} (hI : ItOk X.K wi di) (hG : TgOk X.K tv g dg) (hp : PassesOwn (model X.prog X.w) X.A X.env X.xe) (hc : X.calm = true) (hi : PI X tg iter wi) (hg : PG X tg g) (hb : XSs X body ds) (hs : ∀ x, foldedSetIterable iter X.env x = pure x := by intro _; rfl) : XS X (.For tg iter body [] pos) (dFor di dg ds) := ps_imp (ps_for hp hc hi hg hb hs) fun _ _ _ => ls_for hI hG
theorem sWhile {body : List Stmt} (hp : PassesOwn (model X.prog X.w) X.A X.env X.xe) (hc : XT X c dt) (hb : XSs X body ds) : XS X (.While c body [] pos) (dWhile dt ds) := ps_imp (ps_while hp hc hb) fun _ _ _ => ls_while
/-- xs.append(e), xs[k] = e -/
theorem sApp (i : Nat) {o : Expr} {ap : Pos} (h : PE X (.Call (.Attribute o "append" ap) [e] [] p) (tBM X.K "list" rAppend (tVar i) (tCons (LE X.K de) tNil))) (hs : swapsWith (.Call (.Attribute o "append" ap) [e] [] p) none pos.line X.env = pure false := by rfl) : XS X (.Expr (.Call (.Attribute o "append" ap) [e] [] p) pos) (dApp i de) := ps_imp (ps_expr h hs) fun _ _ _ => ls_app
theorem pApp (i : Nat) {x : Str} {p1 ap : Pos} (he : XE X e de) (hN : X.N[i]? = some x := by rfl) (hv : Vis X.env.scope x := by first | exact Or.inl rfl | exact Or.inr (Or.inl rfl) | exact Or.inr (Or.inr rfl)) (hd : (x == ("__debug__" : Str)) = false := by decide) (hcd : (x == ("__classdict__" : Str)) = false := by decide) (hs : starEach [e] X.env = (false, eval e X.env) :: starEach [] X.env := by rfl)
    (h : PA X [e] (tCons (LE X.K de) tNil) → PE X (.Name x p1) (tVar i) → PE X (.Call (.Attribute (.Name x p1) "append" ap) [e] [] p) (tBM X.K "list" rAppend (tVar i) (tCons (LE X.K de) tNil)) := by exact fun h1 h2 => pe_bm PySem.F.plainAttrs_list PySem.F.slot_list_append PySem.F.type_list_append mt_append h2 h1) (hz : swapsWith (.Call (.Attribute (.Name x p1) "append" ap) [e] [] p) none pos.line X.env = pure false := by rfl) :
    XS X (.Expr (.Call (.Attribute (.Name x p1) "append" ap) [e] [] p) pos) (dApp i de) := sApp i (h (pa_cons he pa_nil hs) (pe_var hN hv hd hcd)) hz
/-- {} and {'a': 'b'} -/
def dDic0 (δ : De) (q : Rv → De → Prop) : Prop := q (.d (.dict [])) δ
def dDicS (k v : Str) (δ : De) (q : Rv → De → Prop) : Prop := q (.d (.dict [(.str k, .str v)])) δ
theorem xDic0 : XE X (.Dict [] [] pos) dDic0 := pe_imp pe_dnewK fun σ H Q h => by
  obtain ⟨F0, H0, io, F, δ, q, R, h, k⟩ := h
  intro d hd
  have fp := Evl.fresh_back R.fh hd
  exact k _ _ _ (.d (.dict [])) δ (R.newF hd _) (.newF hd fp _ _) ⟨d, [], rfl, upd_same, rfl⟩ h
theorem xDicS {i v : Str} {j kp j2 kp2} : XE X (.Dict [some (.Constant (.str i) j kp)] [.Constant (.str v) j2 kp2] pos) (dDicS i v) := pe_imp (pe_disp (pps_cons pe_str pe_str pps_nil) (by rfl) (by rfl) (fun z => by cases z) (by simp)) fun σ H Q h => by
  obtain ⟨F0, H0, io, F, δ, q, R, h, k⟩ := h
  intro p hp
  refine ⟨upd_same, [(.inr i, .str v)], rfl, by simp, ?_⟩
  have fp := Evl.fresh_back R.fh hp
  have e : mergeK [] [((.inr i : Key), V.str v)] = [(.inr i, V.str v)] := by first | rfl | simp [mergeK]
  rw [e, upd_upd]
  exact k _ _ _ (.d (.dict [(.str i, .str v)])) δ (R.newF hp _) (.newF hp fp _ _) ⟨p, _, rfl, upd_same, .inr i, .str v, [], rfl, rfl, rfl, rfl⟩ h
/-- xs[k] = e, xs a name -/
theorem sSetI (i : Nat) {x : Str} {k : Expr} {dk : DE} {p1 ps : Pos} (he : XE X e de) (hk : XE X k dk) (hN : X.N[i]? = some x := by rfl) (hv : Vis X.env.scope x := by first | exact Or.inl rfl | exact Or.inr (Or.inl rfl) | exact Or.inr (Or.inr rfl)) (hd : (x == ("__debug__" : Str)) = false := by decide) (hcd : (x == ("__classdict__" : Str)) = false := by decide)
    (hg : PE X (.Name x p1) (tVar i) → XE X k dk → PG X (.Subscript (.Name x p1) k ps) (gSub (tVar i) (LE X.K dk) rSetL) := by exact fun h1 h2 => pg_sub h1 h2 set_list)
    (hs : swapsWithSole [.Subscript (.Name x p1) k ps] e pos.line X.env = pure false := by rfl) (hw : swappedStores [.Subscript (.Name x p1) k ps] e X.env = pure none := by rfl) (h1 : (assignEach [.Subscript (.Name x p1) k ps] X.env).map (·.2) = [assign (.Subscript (.Name x p1) k ps) X.env] := by rfl) :
    XS X (.Assign [.Subscript (.Name x p1) k ps] e pos) (dSetI i dk de) := ps_imp (ps_asg he (hg (pe_var hN hv hd hcd) hk) hs hw h1) fun _ _ _ => ls_setI
theorem hu64 {k : Nat} {A : Around} (hr : Room k A) : A.units + 64 < cLine := hr.units
theorem hu65 {k : Nat} {A : Around} (hr : Room k A) : A.units + 65 < cLine := by have := hr.un; omega
end
end DL

/-! DLy: the one-step equations of the readings (printed by eqs.py) -/
namespace DL
open PySem PySem.Spec PyProof.Rows L2
theorem e_dVar (i : Nat) (δ : De) (q : Rv → De → Prop) : dVar i δ q = (match δ[i]? with
  | some (some (.d x)) => q (.d x) δ
  | some (some _) => q (.var i) δ
  | _ => False) := rfl
theorem e_dC (x : PyData) (δ : De) (q : Rv → De → Prop) : dC x δ q = (q (.d x) δ) := rfl
theorem e_kZ (q : Rv → De → Prop) (δ : De) (z : Rv) : kZ q δ z = (q z δ) := rfl
theorem e_kOp3 (g : G2) (q : Rv → De → Prop) (δ : De) (x y : PyData) : kOp3 g q δ x y = (g x y (kZ q δ)) := rfl
theorem e_kOp2 (g : G2) (r : Rv) (q : Rv → De → Prop) (s : Rv) (δ : De) : kOp2 g r q s δ = (two δ r s (kOp3 g q δ)) := rfl
theorem e_kOp1 (g : G2) (db : DE) (q : Rv → De → Prop) (r : Rv) (δ : De) : kOp1 g db q r δ = (db δ (kOp2 g r q)) := rfl
theorem e_dOp (g : G2) (da db : DE) (δ : De) (q : Rv → De → Prop) : dOp g da db δ q = (da δ (kOp1 g db q)) := rfl
theorem e_gI (f : Int → Int → PyData) (x y : PyData) (q : Rv → Prop) : gI f x y q = (match x, y with
  | .int i, .int j => q (.d (f i j))
  | _, _ => False) := rfl
theorem e_gIc (C : Int → Int → Prop) (f : Int → Int → PyData) (x y : PyData) (q : Rv → Prop) : gIc C f x y q = (match x, y with
  | .int i, .int j => C i j ∧ q (.d (f i j))
  | _, _ => False) := rfl
theorem e_gAdd (x y : PyData) (q : Rv → Prop) : gAdd x y q = (match x, y with
  | .int i, .int j => q (.d (.int (i + j)))
  | .str a, .str b => a.length + b.length ≤ sizeLine ∧ q (.d (.str (a ++ b)))
  | .list xs, .list ys => xs.length + ys.length ≤ sizeLine ∧ q (.new (xs ++ ys))
  | .tuple xs, .tuple ys => xs.length + ys.length ≤ sizeLine ∧ q (.d (.tuple (xs ++ ys)))
  | _, _ => False) := rfl
theorem e_gMul (x y : PyData) (q : Rv → Prop) : gMul x y q = (match x, y with
  | .int i, .int j => CMulW i j ∧ q (.d (.int (i * j)))
  | .str z, .int k => CRepS z k ∧ q (.d (.str (repS z k.toNat)))
  | .list xs, .int k => (-(2 ^ 63) ≤ k ∧ k < 2 ^ 63 ∧ xs.length * k.toNat ≤ sizeLine) ∧ q (.new (List.replicate k.toNat xs).flatten)
  | _, _ => False) := rfl
theorem e_gEq (x y : PyData) (q : Rv → Prop) : gEq x y q = (cmp2 x y = true ∧ q (.d (.bool (PyData.eqv x y)))) := rfl
theorem e_gNe (x y : PyData) (q : Rv → Prop) : gNe x y q = (cmp2 x y = true ∧ q (.d (.bool (!PyData.eqv x y)))) := rfl
theorem e_kOpS2 (g : G2) (r : Rv) (q : Rv → De → Prop) (s : Rv) (δ : De) : kOpS2 g r q s δ = (twoS δ r s (kOp3 g q δ)) := rfl
theorem e_kOpS1 (g : G2) (db : DE) (q : Rv → De → Prop) (r : Rv) (δ : De) : kOpS1 g db q r δ = (db δ (kOpS2 g r q)) := rfl
theorem e_dOpS (g : G2) (da db : DE) (δ : De) (q : Rv → De → Prop) : dOpS g da db δ q = (da δ (kOpS1 g db q)) := rfl
theorem e_kTru (q : Bool → De → Prop) (r : Rv) (δ1 : De) : kTru q r δ1 = (match derefS δ1 (DL.sett r) with
  | some d => (match truth d with
    | some b => q b δ1
    | none => False)
  | none => False) := rfl
theorem e_dTru (de : DE) (δ : De) (q : Bool → De → Prop) : dTru de δ q = (de δ (kTru q)) := rfl
theorem e_kTest (q : Bool → De → Prop) (r : Rv) (δ1 : De) : kTest q r δ1 = (match r with
  | .d (.bool b) => q b δ1
  | _ => False) := rfl
theorem e_dTest (de : DE) (δ : De) (q : Bool → De → Prop) : dTest de δ q = (de δ (kTest q)) := rfl
theorem e_kAnd (u : DT) (q : Bool → De → Prop) (c : Bool) (δ1 : De) : kAnd u q c δ1 = (@boxIf c ⟨(u δ1 q, q false δ1)⟩) := rfl
theorem e_dAnd (t u : DT) (δ : De) (q : Bool → De → Prop) : dAnd t u δ q = (t δ (kAnd u q)) := rfl
theorem e_kOr (u : DT) (q : Bool → De → Prop) (c : Bool) (δ1 : De) : kOr u q c δ1 = (@boxIf c ⟨(q true δ1, u δ1 q)⟩) := rfl
theorem e_dOr (t u : DT) (δ : De) (q : Bool → De → Prop) : dOr t u δ q = (t δ (kOr u q)) := rfl
theorem e_kNot (q : Bool → De → Prop) (c : Bool) (δ1 : De) : kNot q c δ1 = (q (!c) δ1) := rfl
theorem e_dNot (t : DT) (δ : De) (q : Bool → De → Prop) : dNot t δ q = (t δ (kNot q)) := rfl
theorem e_kAndV (b : DE) (q : Rv → De → Prop) (r : Rv) (δ1 : De) : kAndV b q r δ1 = (match r with
  | .d (.bool c) => @boxIf c ⟨(b δ1 q, q (.d (.bool false)) δ1)⟩
  | _ => False) := rfl
theorem e_dAndV (a b : DE) (δ : De) (q : Rv → De → Prop) : dAndV a b δ q = (a δ (kAndV b q)) := rfl
theorem e_kOrV (b : DE) (q : Rv → De → Prop) (r : Rv) (δ1 : De) : kOrV b q r δ1 = (match r with
  | .d (.bool c) => @boxIf c ⟨(q (.d (.bool true)) δ1, b δ1 q)⟩
  | _ => False) := rfl
theorem e_dOrV (a b : DE) (δ : De) (q : Rv → De → Prop) : dOrV a b δ q = (a δ (kOrV b q)) := rfl
theorem e_kNotV (q : Rv → De → Prop) (r : Rv) (δ1 : De) : kNotV q r δ1 = (match r with
  | .d (.bool c) => q (.d (.bool (!c))) δ1
  | _ => False) := rfl
theorem e_dNotV (a : DE) (δ : De) (q : Rv → De → Prop) : dNotV a δ q = (a δ (kNotV q)) := rfl
theorem e_kIf (a b : DE) (q : Rv → De → Prop) (c : Bool) (δ1 : De) : kIf a b q c δ1 = (@boxIf c ⟨(a δ1 q, b δ1 q)⟩) := rfl
theorem e_dIf (t : DT) (a b : DE) (δ : De) (q : Rv → De → Prop) : dIf t a b δ q = (t δ (kIf a b q)) := rfl
theorem e_kCh4 (g' : G2) (c : DE) (q : Rv → De → Prop) (s : Rv) (δ2 : De) (z : Rv) : kCh4 g' c q s δ2 z = (match z with
  | .d (.bool k) => @boxIf k ⟨(c δ2 (kOpS2 g' s q), q (.d (.bool false)) δ2)⟩
  | _ => False) := rfl
theorem e_kCh3 (g g' : G2) (c : DE) (q : Rv → De → Prop) (s : Rv) (δ2 : De) (x y : PyData) : kCh3 g g' c q s δ2 x y = (g x y (kCh4 g' c q s δ2)) := rfl
theorem e_kCh2 (g g' : G2) (c : DE) (q : Rv → De → Prop) (r : Rv) (s : Rv) (δ2 : De) : kCh2 g g' c q r s δ2 = (twoS δ2 r s (kCh3 g g' c q s δ2)) := rfl
theorem e_kCh1 (g g' : G2) (b c : DE) (q : Rv → De → Prop) (r : Rv) (δ1 : De) : kCh1 g g' b c q r δ1 = (b δ1 (kCh2 g g' c q r)) := rfl
theorem e_dChain (g g' : G2) (a b c : DE) (δ : De) (q : Rv → De → Prop) : dChain g g' a b c δ q = (a δ (kCh1 g g' b c q)) := rfl
theorem e_gIx (x y : PyData) (q : Rv → Prop) : gIx x y q = (match x, y with
  | .list xs, .int i => (match atI xs i with
    | some z => q (.d z)
    | none => False)
  | .tuple xs, .int i => (match atI xs i with
    | some z => q (.d z)
    | none => False)
  | .str z, .int i => z.length ≤ sizeLine ∧ (match atI z.cps.toList i with
    | some c => q (.d (.str ⟨#[c]⟩))
    | none => False)
  | _, _ => False) := rfl
theorem e_gCmp (f : Int → Int → Bool) (g : List Nat → List Nat → Bool) (x y : PyData) (q : Rv → Prop) : gCmp f g x y q = (match x, y with
  | .int i, .int j => q (.d (.bool (f i j)))
  | .str a, .str b => q (.d (.bool (g a.cps.toList b.cps.toList)))
  | _, _ => False) := rfl
theorem e_gIs1 (x y : PyData) (q : Rv → Prop) : gIs1 x y q = (match y with
  | .none => q (.d (.bool (isNone x)))
  | .bool b => (match x with
    | .bool c => q (.d (.bool (decide (c = b))))
    | _ => False)
  | _ => False) := rfl
theorem e_gIs0 (x y : PyData) (q : Rv → Prop) : gIs0 x y q = (match y with
  | .none => q (.d (.bool (!isNone x)))
  | .bool b => (match x with
    | .bool c => q (.d (.bool (!decide (c = b))))
    | _ => False)
  | _ => False) := rfl
theorem e_dNil (δ : De) (q : List Rv → De → Prop) : dNil δ q = (q [] δ) := rfl
theorem e_kCons2 (q : List Rv → De → Prop) (r : Rv) (rs : List Rv) (δ : De) : kCons2 q r rs δ = (q (DL.sett r :: rs) δ) := rfl
theorem e_kCons1 (dr : DA) (q : List Rv → De → Prop) (r : Rv) (δ : De) : kCons1 dr q r δ = (dr δ (kCons2 q r)) := rfl
theorem e_dCons (da : DE) (dr : DA) (δ : De) (q : List Rv → De → Prop) : dCons da dr δ q = (da δ (kCons1 dr q)) := rfl
theorem e_kFrz (k : List PyData → De → Prop) (rs : List Rv) (δ1 : De) : kFrz k rs δ1 = (match frzs rs δ1 with
  | some (xs, δ2) => k xs δ2
  | none => False) := rfl
theorem e_dFrz (da : DA) (k : List PyData → De → Prop) (δ : De) : dFrz da k δ = (da δ (kFrz k)) := rfl
theorem e_kTup (q : Rv → De → Prop) (xs : List PyData) (δ : De) : kTup q xs δ = (xs.length ≤ sizeLine ∧ q (.d (.tuple xs)) δ) := rfl
theorem e_kLst (q : Rv → De → Prop) (xs : List PyData) (δ : De) : kLst q xs δ = (xs.length ≤ sizeLine ∧ q (.new xs) δ) := rfl
theorem e_dTup (da : DA) (δ : De) (q : Rv → De → Prop) : dTup da δ q = (dFrz da (kTup q) δ) := rfl
theorem e_dLst (da : DA) (δ : De) (q : Rv → De → Prop) : dLst da δ q = (dFrz da (kLst q) δ) := rfl
theorem e_kCB (g : G1) (q : Rv → De → Prop) (rs : List Rv) (δ1 : De) : kCB g q rs δ1 = (match derefs δ1 rs with
  | some xs => g xs (kZ q δ1)
  | none => False) := rfl
theorem e_dCB (g : G1) (da : DA) (δ : De) (q : Rv → De → Prop) : dCB g da δ q = (da δ (kCB g q)) := rfl
theorem e_gLen (xs : List PyData) (q : Rv → Prop) : gLen xs q = (match xs with
  | [.str y] => y.length ≤ sizeLine ∧ q (.d (.int y.length))
  | [.list ys] => q (.d (.int ys.length))
  | [.tuple ys] => q (.d (.int ys.length))
  | _ => False) := rfl
theorem e_gInt (xs : List PyData) (q : Rv → Prop) : gInt xs q = (match xs with
  | [.int i] => q (.d (.int i))
  | [.bool b] => q (.d (.int (if b then 1 else 0)))
  | _ => False) := rfl
theorem e_gAbs (xs : List PyData) (q : Rv → Prop) : gAbs xs q = (match xs with
  | [.int i] => q (.d (.int (if i < 0 then -i else i)))
  | _ => False) := rfl
theorem e_g2I (f : Int → Int → Int) (xs : List PyData) (q : Rv → Prop) : g2I f xs q = (match xs with
  | [.int i, .int j] => q (.d (.int (f i j)))
  | _ => False) := rfl
theorem e_gTuple (xs : List PyData) (q : Rv → Prop) : gTuple xs q = (match xs with
  | [.list ys] => q (.d (.tuple ys))
  | [.tuple ys] => q (.d (.tuple ys))
  | _ => False) := rfl
theorem e_gList (xs : List PyData) (q : Rv → Prop) : gList xs q = (match xs with
  | [.list ys] => q (.new ys)
  | [.tuple ys] => q (.new ys)
  | _ => False) := rfl
theorem e_gAll (xs : List PyData) (q : Rv → Prop) : gAll xs q = (match xs with
  | [.list ys] => (match bools ys with
    | some bs => q (.d (.bool (bs.all id)))
    | none => False)
  | _ => False) := rfl
theorem e_gAny (xs : List PyData) (q : Rv → Prop) : gAny xs q = (match xs with
  | [.list ys] => (match bools ys with
    | some bs => q (.d (.bool (bs.any id)))
    | none => False)
  | _ => False) := rfl
theorem e_kIsi (T : String) (q : Rv → De → Prop) (r : Rv) (δ1 : De) : kIsi T q r δ1 = (match derefS δ1 (DL.sett r) with
  | some d => q (.d (.bool (isTy T d))) δ1
  | none => False) := rfl
theorem e_dIsi (T : String) (de : DE) (δ : De) (q : Rv → De → Prop) : dIsi T de δ q = (de δ (kIsi T q)) := rfl
theorem e_dNext (u1 : DEx) (nx : De → Prop) (δ : De) : dNext u1 nx δ = (nx δ) := rfl
theorem e_dSeq (a b : DS) (D : DEx) (nx : De → Prop) (δ : De) : dSeq a b D nx δ = (a D (b D nx) δ) := rfl
theorem e_kRet (D : DEx) (r : Rv) (δ1 : De) : kRet D r δ1 = (match r with
  | .d x => D.rt (.d x) δ1
  | .new xs => D.rt (.own none xs) δ1
  | .var j => match δ1[j]? with
    | some (some (.own none xs)) => D.rt (.own none xs) (δ1.set j none)
    | some (some (.d x)) => D.rt (.d x) δ1
    | _ => False) := rfl
theorem e_dRet (de : DE) (D : DEx) (u1 : De → Prop) (δ : De) : dRet de D u1 δ = (de δ (kRet D)) := rfl
theorem e_dRetN (D : DEx) (u1 : De → Prop) (δ : De) : dRetN D u1 δ = (D.rt (.d .none) δ) := rfl
theorem e_kAsg (i : Nat) (nx : De → Prop) (r : Rv) (δ1 : De) : kAsg i nx r δ1 = (match dPut δ1 i r with
  | some δ2 => nx δ2
  | none => False) := rfl
theorem e_dAsg (i : Nat) (de : DE) (u1 : DEx) (nx : De → Prop) (δ : De) : dAsg i de u1 nx δ = (de δ (kAsg i nx)) := rfl
theorem e_kDrop (nx : De → Prop) (u1 : Rv) (δ1 : De) : kDrop nx u1 δ1 = (nx δ1) := rfl
theorem e_dDrop (de : DE) (u1 : DEx) (nx : De → Prop) (δ : De) : dDrop de u1 nx δ = (de δ (kDrop nx)) := rfl
theorem e_kIfS (a b : DS) (D : DEx) (nx : De → Prop) (c : Bool) (δ1 : De) : kIfS a b D nx c δ1 = (@boxIf c ⟨(a D nx δ1, b D nx δ1)⟩) := rfl
theorem e_dIfS (t : DT) (a b : DS) (D : DEx) (nx : De → Prop) (δ : De) : dIfS t a b D nx δ = (t δ (kIfS a b D nx)) := rfl
theorem e_dBreak (D : DEx) (u1 : De → Prop) (δ : De) : dBreak D u1 δ = (D.bk δ) := rfl
theorem e_dCont (D : DEx) (u1 : De → Prop) (δ : De) : dCont D u1 δ = (D.ct δ) := rfl
theorem e_dNever (u1 : DEx) (u2 : De → Prop) (u3 : De) : dNever u1 u2 u3 = (False) := rfl
theorem e_dgName (i : Nat) (x : PyData) (δ : De) (q : De → Prop) : dgName i x δ q = (q (δ.set i (some (.d x)))) := rfl
theorem e_dgTup (n : Nat) (g : DGs) (x : PyData) (δ : De) (q : De → Prop) : dgTup n g x δ q = (match x with
  | .tuple xs => xs.length = n ∧ g xs δ q
  | _ => False) := rfl
theorem e_dgNil (xs : List PyData) (δ : De) (q : De → Prop) : dgNil xs δ q = (match xs with
  | [] => q δ
  | _ => False) := rfl
theorem e_kgCons (gs : DGs) (r : List PyData) (q : De → Prop) (δ1 : De) : kgCons gs r q δ1 = (gs r δ1 q) := rfl
theorem e_dgCons (g : DG) (gs : DGs) (xs : List PyData) (δ : De) (q : De → Prop) : dgCons g gs xs δ q = (match xs with
  | x :: r => g x δ (kgCons gs r q)
  | _ => False) := rfl
theorem e_kUnp (dg : DG) (nx : De → Prop) (r : Rv) (δ1 : De) : kUnp dg nx r δ1 = (match frz1 r δ1 with
  | some (x, δ2) => dg x δ2 nx
  | none => False) := rfl
theorem e_dUnp (dg : DG) (de : DE) (u1 : DEx) (nx : De → Prop) (δ : De) : dUnp dg de u1 nx δ = (de δ (kUnp dg nx)) := rfl
theorem e_dFor (di : DI) (dg : DG) (body : DS) (D : DEx) (nx : De → Prop) (δ : De) : dFor di dg body D nx δ = (di δ (dLoop dg body D nx)) := rfl
theorem e_kLcE (q : Rv → De → Prop) (acc : List PyData) (δ : De) : kLcE q acc δ = (q (.new acc) δ) := rfl
theorem e_kLc (dg : DG) (dt : DT) (de : DE) (vs : List Nat) (q : Rv → De → Prop) (items : List PyData) (δ1 : De) : kLc dg dt de vs q items δ1 = (items.length ≤ sizeLine ∧ lcLoop dg dt de vs (kLcE q) items [] δ1) := rfl
theorem e_dLc (di : DI) (dg : DG) (dt : DT) (de : DE) (vs : List Nat) (δ : De) (q : Rv → De → Prop) : dLc di dg dt de vs δ q = (di δ (kLc dg dt de vs q)) := rfl
theorem e_kSeqI (q : List PyData → De → Prop) (r : Rv) (δ1 : De) : kSeqI q r δ1 = (match frz1 r δ1 with
  | some (x, δ2) => (match itemsOf x with
    | some xs => q xs δ2
    | none => False)
  | none => False) := rfl
theorem e_dSeqI (de : DE) (δ : De) (q : List PyData → De → Prop) : dSeqI de δ q = (de δ (kSeqI q)) := rfl
theorem e_kRng1 (q : List PyData → De → Prop) (rs : List Rv) (δ1 : De) : kRng1 q rs δ1 = (match rs with
  | [.d (.int j)] => (-(2 ^ 62) ≤ j ∧ j < 2 ^ 62) ∧ q (rangeD 0 j.toNat) δ1
  | _ => False) := rfl
theorem e_kRng2 (q : List PyData → De → Prop) (rs : List Rv) (δ1 : De) : kRng2 q rs δ1 = (match rs with
  | [.d (.int i), .d (.int j)] => (-(2 ^ 62) ≤ i ∧ i < 2 ^ 62 ∧ -(2 ^ 62) ≤ j ∧ j < 2 ^ 62) ∧ q (rangeD i (j - i).toNat) δ1
  | _ => False) := rfl
theorem e_dRng1 (da : DA) (δ : De) (q : List PyData → De → Prop) : dRng1 da δ q = (da δ (kRng1 q)) := rfl
theorem e_dRng2 (da : DA) (δ : De) (q : List PyData → De → Prop) : dRng2 da δ q = (da δ (kRng2 q)) := rfl
theorem e_kEnum (q : List PyData → De → Prop) (xs : List PyData) (δ2 : De) : kEnum q xs δ2 = (match xs with
  | [.list ys] => q (enumD ys) δ2
  | _ => False) := rfl
theorem e_kZip (q : List PyData → De → Prop) (xs : List PyData) (δ2 : De) : kZip q xs δ2 = (match xs with
  | [.list ys, .list zs] => q (zipD ys zs) δ2
  | _ => False) := rfl
theorem e_dEnum (da : DA) (δ : De) (q : List PyData → De → Prop) : dEnum da δ q = (dFrz da (kEnum q) δ) := rfl
theorem e_dZip (da : DA) (δ : De) (q : List PyData → De → Prop) : dZip da δ q = (dFrz da (kZip q) δ) := rfl
theorem e_kCall2 (q : Rv → De → Prop) (is : List Nat) (δ1 : De) (s : Sl) (ios : List (List PyData)) : kCall2 q is δ1 s ios = (match rvOf s, putBack δ1 is ios with
  | some r, some δ3 => q r δ3
  | _, _ => False) := rfl
theorem e_kCall (ms : List Bool) (S : DSp) (q : Rv → De → Prop) (rs : List Rv) (δ1 : De) : kCall ms S q rs δ1 = (match argsD ms rs (frzF ms rs δ1) 0 with
  | some as => (iosD ms rs).Nodup ∧ S as (kCall2 q (iosD ms rs) (frzF ms rs δ1))
  | none => False) := rfl
theorem e_dCall (ms : List Bool) (S : DSp) (da : DA) (δ : De) (q : Rv → De → Prop) : dCall ms S da δ q = (da δ (kCall ms S q)) := rfl
theorem e_kConsN2 (q : List Rv → De → Prop) (r : Rv) (rs : List Rv) (δ : De) : kConsN2 q r rs δ = (q (r :: rs) δ) := rfl
theorem e_kConsN1 (dr : DA) (q : List Rv → De → Prop) (r : Rv) (δ : De) : kConsN1 dr q r δ = (dr δ (kConsN2 q r)) := rfl
theorem e_dConsN (da : DE) (dr : DA) (δ : De) (q : List Rv → De → Prop) : dConsN da dr δ q = (da δ (kConsN1 dr q)) := rfl
theorem e_kPar (is : List Nat) (nx : De → Prop) (rs : List Rv) (δ1 : De) : kPar is nx rs δ1 = (match stab rs δ1 with
  | some (ss, δ2) => (match setsD δ2 is ss with
    | some δ3 => nx δ3
    | none => False)
  | none => False) := rfl
theorem e_dPar (is : List Nat) (da : DA) (u1 : DEx) (nx : De → Prop) (δ : De) : dPar is da u1 nx δ = (da δ (kPar is nx)) := rfl
theorem e_kApp (i : Nat) (nx : De → Prop) (r : Rv) (δ1 : De) : kApp i nx r δ1 = (match frz1 r δ1 with
  | some (x, δ2) => (match δ2[i]? with
    | some (some (.own t ys)) => ys.length < sizeLine ∧ nx (δ2.set i (some (.own t (ys ++ [x]))))
    | _ => False)
  | none => False) := rfl
theorem e_dApp (i : Nat) (de : DE) (u1 : DEx) (nx : De → Prop) (δ : De) : dApp i de u1 nx δ = (match δ[i]? with
  | some (some (.own _ _)) => de δ (kApp i nx)
  | _ => False) := rfl
theorem e_kSetI2 (i : Nat) (nx : De → Prop) (x : PyData) (s : Rv) (δ3 : De) : kSetI2 i nx x s δ3 = (match s, δ3[i]? with
  | .d (.int k), some (some (.own t ys)) => (match ixN ys.length k with
    | some j => nx (δ3.set i (some (.own t (ys.set j x))))
    | none => False)
  | _, _ => False) := rfl
theorem e_kSetI (i : Nat) (dk : DE) (nx : De → Prop) (r : Rv) (δ1 : De) : kSetI i dk nx r δ1 = (match frz1 r δ1 with
  | some (x, δ2) => (match δ2[i]? with
    | some (some (.own _ _)) => dk δ2 (kSetI2 i nx x)
    | _ => False)
  | none => False) := rfl
theorem e_dSetI (i : Nat) (dk de : DE) (u1 : DEx) (nx : De → Prop) (δ : De) : dSetI i dk de u1 nx δ = (de δ (kSetI i dk nx)) := rfl
theorem e_dNoPart (δ : De) (q : Option Int → De → Prop) : dNoPart δ q = (q none δ) := rfl
theorem e_kPart (q : Option Int → De → Prop) (r : Rv) (δ1 : De) : kPart q r δ1 = (match r with
  | .d (.int i) => q (some i) δ1
  | _ => False) := rfl
theorem e_dPart (de : DE) (δ : De) (q : Option Int → De → Prop) : dPart de δ q = (de δ (kPart q)) := rfl
theorem e_gSl (x : PyData) (lo hi : Option Int) (q : Rv → Prop) : gSl x lo hi q = (match x with
  | .list xs => q (.new (cutD xs lo hi))
  | .tuple xs => q (.d (.tuple (cutD xs lo hi)))
  | .str z => z.length ≤ sizeLine ∧ q (.d (.str (cutS z lo hi)))
  | _ => False) := rfl
theorem e_kSl3 (q : Rv → De → Prop) (r : Rv) (lo hi : Option Int) (δ3 : De) : kSl3 q r lo hi δ3 = (match derefS δ3 (DL.sett r) with
  | some x => gSl x lo hi (kZ q δ3)
  | none => False) := rfl
theorem e_kSl2 (dh : DO) (q : Rv → De → Prop) (r : Rv) (lo : Option Int) (δ2 : De) : kSl2 dh q r lo δ2 = (dh δ2 (kSl3 q r lo)) := rfl
theorem e_kSl1 (dl dh : DO) (q : Rv → De → Prop) (r : Rv) (δ1 : De) : kSl1 dl dh q r δ1 = (dl δ1 (kSl2 dh q r)) := rfl
theorem e_dSl (de : DE) (dl dh : DO) (δ : De) (q : Rv → De → Prop) : dSl de dl dh δ q = (de δ (kSl1 dl dh q)) := rfl
theorem e_gIn (neg : Bool) (x y : PyData) (q : Rv → Prop) : gIn neg x y q = (match y with
  | .list ys => (cmpOk x = true ∧ cmpOk (.list ys) = true) ∧ q (.d (.bool (Bool.xor neg (ys.any fun z => PyData.eqv z x))))
  | .tuple ys => (isScal x = true ∧ ys.all isScal = true) ∧ q (.d (.bool (Bool.xor neg (ys.any fun z => PyData.eqv z x))))
  | .str b => (match x with
    | .str a => (match a.cps.toList with
      | [c] => q (.d (.bool (Bool.xor neg (decide (c ∈ b.cps.toList)))))
      | _ => False)
    | _ => False)
  | _ => False) := rfl
theorem e_kJoin2 (q : Rv → De → Prop) (a : Str) (s : Rv) (δ2 : De) : kJoin2 q a s δ2 = (match derefS δ2 (DL.sett s) with
  | some (.list ys) => (match strs' ys with
    | some zs => (zs.map (·.length)).sum + zs.length * a.length ≤ 16777216 ∧ q (.d (.str (Txt.join a zs))) δ2
    | none => False)
  | _ => False) := rfl
theorem e_kJoin1 (de : DE) (q : Rv → De → Prop) (r : Rv) (δ1 : De) : kJoin1 de q r δ1 = (match r with
  | .d (.str a) => de δ1 (kJoin2 q a)
  | _ => False) := rfl
theorem e_dJoin (ds de : DE) (δ : De) (q : Rv → De → Prop) : dJoin ds de δ q = (ds δ (kJoin1 de q)) := rfl
theorem e_kSplit2 (q : Rv → De → Prop) (a : Str) (s : Rv) (δ2 : De) : kSplit2 q a s δ2 = (match s with
  | .d (.str b) => (b.length == 0) = false ∧ a.length ≤ 16777000 ∧ q (.new ((Txt.split a b).map .str)) δ2
  | _ => False) := rfl
theorem e_kSplit1 (de : DE) (q : Rv → De → Prop) (r : Rv) (δ1 : De) : kSplit1 de q r δ1 = (match r with
  | .d (.str a) => de δ1 (kSplit2 q a)
  | _ => False) := rfl
theorem e_dSplit (ds de : DE) (δ : De) (q : Rv → De → Prop) : dSplit ds de δ q = (ds δ (kSplit1 de q)) := rfl
theorem e_kUpper (q : Rv → De → Prop) (r : Rv) (δ1 : De) : kUpper q r δ1 = (match r with
  | .d (.str a) => a.length ≤ 5592405 ∧ q (.d (.str (Txt.upper a))) δ1
  | _ => False) := rfl
theorem e_dUpper (ds : DE) (δ : De) (q : Rv → De → Prop) : dUpper ds δ q = (ds δ (kUpper q)) := rfl
theorem e_dYes (δ : De) (q : Bool → De → Prop) : dYes δ q = (q true δ) := rfl
theorem e_dDic0 (δ : De) (q : Rv → De → Prop) : dDic0 δ q = (q (.d (.dict [])) δ) := rfl
theorem e_dDicS (k v : Str) (δ : De) (q : Rv → De → Prop) : dDicS k v δ q = (q (.d (.dict [(.str k, .str v)])) δ) := rfl
end DL

namespace DL
open PySem PySem.Spec PyProof.Rows L2
/-! ### the law's end: it is called with the script alone -/
/-- the law's promise over data: whatever the script is, it says True -/
def sLawD : DSp := fun as q => ∃ ns : List Int, ns.length ≤ 63 ∧ as = [.scr ns] ∧ q (.d (.bool true)) []
theorem law_of {K : Frag} {H : Hp} {a : Addr} {ns : List Int} (hl : ns.length ≤ 63) (hS : SqL K H a (ns.map V.int)) : spD K 1 sLawD [.ref a] H (fun v _ => v = .bl true) fun _ _ _ => False :=
  ⟨H, [], [.scr ns], fun s _ => s = .d (.bool true), Evl.Ex.refl H, List.nodup_nil, rfl, rfl, .cons ⟨a, rfl, hS⟩ .nil, ⟨ns, hl, rfl, rfl⟩, fun v F' H' s ios A h => by
    subst h
    exact A.rt⟩
theorem law_callG {P : Program} {w : World} {K : Frag} {mg mb : Str → Option Value} {k : Nat} {fa a : Addr} {fd : FuncData} {x : Str} {t0 : Shared} {us : List Value} {ns : List Int}
    (KX : K.In t0.heap) (gns : t0.heap.Ns mainGlobals mg) (bns : t0.heap.Ns builtinsNs mb) (bbt : ∀ x : Str, x ≠ "__name__" → mb x = bootBuiltins x) (nol : t0.heap.NoLimit) (ng : t0.gens = #[])
    (hobj : t0.heap.get? a = some { cls := .type "list", data := .seq us.toArray }) (hi : IntsAre us ns) (hl : ns.length ≤ 63) (hr : Room k callerA)
    (Fl : ∀ base : Heap, K.In base → base.Ns mainGlobals mg → FnG P w K mg base CX0 k fa fd [x] (spD K 1 sLawD)) (bind : ∀ (s : Shared) (u : Value), BindsTo s fd ⟨[u], []⟩ [(x, u)]) :
    codeAny (model P w) callerA (.call (.ref fa) ⟨[.ref a], []⟩) (fun r s' => r = .ok (.ret (.bool true)) ∧ OldK t0.heap s'.heap ∧ s'.os = t0.os ∧ AllBare s'.gens) t0 := by
  have hl2 : ns.length ≤ sizeLine := Nat.le_trans hl (by decide)
  have main : ∀ H : Hp, (∀ b, H b = none ∨ ∃ o ys, H b = some (.frz o (.lst ys))) → SqL K H a (ns.map V.int) → HOk P w H t0.heap → (∀ b, H b ≠ none → b = a) → (H a ≠ none → K.lookup a = none) →
      codeAny (model P w) callerA (.call (.ref fa) ⟨[.ref a], []⟩) (fun r s' => r = .ok (.ret (.bool true)) ∧ OldK t0.heap s'.heap ∧ s'.os = t0.os ∧ AllBare s'.gens) t0 := fun H hO hS ok1 one nk => by
    -- what is no list stands apart from the script
    have apart : ∀ {b : Addr} {o : Obj}, t0.heap.get? b = some o → (∀ vs n, o.data ≠ .seq vs n) → H b = none := fun {b o} e d => by
      cases z : H b with
      | none => rfl
      | some u =>
        have := one b (by rw [z]; simp)
        subst this
        rw [hobj] at e; cases e
        exact absurd rfl (d _ _)
    have ns' : ∀ {b : Addr} {m : Str → Option Value}, t0.heap.Ns b m → (hidT t0.heap H).Ns b m := fun {b m} ⟨o, es, ep, e, d, r⟩ => ⟨o, es, ep, hidT_get e (apart e fun vs n z => by rw [d] at z; cases z), d, r⟩
    have KB : K.In (hidT t0.heap H) := fun b o e => hidT_get (KX b o e) (by
      cases z : H b with
      | none => rfl
      | some u =>
        have := one b (by rw [z]; simp)
        subst this
        have := nk (by rw [z]; simp)
        rw [this] at e; cases e)
    obtain ⟨mc, n1, n2⟩ := nol
    have e0 : Env0 P w K mg (hidT t0.heap H) callerA [] t0 H := ⟨rfl, ⟨KB, ns' gns, ⟨mb, ns' bns, bbt⟩, ⟨mc, ns' n1, n2⟩⟩, fun _ _ e => of_hidT e, Nat.le_of_eq (hidT_size _ _), trivial, (fun _ hb => by cases hb), ok1, .of_eq ng⟩
    refine codeAny_mono ((Fl _ KB (ns' gns)).run callerA [] t0 H ⟨[.ref a], []⟩ [.ref a] [.ref a] _ (fun _ _ _ => False) rfl hr e0 (bind t0 (.ref a)) (.cons rfl .nil) (law_of hl hS)) fun r s' h => ?_
    cases r with
    | error e => exact False.elim h
    | ok fl =>
      cases fl with
      | ret u =>
        obtain ⟨v, H', os, bare, un, ok2, rv, qv⟩ := h
        cases (show v = .bl true from qv)
        cases (show u = Value.bool true from rv)
        refine ⟨rfl, OldK.of_keep fun b o e => ?_, os, bare⟩
        rcases hO b with z | ⟨ob, ys, z⟩
        · exact un.keep b o e z (fun hb => by cases hb) (fun hb => by cases hb)
        · obtain ⟨e1, _⟩ := ok1 b _ z
          obtain ⟨e2, _⟩ := ok2 b _ (un.frzs b ob _ z)
          rw [e] at e1; cases e1
          exact e2
      | _ => exact False.elim h
  have lv := hi.length
  cases hk : K.lookup a with
  | some o =>
    have e := KX a o hk
    rw [hobj] at e; cases e
    exact main (fun _ => none) (fun _ => .inl rfl) (.inr ⟨_, us.toArray, _, hk, rfl, rfl, rfl, by rw [List.size_toArray, lv]; exact hl2, by simpa using vals_ints hi⟩) (fun b u z => by cases z) (fun b z => absurd rfl z) (fun z => absurd rfl z)
  | none =>
    refine main (fun b => if b = a then some (.frz { cls := .type "list", data := .seq us.toArray } (.lst (ns.map V.int))) else none) (fun b => ?_) (.inl (.inr ⟨{ cls := .type "list", data := .seq us.toArray }, if_pos rfl⟩)) (fun b u z => ?_) (fun b z => ?_) (fun _ => hk)
    · by_cases hb : b = a
      · exact .inr ⟨_, _, if_pos hb⟩
      · exact .inl (if_neg hb)
    · by_cases hb : b = a
      · have z' := (if_pos hb).symm.trans z
        cases z'
        subst hb
        exact ⟨hobj, by rw [List.length_map]; exact hl2, us, _, vals_ints hi, hobj⟩
      · have z' := (if_neg hb).symm.trans z
        cases z'
    · by_cases hb : b = a
      · exact hb
      · exact absurd (if_neg hb) z
theorem walk_ofG {l : PySem.W.OpenLaw} {k : Nat} {q : Program} {loose : List Str} {XP : (Str → Option Value) → Heap → Prop} {YP : World → Heap → Prop} {d : DefRec} {K : Params → Frag} {x : Str} (hn : l.most = some 63) (hdf : d.params.defaults = []) (hr : Room k callerA)
    (hY : ∀ (w : World) (h : Heap), YP w h → (K w.params).In h)
    (F : ∀ (w : World) (mg : Str → Option Value) (fa : Addr) (h : Heap), (K w.params).In h → h.Ns mainGlobals mg → mg d.name = some (.ref fa) → ∃ fd : FuncData, (∀ (s : Shared) (u : Value), BindsTo s fd ⟨[u], []⟩ [(x, u)]) ∧
      ∀ base : Heap, (K w.params).In base → base.Ns mainGlobals mg → FnG l.prog w (K w.params) mg base CX0 k fa fd [x] (spD (K w.params) 1 sLawD)) :
    PySem.W.WalkO q loose XP YP l.row.toRowW d [] (fun f vs => PySem.call f vs) :=
  Att.attach_call hn hdf fun w s₀ s₁ mg mb fa o pm cd doc a vs ns G Y ho hd hcd hmg hobj hints hlen hg => by
    obtain ⟨fd, b0, F0⟩ := F w mg fa _ (hY w _ Y) G.T.g hmg
    exact law_callG (hY w _ Y) G.T.g G.T.b G.T.builtins G.T.nolimit hg hobj hints hlen hr F0 b0
end DL

namespace My
open PySem PySem.Spec PyProof.Rows L2 DL
/-! ### the text -/
def topS (i : Nat) : Stmt := PySem.Challenge.pw_seenlines_k02_paths.main.body.getD i (.Pass ⟨0, 0, 0, 0⟩)
abbrev s_Lpot : Stmt := topS 8
abbrev N_Lpot : List Str := ["_law_script", "_law_k", "_law_cell", "_law_own"]
theorem sc_Lpot : FnScope N_Lpot ["_law_script", "_law_k"] (defScope s_Lpot) := ⟨rfl, rfl, rfl, by decide +kernel, rfl, by decide +kernel, by decide +kernel⟩
abbrev s_is_word : Stmt := topS 5
abbrev N_is_word : List Str := ["value", "sign"]
theorem sc_is_word : FnScope N_is_word ["value"] (defScope s_is_word) := ⟨rfl, rfl, rfl, by decide +kernel, rfl, by decide +kernel, by decide +kernel⟩
abbrev s_is_path : Stmt := topS 6
abbrev N_is_path : List Str := ["value", "words", "word"]
theorem sc_is_path : FnScope N_is_path ["value"] (defScope s_is_path) := ⟨rfl, rfl, rfl, by decide +kernel, rfl, by decide +kernel, by decide +kernel⟩
abbrev s_Ldue : Stmt := topS 11
abbrev N_Ldue : List Str := ["_law_value", "_law_words", "_law_here", "_law_sign"]
theorem sc_Ldue : FnScope N_Ldue ["_law_value"] (defScope s_Ldue) := ⟨rfl, rfl, rfl, by decide +kernel, rfl, by decide +kernel, by decide +kernel⟩
abbrev s_Lis_right : Stmt := topS 13
abbrev N_Lis_right : List Str := ["_law_value", "_law_told"]
theorem sc_Lis_right : FnScope N_Lis_right ["_law_value"] (defScope s_Lis_right) := ⟨rfl, rfl, rfl, by decide +kernel, rfl, by decide +kernel, by decide +kernel⟩
abbrev s_Ltake : Stmt := topS 9
abbrev N_Ltake : List Str := ["_law_pot_here", "_law_upto", "_law_digit", "_law_prime", "_law_mixed"]
theorem sc_Ltake : FnScope N_Ltake ["_law_pot_here", "_law_upto"] (defScope s_Ltake) := ⟨rfl, rfl, rfl, by decide +kernel, rfl, by decide +kernel, by decide +kernel⟩
abbrev s_Lof : Stmt := topS 10
abbrev N_Lof : List Str := ["_law_pot_here", "_law_some"]
theorem sc_Lof : FnScope N_Lof ["_law_pot_here", "_law_some"] (defScope s_Lof) := ⟨rfl, rfl, rfl, by decide +kernel, rfl, by decide +kernel, by decide +kernel⟩
abbrev s_Ldrawn : Stmt := topS 12
abbrev N_Ldrawn : List Str := ["_law_pot_here", "_law_words", "_law_turn", "_law_many", "_law_found", "_law_at", "_law_turn_here"]
theorem sc_Ldrawn : FnScope N_Ldrawn ["_law_pot_here"] (defScope s_Ldrawn) := ⟨rfl, rfl, rfl, by decide +kernel, rfl, by decide +kernel, by decide +kernel⟩
abbrev s_law : Stmt := topS 14
abbrev N_law : List Str := ["_law_script", "_law_some", "_law_value", "_law_k", "_law_pot_here", "_law_turn", "_law_text"]
theorem sc_law : FnScope N_law ["_law_script"] (defScope s_law) := ⟨rfl, rfl, rfl, by decide +kernel, rfl, by decide +kernel, by decide +kernel⟩
/-- what the top leaves -/
structure Tx (K : Frag) (mg : Str → Option Value) where
  (f_Lpot : Addr) (fd_Lpot : FuncData) (F_Lpot : Fun K "_law_pot" "_law_pot" s_Lpot f_Lpot fd_Lpot) (g_Lpot : mg "_law_pot" = some (.ref f_Lpot)) (b_Lpot : Binds K fd_Lpot ["_law_script", "_law_k"] [])
  (f_is_word : Addr) (fd_is_word : FuncData) (F_is_word : Fun K "is_word" "is_word" s_is_word f_is_word fd_is_word) (g_is_word : mg "is_word" = some (.ref f_is_word)) (b_is_word : Binds K fd_is_word ["value"] [])
  (f_is_path : Addr) (fd_is_path : FuncData) (F_is_path : Fun K "is_path" "is_path" s_is_path f_is_path fd_is_path) (g_is_path : mg "is_path" = some (.ref f_is_path)) (b_is_path : Binds K fd_is_path ["value"] [])
  (f_Ldue : Addr) (fd_Ldue : FuncData) (F_Ldue : Fun K "_law_due" "_law_due" s_Ldue f_Ldue fd_Ldue) (g_Ldue : mg "_law_due" = some (.ref f_Ldue)) (b_Ldue : Binds K fd_Ldue ["_law_value"] [])
  (f_Lis_right : Addr) (fd_Lis_right : FuncData) (F_Lis_right : Fun K "_law_is_right" "_law_is_right" s_Lis_right f_Lis_right fd_Lis_right) (g_Lis_right : mg "_law_is_right" = some (.ref f_Lis_right)) (b_Lis_right : Binds K fd_Lis_right ["_law_value"] [])
  (f_Ltake : Addr) (fd_Ltake : FuncData) (F_Ltake : Fun K "_law_take" "_law_take" s_Ltake f_Ltake fd_Ltake) (g_Ltake : mg "_law_take" = some (.ref f_Ltake)) (b_Ltake : Binds K fd_Ltake ["_law_pot_here", "_law_upto"] [])
  (f_Lof : Addr) (fd_Lof : FuncData) (F_Lof : Fun K "_law_of" "_law_of" s_Lof f_Lof fd_Lof) (g_Lof : mg "_law_of" = some (.ref f_Lof)) (b_Lof : Binds K fd_Lof ["_law_pot_here", "_law_some"] [])
  (f_Ldrawn : Addr) (fd_Ldrawn : FuncData) (F_Ldrawn : Fun K "_law_drawn" "_law_drawn" s_Ldrawn f_Ldrawn fd_Ldrawn) (g_Ldrawn : mg "_law_drawn" = some (.ref f_Ldrawn)) (b_Ldrawn : Binds K fd_Ldrawn ["_law_pot_here"] [])
  (f_law : Addr) (fd_law : FuncData) (F_law : Fun K "law" "law" s_law f_law fd_law) (g_law : mg "law" = some (.ref f_law)) (b_law : Binds K fd_law ["_law_script"] [])
  n_abs : mg "abs" = none
  n_all : mg "all" = none
  n_bool : mg "bool" = none
  n_int : mg "int" = none
  n_isinstance : mg "isinstance" = none
  n_len : mg "len" = none
  n_max : mg "max" = none
  n_min : mg "min" = none
  n_range : mg "range" = none
  n_str : mg "str" = none
  c_LETTERS : ∃ t, mg "LETTERS" = some (.str "abcdefghijklmnopqrstuvwxyz" t)
  c_LONGEST_WORD : ∃ t, mg "LONGEST_WORD" = some (.int 8 t)
  c_MOST_WORDS : ∃ t, mg "MOST_WORDS" = some (.int 4 t)
  c_SLASH : ∃ t, mg "SLASH" = some (.str "/" t)
end My

namespace My
open PySem PySem.Spec PyProof.Rows L2 DL

/-! ### draws: a pot is three numbers; the third counts the draws that were mixed -/
def Pot (m : Nat) (xs : List PyData) : Prop := ∃ a b c : Int, xs = [.int a, .int b, .int c] ∧ (0 ≤ a ∧ a < 10 ^ 300) ∧ (0 ≤ b ∧ b < 2305843009213693921) ∧ 0 ≤ c ∧ c ≤ m
theorem Pot.mono {m n : Nat} {xs : List PyData} (h : Pot m xs) (hn : m ≤ n) : Pot n xs := by
  obtain ⟨a, b, c, e, h1, h2, h3, h4⟩ := h
  exact ⟨a, b, c, e, h1, h2, h3, by omega⟩
theorem log_small {i : Int} (h1 : -(2 ^ 200) < i) (h2 : i < 2 ^ 200) : i.natAbs.log2 < 200 := PySem.Flt.log2_lt_of (by decide) (by omega)
theorem mulOk {i j : Int} (h1 : -(2 ^ 200) < i) (h2 : i < 2 ^ 200) (h3 : -(2 ^ 200) < j) (h4 : j < 2 ^ 200) : CMulW i j := by
  have a := log_small h1 h2
  have b := log_small h3 h4
  unfold CMulW
  omega
theorem divOk {i j : Int} (h1 : 0 < j) (h2 : j < 2 ^ 200) : CDivW i j := ⟨h1, Nat.lt_trans (log_small (by omega) h2) (by decide)⟩
theorem bits_small {i : Int} {n : Nat} (h0 : 0 < n) (h : i.natAbs < 2 ^ n) : Builtin.Int.intBits i ≤ n := by
  have := PySem.Flt.log2_lt_of h0 h
  unfold Builtin.Int.intBits
  split <;> omega
theorem powOk {i j : Int} {n : Nat} (h0 : 0 ≤ j) (hn : 0 < n) (h : i.natAbs < 2 ^ n) (hj : (n : Int) * j ≤ 2 ^ 27) : CPowW i j := ⟨h0, by
  have := bits_small hn h
  refine Int.le_trans (Int.mul_le_mul_of_nonneg_right (by omega : (Builtin.Int.intBits i : Int) ≤ n) h0) hj⟩
theorem cmpII {i j : Int} : cmp2 (.int i) (.int j) = true := rfl
theorem cmpSS {x y : Str} : cmp2 (.str x) (.str y) = true := rfl
theorem cmpBB {b c : Bool} : cmp2 (.bool b) (.bool c) = true := rfl
theorem eqvI {i j : Int} : PyData.eqv (.int i) (.int j) = (i == j) := by simp [PyData.eqv]
theorem eqvS {i j : Str} : PyData.eqv (.str i) (.str j) = (i == j) := by simp [PyData.eqv]
theorem eqvB {i j : Bool} : PyData.eqv (.bool i) (.bool j) = (i == j) := by simp [PyData.eqv]
theorem at0 {α : Type} {x : α} {r : List α} : L2.atI (x :: r) 0 = some x := L2.atI_nat (j := 0) rfl
theorem at1 {α : Type} {x y : α} {r : List α} : L2.atI (x :: y :: r) 1 = some y := L2.atI_nat (j := 1) rfl
theorem at2 {α : Type} {x y z : α} {r : List α} : L2.atI (x :: y :: z :: r) 2 = some z := L2.atI_nat (j := 2) rfl
theorem ixn0 {n : Nat} : ixN (n + 1) 0 = some 0 := Evl.ixN_nat (j := 0) (Nat.succ_pos n)
theorem ixn3 : ixN 3 2 = some 2 := Evl.ixN_nat (j := 2) (by decide)
theorem ixn30 : ixN 3 0 = some 0 := Evl.ixN_nat (j := 0) (by decide)
local macro_rules | `(tactic| walk_at "dl") => `(tactic| simp -implicitDefEqProofs -dsimp only [↓e_kZ, ↓e_kSplit1, ↓e_kSplit2, ↓e_dSplit, ↓e_kUpper, ↓e_dUpper, ↓e_kOp1, ↓e_kOp2, ↓e_kOp3, ↓e_kOpS1, ↓e_kOpS2, ↓e_kTru, ↓e_kTest, ↓e_kAnd, ↓e_kOr, ↓e_kNot, ↓e_kAndV, ↓e_kOrV, ↓e_kNotV, ↓e_kIf, ↓e_kCh1, ↓e_kCh2, ↓e_kCh3, ↓e_kCh4, ↓e_kCons1, ↓e_kCons2, ↓e_kConsN1, ↓e_kConsN2, ↓e_kFrz, ↓e_kTup, ↓e_kLst, ↓e_kCB, ↓e_kIsi, ↓e_kRet, ↓e_kAsg, ↓e_kDrop, ↓e_kIfS, ↓e_kgCons, ↓e_kUnp, ↓e_kLcE, ↓e_kLc, ↓e_kSeqI, ↓e_kRng1, ↓e_kRng2, ↓e_kEnum, ↓e_kZip, ↓e_kCall, ↓e_kCall2, ↓e_kPar, ↓e_kApp, ↓e_kSetI, ↓e_kSetI2, ↓e_kPart, ↓e_kSl1, ↓e_kSl2, ↓e_kSl3, ↓e_kJoin1, ↓e_kJoin2, ↓boxIf_t, ↓boxIf_f, ↓e_dSeq, ↓e_dIfS, ↓e_dTest, ↓e_dTru, ↓truth, ↓e_dAnd, ↓e_dOr, ↓e_dNot, ↓e_dAndV, ↓e_dOrV, ↓e_dNotV, ↓e_dIf, ↓e_dChain, ↓e_dOpS, ↓e_dOp, ↓two, ↓twoS, ↓deref, ↓derefS, ↓DL.sett, ↓e_dVar, ↓e_dC, ↓e_dCB, ↓e_dCons, ↓e_dConsN, ↓e_dNil, ↓derefs, ↓e_gI, ↓e_gIc, ↓e_gAdd, ↓e_gMul, ↓e_gIx, ↓e_gInt, ↓e_gLen, ↓e_gAbs, ↓e_g2I, ↓gMax2, ↓gMin2, ↓e_gTuple, ↓e_gList, ↓e_gAll, ↓e_gAny, ↓e_gCmp, ↓gLt, ↓gLe, ↓gGt, ↓gGe, ↓e_gEq, ↓e_gNe, ↓e_gIn, ↓e_gIs1, ↓e_gIs0, ↓isNone, ↓e_dIsi, ↓isTy, ↓tyD, ↓e_dSl, ↓e_dPart, ↓e_dNoPart, ↓e_gSl, ↓e_dAsg, ↓dPut, ↓e_dSetI, ↓e_dApp, ↓frz1, ↓e_dRet, ↓e_dRetN, ↓e_dNext, ↓e_dBreak, ↓e_dCont, ↓e_dDrop, ↓e_dLst, ↓e_dTup, ↓e_dFrz, ↓frzs, ↓e_dPar, ↓stab, ↓setsD, ↓e_dUnp, ↓e_dgName, ↓e_dgTup, ↓e_dgCons, ↓e_dgNil, ↓endsD_rt, ↓nxD, ↓outs, ↓initD, ↓e_dCall, ↓argsD, ↓frzF, ↓iosD, ↓putBack, ↓rvOf, ↓e_dYes, ↓e_dDic0, ↓e_dDicS, ↓e_dJoin, ↓e_dFor, ↓e_dSeqI, ↓itemsOf, ↓e_dRng1, ↓e_dRng2, ↓e_dLc, ↓wipeD, ↓backD, ↓keptD, cmpII, cmpSS, cmpBB, eqvI, eqvS, eqvB, true_and, and_true, at0, at1, at2, ixn3, ixn30, List.getElem?_cons_zero, List.getElem?_cons_succ, List.getElem?_nil, List.set_cons_zero, List.set_cons_succ, List.map_cons, List.map_nil, List.length_cons, List.length_nil, List.replicate, List.cons_append, List.nil_append, Option.map_some, decide_eq_true_eq, Nat.reduceAdd, Nat.reduceSub, Nat.reduceEqDiff, Bool.false_eq_true, Bool.true_eq_false, if_true, if_false, if_pos, beq_self_eq_true, String.reduceBEq, Bool.true_or, Bool.false_or, Bool.or_false, Bool.or_true, Bool.and_false, Bool.false_and, Bool.true_and, Bool.and_true, Bool.not_true, Bool.not_false, ↓reduceIte, reduceCtorEq])
/-! loops and comprehensions by an invariant of what is left -/
theorem lc_inv {dg : DG} {dt : DT} {de : DE} {vs : List Nat} {k : List PyData → De → Prop} (I : List PyData → List PyData → De → Prop)
    (step : ∀ x xs acc δ, I (x :: xs) acc δ → ∀ R : List PyData → De → Prop, (∀ acc' δ', I xs acc' δ' → R acc' δ') → dg x (wipeD δ vs) fun δ1 => dt δ1 fun b δ2 => if b = true then de δ2 (fun r δ3 => match frz1 r δ3 with
      | some (y, δ4) => R (acc ++ [y]) (backD δ δ4 vs)
      | none => False) else R acc (backD δ δ2 vs))
    (fin : ∀ acc δ, I [] acc δ → k acc δ) : ∀ items acc δ, I items acc δ → lcLoop dg dt de vs k items acc δ
  | [], acc, δ, h => fin acc δ h
  | x :: xs, acc, δ, h => step x xs acc δ h _ fun acc' δ' h' => lc_inv I step fin xs acc' δ' h'
theorem loop_inv {dg : DG} {body : DS} {D : DEx} {nx : De → Prop} (I : List PyData → De → Prop)
    (step : ∀ x xs δ, I (x :: xs) δ → ∀ R : De → Prop, (∀ δ', I xs δ' → R δ') → dg x δ fun δ1 => body { rt := D.rt, bk := nx, ct := R } R δ1) (fin : ∀ δ, I [] δ → nx δ) : ∀ items δ, I items δ → dLoop dg body D nx items δ
  | [], δ, h => fin δ h
  | x :: xs, δ, h => step x xs δ h _ fun δ' h' => loop_inv I step fin xs δ' h'
/-- a comprehension that changes nothing: f tells what an item gives -/
theorem lc_pure {dg : DG} {dt : DT} {de : DE} {vs : List Nat} {k : List PyData → De → Prop} {δ : De} (f : PyData → Option PyData) (items : List PyData)
    (step : ∀ x ∈ items, ∀ R : Option PyData → De → Prop, R (f x) δ → dg x (wipeD δ vs) fun δ1 => dt δ1 fun b δ2 => if b = true then de δ2 (fun r δ3 => match frz1 r δ3 with
      | some (y, δ4) => R (some y) (backD δ δ4 vs)
      | none => False) else R none (backD δ δ2 vs))
    (fin : k (items.filterMap f) δ) : lcLoop dg dt de vs k items [] δ := by
  refine lc_inv (fun xs acc δ' => (∃ pre, items = pre ++ xs ∧ acc = pre.filterMap f) ∧ δ' = δ) (fun x xs acc δ' h R hR => ?_) (fun acc δ' h => ?_) items [] δ ⟨⟨[], rfl, rfl⟩, rfl⟩
  · obtain ⟨⟨pre, e1, e2⟩, rfl⟩ := h
    have := step x (by rw [e1]; simp) (fun o δ'' => R (match o with | some y => acc ++ [y] | none => acc) δ'') (hR _ _ ⟨⟨pre ++ [x], by rw [e1]; simp, by
      rw [List.filterMap_append, ← e2, List.filterMap_cons]
      cases f x <;> simp⟩, rfl⟩)
    exact this
  · obtain ⟨⟨pre, e1, e2⟩, rfl⟩ := h
    rw [List.append_nil] at e1
    rw [e2, ← e1]
    exact fin
theorem app_len (x y : Str) : (x ++ y).length = x.length + y.length := by
  show (x.cps ++ y.cps).size = _
  rw [Array.size_append]; rfl


section
variable {P : Program} {w : World} {K : Frag} {mg : Str → Option Value} {base : Heap}

/-- a cell's pot -/
def S_Lpot : DSp := fun as q => ∃ (ns : List Int) (k : Nat), k < 1000 ∧ ns.length ≤ 63 ∧ as = [.scr ns, .d (.int k)] ∧ ∀ xs, Pot 0 xs → q (.own none xs) []
theorem S_Lpot_len : ∀ as q, S_Lpot as q → as.length = 2 := fun as q ⟨_, _, _, _, e, _⟩ => by rw [e]; rfl
def d_Lpot : DS := (dSeq (dAsg 2 (dIf (dTest (dOpS gLt (dVar 1) (dCB gLen (dCons (dVar 0) dNil)))) (dOpS gIx (dVar 0) (dVar 1)) (dOp gAdd (dOp gMul (dC (.int 29)) (dVar 1)) (dC (.int 11)))))
    (dSeq (dAsg 3 (dOp gMul (dOp (gIc (fun _ j => 0 < j) fun i j => .int (i % j)) (dCB gInt (dCons (dCB gAbs (dCons (dVar 2) dNil)) dNil)) (dOp (gIc CPowW fun i j => .int (i ^ j.toNat)) (dOp (gIc CPowW fun i j => .int (i ^ j.toNat)) (dC (.int 10)) (dC (.int 60))) (dC (.int 5)))) (dCB gInt (dCons (dOpS gGe (dCB gAbs (dCons (dVar 2) dNil)) (dOp (gIc CPowW fun i j => .int (i ^ j.toNat)) (dC (.int 10)) (dC (.int 18)))) dNil))))
    (dRet (dLst (dCons (dVar 3) (dCons (dOp (gIc (fun _ j => 0 < j) fun i j => .int (i % j)) (dOp gAdd (dOp gAdd (dOp gMul (dOp (gIc (fun _ j => 0 < j) fun i j => .int (i % j)) (dCB gInt (dCons (dVar 2) dNil)) (dC (.int 2305843009213693951))) (dC (.int 71993))) (dOp gMul (dOp gMul (dC (.int 6271)) (dVar 1)) (dVar 1))) (dC (.int 53))) (dC (.int 2305843009213693921))) (dCons (dC (.int 0)) dNil)))))))

theorem pot_own (z : Int) {f : Int} (hf : f = 0 ∨ f = 1) : CMulW (z % (10 ^ Int.toNat 60) ^ Int.toNat 5) f ∧ 0 ≤ z % (10 ^ Int.toNat 60) ^ Int.toNat 5 * f ∧ z % (10 ^ Int.toNat 60) ^ Int.toNat 5 * f < 10 ^ 300 := by
  have e : ((10 : Int) ^ Int.toNat 60) ^ Int.toNat 5 = 10 ^ 300 := by decide +kernel
  rw [e]
  have h0 : 0 ≤ z % 10 ^ 300 := Int.emod_nonneg z (by decide +kernel)
  have h1 : z % 10 ^ 300 < 10 ^ 300 := Int.emod_lt_of_pos z (by decide +kernel)
  generalize z % 10 ^ 300 = y at h0 h1
  have e2 : (10 : Int) ^ 300 < 2 ^ 1000 := by decide +kernel
  have hy : y.natAbs < 2 ^ 1000 := by omega
  refine ⟨wide_mul (b := 1) hy (by rcases hf with rfl | rfl <;> decide) (by decide) (by decide) (by decide), ?_⟩
  rcases hf with rfl | rfl
  · rw [Int.mul_zero]; exact ⟨by decide, by decide +kernel⟩
  · rw [Int.mul_one]; exact ⟨h0, h1⟩
theorem spec_Lpot : ∀ as q, as.length = 2 → S_Lpot as q → d_Lpot (endsD as q) (nxD as q) (initD 4 as) := fun as q _ ⟨ns, k, hk, hn, e, hq⟩ => by
  subst e
  unfold d_Lpot
  walk_at "dl"
  have p1 : CPowW 10 60 := powOk (n := 4) (by decide) (by decide) (by decide) (by decide)
  have p2 : CPowW (10 ^ Int.toNat 60) 5 := powOk (n := 200) (by decide) (by decide) (by decide +kernel) (by decide)
  have p3 : (0 : Int) < (10 ^ Int.toNat 60) ^ Int.toNat 5 := by decide +kernel
  have p4 : CPowW 10 18 := powOk (n := 4) (by decide) (by decide) (by decide) (by decide)
  have kk : (k : Int) * k ≤ 1000 * 1000 := Int.mul_le_mul (by omega) (by omega) (by omega) (by decide)
  have k0 : 0 ≤ (k : Int) * k := Int.mul_nonneg (by omega) (by omega)
  have e1 : 6271 * (k : Int) * k = 6271 * (k * k) := by rw [Int.mul_assoc]
  have p5 : CMulW 6271 (k : Int) := mulOk (by decide) (by decide) (by omega) (by omega)
  have p6 : CMulW (6271 * (k : Int)) k := mulOk (by omega) (by omega) (by omega) (by omega)
  have b01 : ∀ (c : Prop) [Decidable c], (if c then (1 : Int) else 0) = 0 ∨ (if c then (1 : Int) else 0) = 1 := fun c _ => by by_cases h : c <;> simp [h]
  have p7 : ∀ i : Int, CMulW (i % 2305843009213693951) 71993 := fun i => mulOk (by have := Int.emod_nonneg i (b := 2305843009213693951) (by decide); omega) (by have := Int.emod_lt_of_pos i (b := 2305843009213693951) (by decide); omega) (by decide) (by decide)
  have fin : ∀ (z i : Int) (f : Int), f = 0 ∨ f = 1 → q (Sl.own none [PyData.int (z % (10 ^ Int.toNat 60) ^ Int.toNat 5 * f), PyData.int ((i % 2305843009213693951 * 71993 + 6271 * (k : Int) * k + 53) % 2305843009213693921), PyData.int 0]) [] := fun z i f hf =>
    hq _ ⟨_, _, 0, rfl, (pot_own z hf).2, ⟨Int.emod_nonneg _ (by decide), Int.emod_lt_of_pos _ (by decide)⟩, by decide, by decide⟩
  refine boxIf_of (fun h => ?_) (fun h => ?_)
  · have h := of_decide_eq_true h
    walk_at "dl"
    have hk2 : k < ns.length := by rw [List.length_map] at h; omega
    have ea : L2.atI (List.map PyData.int ns) (k : Int) = some (.int ns[k]) := L2.atI_nat (by rw [List.getElem?_map, List.getElem?_eq_getElem hk2]; rfl)
    rw [ea]
    exact ⟨p1, p2, p3, p4, (pot_own _ (b01 _)).1, by decide, p7 _, p5, p6, by decide, by decide, fin _ _ _ (b01 _)⟩
  · walk_at "dl"
    exact ⟨mulOk (by decide) (by decide) (by omega) (by omega), p1, p2, p3, p4, (pot_own _ (b01 _)).1, by decide, p7 _, p5, p6, by decide, by decide, fin _ _ _ (b01 _)⟩

theorem w_Lpot (T : Tx K mg) (cdv : Value) (A : Around) (outer : List Env) (s : Shared) (H : Hp) (E : XK) (gd : A.guards = some []) (hr : Room 0 (A.deeper (envOfC "_law_pot" (defScope s_Lpot) s.heap.objs.size T.f_Lpot cdv))) :
    XSs (cxOf CX0 P w K mg base N_Lpot "_law_pot" (defScope s_Lpot) T.f_Lpot cdv A outer s H E).nox (defBody s_Lpot) d_Lpot :=
  (sC (sSet 2 sc_Lpot.nd (xIf (tLt (xv 1) (xCB call_len cb_len rfl T.n_len (by decide +kernel) (ac (xv 0) an))) (xIx (xv 0) (xv 1)) (xAdd (xMul xi (xv 1)) xi)))
    (sC (sSet 3 sc_Lpot.nd (xMul (xMod (xCT call_int1 cb_int rfl T.n_int (by decide +kernel) (ac (xCB call_abs cb_abs rfl T.n_abs (by decide +kernel) (ac (xv 2) an)) an)) (xPow (xPow xi xi) xi)) (xCT call_int1 cb_int rfl T.n_int (by decide +kernel) (ac (xGe (xCB call_abs cb_abs rfl T.n_abs (by decide +kernel) (ac (xv 2) an)) (xPow xi xi)) an))))
    (s1 (sRet (xLst (ac (xv 3) (ac (xMod (xAdd (xAdd (xMul (xMod (xCT call_int1 cb_int rfl T.n_int (by decide +kernel) (ac (xv 2) an)) xi) xi) (xMul (xMul xi (xv 1)) (xv 1))) xi) xi) (ac xi an))))))))
theorem ok_Lpot (T : Tx K mg) : FnG P w K mg base CX0 1 T.f_Lpot T.fd_Lpot ["_law_script", "_law_k"] (spD K 2 S_Lpot) := fnD T.F_Lpot sc_Lpot (by decide) (fun cdv A outer s H E gd hr => w_Lpot T cdv A outer s H E gd hr) spec_Lpot

def LET : List Nat := (Str.ofString "abcdefghijklmnopqrstuvwxyz").cps.toList
def wordL (l : List Nat) : Bool := decide (1 ≤ l.length) && decide (l.length ≤ 8) && l.all fun c => decide (c ∈ LET)
def wordB : PyData → Bool
  | .str z => wordL z.cps.toList
  | _ => false
theorem bools_map {α : Type} (f : α → Bool) : ∀ xs : List α, bools (xs.map fun x => .bool (f x)) = some (xs.map f)
  | [] => rfl
  | x :: xs => by
    show (bools (xs.map fun x => .bool (f x))).map (f x :: ·) = _
    rw [bools_map f xs]; rfl
def S_is_word : DSp := fun as q => ∃ z : Str, z.length ≤ 100000 ∧ as = [.d (.str z)] ∧ q (.d (.bool (wordL z.cps.toList))) []
theorem S_is_word_len : ∀ as q, S_is_word as q → as.length = 1 := fun as q ⟨_, _, e, _⟩ => by rw [e]; rfl
def signOf : PyData → Option PyData
  | .str z => (match z.cps.toList with
    | [c] => some (.bool (decide (c ∈ LET)))
    | _ => none)
  | _ => none
theorem sign_map (cs : List Nat) : (cs.map fun c => PyData.str ⟨#[c]⟩).filterMap signOf = cs.map fun c => .bool (decide (c ∈ LET)) := by
  induction cs with
  | nil => rfl
  | cons c cs ih => rw [List.map_cons, List.filterMap_cons, ih]; rfl
def d_is_word : DS := (dSeq (dIfS (dOr (dNot (dTru (dIsi "str" (dVar 0)))) (dNot (dTest (dChain gLe gLe (dC (.int 1)) (dCB gLen (dCons (dVar 0) dNil)) (dC (.int 8)))))) (dRet (dC (.bool false))) dNext)
    (dRet (dCB gAll (dCons (dLc (dSeqI (dVar 0)) (dgName 1) dYes (dOpS (gIn false) (dVar 1) (dC (.str "abcdefghijklmnopqrstuvwxyz"))) [1]) dNil))))

theorem spec_is_word : ∀ as q, as.length = 1 → S_is_word as q → d_is_word (endsD as q) (nxD as q) (initD 2 as) := fun as q _ ⟨z, hv, e, hq⟩ => by
  subst e
  unfold d_is_word
  have hz : z.length ≤ sizeLine := Nat.le_trans hv (by decide)
  have el : z.cps.toList.length = z.length := by simp [Str.length]
  walk_at "dl"
  refine ⟨hz, ?_⟩
  refine boxIf_of (fun h => ?_) (fun h => ?_)
  · have h := of_decide_eq_true h
    walk_at "dl"
    cases hc : decide ((z.length : Int) ≤ 8)
    rotate_left
    · have h2 := of_decide_eq_true hc
      walk_at "dl"
      refine ⟨by rw [List.length_map, el]; exact hz, lc_pure signOf _ (fun x hx R hR => ?_) ?_⟩
      · obtain ⟨c, _, rfl⟩ := List.mem_map.mp hx
        walk_at "dl"
        have e : signOf (.str ⟨#[c]⟩) = some (.bool (decide (c ∈ LET))) := rfl
        rw [e] at hR
        rw [Bool.false_xor]
        exact hR
      · rw [sign_map]
        walk_at "dl"
        rw [bools_map]
        walk_at "dl"
        have : wordL z.cps.toList = (z.cps.toList.map fun c => decide (c ∈ LET)).all id := by
          unfold wordL
          rw [decide_eq_true (by omega), decide_eq_true (by omega), List.all_map]; rfl
        rw [this] at hq
        exact hq
    · have h2 := of_decide_eq_false hc
      walk_at "dl"
      have : wordL z.cps.toList = false := by
        unfold wordL
        rw [decide_eq_false (p := z.cps.toList.length ≤ 8) (by omega), Bool.and_false]; rfl
      rw [this] at hq; exact hq
  · have h := of_decide_eq_false h
    walk_at "dl"
    have : wordL z.cps.toList = false := by
      unfold wordL
      rw [decide_eq_false (p := 1 ≤ z.cps.toList.length) (by omega)]; rfl
    rw [this] at hq; exact hq

theorem w_is_word (T : Tx K mg) (cdv : Value) (A : Around) (outer : List Env) (s : Shared) (H : Hp) (E : XK) (gd : A.guards = some []) (hr : Room 0 (A.deeper (envOfC "is_word" (defScope s_is_word) s.heap.objs.size T.f_is_word cdv))) :
    XSs (cxOf CX0 P w K mg base N_is_word "is_word" (defScope s_is_word) T.f_is_word cdv A outer s H E).nox (defBody s_is_word) d_is_word :=
  (sC (sIf (tW (wOr (tNot' (tTru (xIsi (T := "str") (by decide +kernel) rfl T.n_isinstance rfl T.n_str (by decide +kernel) (xv 0)))) (wOr1 (tNot' (tChain' op_leU ops_cmp op_leU ops_cmp xi (xCB call_len cb_len rfl T.n_len (by decide +kernel) (ac (xv 0) an)) (xgI rfl T.c_LONGEST_WORD)))))) (s1 (sRet xb)) sN)
    (s1 (sRet (xCB (cr_all rfl) cb_all rfl T.n_all (by decide +kernel) (ac (xLc (own := [("sign", 1)]) rfl sc_is_word.nd it_seq tg_name (by decide) lt_yes (pi_seq (xv 0)) (blkOk_by (own := [("sign", 1)]) (N := N_is_word) (sc := defScope s_is_word) (by decide +kernel)) (fun _ _ _ _ _ => (pg_name (i := 1) sc_is_word.nd rfl (by first | exact Or.inl rfl | exact Or.inr rfl))) (fun _ _ _ _ _ => pts_nil) (fun _ _ _ _ _ => (xIn (hu65 hr) (xv 1) (xgS rfl T.c_LETTERS)))) an)))))
theorem ok_is_word (T : Tx K mg) : FnG P w K mg base CX0 1 T.f_is_word T.fd_is_word ["value"] (spD K 1 S_is_word) := fnD T.F_is_word sc_is_word (by decide) (fun cdv A outer s H E gd hr => w_is_word T cdv A outer s H E gd hr) spec_is_word

def pathL (l : List Nat) : Bool := decide ((TL.spl [47] 0 [] l).length ≤ 4) && (TL.spl [47] 0 [] l).all wordL
def pathB : PyData → Bool
  | .str z => pathL z.cps.toList
  | _ => false
def S_is_path : DSp := fun as q => ∃ v : PyData, (∀ z, v = .str z → z.length ≤ 50000) ∧ as = [.d v] ∧ q (.d (.bool (pathB v))) []
theorem S_is_path_len : ∀ as q, S_is_path as q → as.length = 1 := fun as q ⟨_, _, e, _⟩ => by rw [e]; rfl
theorem split_slash (z : Str) : Txt.split z (Str.ofString "/") = (TL.spl [47] 0 [] z.cps.toList).map fun l => (⟨l.toArray⟩ : Str) := by
  have h := SX.split_S (a := z.cps.toList) (b := [47]) (by decide) (by decide)
  exact h
theorem spl_len : ∀ (l acc : List Nat), (TL.spl [47] 0 acc l).length ≤ l.length + 1 ∧ ∀ p ∈ TL.spl [47] 0 acc l, p.length ≤ acc.length + l.length
  | [], acc => by simp [TL.spl]
  | c :: r, acc => by
    have h1 := spl_len r []
    have h2 := spl_len r (acc ++ [c])
    unfold TL.spl
    split
    · refine ⟨by rw [List.length_cons, List.length_cons]; exact Nat.succ_le_succ h1.1, fun p hp => ?_⟩
      rcases List.mem_cons.mp hp with rfl | hp
      · omega
      · have := h1.2 p hp
        rw [List.length_nil] at this; rw [List.length_cons]; omega
    · refine ⟨by rw [List.length_cons]; have := h2.1; omega, fun p hp => ?_⟩
      have := h2.2 p hp
      rw [List.length_append, List.length_singleton] at this; rw [List.length_cons]; omega
def d_is_path : DS := (dSeq (dIfS (dNot (dTru (dIsi "str" (dVar 0)))) (dRet (dC (.bool false))) dNext)
    (dSeq (dAsg 1 (dSplit (dVar 0) (dC (.str "/"))))
    (dRet (dAndV (dOpS gLe (dCB gLen (dCons (dVar 1) dNil)) (dC (.int 4))) (dCB gAll (dCons (dLc (dSeqI (dVar 1)) (dgName 2) dYes (dCall [false] S_is_word (dCons (dVar 2) dNil)) [2]) dNil))))))

theorem spec_is_path : ∀ as q, as.length = 1 → S_is_path as q → d_is_path (endsD as q) (nxD as q) (initD 3 as) := fun as q _ ⟨v, hv, e, hq⟩ => by
  subst e
  unfold d_is_path
  cases v with
  | str z =>
    have hz := hv z rfl
    have el : z.cps.toList.length = z.length := by simp [Str.length]
    have hs := spl_len z.cps.toList []
    have es : (Txt.split z (Str.ofString "/")).map PyData.str = (TL.spl [47] 0 [] z.cps.toList).map fun l => PyData.str ⟨l.toArray⟩ := by rw [split_slash, List.map_map]; rfl
    have big : (100000 : Nat) ≤ sizeLine := by decide
    walk_at "dl"
    rw [es]
    refine ⟨by decide, by omega, ?_⟩
    refine boxIf_of (fun h => ?_) (fun h => ?_)
    · have h := of_decide_eq_true h
      rw [List.length_map] at h
      walk_at "dl"
      refine ⟨by rw [List.length_map]; omega, lc_pure (fun x => some (.bool (wordB x))) _ (fun x hx R hR => ?_) ?_⟩
      · obtain ⟨l, hl, rfl⟩ := List.mem_map.mp hx
        have := hs.2 l hl
        walk_at "dl"
        refine ⟨by simp, _, ?_, rfl, ?_⟩
        · show l.toArray.size ≤ 100000
          rw [List.size_toArray]; rw [List.length_nil] at this; omega
        · walk_at "dl"
          exact hR
      · have eb : ((TL.spl [47] 0 [] z.cps.toList).map fun l => PyData.str ⟨l.toArray⟩).filterMap (fun x => some (PyData.bool (wordB x))) = (TL.spl [47] 0 [] z.cps.toList).map fun l => PyData.bool (wordL l) := by
          rw [List.filterMap_eq_map', List.map_map]; rfl
        rw [eb]
        walk_at "dl"
        rw [bools_map]
        walk_at "dl"
        have : pathB (.str z) = ((TL.spl [47] 0 [] z.cps.toList).map wordL).all id := by
          show pathL _ = _
          unfold pathL
          rw [decide_eq_true (by omega), List.all_map]; rfl
        rw [this] at hq
        exact hq
    · have h := of_decide_eq_false h
      rw [List.length_map] at h
      walk_at "dl"
      have : pathB (.str z) = false := by
        show pathL _ = _
        unfold pathL
        rw [decide_eq_false (by omega)]; rfl
      rw [this] at hq
      exact hq
  | _ => walk_at "dl"; exact hq

theorem w_is_path (T : Tx K mg) (cdv : Value) (A : Around) (outer : List Env) (s : Shared) (H : Hp) (E : XK) (gd : A.guards = some []) (hr : Room 1 (A.deeper (envOfC "is_path" (defScope s_is_path) s.heap.objs.size T.f_is_path cdv))) :
    XSs (cxOf CX0 P w K mg base N_is_path "is_path" (defScope s_is_path) T.f_is_path cdv A outer s H E).nox (defBody s_is_path) d_is_path :=
  (sC (sIf (tNot' (tTru (xIsi (T := "str") (by decide +kernel) rfl T.n_isinstance rfl T.n_str (by decide +kernel) (xv 0)))) (s1 (sRet xb)) sN)
    (sC (sSet 1 sc_is_path.nd (xSplit (xv 0) (xgS rfl T.c_SLASH) (pe_split (xv 0) (xgS rfl T.c_SLASH))))
    (s1 (sRet (xAnd (xLe (xCB call_len cb_len rfl T.n_len (by decide +kernel) (ac (xv 1) an)) (xgI rfl T.c_MOST_WORDS)) (xOne (xCB (cr_all rfl) cb_all rfl T.n_all (by decide +kernel) (ac (xLc (own := [("word", 2)]) rfl sc_is_path.nd it_seq tg_name (by decide) lt_yes (pi_seq (xv 1)) (blkOk_by (own := [("word", 2)]) (N := N_is_path) (sc := defScope s_is_path) (by decide +kernel)) (fun _ _ _ _ _ => (pg_name (i := 2) sc_is_path.nd rfl (by first | exact Or.inl rfl | exact Or.inr rfl))) (fun _ _ _ _ _ => pts_nil) (fun _ _ _ _ _ => (xCall [false] (ok_is_word T) S_is_word_len gd (hr.mono (by decide)) rfl T.g_is_word T.F_is_word.kp T.b_is_word (ac (xv 2) an)))) an))))))))
theorem ok_is_path (T : Tx K mg) : FnG P w K mg base CX0 2 T.f_is_path T.fd_is_path ["value"] (spD K 1 S_is_path) := fnD T.F_is_path sc_is_path (by decide) (fun cdv A outer s H E gd hr => w_is_path T cdv A outer s H E gd hr) spec_is_path

def S_Ldue : DSp := fun as q => ∃ v : PyData, (∀ z, v = .str z → z.length ≤ 50000) ∧ as = [.d v] ∧ q (.d (.bool (pathB v))) []
theorem S_Ldue_len : ∀ as q, S_Ldue as q → as.length = 1 := fun as q ⟨_, _, e, _⟩ => by rw [e]; rfl
/-- the signs still to come, after w words and the letters acc of the next -/
def dueL (w : Nat) (acc l : List Nat) : Bool := decide (w + (TL.spl [47] 0 acc l).length ≤ 5) && (TL.spl [47] 0 acc l).all wordL
theorem spl_head : ∀ (l acc : List Nat), ∃ t rest, TL.spl [47] 0 acc l = (acc ++ t) :: rest
  | [], acc => ⟨[], [], by simp [TL.spl]⟩
  | c :: r, acc => by
    unfold TL.spl
    split
    · exact ⟨[], _, by rw [List.append_nil]⟩
    · obtain ⟨t, rest, e⟩ := spl_head r (acc ++ [c])
      exact ⟨c :: t, rest, by rw [e, List.append_assoc]; rfl⟩
theorem due_bad {w : Nat} {acc l : List Nat} (h : ∀ t, wordL (acc ++ t) = false) : dueL w acc l = false := by
  obtain ⟨t, rest, e⟩ := spl_head l acc
  unfold dueL
  rw [e, List.all_cons, h t, Bool.false_and, Bool.and_false]
theorem due_slash (w : Nat) (acc r : List Nat) : dueL w acc (47 :: r) = (wordL acc && dueL (w + 1) [] r) := by
  have e : TL.spl [47] 0 acc (47 :: r) = acc :: TL.spl [47] 0 [] r := by
    rw [TL.spl]; rfl
  unfold dueL
  rw [e, List.length_cons, List.all_cons, show w + ((TL.spl [47] 0 [] r).length + 1) = w + 1 + (TL.spl [47] 0 [] r).length by omega]
  cases wordL acc <;> simp
theorem due_sign {w c : Nat} {acc r : List Nat} (h : c ≠ 47) : dueL w acc (c :: r) = dueL w (acc ++ [c]) r := by
  have e : TL.spl [47] 0 acc (c :: r) = TL.spl [47] 0 (acc ++ [c]) r := by
    rw [TL.spl, if_neg]
    intro hp
    apply h
    unfold TL.pre at hp
    simpa using hp
  unfold dueL
  rw [e]
theorem due_end (w : Nat) (acc : List Nat) : dueL w acc [] = (decide (w ≤ 4) && wordL acc) := by
  unfold dueL TL.spl
  rw [List.all_cons, List.all_nil, Bool.and_true, List.length_singleton]
  congr 1
  exact decide_eq_decide.mpr (by omega)
def d_Ldue : DS := (dSeq (dIfS (dNot (dTru (dIsi "str" (dVar 0)))) (dRet (dC (.bool false))) dNext)
    (dSeq (dUnp (dgTup 2 (dgCons (dgName 1) (dgCons (dgName 2) dgNil))) (dTup (dCons (dC (.int 1)) (dCons (dC (.int 0)) dNil))))
    (dSeq (dFor (dSeqI (dVar 0)) (dgName 3) (dSeq (dIfS (dTest (dOpS gEq (dVar 3) (dC (.str "/")))) (dSeq (dIfS (dTest (dOpS gEq (dVar 2) (dC (.int 0)))) (dRet (dC (.bool false))) dNext)
    (dPar [1, 2] (dConsN (dOp gAdd (dVar 1) (dC (.int 1))) (dConsN (dC (.int 0)) dNil)))) (dIfS (dTest (dOpS (gIn false) (dVar 3) (dC (.str "abcdefghijklmnopqrstuvwxyz")))) (dAsg 2 (dOp gAdd (dVar 2) (dC (.int 1)))) (dRet (dC (.bool false)))))
    (dIfS (dTest (dOpS gGt (dVar 2) (dC (.int 8)))) (dRet (dC (.bool false))) dNext)))
    (dRet (dAndV (dOpS gGt (dVar 2) (dC (.int 0))) (dOpS gLe (dVar 1) (dC (.int 4))))))))

theorem spec_Ldue : ∀ as q, as.length = 1 → S_Ldue as q → d_Ldue (endsD as q) (nxD as q) (initD 4 as) := fun as q _ ⟨v, hv, e, hq⟩ => by
  subst e
  unfold d_Ldue
  cases v with
  | str z =>
    have hz := hv z rfl
    have el : z.cps.toList.length = z.length := by simp [Str.length]
    have big : (100000 : Nat) ≤ sizeLine := by decide
    walk_at "dl"
    refine ⟨by omega, ?_⟩
    refine loop_inv (fun xs δ => ∃ (w : Nat) (acc l : List Nat) (c3 : Option Sl), xs = l.map (fun c => PyData.str ⟨#[c]⟩) ∧ w + l.length ≤ 60000 ∧ acc.length ≤ 8 ∧ (acc.all fun c => decide (c ∈ LET)) = true ∧ pathB (.str z) = dueL w acc l ∧ δ = [some (.d (.str z)), some (.d (.int w)), some (.d (.int acc.length)), c3])
      (fun x xs δ h R hR => ?_) (fun δ h => ?_) _ _ ⟨1, [], z.cps.toList, _, rfl, by omega, by decide, rfl, ?_, rfl⟩
    · obtain ⟨w, acc, l, c3, e1, h1, h2, h3, h4, rfl⟩ := h
      cases l with
      | nil => cases e1
      | cons c r =>
        obtain ⟨rfl, rfl⟩ := List.cons.inj e1
        rw [List.length_cons] at h1
        walk_at "dl"
        refine boxIf_of (fun hc => ?_) (fun hc => ?_)
        · have ec : c = 47 := by
            have := eq_of_beq hc
            have h : [c] = (Str.ofString "/").cps.toList := congrArg (fun t : Str => t.cps.toList) this
            rw [show (Str.ofString "/").cps.toList = [47] by decide] at h
            exact (List.cons.inj h).1
          subst ec
          rw [due_slash] at h4
          walk_at "dl"
          refine boxIf_of (fun h0 => ?_) (fun h0 => ?_)
          · have h0 : (acc.length : Int) = 0 := by simpa using h0
            have : acc = [] := List.length_eq_zero_iff.mp (by omega)
            subst this
            walk_at "dl"
            rw [show pathB (.str z) = false from h4] at hq
            exact hq
          · have h0 : ¬ (acc.length : Int) = 0 := by simpa using h0
            have hw : wordL acc = true := by
              unfold wordL
              rw [decide_eq_true (by omega), decide_eq_true h2, h3]; rfl
            rw [hw, Bool.true_and] at h4
            walk_at "dl"
            exact hR _ ⟨w + 1, [], r, _, rfl, by omega, by decide, rfl, h4, rfl⟩
        · have ec : c ≠ 47 := fun e => by subst e; exact absurd hc (by decide)
          rw [due_sign ec] at h4
          walk_at "dl"
          rw [Bool.false_xor]
          refine boxIf_of (fun hl => ?_) (fun hl => ?_)
          · have h3' : ((acc ++ [c]).all fun c => decide (c ∈ LET)) = true := by
              rw [List.all_append, h3, List.all_cons, List.all_nil, Bool.and_true, Bool.true_and]; exact hl
            have len : (acc ++ [c]).length = acc.length + 1 := by simp
            walk_at "dl"
            refine boxIf_of (fun h8 => ?_) (fun h8 => ?_)
            · have h8 := of_decide_eq_true h8
              walk_at "dl"
              rw [show pathB (.str z) = false from h4.trans (due_bad fun t => by
                unfold wordL
                rw [decide_eq_false (p := ((acc ++ [c]) ++ t).length ≤ 8) (by rw [List.length_append, len]; omega), Bool.and_false]; rfl)] at hq
              exact hq
            · have h8 := of_decide_eq_false h8
              walk_at "dl"
              exact hR _ ⟨w, acc ++ [c], r, _, rfl, by omega, by omega, h3', h4, by rw [len]; rfl⟩
          · walk_at "dl"
            rw [show pathB (.str z) = false from h4.trans (due_bad fun t => by
              have : (((acc ++ [c]) ++ t).all fun c => decide (c ∈ LET)) = false := by
                rw [List.all_append, List.all_append, List.all_cons, show decide (c ∈ LET) = false from hl]; simp
              unfold wordL
              rw [this, Bool.and_false])] at hq
            exact hq
    · obtain ⟨w, acc, l, c3, e1, h1, h2, h3, h4, rfl⟩ := h
      cases l with
      | cons c r => cases e1
      | nil =>
        rw [due_end] at h4
        walk_at "dl"
        refine boxIf_of (fun h0 => ?_) (fun h0 => ?_)
        · have h0 := of_decide_eq_true h0
          have hw : wordL acc = true := by
            unfold wordL
            rw [decide_eq_true (by omega), decide_eq_true h2, h3]; rfl
          rw [hw, Bool.and_true] at h4
          rw [h4] at hq
          walk_at "dl"
          rw [show decide ((w : Int) ≤ 4) = decide (w ≤ 4) from decide_eq_decide.mpr (by omega)]
          exact hq
        · have h0 := of_decide_eq_false h0
          have : acc = [] := List.length_eq_zero_iff.mp (by omega)
          subst this
          rw [show wordL [] = false from rfl, Bool.and_false] at h4
          rw [h4] at hq
          walk_at "dl"
          exact hq
    · show pathL _ = _
      unfold pathL dueL
      congr 1
      exact decide_eq_decide.mpr (by omega)
  | _ => walk_at "dl"; exact hq

theorem w_Ldue (T : Tx K mg) (cdv : Value) (A : Around) (outer : List Env) (s : Shared) (H : Hp) (E : XK) (gd : A.guards = some []) (hr : Room 0 (A.deeper (envOfC "_law_due" (defScope s_Ldue) s.heap.objs.size T.f_Ldue cdv))) :
    XSs (cxOf CX0 P w K mg base N_Ldue "_law_due" (defScope s_Ldue) T.f_Ldue cdv A outer s H E).nox (defBody s_Ldue) d_Ldue :=
  (sC (sIf (tNot' (tTru (xIsi (T := "str") (by decide +kernel) rfl T.n_isinstance rfl T.n_str (by decide +kernel) (xv 0)))) (s1 (sRet xb)) sN)
    (sC (sUnp (tg_tup (tgs_cons tg_name (tgs_cons tg_name tgs_nil))) (xTup (ac xi (ac xi an))) (pg_tup rfl (pgs_cons (pg_name (i := 1) sc_Ldue.nd rfl (by first | exact Or.inl rfl | exact Or.inr rfl)) (pgs_cons (pg_name (i := 2) sc_Ldue.nd rfl (by first | exact Or.inl rfl | exact Or.inr rfl)) pgs_nil))))
    (sC (sFor it_seq tg_name PassesOwn.never rfl (pi_seq (xv 0)) (pg_name (i := 3) sc_Ldue.nd rfl (by first | exact Or.inl rfl | exact Or.inr rfl)) (sC (sIf (tEq (hu64 hr) (xv 3) xs) (sC (sIf (tEq (hu64 hr) (xv 2) xi) (s1 (sRet xb)) sN)
    (s1 (sPar2 (i := 1) (j := 2) sc_Ldue.nd (acN (xAdd (xv 1) xi) (acN xi an))))) (s1 (sIf (tIn (hu65 hr) (xv 3) xs) (s1 (sSet 2 sc_Ldue.nd (xAdd (xv 2) xi))) (s1 (sRet xb)))))
    (s1 (sIf (tGt (xv 2) xi) (s1 (sRet xb)) sN))))
    (s1 (sRet (xAnd (xGt (xv 2) xi) (xOne (xLe (xv 1) xi))))))))
theorem ok_Ldue (T : Tx K mg) : FnG P w K mg base CX0 1 T.f_Ldue T.fd_Ldue ["_law_value"] (spD K 1 S_Ldue) := fnD T.F_Ldue sc_Ldue (by decide) (fun cdv A outer s H E gd hr => w_Ldue T cdv A outer s H E gd hr) spec_Ldue

def S_Lis_right : DSp := fun as q => ∃ v : PyData, (∀ z, v = .str z → z.length ≤ 50000) ∧ as = [.d v] ∧ q (.d (.bool true)) []
theorem S_Lis_right_len : ∀ as q, S_Lis_right as q → as.length = 1 := fun as q ⟨_, _, e, _⟩ => by rw [e]; rfl
def d_Lis_right : DS := (dSeq (dAsg 1 (dCall [false] S_is_path (dCons (dVar 0) dNil)))
    (dRet (dAndV (dIsi "bool" (dVar 1)) (dOpS gEq (dVar 1) (dCall [false] S_Ldue (dCons (dVar 0) dNil))))))

theorem spec_Lis_right : ∀ as q, as.length = 1 → S_Lis_right as q → d_Lis_right (endsD as q) (nxD as q) (initD 2 as) := fun as q _ ⟨v, hv, e, hq⟩ => by
  subst e
  unfold d_Lis_right
  walk_at "dl"
  refine ⟨by simp, v, hv, rfl, ?_⟩
  walk_at "dl"
  refine ⟨by simp, v, hv, rfl, ?_⟩
  walk_at "dl"
  exact hq

theorem w_Lis_right (T : Tx K mg) (cdv : Value) (A : Around) (outer : List Env) (s : Shared) (H : Hp) (E : XK) (gd : A.guards = some []) (hr : Room 2 (A.deeper (envOfC "_law_is_right" (defScope s_Lis_right) s.heap.objs.size T.f_Lis_right cdv))) :
    XSs (cxOf CX0 P w K mg base N_Lis_right "_law_is_right" (defScope s_Lis_right) T.f_Lis_right cdv A outer s H E).nox (defBody s_Lis_right) d_Lis_right :=
  (sC (sSet 1 sc_Lis_right.nd (xCall [false] (ok_is_path T) S_is_path_len gd (hr.mono (by decide)) rfl T.g_is_path T.F_is_path.kp T.b_is_path (ac (xv 0) an)))
    (s1 (sRet (xAnd (xIsi (T := "bool") (by decide +kernel) rfl T.n_isinstance rfl T.n_bool (by decide +kernel) (xv 1)) (xOne (xEq (hu64 hr) (xv 1) (xCall [false] (ok_Ldue T) S_Ldue_len gd (hr.mono (by decide)) rfl T.g_Ldue T.F_Ldue.kp T.b_Ldue (ac (xv 0) an))))))))
theorem ok_Lis_right (T : Tx K mg) : FnG P w K mg base CX0 3 T.f_Lis_right T.fd_Lis_right ["_law_value"] (spD K 1 S_Lis_right) := fnD T.F_Lis_right sc_Lis_right (by decide) (fun cdv A outer s H E gd hr => w_Lis_right T cdv A outer s H E gd hr) spec_Lis_right

/-- a draw: something from 0 to upto - 1 -/
def S_Ltake : DSp := fun as q => ∃ (m : Nat) (xs : List PyData) (n : Int), Pot m xs ∧ m < 1000000 ∧ 0 < n ∧ n < 2 ^ 64 ∧ as = [.own (some 0) xs, .d (.int n)] ∧ ∀ (r : Int) ys, 0 ≤ r → r < n → Pot (m + 1) ys → q (.d (.int r)) [ys]
theorem S_Ltake_len : ∀ as q, S_Ltake as q → as.length = 2 := fun as q ⟨_, _, _, _, _, _, _, e, _⟩ => by rw [e]; rfl
def d_Ltake : DS := (dSeq (dIfS (dTest (dOpS gGt (dOpS gIx (dVar 0) (dC (.int 0))) (dC (.int 0)))) (dSeq (dAsg 2 (dOp (gIc (fun _ j => 0 < j) fun i j => .int (i % j)) (dCB gInt (dCons (dOpS gIx (dVar 0) (dC (.int 0))) dNil)) (dVar 1)))
    (dSeq (dSetI 0 (dC (.int 0)) (dOp (gIc CDivW fun i j => .int (i / j)) (dOpS gIx (dVar 0) (dC (.int 0))) (dVar 1)))
    (dRet (dVar 2)))) dNext)
    (dSeq (dSetI 0 (dC (.int 2)) (dOp gAdd (dOpS gIx (dVar 0) (dC (.int 2))) (dC (.int 1))))
    (dSeq (dAsg 3 (dOpS gIx (dLst (dCons (dC (.int 2147483647)) (dCons (dC (.int 2147483629)) (dCons (dC (.int 2147483587)) (dCons (dC (.int 2147483579)) (dCons (dC (.int 2147483563)) dNil)))))) (dOp (gIc (fun _ j => 0 < j) fun i j => .int (i % j)) (dCB gInt (dCons (dOpS gIx (dVar 0) (dC (.int 2))) dNil)) (dC (.int 5)))))
    (dSeq (dAsg 4 (dOp (gIc (fun _ j => 0 < j) fun i j => .int (i % j)) (dOp (gIc CPowW fun i j => .int (i ^ j.toNat)) (dCB gInt (dCons (dOp gAdd (dOp gAdd (dOpS gIx (dVar 0) (dC (.int 1))) (dOp gMul (dOp gMul (dC (.int 99991)) (dOpS gIx (dVar 0) (dC (.int 2)))) (dOpS gIx (dVar 0) (dC (.int 2))))) (dC (.int 37))) dNil)) (dC (.int 3))) (dVar 3)))
    (dRet (dOp (gIc (fun _ j => 0 < j) fun i j => .int (i % j)) (dOp (gIc CDivW fun i j => .int (i / j)) (dOp (gIc (fun _ j => 0 < j) fun i j => .int (i % j)) (dCB gInt (dCons (dOp gMul (dVar 4) (dOp gAdd (dOp (gIc (fun _ j => 0 < j) fun i j => .int (i % j)) (dCB gInt (dCons (dVar 4) dNil)) (dC (.int 10009))) (dOp gMul (dC (.int 83)) (dOpS gIx (dVar 0) (dC (.int 2)))))) dNil)) (dC (.int 2305843009213693907))) (dC (.int 101))) (dVar 1)))))))

theorem five_at {c : Int} (h : 0 ≤ c) : ∃ p : Int, L2.atI [PyData.int 2147483647, .int 2147483629, .int 2147483587, .int 2147483579, .int 2147483563] (c % 5) = some (.int p) ∧ 0 < p ∧ p < 2 ^ 31 := by
  have h1 : 0 ≤ c % 5 := by omega
  have h2 : c % 5 < 5 := by omega
  generalize c % 5 = d at h1 h2
  have : d = 0 ∨ d = 1 ∨ d = 2 ∨ d = 3 ∨ d = 4 := by omega
  rcases this with rfl | rfl | rfl | rfl | rfl <;> exact ⟨_, rfl, by decide, by decide⟩
theorem spec_Ltake : ∀ as q, as.length = 2 → S_Ltake as q → d_Ltake (endsD as q) (nxD as q) (initD 5 as) := fun as q _ ⟨m, xs, n, ⟨a, b, c, e, ha, hb, hc0, hc1⟩, hm, hn0, hn1, e2, hq⟩ => by
  subst e e2
  have m0 : ∀ z : Int, 0 ≤ z % n ∧ z % n < n := fun z => ⟨Int.emod_nonneg z (by omega), Int.emod_lt_of_pos z hn0⟩
  unfold d_Ltake
  walk_at "dl"
  refine boxIf_of (fun h => ?_) (fun h => ?_)
  · walk_at "dl"
    refine ⟨hn0, divOk hn0 (by omega), hq (a % n) [.int (a / n), .int b, .int c] (m0 a).1 (m0 a).2 ⟨a / n, b, c, rfl, ⟨Int.ediv_nonneg ha.1 (by omega), ?_⟩, hb, hc0, by omega⟩⟩
    exact Int.lt_of_le_of_lt (Int.ediv_le_self _ ha.1) ha.2
  · walk_at "dl"
    obtain ⟨p, hp, p0, p1⟩ := five_at (c := c + 1) (by omega)
    rw [hp]
    have hcc : (c + 1) * (c + 1) ≤ 1000000 * 1000000 := Int.mul_le_mul (by omega) (by omega) (by omega) (by decide)
    have hcn : 0 ≤ (c + 1) * (c + 1) := Int.mul_nonneg (by omega) (by omega)
    have e1 : 99991 * (c + 1) * (c + 1) = 99991 * ((c + 1) * (c + 1)) := by rw [Int.mul_assoc]
    have z0 : ∀ z : Int, 0 ≤ z % p ∧ z % p < p := fun z => ⟨Int.emod_nonneg z (by omega), Int.emod_lt_of_pos z p0⟩
    refine ⟨by decide, by decide, mulOk (by decide) (by decide) (by omega) (by omega), mulOk (by omega) (by omega) (by omega) (by omega), powOk (n := 64) (by decide) (by decide) (by omega) (by decide), p0, by decide, mulOk (by decide) (by decide) (by omega) (by omega), ?_⟩
    generalize hx : (b + 99991 * (c + 1) * (c + 1) + 37) ^ Int.toNat 3 % p = x
    have hx1 : 0 ≤ x ∧ x < p := by rw [← hx]; exact z0 _
    refine ⟨mulOk (by omega) (by omega) (by omega) (by omega), by decide, divOk (by decide) (by decide), hn0, hq _ _ (m0 _).1 (m0 _).2 ⟨a, b, c + 1, rfl, ha, hb, by omega, by omega⟩⟩

theorem w_Ltake (T : Tx K mg) (cdv : Value) (A : Around) (outer : List Env) (s : Shared) (H : Hp) (E : XK) (gd : A.guards = some []) (hr : Room 0 (A.deeper (envOfC "_law_take" (defScope s_Ltake) s.heap.objs.size T.f_Ltake cdv))) :
    XSs (cxOf CX0 P w K mg base N_Ltake "_law_take" (defScope s_Ltake) T.f_Ltake cdv A outer s H E).nox (defBody s_Ltake) d_Ltake :=
  (sC (sIf (tGt (xIx (xv 0) xi) xi) (sC (sSet 2 sc_Ltake.nd (xMod (xCT call_int1 cb_int rfl T.n_int (by decide +kernel) (ac (xIx (xv 0) xi) an)) (xv 1)))
    (sC (sSetI 0 (xDiv (xIx (xv 0) xi) (xv 1)) xi)
    (s1 (sRet (xv 2))))) sN)
    (sC (sSetI 0 (xAdd (xIx (xv 0) xi) xi) xi)
    (sC (sSet 3 sc_Ltake.nd (xIx (xLst (ac xi (ac xi (ac xi (ac xi (ac xi an)))))) (xMod (xCT call_int1 cb_int rfl T.n_int (by decide +kernel) (ac (xIx (xv 0) xi) an)) xi)))
    (sC (sSet 4 sc_Ltake.nd (xMod (xPow (xCT call_int1 cb_int rfl T.n_int (by decide +kernel) (ac (xAdd (xAdd (xIx (xv 0) xi) (xMul (xMul xi (xIx (xv 0) xi)) (xIx (xv 0) xi))) xi) an)) xi) (xv 3)))
    (s1 (sRet (xMod (xDiv (xMod (xCT call_int1 cb_int rfl T.n_int (by decide +kernel) (ac (xMul (xv 4) (xAdd (xMod (xCT call_int1 cb_int rfl T.n_int (by decide +kernel) (ac (xv 4) an)) xi) (xMul xi (xIx (xv 0) xi)))) an)) xi) xi) (xv 1))))))))
theorem ok_Ltake (T : Tx K mg) : FnG P w K mg base CX0 1 T.f_Ltake T.fd_Ltake ["_law_pot_here", "_law_upto"] (spD K 2 S_Ltake) := fnD T.F_Ltake sc_Ltake (by decide) (fun cdv A outer s H E gd hr => w_Ltake T cdv A outer s H E gd hr) spec_Ltake

/-- one of some things -/
def S_Lof : DSp := fun as q => ∃ (m : Nat) (p : List PyData) (s : PyData) (xs : List PyData), Pot m p ∧ m < 1000000 ∧ as = [.own (some 0) p, .d s] ∧ itemsOf s = some xs ∧ xs ≠ [] ∧ xs.length ≤ 100000 ∧ ∀ x ys, x ∈ xs → Pot (m + 1) ys → q (.d x) [ys]
theorem S_Lof_len : ∀ as q, S_Lof as q → as.length = 2 := fun as q ⟨_, _, _, _, _, _, e, _⟩ => by rw [e]; rfl
def d_Lof : DS := (dRet (dOpS gIx (dVar 1) (dCall [true, false] S_Ltake (dCons (dVar 0) (dCons (dCB gLen (dCons (dVar 1) dNil)) dNil)))))

theorem at_in {α : Type} {xs : List α} {r : Int} (h0 : 0 ≤ r) (h1 : r < xs.length) : ∃ x, L2.atI xs r = some x ∧ x ∈ xs := by
  obtain ⟨j, rfl⟩ := Int.eq_ofNat_of_zero_le h0
  have hj : j < xs.length := by omega
  exact ⟨xs[j], L2.atI_nat (List.getElem?_eq_getElem hj), List.getElem_mem hj⟩
theorem spec_Lof : ∀ as q, as.length = 2 → S_Lof as q → d_Lof (endsD as q) (nxD as q) (initD 2 as) := fun as q _ ⟨m, p, s, xs, hp, hm, e, hi, hne, hl, hq⟩ => by
  subst e
  unfold d_Lof
  have hpos : 0 < xs.length := List.length_pos_iff.mpr hne
  cases s with
  | list ys =>
    cases hi
    walk_at "dl"
    refine ⟨by simp, m, p, _, hp, hm, by omega, by omega, rfl, fun r ps h0 h1 hp1 => ?_⟩
    obtain ⟨x, ex, hx⟩ := at_in h0 h1
    walk_at "dl"
    rw [ex]
    exact hq x ps hx hp1
  | tuple ys =>
    cases hi
    walk_at "dl"
    refine ⟨by simp, m, p, _, hp, hm, by omega, by omega, rfl, fun r ps h0 h1 hp1 => ?_⟩
    obtain ⟨x, ex, hx⟩ := at_in h0 h1
    walk_at "dl"
    rw [ex]
    exact hq x ps hx hp1
  | str z =>
    cases hi
    rw [List.length_map] at hl hpos
    have el : z.cps.toList.length = z.length := by simp [Str.length]
    walk_at "dl"
    have hz : z.length ≤ sizeLine := Nat.le_trans (by omega) (by decide : 100000 ≤ sizeLine)
    refine ⟨hz, by simp, m, p, _, hp, hm, by omega, by omega, rfl, fun r ps h0 h1 hp1 => ?_⟩
    obtain ⟨c, ex, hx⟩ := at_in (xs := z.cps.toList) h0 (by omega)
    walk_at "dl"
    rw [ex]
    exact ⟨hz, hq _ ps (List.mem_map.mpr ⟨c, hx, rfl⟩) hp1⟩
  | none => cases hi
  | bool _ => cases hi
  | int _ => cases hi
  | dict _ => cases hi

theorem w_Lof (T : Tx K mg) (cdv : Value) (A : Around) (outer : List Env) (s : Shared) (H : Hp) (E : XK) (gd : A.guards = some []) (hr : Room 1 (A.deeper (envOfC "_law_of" (defScope s_Lof) s.heap.objs.size T.f_Lof cdv))) :
    XSs (cxOf CX0 P w K mg base N_Lof "_law_of" (defScope s_Lof) T.f_Lof cdv A outer s H E).nox (defBody s_Lof) d_Lof :=
  (s1 (sRet (xIx (xv 1) (xCall [true, false] (ok_Ltake T) S_Ltake_len gd (hr.mono (by decide)) rfl T.g_Ltake T.F_Ltake.kp T.b_Ltake (ac (xv 0) (ac (xCB call_len cb_len rfl T.n_len (by decide +kernel) (ac (xv 1) an)) an))))))
theorem ok_Lof (T : Tx K mg) : FnG P w K mg base CX0 2 T.f_Lof T.fd_Lof ["_law_pot_here", "_law_some"] (spD K 2 S_Lof) := fnD T.F_Lof sc_Lof (by decide) (fun cdv A outer s H E gd hr => w_Lof T cdv A outer s H E gd hr) spec_Lof

/-- a drawn text -/
def S_Ldrawn : DSp := fun as q => ∃ (m : Nat) (p : List PyData), Pot m p ∧ m + 70 < 1000000 ∧ as = [.own (some 0) p] ∧ ∀ (z : Str) ys, z.length ≤ 100 → Pot (m + 70) ys → q (.d (.str z)) [ys]
theorem S_Ldrawn_len : ∀ as q, S_Ldrawn as q → as.length = 1 := fun as q ⟨_, _, _, _, e, _⟩ => by rw [e]; rfl
def d_Ldrawn : DS := (dSeq (dAsg 1 (dLst dNil))
    (dSeq (dFor (dRng1 (dCons (dCall [true, false] S_Lof (dCons (dVar 0) (dCons (dLst (dCons (dC (.int 0)) (dCons (dC (.int 1)) (dCons (dC (.int 1)) (dCons (dC (.int 2)) (dCons (dC (.int 2)) (dCons (dC (.int 3)) (dCons (dC (.int 3)) (dCons (dC (.int 4)) (dCons (dC (.int 4)) (dCons (dC (.int 5)) dNil))))))))))) dNil))) dNil)) (dgName 2) (dSeq (dAsg 3 (dCall [true, false] S_Lof (dCons (dVar 0) (dCons (dLst (dCons (dC (.int 0)) (dCons (dC (.int 1)) (dCons (dC (.int 1)) (dCons (dC (.int 2)) (dCons (dC (.int 3)) (dCons (dC (.int 5)) (dCons (dC (.int 7)) (dCons (dC (.int 8)) (dCons (dC (.int 8)) (dCons (dC (.int 9)) (dCons (dC (.int 10)) dNil)))))))))))) dNil))))
    (dApp 1 (dJoin (dC (.str "")) (dLc (dRng1 (dCons (dVar 3) dNil)) (dgName 6) dYes (dCall [true, false] S_Lof (dCons (dVar 0) (dCons (dC (.str "abcmnyz")) dNil))) [6])))))
    (dSeq (dAsg 4 (dJoin (dCall [true, false] S_Lof (dCons (dVar 0) (dCons (dLst (dCons (dC (.str "/")) (dCons (dC (.str "/")) (dCons (dC (.str "/")) (dCons (dC (.str "/")) (dCons (dC (.str "/")) (dCons (dC (.str "//")) (dCons (dC (.str "\\")) (dCons (dC (.str " ")) (dCons (dC (.str ".")) dNil)))))))))) dNil))) (dVar 1)))
    (dSeq (dIfS (dTest (dOpS gGt (dCall [true, false] S_Ltake (dCons (dVar 0) (dCons (dC (.int 3)) dNil))) (dC (.int 0)))) (dRet (dVar 4)) dNext)
    (dSeq (dAsg 5 (dCall [true, false] S_Ltake (dCons (dVar 0) (dCons (dOp gAdd (dCB gLen (dCons (dVar 4) dNil)) (dC (.int 1))) dNil))))
    (dRet (dOp gAdd (dOp gAdd (dSl (dVar 4) dNoPart (dPart (dVar 5))) (dCall [true, false] S_Lof (dCons (dVar 0) (dCons (dLst (dCons (dC (.str "/")) (dCons (dC (.str " ")) (dCons (dC (.str "A")) (dCons (dC (.str "Z")) (dCons (dC (.str "0")) (dCons (dC (.str "9")) (dCons (dC (.str "-")) (dCons (dC (.str "_")) (dCons (dC (.str ".")) (dCons (dC (.str "\n")) (dCons (dC (.str "\t")) (dCons (dC (.str "")) dNil))))))))))))) dNil)))) (dSl (dVar 4) (dPart (dOp gAdd (dVar 5) (dC (.int 1)))) dNoPart))))))))

theorem strs_map : ∀ zs : List Str, strs' (zs.map PyData.str) = some zs
  | [] => rfl
  | z :: zs => by
    show (strs' (zs.map PyData.str)).map (z :: ·) = _
    rw [strs_map zs]; rfl
theorem sum_one : ∀ {zs : List Str}, (∀ z ∈ zs, z.length = 1) → (zs.map (·.length)).sum = zs.length
  | [], _ => rfl
  | z :: zs, h => by
    rw [List.map_cons, List.sum_cons, sum_one fun y hy => h y (List.mem_cons_of_mem _ hy), h z List.mem_cons_self, List.length_cons]
    omega
theorem join_le (a : Str) (zs : List Str) : (Txt.join a zs).length ≤ (zs.map (·.length)).sum + zs.length * a.length := by
  unfold Txt.join
  rw [StrLaws.glued_eq_join]
  exact StrLaws.join_length_le a zs
theorem sum_le {k : Nat} : ∀ {zs : List Str}, (∀ z ∈ zs, z.length ≤ k) → (zs.map (·.length)).sum ≤ zs.length * k
  | [], _ => by simp
  | z :: zs, h => by
    rw [List.map_cons, List.sum_cons, List.length_cons, Nat.succ_mul]
    have h1 := sum_le fun y hy => h y (List.mem_cons_of_mem z hy)
    have h2 := h z List.mem_cons_self
    omega
theorem cut_hi (F : Str) {r : Int} (h0 : 0 ≤ r) : (cutS F none (some r)).length = min r.toNat F.length := by
  obtain ⟨j, rfl⟩ := Int.eq_ofNat_of_zero_le h0
  have el : F.cps.toList.length = F.length := by simp [Str.length]
  unfold cutS
  rw [HT.sIx_none, HT.sIx_nat]
  simp [Str.length]
theorem cut_lo (F : Str) {r : Int} (h0 : 0 ≤ r) : (cutS F (some r) none).length = F.length - r.toNat := by
  obtain ⟨j, rfl⟩ := Int.eq_ofNat_of_zero_le h0
  have el : F.cps.toList.length = F.length := by simp [Str.length]
  unfold cutS
  rw [HT.sIx_none, HT.sIx_nat]
  simp [Str.length]
  omega
theorem spec_Ldrawn : ∀ as q, as.length = 1 → S_Ldrawn as q → d_Ldrawn (endsD as q) (nxD as q) (initD 7 as) := fun as q _ ⟨m, p, hp, hm, e, hq⟩ => by
  subst e
  have big : (1000 : Nat) ≤ sizeLine := by decide
  unfold d_Ldrawn
  walk_at "dl"
  refine ⟨by simp, by decide, by simp, m, p, _, _, hp, by omega, rfl, rfl, by simp, by simp, fun x p1 hx hp1 => ?_⟩
  obtain ⟨n, rfl, n0, n1⟩ : ∃ n : Int, x = .int n ∧ 0 ≤ n ∧ n ≤ 5 := by
    simp only [List.mem_cons, List.not_mem_nil, or_false] at hx
    rcases hx with rfl | rfl | rfl | rfl | rfl | rfl | rfl | rfl | rfl | rfl <;> exact ⟨_, rfl, by omega, by omega⟩
  walk_at "dl"
  refine ⟨⟨by omega, by omega⟩, ?_⟩
  refine loop_inv (fun items δ => ∃ (p' : List PyData) (zs : List Str) (c2 c3 : Option Sl), δ = [some (.own (some 0) p'), some (.own none (zs.map PyData.str)), c2, c3, none, none, none] ∧ Pot (m + 1 + 11 * zs.length) p' ∧ (∀ z ∈ zs, z.length ≤ 10) ∧ zs.length + items.length = n.toNat)
    (fun x xs δ h R hR => ?_) (fun δ h => ?_) _ _ ⟨p1, [], _, _, rfl, hp1, by simp, by rw [rangeD_length]; simp⟩
  · obtain ⟨p', zs, c2, c3, rfl, hp', hz, hn⟩ := h
    rw [List.length_cons] at hn
    walk_at "dl"
    refine ⟨by decide, by simp, _, p', _, _, hp', by omega, rfl, rfl, by simp, by simp, fun x2 p2 hx2 hp2 => ?_⟩
    obtain ⟨n2, rfl, n20, n21⟩ : ∃ n : Int, x2 = .int n ∧ 0 ≤ n ∧ n ≤ 10 := by
      simp only [List.mem_cons, List.not_mem_nil, or_false] at hx2
      rcases hx2 with rfl | rfl | rfl | rfl | rfl | rfl | rfl | rfl | rfl | rfl | rfl <;> exact ⟨_, rfl, by omega, by omega⟩
    walk_at "dl"
    refine ⟨⟨by omega, by omega⟩, by rw [rangeD_length]; omega, ?_⟩
    refine lc_inv (fun items acc δ => ∃ (p' : List PyData) (ws : List Str), δ = [some (.own (some 0) p'), some (.own none (zs.map PyData.str)), some (.d x), some (.d (.int n2)), none, none, none] ∧ Pot (m + 1 + 11 * zs.length + 1 + ws.length) p' ∧ acc = ws.map PyData.str ∧ (∀ z ∈ ws, z.length = 1) ∧ ws.length + items.length = n2.toNat)
      (fun x xs acc δ h R2 hR2 => ?_) (fun acc δ h => ?_) _ _ _ ⟨p2, [], rfl, hp2, rfl, by simp, by rw [rangeD_length]; simp⟩
    · obtain ⟨p3, ws, rfl, hp3, rfl, hw, hn3⟩ := h
      rw [List.length_cons] at hn3
      walk_at "dl"
      refine ⟨by simp, _, p3, .str (Str.ofString "abcmnyz"), _, hp3, by omega, rfl, rfl, by decide, by rw [List.length_map]; decide, fun y p4 hy hp4 => ?_⟩
      obtain ⟨c, _, rfl⟩ := List.mem_map.mp hy
      walk_at "dl"
      refine hR2 _ _ ⟨p4, ws ++ [⟨#[c]⟩], rfl, by rw [List.length_append]; exact hp4, by simp, fun z hz' => ?_, by rw [List.length_append]; simp; omega⟩
      rcases List.mem_append.mp hz' with h | h
      · exact hw z h
      · rw [List.mem_singleton.mp h]; rfl
    · obtain ⟨p3, ws, rfl, hp3, rfl, hw, hn3⟩ := h
      rw [List.length_nil, Nat.add_zero] at hn3
      have e0 : (Str.ofString "").length = 0 := rfl
      have hjl : (Txt.join (Str.ofString "") ws).length ≤ 10 := by
        have := join_le (Str.ofString "") ws
        rw [e0, sum_one hw] at this; omega
      walk_at "dl"
      rw [strs_map]
      walk_at "dl"
      refine ⟨by rw [sum_one hw, e0]; omega, by rw [List.length_map]; omega, ?_⟩
      refine hR _ ⟨p3, zs ++ [Txt.join (Str.ofString "") ws], _, _, by rw [List.map_append]; rfl, hp3.mono (by rw [List.length_append]; simp; omega), fun z hz' => ?_, by rw [List.length_append]; simp; omega⟩
      rcases List.mem_append.mp hz' with h | h
      · exact hz z h
      · rw [List.mem_singleton.mp h]; exact hjl
  · obtain ⟨p', zs, c2, c3, rfl, hp', hz, hn⟩ := h
    rw [List.length_nil, Nat.add_zero] at hn
    have hsum := sum_le hz
    walk_at "dl"
    refine ⟨by decide, by simp, _, p', _, _, hp', by omega, rfl, rfl, by simp, by simp, fun y p2 hy hp2 => ?_⟩
    obtain ⟨a, rfl, ha⟩ : ∃ a : Str, y = .str a ∧ a.length ≤ 2 := by
      simp only [List.mem_cons, List.not_mem_nil, or_false] at hy
      rcases hy with rfl | rfl | rfl | rfl | rfl | rfl | rfl | rfl | rfl <;> exact ⟨_, rfl, by decide⟩
    have hmul : zs.length * a.length ≤ 5 * 2 := Nat.mul_le_mul (by omega) ha
    have hjl : (Txt.join a zs).length ≤ 60 := by
      have := join_le a zs
      omega
    walk_at "dl"
    rw [strs_map]
    walk_at "dl"
    refine ⟨by omega, ?_⟩
    generalize Txt.join a zs = F at hjl
    have hF : F.length ≤ sizeLine := by omega
    refine ⟨by simp, _, p2, 3, hp2, by omega, by decide, by decide, rfl, fun r4 p4 h40 h41 hp4 => ?_⟩
    walk_at "dl"
    refine boxIf_of (fun h => ?_) (fun h => ?_)
    · walk_at "dl"
      exact hq F p4 (by omega) (hp4.mono (by omega))
    · walk_at "dl"
      refine ⟨hF, by simp, _, p4, F.length + 1, hp4, by omega, by omega, by omega, rfl, fun r5 p5 h50 h51 hp5 => ?_⟩
      walk_at "dl"
      refine ⟨hF, by decide, by simp, _, p5, _, _, hp5, by omega, rfl, rfl, by simp, by simp, fun x p6 hx hp6 => ?_⟩
      obtain ⟨y, rfl, hy⟩ : ∃ y : Str, x = .str y ∧ y.length ≤ 1 := by
        simp only [List.mem_cons, List.not_mem_nil, or_false] at hx
        rcases hx with rfl | rfl | rfl | rfl | rfl | rfl | rfl | rfl | rfl | rfl | rfl | rfl <;> exact ⟨_, rfl, by decide⟩
      walk_at "dl"
      have l1 := cut_hi F h50
      have l2 := cut_lo F (show 0 ≤ r5 + 1 by omega)
      have l3 := app_len (cutS F none (some r5)) y
      have l4 := app_len (cutS F none (some r5) ++ y) (cutS F (some (r5 + 1)) none)
      exact ⟨by omega, hF, by omega, hq _ p6 (by omega) (hp6.mono (by omega))⟩

theorem w_Ldrawn (T : Tx K mg) (cdv : Value) (A : Around) (outer : List Env) (s : Shared) (H : Hp) (E : XK) (gd : A.guards = some []) (hr : Room 2 (A.deeper (envOfC "_law_drawn" (defScope s_Ldrawn) s.heap.objs.size T.f_Ldrawn cdv))) :
    XSs (cxOf CX0 P w K mg base N_Ldrawn "_law_drawn" (defScope s_Ldrawn) T.f_Ldrawn cdv A outer s H E).nox (defBody s_Ldrawn) d_Ldrawn :=
  (sC (sSet 1 sc_Ldrawn.nd (xLst an))
    (sC (sFor it_rng1 tg_name PassesOwn.never rfl (pi_range1 rfl T.n_range (ac (xCall [true, false] (ok_Lof T) S_Lof_len gd (hr.mono (by decide)) rfl T.g_Lof T.F_Lof.kp T.b_Lof (ac (xv 0) (ac (xLst (ac xi (ac xi (ac xi (ac xi (ac xi (ac xi (ac xi (ac xi (ac xi (ac xi an))))))))))) an))) an)) (pg_name (i := 2) sc_Ldrawn.nd rfl (by first | exact Or.inl rfl | exact Or.inr rfl)) (sC (sSet 3 sc_Ldrawn.nd (xCall [true, false] (ok_Lof T) S_Lof_len gd (hr.mono (by decide)) rfl T.g_Lof T.F_Lof.kp T.b_Lof (ac (xv 0) (ac (xLst (ac xi (ac xi (ac xi (ac xi (ac xi (ac xi (ac xi (ac xi (ac xi (ac xi (ac xi an)))))))))))) an))))
    (s1 (pApp 1 (xJoin xs (xLc (own := [("_law_turn_here", 6)]) rfl sc_Ldrawn.nd it_rng1 tg_name (by decide) lt_yes (pi_range1 rfl T.n_range (ac (xv 3) an)) (blkOk_by (own := [("_law_turn_here", 6)]) (N := N_Ldrawn) (sc := defScope s_Ldrawn) (by decide +kernel)) (fun _ _ _ _ _ => (pg_name (i := 6) sc_Ldrawn.nd rfl (by first | exact Or.inl rfl | exact Or.inr rfl))) (fun _ _ _ _ _ => pts_nil) (fun _ _ _ _ _ => (xCall [true, false] (ok_Lof T) S_Lof_len gd (hr.mono (by decide)) rfl T.g_Lof T.F_Lof.kp T.b_Lof (ac (xv 0) (ac xs an))))) (pe_join xs (xLc (own := [("_law_turn_here", 6)]) rfl sc_Ldrawn.nd it_rng1 tg_name (by decide) lt_yes (pi_range1 rfl T.n_range (ac (xv 3) an)) (blkOk_by (own := [("_law_turn_here", 6)]) (N := N_Ldrawn) (sc := defScope s_Ldrawn) (by decide +kernel)) (fun _ _ _ _ _ => (pg_name (i := 6) sc_Ldrawn.nd rfl (by first | exact Or.inl rfl | exact Or.inr rfl))) (fun _ _ _ _ _ => pts_nil) (fun _ _ _ _ _ => (xCall [true, false] (ok_Lof T) S_Lof_len gd (hr.mono (by decide)) rfl T.g_Lof T.F_Lof.kp T.b_Lof (ac (xv 0) (ac xs an)))))))))))
    (sC (sSet 4 sc_Ldrawn.nd (xJoin (xCall [true, false] (ok_Lof T) S_Lof_len gd (hr.mono (by decide)) rfl T.g_Lof T.F_Lof.kp T.b_Lof (ac (xv 0) (ac (xLst (ac xs (ac xs (ac xs (ac xs (ac xs (ac xs (ac xs (ac xs (ac xs an)))))))))) an))) (xv 1) (pe_join (xCall [true, false] (ok_Lof T) S_Lof_len gd (hr.mono (by decide)) rfl T.g_Lof T.F_Lof.kp T.b_Lof (ac (xv 0) (ac (xLst (ac xs (ac xs (ac xs (ac xs (ac xs (ac xs (ac xs (ac xs (ac xs an)))))))))) an))) (xv 1))))
    (sC (sIf (tGt (xCall [true, false] (ok_Ltake T) S_Ltake_len gd (hr.mono (by decide)) rfl T.g_Ltake T.F_Ltake.kp T.b_Ltake (ac (xv 0) (ac xi an))) xi) (s1 (sRet (xv 4))) sN)
    (sC (sSet 5 sc_Ldrawn.nd (xCall [true, false] (ok_Ltake T) S_Ltake_len gd (hr.mono (by decide)) rfl T.g_Ltake T.F_Ltake.kp T.b_Ltake (ac (xv 0) (ac (xAdd (xCB call_len cb_len rfl T.n_len (by decide +kernel) (ac (xv 4) an)) xi) an))))
    (s1 (sRet (xAdd (xAdd (xSl (xv 4) oN (oS (xv 5))) (xCall [true, false] (ok_Lof T) S_Lof_len gd (hr.mono (by decide)) rfl T.g_Lof T.F_Lof.kp T.b_Lof (ac (xv 0) (ac (xLst (ac xs (ac xs (ac xs (ac xs (ac xs (ac xs (ac xs (ac xs (ac xs (ac xs (ac xs (ac xs an))))))))))))) an)))) (xSl (xv 4) (oS (xAdd (xv 5) xi)) oN)))))))))
theorem ok_Ldrawn (T : Tx K mg) : FnG P w K mg base CX0 3 T.f_Ldrawn T.fd_Ldrawn ["_law_pot_here"] (spD K 1 S_Ldrawn) := fnD T.F_Ldrawn sc_Ldrawn (by decide) (fun cdv A outer s H E gd hr => w_Ldrawn T cdv A outer s H E gd hr) spec_Ldrawn

abbrev S_law := sLawD
theorem S_law_len : ∀ as q, S_law as q → as.length = 1 := fun as q ⟨_, _, e, _⟩ => by rw [e]; rfl
def d_law : DS := (dSeq (dAsg 1 (dLst (dCons (dC .none) (dCons (dC (.bool true)) (dCons (dC (.int 0)) (dCons (dC (.int 7)) (dCons (dTup dNil) (dCons (dLst dNil) (dCons dDic0 (dCons (dTup (dCons (dC (.str "a")) dNil)) (dCons (dLst (dCons (dC (.str "a")) dNil)) (dCons (dC (.str "")) (dCons (dC (.str "/")) (dCons (dC (.str "a/")) (dCons (dC (.str "/a")) (dCons (dC (.str "a//b")) (dCons (dC (.str "a/b/c/d")) (dCons (dC (.str "a/b/c/d/e")) dNil))))))))))))))))))
    (dSeq (dAsg 1 (dOp gAdd (dVar 1) (dLst (dCons (dC (.str "abcdefgh")) (dCons (dC (.str "abcdefghi")) (dCons (dC (.str "a/abcdefgh/a")) dNil))))))
    (dSeq (dFor (dSeqI (dVar 1)) (dgName 2) (dIfS (dNot (dTru (dCall [false] S_Lis_right (dCons (dVar 2) dNil)))) (dRet (dC (.bool false))) dNext))
    (dSeq (dFor (dRng1 (dCons (dCB gMax2 (dCons (dC (.int 2)) (dCons (dCB gMin2 (dCons (dC (.int 3)) (dCons (dCB gLen (dCons (dVar 0) dNil)) dNil))) dNil))) dNil)) (dgName 3) (dSeq (dAsg 4 (dCall [false, false] S_Lpot (dCons (dVar 0) (dCons (dVar 3) dNil))))
    (dFor (dRng1 (dCons (dC (.int 8)) dNil)) (dgName 5) (dSeq (dAsg 6 (dCall [true] S_Ldrawn (dCons (dVar 4) dNil)))
    (dFor (dSeqI (dTup (dCons (dVar 6) (dCons (dOp gAdd (dVar 6) (dC (.str "/"))) (dCons (dTup (dCons (dVar 6) dNil)) (dCons (dUpper (dVar 6)) dNil)))))) (dgName 2) (dIfS (dNot (dTru (dCall [false] S_Lis_right (dCons (dVar 2) dNil)))) (dRet (dC (.bool false))) dNext))))))
    (dRet (dC (.bool true)))))))

theorem spec_law : ∀ as q, as.length = 1 → S_law as q → d_law (endsD as q) (nxD as q) (initD 7 as) := fun as q _ ⟨ns, hn, e, hq⟩ => by
  subst e
  have big : (1000 : Nat) ≤ sizeLine := by decide
  unfold d_law
  walk_at "dl"
  refine ⟨by omega, by omega, by omega, by omega, by omega, by omega, by omega, ?_⟩
  refine loop_inv (fun xs δ => (∀ x ∈ xs, ∀ z, x = PyData.str z → z.length ≤ 50000) ∧ ∃ s1 c, δ = [some (.scr ns), s1, c, none, none, none, none]) (fun x xs δ h R hR => ?_) (fun δ h => ?_) _ _ ⟨?_, _, _, rfl⟩
  · obtain ⟨h0, s1, c, rfl⟩ := h
    walk_at "dl"
    refine ⟨by simp, x, h0 x List.mem_cons_self, rfl, ?_⟩
    walk_at "dl"
    exact hR _ ⟨fun y hy => h0 y (List.mem_cons_of_mem _ hy), _, _, rfl⟩
  · obtain ⟨_, s1, c, rfl⟩ := h
    walk_at "dl"
    generalize hN : (if (if ((List.map PyData.int ns).length : Int) < 3 then ((List.map PyData.int ns).length : Int) else 3) > 2 then if ((List.map PyData.int ns).length : Int) < 3 then ((List.map PyData.int ns).length : Int) else 3 else 2) = N
    have hN2 : N = 2 ∨ N = 3 := by
      rw [← hN]
      split <;> split at * <;> omega
    refine ⟨⟨by omega, by omega⟩, ?_⟩
    refine loop_inv (fun xs δ => (∀ x ∈ xs, ∃ k : Nat, k < 10 ∧ x = PyData.int k) ∧ ∃ s1 c2 c3 c4 c5 c6, δ = [some (.scr ns), s1, c2, c3, c4, c5, c6]) (fun x xs δ h R hR => ?_) (fun δ h => ?_) _ _ ⟨?_, _, _, _, _, _, _, rfl⟩
    · obtain ⟨h0, s1, c2, c3, c4, c5, c6, rfl⟩ := h
      obtain ⟨k, hk, rfl⟩ := h0 x List.mem_cons_self
      walk_at "dl"
      refine ⟨by simp, ns, k, by omega, hn, rfl, fun p hp => ?_⟩
      walk_at "dl"
      refine ⟨⟨by decide, by decide⟩, ?_⟩
      refine loop_inv (fun ys δ => ys.length ≤ 8 ∧ ∃ s1 c2 c5 c6 p', Pot (70 * (8 - ys.length)) p' ∧ δ = [some (.scr ns), s1, c2, some (.d (.int k)), some (.own none p'), c5, c6]) (fun y ys δ h R2 hR2 => ?_) (fun δ h => ?_) _ _ ⟨?_, _, _, _, _, p, ?_, rfl⟩
      · obtain ⟨hy, s1, c2, c5, c6, p', hp', rfl⟩ := h
        rw [List.length_cons] at hy hp'
        walk_at "dl"
        refine ⟨by simp, _, p', hp', by omega, rfl, fun z p2 hz hp2 => ?_⟩
        have e1 : (z ++ Str.ofString "/").length = z.length + 1 := app_len z _
        have e2 := PyProof.Rows.len_upper z
        walk_at "dl"
        refine ⟨by rw [show (Str.ofString "/").length = 1 from rfl]; omega, by omega, by omega, by omega, ?_⟩
        refine loop_inv (fun vs δ => (∀ x ∈ vs, ∀ z, x = PyData.str z → z.length ≤ 50000) ∧ ∃ s1 c2 c5 c6, δ = [some (.scr ns), s1, c2, some (.d (.int k)), some (.own none p2), c5, c6]) (fun v vs δ h R3 hR3 => ?_) (fun δ h => ?_) _ _ ⟨?_, _, _, _, _, rfl⟩
        · obtain ⟨h0, s1, c2, c5, c6, rfl⟩ := h
          walk_at "dl"
          refine ⟨by simp, v, h0 v List.mem_cons_self, rfl, ?_⟩
          walk_at "dl"
          exact hR3 _ ⟨fun y hy => h0 y (List.mem_cons_of_mem _ hy), _, _, _, _, rfl⟩
        · obtain ⟨_, s1, c2, c5, c6, rfl⟩ := h
          exact hR2 _ ⟨by omega, _, _, _, _, p2, hp2.mono (by omega), rfl⟩
        · intro x hx z' hz'
          subst hz'
          simp only [List.mem_cons, List.not_mem_nil, or_false, reduceCtorEq, false_or, PyData.str.injEq] at hx
          rcases hx with rfl | rfl | rfl <;> omega
      · obtain ⟨_, s1, c2, c5, c6, p', hp', rfl⟩ := h
        exact hR _ ⟨fun y hy => h0 y (List.mem_cons_of_mem _ hy), _, _, _, _, _, _, rfl⟩
      · rw [rangeD_length]; decide
      · rw [rangeD_length]; exact hp.mono (by decide)
    · obtain ⟨_, s1, c2, c3, c4, c5, c6, rfl⟩ := h
      walk_at "dl"
      exact hq
    · intro x hx
      unfold rangeD at hx
      obtain ⟨i, hi, rfl⟩ := List.mem_map.mp hx
      rw [List.mem_range] at hi
      exact ⟨i, by omega, by simp⟩
  · intro x hx z hz
    subst hz
    simp only [List.cons_append, List.nil_append, List.mem_cons, List.not_mem_nil, or_false, reduceCtorEq, false_or, PyData.str.injEq] at hx
    rcases hx with rfl | rfl | rfl | rfl | rfl | rfl | rfl | rfl | rfl | rfl <;> decide

theorem w_law (T : Tx K mg) (cdv : Value) (A : Around) (outer : List Env) (s : Shared) (H : Hp) (E : XK) (gd : A.guards = some []) (hr : Room 3 (A.deeper (envOfC "law" (defScope s_law) s.heap.objs.size T.f_law cdv))) :
    XSs (cxOf CX0 P w K mg base N_law "law" (defScope s_law) T.f_law cdv A outer s H E).nox (defBody s_law) d_law :=
  (sC (sSet 1 sc_law.nd (xLst (ac xn (ac xb (ac xi (ac xi (ac (xTup an) (ac (xLst an) (ac xDic0 (ac (xTup (ac xs an)) (ac (xLst (ac xs an)) (ac xs (ac xs (ac xs (ac xs (ac xs (ac xs (ac xs an))))))))))))))))))
    (sC (sSet 1 sc_law.nd (xAdd (xv 1) (xLst (ac xs (ac xs (ac xs an))))))
    (sC (sFor it_seq tg_name PassesOwn.never rfl (pi_seq (xv 1)) (pg_name (i := 2) sc_law.nd rfl (by first | exact Or.inl rfl | exact Or.inr rfl)) (s1 (sIf (tNot' (tTru (xCall [false] (ok_Lis_right T) S_Lis_right_len gd (hr.mono (by decide)) rfl T.g_Lis_right T.F_Lis_right.kp T.b_Lis_right (ac (xv 2) an)))) (s1 (sRet xb)) sN)))
    (sC (sFor it_rng1 tg_name PassesOwn.never rfl (pi_range1 rfl T.n_range (ac (xCB (call_max2 rfl) cb_2I rfl T.n_max (by decide +kernel) (ac xi (ac (xCB (call_min2 rfl) cb_2I rfl T.n_min (by decide +kernel) (ac xi (ac (xCB call_len cb_len rfl T.n_len (by decide +kernel) (ac (xv 0) an)) an))) an))) an)) (pg_name (i := 3) sc_law.nd rfl (by first | exact Or.inl rfl | exact Or.inr rfl)) (sC (sSet 4 sc_law.nd (xCall [false, false] (ok_Lpot T) S_Lpot_len gd (hr.mono (by decide)) rfl T.g_Lpot T.F_Lpot.kp T.b_Lpot (ac (xv 0) (ac (xv 3) an))))
    (s1 (sFor it_rng1 tg_name PassesOwn.never rfl (pi_range1 rfl T.n_range (ac xi an)) (pg_name (i := 5) sc_law.nd rfl (by first | exact Or.inl rfl | exact Or.inr rfl)) (sC (sSet 6 sc_law.nd (xCall [true] (ok_Ldrawn T) S_Ldrawn_len gd (hr.mono (by decide)) rfl T.g_Ldrawn T.F_Ldrawn.kp T.b_Ldrawn (ac (xv 4) an)))
    (s1 (sFor it_seq tg_name PassesOwn.never rfl (pi_seq (xTup (ac (xv 6) (ac (xAdd (xv 6) xs) (ac (xTup (ac (xv 6) an)) (ac (xUpper (xv 6) (pe_upper (xv 6))) an)))))) (pg_name (i := 2) sc_law.nd rfl (by first | exact Or.inl rfl | exact Or.inr rfl)) (s1 (sIf (tNot' (tTru (xCall [false] (ok_Lis_right T) S_Lis_right_len gd (hr.mono (by decide)) rfl T.g_Lis_right T.F_Lis_right.kp T.b_Lis_right (ac (xv 2) an)))) (s1 (sRet xb)) sN)))))))))
    (s1 (sRet xb))))))
theorem ok_law (T : Tx K mg) : FnG P w K mg base CX0 4 T.f_law T.fd_law ["_law_script"] (spD K 1 S_law) := fnD T.F_law sc_law (by decide) (fun cdv A outer s H E gd hr => w_law T cdv A outer s H E gd hr) spec_law

end
end My
namespace My
open PySem PySem.Spec PyProof.Rows L2 DL
theorem all_mk {l : PySem.W.OpenLaw} {w : World} {K : Frag} {h : Heap} {mg : Str → Option Value} {fa : Addr} (X : K.In h) (G : h.Ns mainGlobals mg) (hfa : mg "law" = some (.ref fa))
    {od1 an1 : Option Addr} {sl1 : Array (Option Value)} {oc1 kV1 dc1 pm1 cd1 ct1 : Value} {f1 : Addr} (a1 : PySem.W.nsIn K mainGlobals "_law_pot" = some (some (.ref f1))) (l1 : K.lookup f1 = some ⟨oc1, od1, .func (PySem.W.fnOf "_law_pot" "_law_pot" (defArgs s_Lpot) (defBody s_Lpot) (defScope s_Lpot) .none kV1 dc1 pm1 an1 cd1 ct1), sl1⟩) (c1 : PySem.W.codeIn K cd1 "_law_pot" = true) (k1 : PySem.W.keepIn K (.ref f1) = true)
    {od2 an2 : Option Addr} {sl2 : Array (Option Value)} {oc2 kV2 dc2 pm2 cd2 ct2 : Value} {f2 : Addr} (a2 : PySem.W.nsIn K mainGlobals "is_word" = some (some (.ref f2))) (l2 : K.lookup f2 = some ⟨oc2, od2, .func (PySem.W.fnOf "is_word" "is_word" (defArgs s_is_word) (defBody s_is_word) (defScope s_is_word) .none kV2 dc2 pm2 an2 cd2 ct2), sl2⟩) (c2 : PySem.W.codeIn K cd2 "is_word" = true) (k2 : PySem.W.keepIn K (.ref f2) = true)
    {od3 an3 : Option Addr} {sl3 : Array (Option Value)} {oc3 kV3 dc3 pm3 cd3 ct3 : Value} {f3 : Addr} (a3 : PySem.W.nsIn K mainGlobals "is_path" = some (some (.ref f3))) (l3 : K.lookup f3 = some ⟨oc3, od3, .func (PySem.W.fnOf "is_path" "is_path" (defArgs s_is_path) (defBody s_is_path) (defScope s_is_path) .none kV3 dc3 pm3 an3 cd3 ct3), sl3⟩) (c3 : PySem.W.codeIn K cd3 "is_path" = true) (k3 : PySem.W.keepIn K (.ref f3) = true)
    {od4 an4 : Option Addr} {sl4 : Array (Option Value)} {oc4 kV4 dc4 pm4 cd4 ct4 : Value} {f4 : Addr} (a4 : PySem.W.nsIn K mainGlobals "_law_due" = some (some (.ref f4))) (l4 : K.lookup f4 = some ⟨oc4, od4, .func (PySem.W.fnOf "_law_due" "_law_due" (defArgs s_Ldue) (defBody s_Ldue) (defScope s_Ldue) .none kV4 dc4 pm4 an4 cd4 ct4), sl4⟩) (c4 : PySem.W.codeIn K cd4 "_law_due" = true) (k4 : PySem.W.keepIn K (.ref f4) = true)
    {od5 an5 : Option Addr} {sl5 : Array (Option Value)} {oc5 kV5 dc5 pm5 cd5 ct5 : Value} {f5 : Addr} (a5 : PySem.W.nsIn K mainGlobals "_law_is_right" = some (some (.ref f5))) (l5 : K.lookup f5 = some ⟨oc5, od5, .func (PySem.W.fnOf "_law_is_right" "_law_is_right" (defArgs s_Lis_right) (defBody s_Lis_right) (defScope s_Lis_right) .none kV5 dc5 pm5 an5 cd5 ct5), sl5⟩) (c5 : PySem.W.codeIn K cd5 "_law_is_right" = true) (k5 : PySem.W.keepIn K (.ref f5) = true)
    {od6 an6 : Option Addr} {sl6 : Array (Option Value)} {oc6 kV6 dc6 pm6 cd6 ct6 : Value} {f6 : Addr} (a6 : PySem.W.nsIn K mainGlobals "_law_take" = some (some (.ref f6))) (l6 : K.lookup f6 = some ⟨oc6, od6, .func (PySem.W.fnOf "_law_take" "_law_take" (defArgs s_Ltake) (defBody s_Ltake) (defScope s_Ltake) .none kV6 dc6 pm6 an6 cd6 ct6), sl6⟩) (c6 : PySem.W.codeIn K cd6 "_law_take" = true) (k6 : PySem.W.keepIn K (.ref f6) = true)
    {od7 an7 : Option Addr} {sl7 : Array (Option Value)} {oc7 kV7 dc7 pm7 cd7 ct7 : Value} {f7 : Addr} (a7 : PySem.W.nsIn K mainGlobals "_law_of" = some (some (.ref f7))) (l7 : K.lookup f7 = some ⟨oc7, od7, .func (PySem.W.fnOf "_law_of" "_law_of" (defArgs s_Lof) (defBody s_Lof) (defScope s_Lof) .none kV7 dc7 pm7 an7 cd7 ct7), sl7⟩) (c7 : PySem.W.codeIn K cd7 "_law_of" = true) (k7 : PySem.W.keepIn K (.ref f7) = true)
    {od8 an8 : Option Addr} {sl8 : Array (Option Value)} {oc8 kV8 dc8 pm8 cd8 ct8 : Value} {f8 : Addr} (a8 : PySem.W.nsIn K mainGlobals "_law_drawn" = some (some (.ref f8))) (l8 : K.lookup f8 = some ⟨oc8, od8, .func (PySem.W.fnOf "_law_drawn" "_law_drawn" (defArgs s_Ldrawn) (defBody s_Ldrawn) (defScope s_Ldrawn) .none kV8 dc8 pm8 an8 cd8 ct8), sl8⟩) (c8 : PySem.W.codeIn K cd8 "_law_drawn" = true) (k8 : PySem.W.keepIn K (.ref f8) = true)
    {od9 an9 : Option Addr} {sl9 : Array (Option Value)} {oc9 kV9 dc9 pm9 cd9 ct9 : Value} {f9 : Addr} (a9 : PySem.W.nsIn K mainGlobals "law" = some (some (.ref f9))) (l9 : K.lookup f9 = some ⟨oc9, od9, .func (PySem.W.fnOf "law" "law" (defArgs s_law) (defBody s_law) (defScope s_law) .none kV9 dc9 pm9 an9 cd9 ct9), sl9⟩) (c9 : PySem.W.codeIn K cd9 "law" = true) (k9 : PySem.W.keepIn K (.ref f9) = true)
    (z_abs : PySem.W.nsIn K mainGlobals "abs" = some none)
    (z_all : PySem.W.nsIn K mainGlobals "all" = some none)
    (z_bool : PySem.W.nsIn K mainGlobals "bool" = some none)
    (z_int : PySem.W.nsIn K mainGlobals "int" = some none)
    (z_isinstance : PySem.W.nsIn K mainGlobals "isinstance" = some none)
    (z_len : PySem.W.nsIn K mainGlobals "len" = some none)
    (z_max : PySem.W.nsIn K mainGlobals "max" = some none)
    (z_min : PySem.W.nsIn K mainGlobals "min" = some none)
    (z_range : PySem.W.nsIn K mainGlobals "range" = some none)
    (z_str : PySem.W.nsIn K mainGlobals "str" = some none)
    {tk_LETTERS : Tok} (y_LETTERS : PySem.W.nsIn K mainGlobals "LETTERS" = some (some (.str "abcdefghijklmnopqrstuvwxyz" tk_LETTERS)))
    {tk_LONGEST_WORD : Tok} (y_LONGEST_WORD : PySem.W.nsIn K mainGlobals "LONGEST_WORD" = some (some (.int 8 tk_LONGEST_WORD)))
    {tk_MOST_WORDS : Tok} (y_MOST_WORDS : PySem.W.nsIn K mainGlobals "MOST_WORDS" = some (some (.int 4 tk_MOST_WORDS)))
    {tk_SLASH : Tok} (y_SLASH : PySem.W.nsIn K mainGlobals "SLASH" = some (some (.str "/" tk_SLASH))) :
    ∃ fd : FuncData, (∀ (s : Shared) (v : Value), BindsTo s fd ⟨[v], []⟩ [("_law_script", v)]) ∧ ∀ base : Heap, K.In base → base.Ns mainGlobals mg → FnG l.prog w K mg base CX0 4 fa fd ["_law_script"] (spD K 1 sLawD) := by
  have e := hfa.symm.trans (PySem.W.mg_of X G a9)
  cases e
  let T : Tx K mg := ⟨f1, _, (fun_mk l1 c1 k1), (PySem.W.mg_of X G a1), ((fun_mk (st := s_Lpot) l1 c1 k1).binds (ps := ["_law_script", "_law_k"]) fun _ _ _ _ _ _ us hl => match us, hl with | [_, _], _ => rfl), f2, _, (fun_mk l2 c2 k2), (PySem.W.mg_of X G a2), ((fun_mk (st := s_is_word) l2 c2 k2).binds (ps := ["value"]) fun _ _ _ _ _ _ us hl => match us, hl with | [_], _ => rfl), f3, _, (fun_mk l3 c3 k3), (PySem.W.mg_of X G a3), ((fun_mk (st := s_is_path) l3 c3 k3).binds (ps := ["value"]) fun _ _ _ _ _ _ us hl => match us, hl with | [_], _ => rfl), f4, _, (fun_mk l4 c4 k4), (PySem.W.mg_of X G a4), ((fun_mk (st := s_Ldue) l4 c4 k4).binds (ps := ["_law_value"]) fun _ _ _ _ _ _ us hl => match us, hl with | [_], _ => rfl), f5, _, (fun_mk l5 c5 k5), (PySem.W.mg_of X G a5), ((fun_mk (st := s_Lis_right) l5 c5 k5).binds (ps := ["_law_value"]) fun _ _ _ _ _ _ us hl => match us, hl with | [_], _ => rfl), f6, _, (fun_mk l6 c6 k6), (PySem.W.mg_of X G a6), ((fun_mk (st := s_Ltake) l6 c6 k6).binds (ps := ["_law_pot_here", "_law_upto"]) fun _ _ _ _ _ _ us hl => match us, hl with | [_, _], _ => rfl), f7, _, (fun_mk l7 c7 k7), (PySem.W.mg_of X G a7), ((fun_mk (st := s_Lof) l7 c7 k7).binds (ps := ["_law_pot_here", "_law_some"]) fun _ _ _ _ _ _ us hl => match us, hl with | [_, _], _ => rfl), f8, _, (fun_mk l8 c8 k8), (PySem.W.mg_of X G a8), ((fun_mk (st := s_Ldrawn) l8 c8 k8).binds (ps := ["_law_pot_here"]) fun _ _ _ _ _ _ us hl => match us, hl with | [_], _ => rfl), fa, _, (fun_mk l9 c9 k9), (PySem.W.mg_of X G a9), ((fun_mk (st := s_law) l9 c9 k9).binds (ps := ["_law_script"]) fun _ _ _ _ _ _ us hl => match us, hl with | [_], _ => rfl), (PySem.W.mg_none_of X G z_abs), (PySem.W.mg_none_of X G z_all), (PySem.W.mg_none_of X G z_bool), (PySem.W.mg_none_of X G z_int), (PySem.W.mg_none_of X G z_isinstance), (PySem.W.mg_none_of X G z_len), (PySem.W.mg_none_of X G z_max), (PySem.W.mg_none_of X G z_min), (PySem.W.mg_none_of X G z_range), (PySem.W.mg_none_of X G z_str), ⟨_, PySem.W.mg_of X G y_LETTERS⟩, ⟨_, PySem.W.mg_of X G y_LONGEST_WORD⟩, ⟨_, PySem.W.mg_of X G y_MOST_WORDS⟩, ⟨_, PySem.W.mg_of X G y_SLASH⟩⟩
  exact ⟨PySem.W.fnOf "law" "law" (defArgs s_law) (defBody s_law) (defScope s_law) .none kV9 dc9 pm9 an9 cd9 ct9, fun s v => .of_eq rfl, fun base _ _ => ok_law T⟩
end My
open PySem PySem.W PyProof.Rows
set_option maxHeartbeats 0 in
theorem PySem.Challenge.cw_seenlines_k02_paths_holds : PySem.Challenge.rw_seenlines_k02_paths.Holds := by
  w_on; o_law; k_head; (case hw => w_witness2)
  k_fill
  refine DL.walk_ofG (l := PySem.Challenge.rw_seenlines_k02_paths) (k := 4) (x := "_law_script") rfl rfl ⟨rfl, by decide, by decide⟩ (fun w h Y => PySem.W.kIn_of Y) ?F
  case F =>
    intro w mg fa h KX G hmg
    refine' My.all_mk KX G hmg ?a1 ?l1 ?c1 ?k1 ?a2 ?l2 ?c2 ?k2 ?a3 ?l3 ?c3 ?k3 ?a4 ?l4 ?c4 ?k4 ?a5 ?l5 ?c5 ?k5 ?a6 ?l6 ?c6 ?k6 ?a7 ?l7 ?c7 ?k7 ?a8 ?l8 ?c8 ?k8 ?a9 ?l9 ?c9 ?k9 ?z_abs ?z_all ?z_bool ?z_int ?z_isinstance ?z_len ?z_max ?z_min ?z_range ?z_str ?y_LETTERS ?y_LONGEST_WORD ?y_MOST_WORDS ?y_SLASH
    (case a1 => k_is); (case l1 => k_is); (case c1 => k_is); (case k1 => k_is); (case a2 => k_is); (case l2 => k_is); (case c2 => k_is); (case k2 => k_is); (case a3 => k_is); (case l3 => k_is); (case c3 => k_is); (case k3 => k_is); (case a4 => k_is); (case l4 => k_is); (case c4 => k_is); (case k4 => k_is); (case a5 => k_is); (case l5 => k_is); (case c5 => k_is); (case k5 => k_is); (case a6 => k_is); (case l6 => k_is); (case c6 => k_is); (case k6 => k_is); (case a7 => k_is); (case l7 => k_is); (case c7 => k_is); (case k7 => k_is); (case a8 => k_is); (case l8 => k_is); (case c8 => k_is); (case k8 => k_is); (case a9 => k_is); (case l9 => k_is); (case c9 => k_is); (case k9 => k_is); (case z_abs => k_is); (case z_all => k_is); (case z_bool => k_is); (case z_int => k_is); (case z_isinstance => k_is); (case z_len => k_is); (case z_max => k_is); (case z_min => k_is); (case z_range => k_is); (case z_str => k_is); (case y_LETTERS => k_is); (case y_LONGEST_WORD => k_is); (case y_MOST_WORDS => k_is); (case y_SLASH => k_is)
