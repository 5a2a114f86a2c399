import PyProof.Rows.All
import HandS.ForMost
import HandS.ForExc
import HandS.Deep
import HandS.Zip
import HandS.Walk
import HandS.IsInst
import HandS.RaiseMore
import KE.Datum
import HandS.Wide
import HandS.WideBits
import HandS.SortInts
import HandS.StrMore
import HandS.FStr
import PyProof.StrOps2
import HandS.More
import PySem.Challenge.RW_onceswapped_k95_lists_changed_in_place
set_option Elab.async false
set_option linter.all false
set_option maxRecDepth 100000
set_option maxHeartbeats 4000000
/-! The data layer: slots hold data; owned lists and dicts stand apart. -/
namespace PD
open PySem PySem.Spec PyProof.Rows L2

abbrev D := PyData
abbrev St := L2.St

theorem seqT_mono {K : PySem.W.Frag} {H H' : Hp} {a : Addr} {xs : List V} (e : Same H H') (h : SqT K H a xs) : SqT K H' a xs := by
  rcases h with (h | ⟨o, h⟩) | h
  · exact .inl (.inl (e _ _ h))
  · exact .inl (.inr ⟨o, e _ _ h⟩)
  · exact .inr h

/-! ### data: lists are tracked (or locked), tuples may be written ones -/
mutual
inductive Dp (K : PySem.W.Frag) (H : Hp) : V → PyData → Prop
  | non : Dp K H .non .none
  | bl (b : Bool) : Dp K H (.bl b) (.bool b)
  | int (i : Int) : Dp K H (.int i) (.int i)
  | str (x : Str) : Dp K H (.str x) (.str x)
  | lst {a : Addr} {xs : List V} {ds : List PyData} : Rd H a (.lst xs) → DpAll K H xs ds → Dp K H (.ref a) (.list ds)
  | tup {a : Addr} {xs : List V} {ds : List PyData} : SqT K H a xs → DpAll K H xs ds → Dp K H (.ref a) (.tuple ds)
inductive DpAll (K : PySem.W.Frag) (H : Hp) : List V → List PyData → Prop
  | nil : DpAll K H [] []
  | cons {v : V} {vs : List V} {d : PyData} {ds : List PyData} : Dp K H v d → DpAll K H vs ds → DpAll K H (v :: vs) (d :: ds)
end
theorem rd_mono {H H' : Hp} {a : Addr} {u : HO} (e : Same H H') (h : Rd H a u) : Rd H' a u := by
  rcases h with h | ⟨o, h⟩
  · exact .inl (e _ _ h)
  · exact .inr ⟨o, e _ _ h⟩
mutual
theorem Dp.old {K : PySem.W.Frag} {F : Hp} : ∀ (d : D) (v : V), Dp K F v d → L2.Dp K F v d
  | .none, _, h => by cases h; exact .non
  | .bool b, _, h => by cases h; exact .bl b
  | .int i, _, h => by cases h; exact .int i
  | .str x, _, h => by cases h; exact .str x
  | .list ds, _, h => by
    cases h with
    | lst hs ha => exact .lst (.inl hs) (DpAll.old ds _ ha)
  | .tuple ds, _, h => by
    cases h with
    | tup hs ha => exact .tup hs (DpAll.old ds _ ha)
  | .dict _, _, h => by cases h
theorem DpAll.old {K : PySem.W.Frag} {F : Hp} : ∀ (ds : List D) (vs : List V), DpAll K F vs ds → L2.DpAll K F vs ds
  | [], _, h => by cases h; exact .nil
  | d :: ds, _, h => by
    cases h with
    | cons h1 h2 => exact .cons (Dp.old d _ h1) (DpAll.old ds _ h2)
end
mutual
theorem dp_mono {K : PySem.W.Frag} {F F' : Hp} (e : Same F F') : ∀ (d : D) (v : V), Dp K F v d → Dp K F' v d
  | .none, _, h => by cases h; exact .non
  | .bool b, _, h => by cases h; exact .bl b
  | .int i, _, h => by cases h; exact .int i
  | .str x, _, h => by cases h; exact .str x
  | .list ds, _, h => by
    cases h with
    | lst hs ha => exact .lst (rd_mono e hs) (dpAll_mono e ds _ ha)
  | .tuple ds, _, h => by
    cases h with
    | tup hs ha => exact .tup (seqT_mono e hs) (dpAll_mono e ds _ ha)
  | .dict _, _, h => by cases h
theorem dpAll_mono {K : PySem.W.Frag} {F F' : Hp} (e : Same F F') : ∀ (ds : List D) (vs : List V), DpAll K F vs ds → DpAll K F' vs ds
  | [], _, h => by cases h; exact .nil
  | d :: ds, _, h => by
    cases h with
    | cons h1 h2 => exact .cons (dp_mono e d _ h1) (dpAll_mono e ds _ h2)
end

/-! ### DpAll as lists -/
theorem dpa_len {K : PySem.W.Frag} {F : Hp} : ∀ {vs : List V} {ds : List D}, DpAll K F vs ds → vs.length = ds.length
  | _, _, .nil => rfl
  | _, _, .cons _ t => congrArg (· + 1) (dpa_len t)
theorem dpa_app {K : PySem.W.Frag} {F : Hp} : ∀ {vs ws : List V} {ds es : List D}, DpAll K F vs ds → DpAll K F ws es → DpAll K F (vs ++ ws) (ds ++ es)
  | _, _, _, _, .nil, h => h
  | _, _, _, _, .cons a t, h => .cons a (dpa_app t h)
theorem dpa_get {K : PySem.W.Frag} {F : Hp} : ∀ {vs : List V} {ds : List D} {i : Nat} {v : V}, DpAll K F vs ds → vs[i]? = some v → ∃ d, ds[i]? = some d ∧ Dp K F v d
  | _, _, _, _, .nil, e => by simp at e
  | _, _, 0, _, .cons a _, e => by simp at e; subst e; exact ⟨_, rfl, a⟩
  | _, _, i + 1, v, .cons _ t, e => by
    obtain ⟨d, h1, h2⟩ := dpa_get (i := i) (v := v) t (by simpa using e)
    exact ⟨d, by simpa using h1, h2⟩
theorem dpa_get' {K : PySem.W.Frag} {F : Hp} : ∀ {vs : List V} {ds : List D} {i : Nat} {d : D}, DpAll K F vs ds → ds[i]? = some d → ∃ v, vs[i]? = some v ∧ Dp K F v d
  | _, _, _, _, .nil, e => by simp at e
  | _, _, 0, _, .cons a _, e => by simp at e; subst e; exact ⟨_, rfl, a⟩
  | _, _, i + 1, d, .cons _ t, e => by
    obtain ⟨v, h1, h2⟩ := dpa_get' (i := i) (d := d) t (by simpa using e)
    exact ⟨v, by simpa using h1, h2⟩
theorem dpa_set {K : PySem.W.Frag} {F : Hp} {v : V} {d : D} (r : Dp K F v d) : ∀ {vs : List V} {ds : List D} (i : Nat), DpAll K F vs ds → DpAll K F (vs.set i v) (ds.set i d)
  | _, _, _, .nil => .nil
  | _, _, 0, .cons _ t => .cons r t
  | _, _, i + 1, .cons a t => .cons a (dpa_set r i t)
theorem dpa_take {K : PySem.W.Frag} {F : Hp} : ∀ {vs : List V} {ds : List D} (n : Nat), DpAll K F vs ds → DpAll K F (vs.take n) (ds.take n)
  | _, _, 0, _ => .nil
  | _, _, _ + 1, .nil => .nil
  | _, _, n + 1, .cons a t => .cons a (dpa_take n t)
theorem dpa_drop {K : PySem.W.Frag} {F : Hp} : ∀ {vs : List V} {ds : List D} (n : Nat), DpAll K F vs ds → DpAll K F (vs.drop n) (ds.drop n)
  | _, _, 0, h => h
  | _, _, _ + 1, .nil => .nil
  | _, _, n + 1, .cons _ t => dpa_drop n t
theorem dpa_erase {K : PySem.W.Frag} {F : Hp} : ∀ {vs : List V} {ds : List D} (i : Nat), DpAll K F vs ds → DpAll K F (vs.eraseIdx i) (ds.eraseIdx i)
  | _, _, _, .nil => .nil
  | _, _, 0, .cons _ t => t
  | _, _, i + 1, .cons a t => .cons a (dpa_erase i t)
theorem dpa_rev {K : PySem.W.Frag} {F : Hp} : ∀ {vs : List V} {ds : List D}, DpAll K F vs ds → DpAll K F vs.reverse ds.reverse
  | _, _, .nil => .nil
  | _, _, .cons a t => by
    rw [List.reverse_cons, List.reverse_cons]
    exact dpa_app (dpa_rev t) (.cons a .nil)
theorem dpa_ins {K : PySem.W.Frag} {F : Hp} {v : V} {d : D} (r : Dp K F v d) {vs : List V} {ds : List D} (i : Nat) (h : DpAll K F vs ds) : DpAll K F (vs.take i ++ v :: vs.drop i) (ds.take i ++ d :: ds.drop i) :=
  dpa_app (dpa_take i h) (.cons r (dpa_drop i h))
theorem dpa_rep {K : PySem.W.Frag} {F : Hp} {vs : List V} {ds : List D} (h : DpAll K F vs ds) : ∀ k : Nat, DpAll K F (List.replicate k vs).flatten (List.replicate k ds).flatten
  | 0 => .nil
  | k + 1 => by
    rw [List.replicate_succ, List.replicate_succ, List.flatten_cons, List.flatten_cons]
    exact dpa_app h (dpa_rep h k)

/-! ### what a dict's values are -/
inductive DpKv (K : PySem.W.Frag) (F : Hp) {κ : Type} : List (κ × V) → List (κ × D) → Prop
  | nil : DpKv K F [] []
  | cons {k : κ} {v : V} {d : D} {r : List (κ × V)} {q : List (κ × D)} : Dp K F v d → DpKv K F r q → DpKv K F ((k, v) :: r) ((k, d) :: q)
theorem dkv_mono {K : PySem.W.Frag} {F F' : Hp} {κ : Type} (e : Same F F') : ∀ {r : List (κ × V)} {q : List (κ × D)}, DpKv K F r q → DpKv K F' r q
  | _, _, .nil => .nil
  | _, _, .cons a t => .cons (dp_mono e _ _ a) (dkv_mono e t)
theorem dkv_len {K : PySem.W.Frag} {F : Hp} {κ : Type} : ∀ {r : List (κ × V)} {q : List (κ × D)}, DpKv K F r q → r.length = q.length
  | _, _, .nil => rfl
  | _, _, .cons _ t => congrArg (· + 1) (dkv_len t)

/-! ### owned things -/
inductive Ow where
  | lst (xs : List D)
  | dk (kvs : List (Key × D))
  | dt (kvs : List (List Key × D))
  | src (ds : List Int) (m c : Int)
inductive Ent where
  | no | fz (d : D) | ow (p : Option Addr) (o : Ow) | rw (v : V) | sc (ns : List Int)
abbrev En := List Ent

def RepO (K : PySem.W.Frag) (F H : Hp) (v : V) (A : List Addr) : Ow → Prop
  | .lst xs => ∃ a vs, v = .ref a ∧ A = [a] ∧ H a = some (.lst vs) ∧ DpAll K F vs xs
  | .dk q => ∃ a r, v = .ref a ∧ A = [a] ∧ H a = some (.dK r) ∧ DpKv K F r q
  | .dt q => ∃ a r, v = .ref a ∧ A = [a] ∧ H a = some (.dT r) ∧ DpKv K F r q
  | .src ds m c => ∃ a b, v = .ref a ∧ A = [a, b] ∧ a ≠ b ∧ H a = some (.lst [.ref b, .int m, .int c]) ∧ H b = some (.lst (ds.map V.int))

theorem repO_keep {K : PySem.W.Frag} {F F' H H' : Hp} {v : V} {A : List Addr} {o : Ow} (r : RepO K F H v A o) (hF : Same F F') (hH : ∀ a ∈ A, H' a = H a) : RepO K F' H' v A o := by
  cases o with
  | lst xs =>
    obtain ⟨a, vs, rfl, rfl, e, d⟩ := r
    exact ⟨a, vs, rfl, rfl, (hH a (by simp)).trans e, dpAll_mono hF _ _ d⟩
  | dk q =>
    obtain ⟨a, vs, rfl, rfl, e, d⟩ := r
    exact ⟨a, vs, rfl, rfl, (hH a (by simp)).trans e, dkv_mono hF d⟩
  | dt q =>
    obtain ⟨a, vs, rfl, rfl, e, d⟩ := r
    exact ⟨a, vs, rfl, rfl, (hH a (by simp)).trans e, dkv_mono hF d⟩
  | src ds m c =>
    obtain ⟨a, b, rfl, rfl, ne, e1, e2⟩ := r
    exact ⟨a, b, rfl, rfl, ne, (hH a (by simp)).trans e1, (hH b (by simp)).trans e2⟩
theorem repO_there {K : PySem.W.Frag} {F H : Hp} {v : V} {A : List Addr} {o : Ow} (r : RepO K F H v A o) : ∀ a ∈ A, ∃ u, H a = some u := by
  cases o with
  | lst xs =>
    obtain ⟨a, vs, rfl, rfl, e, d⟩ := r
    intro b hb
    have : b = a := by simpa using hb
    subst this; exact ⟨_, e⟩
  | dk q =>
    obtain ⟨a, vs, rfl, rfl, e, d⟩ := r
    intro b hb
    have : b = a := by simpa using hb
    subst this; exact ⟨_, e⟩
  | dt q =>
    obtain ⟨a, vs, rfl, rfl, e, d⟩ := r
    intro b hb
    have : b = a := by simpa using hb
    subst this; exact ⟨_, e⟩
  | src ds m c =>
    obtain ⟨a, b, rfl, rfl, ne, e1, e2⟩ := r
    intro z hz
    rcases (by simpa using hz : z = a ∨ z = b) with rfl | rfl
    · exact ⟨_, e1⟩
    · exact ⟨_, e2⟩

abbrev Owner := Addr → Option Nat
def EntOk (K : PySem.W.Frag) (F H : Hp) (own : Owner) (i : Nat) (x : Option V) : Ent → Prop
  | .no => True
  | .fz d => ∃ v, x = some v ∧ Dp K F v d
  | .ow p o => ∃ v A, x = some v ∧ RepO K F H v A o ∧ (∀ a ∈ A, own a = some i) ∧ ∀ a, p = some a → v = .ref a
  | .rw v => x = some v
  | .sc ns => ∃ a, x = some (.ref a) ∧ SqL K F a (ns.map V.int)

structure Rel (K : PySem.W.Frag) (B F0 F : Hp) (en : En) (σ : St) (H : Hp) (own : Owner) : Prop where
  f0 : Same F0 F
  nw : ∀ a o, F a = some o → F0 a = some o ∨ B a = none
  fh : Same F H
  bh : Same B H
  od : ∀ a i, own a = some i → F a = none ∧ B a = none ∧ ∃ u, H a = some u
  len : en.length = σ.length
  at_ : ∀ i x e, σ[i]? = some x → en[i]? = some e → EntOk K F H own i x e

section
variable {K : PySem.W.Frag} {B F0 F H : Hp} {en : En} {σ : St} {own : Owner}

theorem entOk_keep {F' H' : Hp} {i : Nat} {x : Option V} {e : Ent} (r : EntOk K F H own i x e) (hF : Same F F') (hH : ∀ a, own a = some i → H' a = H a) : EntOk K F' H' own i x e := by
  cases e with
  | no => trivial
  | fz d => obtain ⟨v, e, h⟩ := r; exact ⟨v, e, dp_mono hF _ _ h⟩
  | ow p o =>
    obtain ⟨v, A, e, h, hA, hp⟩ := r
    exact ⟨v, A, e, repO_keep h hF fun a ha => hH a (hA a ha), hA, hp⟩
  | rw v => exact r
  | sc ns => obtain ⟨a, e, h⟩ := r; exact ⟨a, e, hF.seq h⟩

theorem Rel.ownNone (R : Rel K B F0 F en σ H own) {p : Addr} (h : H p = none) : own p = none := by
  cases q : own p with
  | none => rfl
  | some i =>
    obtain ⟨_, _, u, e⟩ := R.od p i q
    rw [h] at e; cases e
theorem Rel.bNone (R : Rel K B F0 F en σ H own) {p : Addr} (h : H p = none) : B p = none := R.bh.free h
theorem Rel.fNone (R : Rel K B F0 F en σ H own) {p : Addr} (h : H p = none) : F p = none := R.fh.free h

theorem same_new {H : Hp} {p : Addr} {o : HO} (h : H p = none) : Same H (upd H p o) := fun b x e => by
  rw [upd_ne (ne_of_none e h)]
  exact e
theorem same_upd2 {F H : Hp} {p : Addr} {o : HO} (s : Same F H) : Same (upd F p o) (upd H p o) := fun b x e => by
  by_cases hb : b = p
  · subst hb; rw [upd_same] at e ⊢; exact e
  · rw [upd_ne hb] at e ⊢; exact s b x e
theorem same_updR {F H : Hp} {p : Addr} {o : HO} (s : Same F H) (h : F p = none) : Same F (upd H p o) := fun b x e => by
  rw [upd_ne (ne_of_none e h)]
  exact s b x e
theorem same_updL {F H : Hp} {p : Addr} {o : HO} (s : Same F H) (h : H p = some o) : Same (upd F p o) H := fun b x e => by
  by_cases hb : b = p
  · subst hb; rw [upd_same] at e; cases e; exact h
  · rw [upd_ne hb] at e; exact s b x e

/-- a new object, frozen at once -/
theorem Rel.grow (R : Rel K B F0 F en σ H own) {p : Addr} {o : HO} (h : H p = none) : Rel K B F0 (upd F p o) en σ (upd H p o) own where
  f0 := R.f0.trans (same_new (R.fNone h))
  nw := fun a u e => by
    by_cases ha : a = p
    · subst ha; exact .inr (R.bNone h)
    · rw [upd_ne ha] at e; exact R.nw a u e
  fh := same_upd2 R.fh
  bh := same_updR R.bh (R.bNone h)
  od := fun a i e => by
    obtain ⟨h1, h2, u, h3⟩ := R.od a i e
    have ha : a ≠ p := ne_of_none h3 h
    exact ⟨by rw [upd_ne ha]; exact h1, h2, u, by rw [upd_ne ha]; exact h3⟩
  len := R.len
  at_ := fun i x e h1 h2 => entOk_keep (R.at_ i x e h1 h2) (same_new (R.fNone h)) fun a ha => upd_ne (ne_of_none (R.od a i ha).2.2.choose_spec h)
/-- a new object that stands apart -/
theorem Rel.apart (R : Rel K B F0 F en σ H own) {p : Addr} {o : HO} (h : H p = none) : Rel K B F0 F en σ (upd H p o) own where
  f0 := R.f0
  nw := R.nw
  fh := same_updR R.fh (R.fNone h)
  bh := same_updR R.bh (R.bNone h)
  od := fun a i e => by
    obtain ⟨h1, h2, u, h3⟩ := R.od a i e
    have ha : a ≠ p := ne_of_none h3 h
    exact ⟨h1, h2, u, by rw [upd_ne ha]; exact h3⟩
  len := R.len
  at_ := fun i x e h1 h2 => entOk_keep (R.at_ i x e h1 h2) (Same.refl _) fun a ha => upd_ne (ne_of_none (R.od a i ha).2.2.choose_spec h)
/-- an object that stands apart (nobody's) is changed -/
theorem Rel.poke (R : Rel K B F0 F en σ H own) {p : Addr} {o : HO} (hF : F p = none) (hB : B p = none) (ho : own p = none) : Rel K B F0 F en σ (upd H p o) own where
  f0 := R.f0
  nw := R.nw
  fh := same_updR R.fh hF
  bh := same_updR R.bh hB
  od := fun a i e => by
    obtain ⟨h1, h2, u, h3⟩ := R.od a i e
    have ha : a ≠ p := fun z => by subst z; rw [ho] at e; cases e
    exact ⟨h1, h2, u, by rw [upd_ne ha]; exact h3⟩
  len := R.len
  at_ := fun i x e h1 h2 => entOk_keep (R.at_ i x e h1 h2) (Same.refl _) fun a ha => upd_ne fun z => by subst z; rw [ho] at ha; cases ha
/-- what stood apart is frozen -/
theorem Rel.frz1 (R : Rel K B F0 F en σ H own) {p : Addr} {o : HO} (hp : H p = some o) (hF : F p = none) (hB : B p = none) (ho : own p = none) : Rel K B F0 (upd F p o) en σ H own where
  f0 := R.f0.trans (same_new hF)
  nw := fun a u e => by
    by_cases ha : a = p
    · subst ha; exact .inr hB
    · rw [upd_ne ha] at e; exact R.nw a u e
  fh := same_updL R.fh hp
  bh := R.bh
  od := fun a i e => by
    obtain ⟨h1, h2, h3⟩ := R.od a i e
    have ha : a ≠ p := fun z => by subst z; rw [ho] at e; cases e
    exact ⟨by rw [upd_ne ha]; exact h1, h2, h3⟩
  len := R.len
  at_ := fun i x e h1 h2 => entOk_keep (R.at_ i x e h1 h2) (same_new hF) fun _ _ => rfl

/-- slot i lets its things go -/
def dis (own : Owner) (i : Nat) : Owner := fun a => if own a = some i then none else own a
theorem dis_none {own : Owner} {i : Nat} {a : Addr} (h : dis own i a = none) : own a = some i ∨ own a = none := by
  unfold dis at h
  split at h
  · rename_i q; exact .inl q
  · exact .inr h
theorem dis_some {own : Owner} {i j : Nat} {a : Addr} (h : dis own i a = some j) : own a = some j ∧ j ≠ i := by
  unfold dis at h
  split at h
  · cases h
  · rename_i q; exact ⟨h, fun z => q (by rw [h, z])⟩
theorem dis_of {own : Owner} {i j : Nat} {a : Addr} (h : own a = some j) (ne : j ≠ i) : dis own i a = some j := by
  unfold dis
  rw [if_neg (by rw [h]; intro z; exact ne (Option.some.inj z))]
  exact h
theorem dis_self {own : Owner} {i : Nat} {a : Addr} (h : own a = some i) : dis own i a = none := by
  unfold dis; rw [if_pos h]
theorem entOk_dis {i j : Nat} {x : Option V} {e : Ent} (ne : j ≠ i) (r : EntOk K F H own j x e) : EntOk K F H (dis own i) j x e := by
  cases e with
  | no => trivial
  | fz d => exact r
  | ow p o => obtain ⟨v, A, e, h, hA, hp⟩ := r; exact ⟨v, A, e, h, fun a ha => dis_of (hA a ha) ne, hp⟩
  | rw v => exact r
  | sc ns => exact r

theorem get_set {α : Type} {l : List α} {i j : Nat} {x y : α} (h : (l.set i x)[j]? = some y) : (j = i ∧ y = x) ∨ (j ≠ i ∧ l[j]? = some y) := by
  by_cases e : i = j
  · subst e
    by_cases hl : i < l.length
    · rw [List.getElem?_set_self hl] at h; cases h; exact .inl ⟨rfl, rfl⟩
    · rw [List.getElem?_eq_none (by simpa using hl)] at h; cases h
  · rw [List.getElem?_set_ne e] at h; exact .inr ⟨fun z => e z.symm, h⟩

/-- slot i takes another value and entry (frozen, raw or none) -/
theorem Rel.put (R : Rel K B F0 F en σ H own) (i : Nat) {x : Option V} {e : Ent} (ok : EntOk K F H (fun _ => none) i x e) : Rel K B F0 F (en.set i e) (σ.set i x) H (dis own i) where
  f0 := R.f0
  nw := R.nw
  fh := R.fh
  bh := R.bh
  od := fun a j h => R.od a j (dis_some h).1
  len := by simpa using R.len
  at_ := fun j y u h1 h2 => by
    rcases get_set h1 with ⟨rfl, rfl⟩ | ⟨ne, h1⟩
    · rcases get_set h2 with ⟨_, rfl⟩ | ⟨ne, _⟩
      · cases u with
        | no => trivial
        | fz d => exact ok
        | ow p o =>
          obtain ⟨v, A, e, h, hA, hp⟩ := ok
          exact ⟨v, A, e, h, fun a ha => absurd (hA a ha) (by simp), hp⟩
        | rw v => exact ok
        | sc ns => exact ok
      · exact absurd rfl ne
    · rcases get_set h2 with ⟨z, _⟩ | ⟨_, h2⟩
      · exact absurd z ne
      · exact entOk_dis ne (R.at_ j y u h1 h2)
/-- slot i becomes the owner of A -/
def take (own : Owner) (i : Nat) (A : List Addr) : Owner := fun a => if a ∈ A then some i else dis own i a
theorem Rel.putO (R : Rel K B F0 F en σ H own) (i : Nat) {v : V} {A : List Addr} {o : Ow} (r : RepO K F H v A o) (hA : ∀ a ∈ A, F a = none ∧ B a = none ∧ (own a = none ∨ own a = some i)) {p : Option Addr} (hp : ∀ a, p = some a → v = .ref a) :
    Rel K B F0 F (en.set i (.ow p o)) (σ.set i (some v)) H (take own i A) where
  f0 := R.f0
  nw := R.nw
  fh := R.fh
  bh := R.bh
  od := fun a j h => by
    unfold take at h
    split at h
    · rename_i m
      exact ⟨(hA a m).1, (hA a m).2.1, repO_there r a m⟩
    · exact R.od a j (dis_some h).1
  len := by simpa using R.len
  at_ := fun j y u h1 h2 => by
    rcases get_set h1 with ⟨rfl, rfl⟩ | ⟨ne, h1⟩
    · rcases get_set h2 with ⟨_, rfl⟩ | ⟨ne, _⟩
      · exact ⟨v, A, rfl, r, fun a ha => by unfold take; rw [if_pos ha], hp⟩
      · exact absurd rfl ne
    · rcases get_set h2 with ⟨z, _⟩ | ⟨_, h2⟩
      · exact absurd z ne
      · have q := R.at_ j y u h1 h2
        cases u with
        | no => trivial
        | fz d => exact q
        | ow p' o' =>
          obtain ⟨v', A', e, h, hA', hp'⟩ := q
          refine ⟨v', A', e, h, fun a ha => ?_, hp'⟩
          have h3 := hA' a ha
          unfold take
          rw [if_neg (fun m => ?_)]
          · exact dis_of h3 ne
          · rcases (hA a m).2.2 with z | z
            · rw [h3] at z; cases z
            · rw [h3] at z; exact ne (Option.some.inj z)
        | rw v' => exact q
        | sc ns => exact q
end
end PD

namespace PD
open PySem PySem.Spec PyProof.Rows L2

theorem PE.imp {X : Cx} {e : Expr} {t t' : TE} (h : PE X e t) (f : ∀ σ H Q, t' σ H Q → t σ H Q) : PE X e t' := ⟨fun pins s σ H Q I q => h.run pins s σ H Q I (f σ H Q q)⟩
theorem PT.imp {X : Cx} {e : Expr} {t t' : TT} (h : PT X e t) (f : ∀ σ H Q, t' σ H Q → t σ H Q) : PT X e t' := ⟨fun pins s σ H Q I q => h.run pins s σ H Q I (f σ H Q q)⟩
theorem PW.imp {X : Cx} {e : Expr} {t t' : TT} (h : PW X e t) (f : ∀ σ H Q, t' σ H Q → t σ H Q) : PW X e t' := ⟨fun wh pins s σ H Q I q => h.run wh pins s σ H Q I (f σ H Q q)⟩
theorem PA.imp {X : Cx} {e : List Expr} {t t' : TA} (h : PA X e t) (f : ∀ σ H Q, t' σ H Q → t σ H Q) : PA X e t' := ⟨fun pos pins s σ H Q I q => h.run pos pins s σ H Q I (f σ H Q q)⟩
theorem PS.imp {X : Cx} {e : Stmt} {t t' : TS} (h : PS X e t) (f : ∀ D σ H, t' D σ H → t D σ H) : PS X e t' := ⟨fun pins s σ H D I q => h.run pins s σ H D I (f D σ H q)⟩
theorem PSs.imp {X : Cx} {e : List Stmt} {t t' : TS} (h : PSs X e t) (f : ∀ D σ H, t' D σ H → t D σ H) : PSs X e t' := ⟨fun pins s σ H D I q => h.run pins s σ H D I (f D σ H q)⟩
theorem PO.imp {X : Cx} {e : Option Expr} {t t' : TO} (h : PO X e t) (f : ∀ σ H Q, t' σ H Q → t σ H Q) : PO X e t' := ⟨fun pins s σ H Q I q => h.run pins s σ H Q I (f σ H Q q)⟩

/-! ### what is wanted, by data -/
abbrev DQ := D → En → Prop
abbrev DE := En → DQ → Prop
abbrev DT := En → (Bool → En → Prop) → Prop
abbrev DA := En → (List D → En → Prop) → Prop
abbrev DO := En → (Ow → En → Prop) → Prop
inductive Res where
  | fz (d : D) | ow (o : Ow)
structure DEnds where
  nx : En → Prop
  rt : Res → En → Prop
  bk : En → Prop := fun _ => False
  ct : En → Prop := fun _ => False
abbrev DS := DEnds → En → Prop

/-- where a body stands: the written part, the heap that is kept, what was frozen ahead -/
structure Gd where
  B : Hp
  F0 : Hp

abbrev Frag := PySem.W.Frag
abbrev Rg (K : Frag) (g : Gd) (F : Hp) (en : En) (σ : St) (H : Hp) (own : Owner) : Prop := PD.Rel K g.B g.F0 F en σ H own
/-- a thing that stands apart -/
def Apart (K : Frag) (g : Gd) (F H : Hp) (own : Owner) (v : V) (A : List Addr) (o : Ow) : Prop := RepO K F H v A o ∧ ∀ a ∈ A, F a = none ∧ g.B a = none ∧ own a = none
def ResOk (K : Frag) (g : Gd) (F H : Hp) (own : Owner) (v : V) : Res → Prop
  | .fz d => Dp K F v d
  | .ow o => ∃ A, Apart K g F H own v A o

def kD (K : Frag) (g : Gd) (F : Hp) (σ : St) (Q : VK) : DQ := fun d en' => ∀ v H' F' own', Rg K g F' en' σ H' own' → Same F F' → Dp K F' v d → Q v H'
def kO (K : Frag) (g : Gd) (F : Hp) (σ : St) (Q : VK) : Ow → En → Prop := fun o en' => ∀ v A H' F' own', Rg K g F' en' σ H' own' → Same F F' → Apart K g F' H' own' v A o → Q v H'
def kT (K : Frag) (g : Gd) (F : Hp) (σ : St) (Q : Bool → Hp → Prop) : Bool → En → Prop := fun b en' => ∀ H' F' own', Rg K g F' en' σ H' own' → Same F F' → Q b H'
def kA (K : Frag) (g : Gd) (F : Hp) (σ : St) (Q : List V → Hp → Prop) : List D → En → Prop := fun ds en' => ∀ vs H' F' own', Rg K g F' en' σ H' own' → Same F F' → DpAll K F' vs ds → Q vs H'
def tD (K : Frag) (de : DE) : TE := fun σ H Q => ∃ g F en own W, Rg K g F en σ H own ∧ de en W ∧ ∀ d en', W d en' → kD K g F σ Q d en'
def tDO (K : Frag) (de : DO) : TE := fun σ H Q => ∃ g F en own W, Rg K g F en σ H own ∧ de en W ∧ ∀ d en', W d en' → kO K g F σ Q d en'
def tDT (K : Frag) (de : DT) : TT := fun σ H Q => ∃ g F en own W, Rg K g F en σ H own ∧ de en W ∧ ∀ d en', W d en' → kT K g F σ Q d en'
def tDA (K : Frag) (de : DA) : TA := fun σ H Q => ∃ g F en own W, Rg K g F en σ H own ∧ de en W ∧ ∀ d en', W d en' → kA K g F σ Q d en'
structure EndsOk (K : Frag) (g : Gd) (F : Hp) (E : DEnds) (De : Ends) : Prop where
  nx : ∀ en σ H F' own, Rg K g F' en σ H own → Same F F' → E.nx en → De.nx σ H
  rt : ∀ r en v σ H F' own, Rg K g F' en σ H own → Same F F' → ResOk K g F' H own v r → E.rt r en → De.rt v H
  bk : ∀ en σ H F' own, Rg K g F' en σ H own → Same F F' → E.bk en → De.bk σ H
  ct : ∀ en σ H F' own, Rg K g F' en σ H own → Same F F' → E.ct en → De.ct σ H
theorem EndsOk.mono {K : Frag} {g : Gd} {F F1 : Hp} {E : DEnds} {De : Ends} (h : EndsOk K g F E De) (s : Same F F1) : EndsOk K g F1 E De :=
  ⟨fun en σ H F' own r q => h.nx en σ H F' own r (s.trans q), fun r en v σ H F' own R q => h.rt r en v σ H F' own R (s.trans q), fun en σ H F' own r q => h.bk en σ H F' own r (s.trans q), fun en σ H F' own r q => h.ct en σ H F' own r (s.trans q)⟩
def tDS (K : Frag) (ds : DS) : TS := fun De σ H => ∃ g F en own E, Rg K g F en σ H own ∧ EndsOk K g F E De ∧ ds E en

theorem kD.mono {K : Frag} {g : Gd} {F F1 : Hp} {σ : St} {Q : VK} {d : D} {en : En} (h : kD K g F σ Q d en) (s : Same F F1) : kD K g F1 σ Q d en := fun v H' F' own' R q => h v H' F' own' R (s.trans q)

section
variable {X : Cx} {K : Frag}

/-! ### names, constants -/
theorem Rel.freeze {K : PySem.W.Frag} {B F0 F H : Hp} {en : En} {σ : St} {own : Owner} {i : Nat} {p : Option Addr} {xs : List D} (R : Rel K B F0 F en σ H own) (he : en[i]? = some (.ow p (.lst xs))) :
    ∃ a vs, σ[i]? = some (some (.ref a)) ∧ F a = none ∧ Rel K B F0 (upd F a (.lst vs)) (en.set i (.fz (.list xs))) σ H (dis own i) ∧ DpAll K (upd F a (.lst vs)) vs xs := by
  have hi : i < σ.length := by rw [← R.len]; exact (List.getElem?_eq_some_iff.mp he).1
  have hx : σ[i]? = some σ[i] := List.getElem?_eq_getElem hi
  obtain ⟨v, A, e, ⟨a, vs, rfl, rfl, ha, hd⟩, hA, _⟩ := R.at_ i _ _ hx he
  obtain ⟨hF, hB, _⟩ := R.od a i (hA a (by simp))
  have R1 := R.put i (x := σ[i]) (e := .no) trivial
  rw [List.set_getElem_self] at R1
  have R2 := R1.frz1 ha hF hB (dis_self (hA a (by simp)))
  have hd2 : DpAll K (upd F a (.lst vs)) vs xs := dpAll_mono (same_new hF) _ _ hd
  have R3 := R2.put i (x := σ[i]) (e := .fz (.list xs)) ⟨.ref a, e, .lst (.inl upd_same) hd2⟩
  rw [List.set_getElem_self, List.set_set] at R3
  refine ⟨a, vs, by rw [hx, e], hF, ?_, hd2⟩
  have eo : dis (dis own i) i = dis own i := by
    funext b
    by_cases q : own b = some i
    · rw [dis_self q]
      unfold dis
      rw [if_pos q, if_neg (by simp)]
    · have e2 : dis own i b = own b := by unfold dis; rw [if_neg q]
      show (if dis own i b = some i then none else dis own i b) = dis own i b
      rw [e2, if_neg q]
  rw [eo] at R3
  exact R3

/-- a name's datum; an owned list is frozen by this -/
def dVar (i : Nat) : DE := fun en Q => match en[i]? with
  | some (.fz d) => Q d en
  | some (.ow _ (.lst xs)) => Q (.list xs) (en.set i (.fz (.list xs)))
  | _ => False
theorem pd_of_var {i : Nat} {e : Expr} (h : PE X e (tVar i)) : PE X e (tD K (dVar i)) := PE.imp h fun σ H Q ⟨g, F, en, own, W, R, q, k⟩ => by
  unfold dVar at q
  split at q
  · rename_i d he
    have hi : i < σ.length := by rw [← R.len]; exact (List.getElem?_eq_some_iff.mp he).1
    have hx : σ[i]? = some σ[i] := List.getElem?_eq_getElem hi
    obtain ⟨v, e, hd⟩ := R.at_ i _ _ hx he
    exact ⟨v, by rw [hx, e], k _ _ q v H F own R (Same.refl _) hd⟩
  · rename_i _ xs he
    obtain ⟨a, vs, e, hF, R', hd⟩ := R.freeze he
    exact ⟨.ref a, e, k _ _ q _ H _ _ R' (same_new hF) (.lst (.inl upd_same) hd)⟩
  · exact q.elim
theorem dn (i : Nat) {x : Str} {pos : Pos} (hN : X.N[i]? = some x := by rfl) (hv : Vis X.env.scope x := by first | exact Or.inl rfl | exact Or.inr (Or.inl rfl) | exact Or.inr (Or.inr rfl)) (hd : (x == ("__debug__" : Str)) = false := by decide)
    (hcd : (x == ("__classdict__" : Str)) = false := by decide) : PE X (.Name x pos) (tD K (dVar i)) := pd_of_var (pe_var hN hv hd hcd)
def dC (d : D) : DE := fun en Q => Q d en
theorem pd_const {e : Expr} {v : V} {d : D} (h : PE X e (tC v)) (hd : ∀ F, Dp K F v d) : PE X e (tD K (dC d)) := PE.imp h fun σ H Q ⟨g, F, en, own, W, R, q, k⟩ => k _ _ q v H F own R (Same.refl _) (hd F)
theorem di {i j pos} : PE X (.Constant (.int i) j pos) (tD K (dC (.int i))) := pd_const pe_int fun _ => .int i
theorem db {b j pos} : PE X (.Constant (.bool b) j pos) (tD K (dC (.bool b))) := pd_const pe_bl fun _ => .bl b
theorem dnone {j pos} : PE X (.Constant .none j pos) (tD K (dC .none)) := pd_const pe_non fun _ => .non
theorem dstr {x j pos} : PE X (.Constant (.str x) j pos) (tD K (dC (.str x))) := pd_const pe_str fun _ => .str x
theorem dgI {x : Str} {i : Int} {t : Tok} {pos : Pos} (hg : Gl X x) (hm : X.mg x = some (.int i t)) (hd : (x == ("__debug__" : Str)) = false := by decide) : PE X (.Name x pos) (tD K (dC (.int i))) := pd_const (pe_glob hg hm (v := .int i) ⟨t, rfl⟩ hd) fun _ => .int i
theorem dgS {x z : Str} {t : Tok} {pos : Pos} (hg : Gl X x) (hm : X.mg x = some (.str z t)) (hd : (x == ("__debug__" : Str)) = false := by decide) : PE X (.Name x pos) (tD K (dC (.str z))) := pd_const (pe_glob hg hm (v := .str z) ⟨t, rfl⟩ hd) fun _ => .str z

/-! ### operators -/
structure OpD (X : Cx) (K : Frag) (f : Value → Value → Sem Value) (w : D → D → (D → Prop) → Prop) : Prop where
  ex : ∃ r : R2, OpR X f r ∧ ∀ g F H en σ own x y d e Q W, Rg K g F en σ H own → Dp K F x d → Dp K F y e → w d e W → (∀ z, W z → kD K g F σ Q z en) → r x y H Q
/-- .. that makes a thing of its own -/
structure OpO (X : Cx) (K : Frag) (f : Value → Value → Sem Value) (w : D → D → (Ow → Prop) → Prop) : Prop where
  ex : ∃ r : R2, OpR X f r ∧ ∀ g F H en σ own x y d e Q W, Rg K g F en σ H own → Dp K F x d → Dp K F y e → w d e W → (∀ z, W z → kO K g F σ Q z en) → r x y H Q
def dOp (w : D → D → (D → Prop) → Prop) (da db : DE) : DE := fun en Q => da en fun d en1 => db en1 fun e en2 => w d e fun z => Q z en2
def dOpO (w : D → D → (Ow → Prop) → Prop) (da db : DE) : DO := fun en Q => da en fun d en1 => db en1 fun e en2 => w d e fun z => Q z en2
variable {a b c : Expr} {da db dc : DE} {pos : Pos}
/-- two expressions one after the other, by data -/
theorem two {r : R2} {g : Gd} {F : Hp} {en : En} {σ : St} {H : Hp} {own : Owner} {Q : VK} {C : D → D → En → Prop} (R : Rg K g F en σ H own) (q : da en fun d en1 => db en1 fun e en2 => C d e en2)
    (h : ∀ F2 en2 H2 own2 x y d e, Rg K g F2 en2 σ H2 own2 → Same F F2 → Dp K F2 x d → Dp K F2 y e → C d e en2 → r x y H2 Q) : tOp r (tD K da) (tD K db) σ H Q := by
  refine ⟨g, F, en, own, _, R, q, fun d en1 q1 x H1 F1 own1 R1 s1 hx => ⟨g, F1, en1, own1, _, R1, q1, fun e en2 q2 y H2 F2 own2 R2 s2 hy => ?_⟩⟩
  exact h F2 en2 H2 own2 x y d e R2 (s1.trans s2) (dp_mono s2 _ _ hx) hy q2
theorem kD.mono' {g : Gd} {F F1 : Hp} {σ : St} {Q : VK} {d : D} {en : En} (h : kD K g F σ Q d en) (s : Same F F1) : kD K g F1 σ Q d en := fun v H' F' own' R q => h v H' F' own' R (s.trans q)
theorem kO.mono {g : Gd} {F F1 : Hp} {σ : St} {Q : VK} {o : Ow} {en : En} (h : kO K g F σ Q o en) (s : Same F F1) : kO K g F1 σ Q o en := fun v A H' F' own' R q => h v A H' F' own' R (s.trans q)
theorem kT.mono {g : Gd} {F F1 : Hp} {σ : St} {Q : Bool → Hp → Prop} {b : Bool} {en : En} (h : kT K g F σ Q b en) (s : Same F F1) : kT K g F1 σ Q b en := fun H' F' own' R q => h H' F' own' R (s.trans q)
theorem kA.mono {g : Gd} {F F1 : Hp} {σ : St} {Q : List V → Hp → Prop} {b : List D} {en : En} (h : kA K g F σ Q b en) (s : Same F F1) : kA K g F1 σ Q b en := fun vs H' F' own' R q => h vs H' F' own' R (s.trans q)

theorem dop {op : Operator} {w : D → D → (D → Prop) → Prop} (ho : OpD X K (binaryOp op) w) (ha : PE X a (tD K da)) (hb : PE X b (tD K db)) : PE X (.BinOp a op b pos) (tD K (dOp w da db)) := by
  obtain ⟨r, hr, hw⟩ := ho.ex
  refine PE.imp (pe_op hr ha hb) fun σ H Q ⟨g, F, en, own, W, R, q, k⟩ => two R q fun F2 en2 H2 own2 x y d e R2 s hx hy q2 => ?_
  exact hw g F2 H2 en2 σ own2 x y d e Q _ R2 hx hy q2 fun z hz => (k _ _ hz).mono s
theorem dopO {op : Operator} {w : D → D → (Ow → Prop) → Prop} (ho : OpO X K (binaryOp op) w) (ha : PE X a (tD K da)) (hb : PE X b (tD K db)) : PE X (.BinOp a op b pos) (tDO K (dOpO w da db)) := by
  obtain ⟨r, hr, hw⟩ := ho.ex
  refine PE.imp (pe_op hr ha hb) fun σ H Q ⟨g, F, en, own, W, R, q, k⟩ => two R q fun F2 en2 H2 own2 x y d e R2 s hx hy q2 => ?_
  exact hw g F2 H2 en2 σ own2 x y d e Q _ R2 hx hy q2 fun z hz => (k _ _ hz).mono s
theorem dcmp {op : CmpOp} {w : D → D → (D → Prop) → Prop} (ho : OpD X K (compareOp op) w) (ha : PE X a (tD K da)) (hb : PE X b (tD K db)) (hm : behindInMarks op b = false) : PE X (.Compare a [op] [b] pos) (tD K (dOp w da db)) := by
  obtain ⟨r, hr, hw⟩ := ho.ex
  refine PE.imp (pe_cmpR hr ha hb hm) fun σ H Q ⟨g, F, en, own, W, R, q, k⟩ => two R q fun F2 en2 H2 own2 x y d e R2 s hx hy q2 => ?_
  exact hw g F2 H2 en2 σ own2 x y d e Q _ R2 hx hy q2 fun z hz => (k _ _ hz).mono s

/-! ### tests -/
/-- an expression that gives True or False, as a test -/
def onB (d : D) (R : Bool → Prop) : Prop := match d with | .bool b => R b | _ => False
theorem onB_of {F : Hp} {d : D} {v : V} {K : PySem.W.Frag} {R : Bool → Prop} (hd : Dp K F v d) (q : onB d R) : ∃ b, v = .bl b ∧ d = .bool b ∧ R b := by
  cases hd with
  | bl b => exact ⟨b, rfl, rfl, q⟩
  | non => exact (show False from q).elim
  | int _ => exact (show False from q).elim
  | str _ => exact (show False from q).elim
  | lst _ _ => exact (show False from q).elim
  | tup _ _ => exact (show False from q).elim
def dBl (da : DE) : DT := fun en Q => da en fun d en1 => onB d fun b => Q b en1
theorem tB_of {T : TE → TT} (hT : T = tB ∨ T = tTest) (h : PT X a (T (tD K da))) : PT X a (tDT K (dBl da)) := PT.imp h fun σ H Q ⟨g, F, en, own, W, R, q, k⟩ => by
  rcases hT with rfl | rfl
  · exact ⟨g, F, en, own, _, R, q, fun d en1 q1 v H1 F1 own1 R1 s1 hd => let ⟨b, e, _, q2⟩ := onB_of hd q1; ⟨b, e, k _ _ q2 H1 F1 own1 R1 s1⟩⟩
  · exact ⟨g, F, en, own, _, R, q, fun d en1 q1 v H1 F1 own1 R1 s1 hd => let ⟨b, e, _, q2⟩ := onB_of hd q1; ⟨b, e, k _ _ q2 H1 F1 own1 R1 s1⟩⟩
/-- a test by an expression's value True or False -/
theorem dtB (h : PE X a (tD K da)) (he : ∀ whole, isTrue a X.env whole = (do let v ← whole; standAt a.pos; holding [v] (truthy v)) := by intro _; rfl) : PT X a (tDT K (dBl da)) := tB_of (T := tB) (.inl rfl) (pt_val h he)
theorem dtCmp {op : CmpOp} {w : D → D → (D → Prop) → Prop} (ho : OpD X K (compareOp op) w) (ha : PE X a (tD K da)) (hb : PE X b (tD K db)) (hm : behindInMarks op b = false) : PT X (.Compare a [op] [b] pos) (tDT K (dBl (dOp w da db))) := by
  obtain ⟨r, hr, hw⟩ := ho.ex
  refine PT.imp (pt_cmpR hr ha hb hm) fun σ H Q ⟨g, F, en, own, W, R, q, k⟩ => ?_
  refine two (C := fun d e en2 => w d e fun z => onB z fun b => W b en2) R q fun F2 en2 H2 own2 x y d e R2 s hx hy q2 => ?_
  exact hw g F2 H2 en2 σ own2 x y d e _ _ R2 hx hy q2 fun z hz v H' F' own' R' s' hd => let ⟨b, e, _, q3⟩ := onB_of hd hz; ⟨b, e, k _ _ q3 H' F' own' R' (s.trans s')⟩
/-- truth of any datum -/
def truD : D → (Bool → Prop) → Prop
  | .none, Q => Q false
  | .bool b, Q => Q b
  | .int i, Q => Q (i != 0)
  | .str y, Q => y.length ≤ sizeLine ∧ Q ((y.length : Int) != 0)
  | .list xs, Q => Q (!xs.isEmpty)
  | .tuple xs, Q => Q (!xs.isEmpty)
  | .dict _, _ => False
def dTru (da : DE) : DT := fun en Q => da en fun d en1 => truD d fun b => Q b en1
theorem dpa_empty {K : PySem.W.Frag} {F : Hp} {vs : List V} {ds : List D} (h : DpAll K F vs ds) : vs.isEmpty = ds.isEmpty := by cases h <;> rfl
theorem truD_ok {F : Hp} {H : Hp} {K : PySem.W.Frag} {d : D} {v : V} {Q : Bool → Prop} (s : Same F H) (h : Dp K F v d) (q : truD d Q) : ∃ k, TruV K v H k ∧ Q k := by
  cases h with
  | non => exact ⟨false, rfl, q⟩
  | bl b => exact ⟨b, rfl, q⟩
  | int i => exact ⟨_, rfl, q⟩
  | str x => exact ⟨_, ⟨q.1, rfl⟩, q.2⟩
  | lst hs ha => exact ⟨_, .inl ⟨_, .inl (rd_mono s hs), rfl⟩, by rw [dpa_empty ha]; exact q⟩
  | tup hs ha => exact ⟨_, .inr (.inl ⟨_, seqT_mono s hs, rfl⟩), by rw [dpa_empty ha]; exact q⟩
theorem dtTru (hK : X.K = K) (h : PE X a (tD K da)) (he : ∀ whole, isTrue a X.env whole = (do let v ← whole; standAt a.pos; holding [v] (truthy v)) := by intro _; rfl) : PT X a (tDT K (dTru da)) :=
  PT.imp (pt_truth h he) fun σ H Q ⟨g, F, en, own, W, R, q, k⟩ => ⟨g, F, en, own, _, R, q, fun d en1 q1 v H1 F1 own1 R1 s1 hd => by
    obtain ⟨b, h1, h2⟩ := truD_ok R1.fh hd q1
    rw [hK]
    exact ⟨b, h1, k _ _ h2 H1 F1 own1 R1 s1⟩⟩
variable {ta tb : DT} {rest : List Expr}
def dAnd (t u : DT) : DT := fun en Q => t en fun c en1 => if c = true then u en1 Q else Q false en1
def dOr (t u : DT) : DT := fun en Q => t en fun c en1 => if c = true then Q true en1 else u en1 Q
def dNot (t : DT) : DT := fun en Q => t en fun c en1 => Q (!c) en1
theorem dw1 (ha : PT X a (tDT K ta)) : PW X (.BoolOp .And [a] pos) (tDT K ta) := pw_and1 ha
theorem dwo1 (ha : PT X a (tDT K ta)) : PW X (.BoolOp .Or [a] pos) (tDT K ta) := pw_or1 ha
theorem dwAnd (ha : PT X a (tDT K ta)) (hb : PW X (.BoolOp .And (b :: rest) pos) (tDT K tb)) : PW X (.BoolOp .And (a :: b :: rest) pos) (tDT K (dAnd ta tb)) :=
  PW.imp (pw_and ha hb) fun σ H Q ⟨g, F, en, own, W, R, q, k⟩ => ⟨g, F, en, own, _, R, q, fun c en1 q1 H1 F1 own1 R1 s1 => by
    cases c with
    | true => exact ⟨g, F1, en1, own1, _, R1, q1, fun d e hh => (k d e hh).mono s1⟩
    | false => exact k _ _ q1 H1 F1 own1 R1 s1⟩
theorem dwOr (ha : PT X a (tDT K ta)) (hb : PW X (.BoolOp .Or (b :: rest) pos) (tDT K tb)) : PW X (.BoolOp .Or (a :: b :: rest) pos) (tDT K (dOr ta tb)) :=
  PW.imp (pw_or ha hb) fun σ H Q ⟨g, F, en, own, W, R, q, k⟩ => ⟨g, F, en, own, _, R, q, fun c en1 q1 H1 F1 own1 R1 s1 => by
    cases c with
    | false => exact ⟨g, F1, en1, own1, _, R1, q1, fun d e hh => (k d e hh).mono s1⟩
    | true => exact k _ _ q1 H1 F1 own1 R1 s1⟩
theorem dtNot (ha : PT X a (tDT K ta)) : PT X (.UnaryOp .Not a pos) (tDT K (dNot ta)) :=
  PT.imp (pt_not ha) fun σ H Q ⟨g, F, en, own, W, R, q, k⟩ => ⟨g, F, en, own, _, R, q, fun c en1 q1 H1 F1 own1 R1 s1 => k _ _ q1 H1 F1 own1 R1 s1⟩
/-- and, or, not as values, of values True or False -/
def dAndV (da db : DE) : DE := fun en Q => dBl da en fun c en1 => if c = true then db en1 Q else Q (.bool false) en1
def dOrV (da db : DE) : DE := fun en Q => dBl da en fun c en1 => if c = true then Q (.bool true) en1 else db en1 Q
def dNotV (da : DE) : DE := fun en Q => dBl da en fun c en1 => Q (.bool (!c)) en1
theorem do1 {op} (ha : PE X a (tD K da)) : PE X (.BoolOp op [a] pos) (tD K da) := pe_one ha
theorem dAnd_ (ha : PE X a (tD K da)) (hb : PE X (.BoolOp .And (b :: rest) pos) (tD K db)) : PE X (.BoolOp .And (a :: b :: rest) pos) (tD K (dAndV da db)) :=
  PE.imp (pe_and ha hb) fun σ H Q ⟨g, F, en, own, W, R, q, k⟩ => ⟨g, F, en, own, _, R, q, fun d en1 q1 v H1 F1 own1 R1 s1 hd => by
    obtain ⟨b, rfl, rfl, q2⟩ := onB_of hd q1
    refine ⟨b, rfl, ?_⟩
    cases b with
    | true => exact ⟨g, F1, en1, own1, _, R1, q2, fun d e hh => (k d e hh).mono s1⟩
    | false => exact k _ _ q2 _ H1 F1 own1 R1 s1 (.bl false)⟩
theorem dOr_ (ha : PE X a (tD K da)) (hb : PE X (.BoolOp .Or (b :: rest) pos) (tD K db)) : PE X (.BoolOp .Or (a :: b :: rest) pos) (tD K (dOrV da db)) :=
  PE.imp (pe_or ha hb) fun σ H Q ⟨g, F, en, own, W, R, q, k⟩ => ⟨g, F, en, own, _, R, q, fun d en1 q1 v H1 F1 own1 R1 s1 hd => by
    obtain ⟨b, rfl, rfl, q2⟩ := onB_of hd q1
    refine ⟨b, rfl, ?_⟩
    cases b with
    | false => exact ⟨g, F1, en1, own1, _, R1, q2, fun d e hh => (k d e hh).mono s1⟩
    | true => exact k _ _ q2 _ H1 F1 own1 R1 s1 (.bl true)⟩
theorem dNot_ (ha : PE X a (tD K da)) : PE X (.UnaryOp .Not a pos) (tD K (dNotV da)) :=
  PE.imp (pe_not ha) fun σ H Q ⟨g, F, en, own, W, R, q, k⟩ => ⟨g, F, en, own, _, R, q, fun d en1 q1 v H1 F1 own1 R1 s1 hd => by
    obtain ⟨b, rfl, rfl, q2⟩ := onB_of hd q1
    exact ⟨b, rfl, k _ _ q2 _ H1 F1 own1 R1 s1 (.bl _)⟩⟩
def dIf (t : DT) (da db : DE) : DE := fun en Q => t en fun c en1 => if c = true then da en1 Q else db en1 Q
theorem dif {c : Expr} (hc : PT X c (tDT K ta)) (ha : PE X a (tD K da)) (hb : PE X b (tD K db)) : PE X (.IfExp c a b pos) (tD K (dIf ta da db)) :=
  PE.imp (pe_ifExp hc ha hb) fun σ H Q ⟨g, F, en, own, W, R, q, k⟩ => ⟨g, F, en, own, _, R, q, fun c en1 q1 H1 F1 own1 R1 s1 => by
    cases c with
    | true => exact ⟨g, F1, en1, own1, _, R1, q1, fun d e hh => (k d e hh).mono s1⟩
    | false => exact ⟨g, F1, en1, own1, _, R1, q1, fun d e hh => (k d e hh).mono s1⟩⟩
def dIfO (t : DT) (da db : DO) : DO := fun en Q => t en fun c en1 => if c = true then da en1 Q else db en1 Q
theorem difO {c : Expr} {da db : DO} (hc : PT X c (tDT K ta)) (ha : PE X a (tDO K da)) (hb : PE X b (tDO K db)) : PE X (.IfExp c a b pos) (tDO K (dIfO ta da db)) :=
  PE.imp (pe_ifExp hc ha hb) fun σ H Q ⟨g, F, en, own, W, R, q, k⟩ => ⟨g, F, en, own, _, R, q, fun c en1 q1 H1 F1 own1 R1 s1 => by
    cases c with
    | true => exact ⟨g, F1, en1, own1, _, R1, q1, fun d e hh => (k d e hh).mono s1⟩
    | false => exact ⟨g, F1, en1, own1, _, R1, q1, fun d e hh => (k d e hh).mono s1⟩⟩

/-! ### what stands apart, frozen -/
def frO (Q : DQ) : Ow → En → Prop := fun o en' => match o with | .lst xs => Q (.list xs) en' | _ => False
def dFr (d : DO) : DE := fun en Q => d en (frO Q)
theorem ap_frz {g : Gd} {F H : Hp} {en : En} {σ : St} {own : Owner} {v : V} {A : List Addr} {xs : List D} (R : Rg K g F en σ H own) (ap : Apart K g F H own v A (.lst xs)) : ∃ F', Rg K g F' en σ H own ∧ Same F F' ∧ Dp K F' v (.list xs) := by
  obtain ⟨⟨p, vs, rfl, rfl, hp, hd⟩, ha⟩ := ap
  obtain ⟨h1, h2, h3⟩ := ha p (by simp)
  exact ⟨_, R.frz1 hp h1 h2 h3, same_new h1, .lst (.inl upd_same) (dpAll_mono (same_new h1) _ _ hd)⟩
theorem dfr {e : Expr} {d : DO} (h : PE X e (tDO K d)) : PE X e (tD K (dFr d)) :=
  PE.imp h fun σ H Q ⟨g, F, en, own, W, R, q, k⟩ => ⟨g, F, en, own, _, R, q, fun o en1 q1 v A H1 F1 own1 R1 s1 ap => by
    cases o with
    | lst xs =>
      obtain ⟨F2, R2, s2, hd⟩ := ap_frz R1 ap
      exact k _ _ q1 v H1 F2 own1 R2 (s1.trans s2) hd
    | dk _ => exact (show False from q1).elim
    | dt _ => exact (show False from q1).elim
    | src _ _ _ => exact (show False from q1).elim⟩

/-! ### argument lists -/
def dNilA : DA := fun en Q => Q [] en
def dConsA (da : DE) (r : DA) : DA := fun en Q => da en fun d en1 => r en1 fun ds en2 => Q (d :: ds) en2
theorem dan : PA X [] (tDA K dNilA) := PA.imp pa_nil fun σ H Q ⟨g, F, en, own, W, R, q, k⟩ => k _ _ q [] H F own R (Same.refl _) .nil
theorem dac {e : Expr} {es : List Expr} {t : DA} (ha : PE X e (tD K da)) (hr : PA X es (tDA K t)) (hs : starEach (e :: es) X.env = (false, eval e X.env) :: starEach es X.env := by rfl) : PA X (e :: es) (tDA K (dConsA da t)) :=
  PA.imp (pa_cons ha hr hs) fun σ H Q ⟨g, F, en, own, W, R, q, k⟩ => ⟨g, F, en, own, _, R, q, fun d en1 q1 v H1 F1 own1 R1 s1 hd => ⟨g, F1, en1, own1, _, R1, q1, fun ds en2 q2 vs H2 F2 own2 R2 s2 hds =>
    k _ _ q2 (v :: vs) H2 F2 own2 R2 (s1.trans s2) (.cons (dp_mono s2 _ _ hd) hds)⟩⟩
def dTup (t : DA) : DE := fun en Q => t en fun ds en1 => ds.length ≤ sizeLine ∧ Q (.tuple ds) en1
theorem dtup {es : List Expr} {x1} {t : DA} (h : PA X es (tDA K t)) : PE X (.Tuple es x1 pos) (tD K (dTup t)) :=
  PE.imp (pe_tup h) fun σ H Q ⟨g, F, en, own, W, R, q, k⟩ => ⟨g, F, en, own, _, R, q, fun ds en1 q1 vs H1 F1 own1 R1 s1 hd => ⟨by rw [dpa_len hd]; exact q1.1, fun p hp => by
    have h1 := R1.fNone hp
    exact k _ _ q1.2 _ _ _ own1 (R1.grow hp) (s1.trans (same_new h1)) (.tup (.inl (.inl upd_same)) (dpAll_mono (same_new h1) _ _ hd))⟩⟩
def dLst (t : DA) : DO := fun en Q => t en fun ds en1 => ds.length ≤ sizeLine ∧ Q (.lst ds) en1
theorem new_apart {g : Gd} {F H : Hp} {en : En} {σ : St} {own : Owner} {vs : List V} {ds : List D} {p : Addr} (R : Rg K g F en σ H own) (hp : H p = none) (hd : DpAll K F vs ds) :
    Rg K g F en σ (upd H p (.lst vs)) own ∧ Apart K g F (upd H p (.lst vs)) own (.ref p) [p] (.lst ds) :=
  ⟨R.apart hp, ⟨p, vs, rfl, rfl, upd_same, hd⟩, fun a ha => by
    have e : a = p := by simpa using ha
    subst e
    exact ⟨R.fNone hp, R.bNone hp, R.ownNone hp⟩⟩
theorem dlst {es : List Expr} {t : DA} (h : PA X es (tDA K t)) : PE X (.List es pos) (tDO K (dLst t)) :=
  PE.imp (pe_lst h) fun σ H Q ⟨g, F, en, own, W, R, q, k⟩ => ⟨g, F, en, own, _, R, q, fun ds en1 q1 vs H1 F1 own1 R1 s1 hd => ⟨by rw [dpa_len hd]; exact q1.1, fun p hp => by
    obtain ⟨R2, ap⟩ := new_apart R1 hp hd
    exact k _ _ q1.2 _ _ _ _ _ R2 s1 ap⟩⟩
end
end PD

namespace PD
open PySem PySem.Spec PyProof.Rows L2

section
variable {X : Cx} {K : Frag}
variable {a b c e : Expr} {da db dc : DE} {pos pos' : Pos} {ta tb : DT} {st : Stmt} {rest : List Stmt} {d1 d2 : DS}

/-! ### blocks -/
def dNext : DS := fun E en => E.nx en
def dSeq (d1 d2 : DS) : DS := fun E en => d1 { E with nx := d2 E } en
theorem dssn : PSs X [] (tDS K dNext) := PSs.imp pss_nil fun De σ H ⟨g, F, en, own, E, R, eo, q⟩ => eo.nx _ _ _ _ _ R (Same.refl _) q
theorem dssc (h1 : PS X st (tDS K d1)) (h2 : PSs X rest (tDS K d2)) : PSs X (st :: rest) (tDS K (dSeq d1 d2)) :=
  PSs.imp (pss_cons h1 h2) fun De σ H ⟨g, F, en, own, E, R, eo, q⟩ => ⟨g, F, en, own, { E with nx := d2 E }, R, ⟨fun en' σ' H' F' own' R' s' q' => ⟨g, F', en', own', E, R', eo.mono s', q'⟩, eo.rt, eo.bk, eo.ct⟩, q⟩
theorem dss1 (h1 : PS X st (tDS K d1)) : PSs X [st] (tDS K d1) := pss_one h1
theorem dpass : PS X (.Pass pos) (tDS K dNext) := PS.imp ps_pass fun De σ H ⟨g, F, en, own, E, R, eo, q⟩ => eo.nx _ _ _ _ _ R (Same.refl _) q
def dBrk : DS := fun E en => E.bk en
def dCnt : DS := fun E en => E.ct en
theorem dbreak : PS X (.Break pos) (tDS K dBrk) := PS.imp ps_break fun De σ H ⟨g, F, en, own, E, R, eo, q⟩ => eo.bk _ _ _ _ _ R (Same.refl _) q
theorem dcont : PS X (.Continue pos) (tDS K dCnt) := PS.imp ps_continue fun De σ H ⟨g, F, en, own, E, R, eo, q⟩ => eo.ct _ _ _ _ _ R (Same.refl _) q
/-- code that is never reached -/
def dNever : DS := fun _ _ => False
theorem dnever : PS X st (tDS K dNever) := PS.imp ps_never fun De σ H ⟨g, F, en, own, E, R, eo, q⟩ => q
def dDrop (da : DE) : DS := fun E en => da en fun _ en1 => E.nx en1
theorem dexpr (he : PE X e (tD K da)) (hs : swapsWith e none pos.line X.env = pure false := by rfl) : PS X (.Expr e pos) (tDS K (dDrop da)) :=
  PS.imp (ps_expr he hs) fun De σ H ⟨g, F, en, own, E, R, eo, q⟩ => ⟨g, F, en, own, _, R, q, fun d en1 q1 v H1 F1 own1 R1 s1 hd => eo.nx _ _ _ _ _ R1 s1 q1⟩
def dRet (da : DE) : DS := fun E en => da en fun d en1 => E.rt (.fz d) en1
theorem dret (he : PE X e (tD K da)) : PS X (.Return (some e) pos) (tDS K (dRet da)) :=
  PS.imp (ps_ret he) fun De σ H ⟨g, F, en, own, E, R, eo, q⟩ => ⟨g, F, en, own, _, R, q, fun d en1 q1 v H1 F1 own1 R1 s1 hd => eo.rt (.fz d) _ v _ _ _ _ R1 s1 hd q1⟩
def dRetO (da : DO) : DS := fun E en => da en fun d en1 => E.rt (.ow d) en1
theorem dretO {da : DO} (he : PE X e (tDO K da)) : PS X (.Return (some e) pos) (tDS K (dRetO da)) :=
  PS.imp (ps_ret he) fun De σ H ⟨g, F, en, own, E, R, eo, q⟩ => ⟨g, F, en, own, _, R, q, fun d en1 q1 v A H1 F1 own1 R1 s1 ap => eo.rt (.ow d) _ v _ _ _ _ R1 s1 ⟨A, ap⟩ q1⟩
def dRetN : DS := fun E en => E.rt (.fz .none) en
theorem dretN : PS X (.Return none pos) (tDS K dRetN) := PS.imp ps_retN fun De σ H ⟨g, F, en, own, E, R, eo, q⟩ => eo.rt (.fz .none) _ .non σ _ _ _ R (Same.refl _) .non q
/-- an owned name is handed out as it stands -/
def dVarO (i : Nat) : DO := fun en Q => match en[i]? with
  | some (.ow _ o) => Q o (en.set i .no)
  | _ => False
theorem do_of_var {i : Nat} {e : Expr} (h : PE X e (tVar i)) : PE X e (tDO K (dVarO i)) := PE.imp h fun σ H Q ⟨g, F, en, own, W, R, q, k⟩ => by
  unfold dVarO at q
  split at q
  · rename_i _ o he
    have hi : i < σ.length := by rw [← R.len]; exact (List.getElem?_eq_some_iff.mp he).1
    have hx : σ[i]? = some σ[i] := List.getElem?_eq_getElem hi
    obtain ⟨v, A, e, r, hA, _⟩ := R.at_ i _ _ hx he
    have R1 := R.put i (x := σ[i]) (e := .no) trivial
    rw [List.set_getElem_self] at R1
    exact ⟨v, by rw [hx, e], k _ _ q v A H F _ R1 (Same.refl _) ⟨r, fun z hz => ⟨(R.od z i (hA z hz)).1, (R.od z i (hA z hz)).2.1, dis_self (hA z hz)⟩⟩⟩
  · exact q.elim
theorem dno (i : Nat) {x : Str} {pos : Pos} (hN : X.N[i]? = some x := by rfl) (hv : Vis X.env.scope x := by first | exact Or.inl rfl | exact Or.inr (Or.inl rfl) | exact Or.inr (Or.inr rfl)) (hd : (x == ("__debug__" : Str)) = false := by decide)
    (hcd : (x == ("__classdict__" : Str)) = false := by decide) : PE X (.Name x pos) (tDO K (dVarO i)) := do_of_var (pe_var hN hv hd hcd)
def dIfS (t : DT) (d1 d2 : DS) : DS := fun E en => t en fun c en1 => if c = true then d1 E en1 else d2 E en1
theorem difs {s1 s2 : List Stmt} (hc : PT X c (tDT K ta)) (ha : PSs X s1 (tDS K d1)) (hb : PSs X s2 (tDS K d2)) : PS X (.If c s1 s2 pos) (tDS K (dIfS ta d1 d2)) :=
  PS.imp (ps_if hc ha hb) fun De σ H ⟨g, F, en, own, E, R, eo, q⟩ => ⟨g, F, en, own, _, R, q, fun b en1 q1 H1 F1 own1 R1 s1 => by
    cases b with
    | true => exact ⟨g, F1, en1, own1, E, R1, eo.mono s1, q1⟩
    | false => exact ⟨g, F1, en1, own1, E, R1, eo.mono s1, q1⟩⟩

/-! ### assignments -/
def dSet (i : Nat) (da : DE) : DS := fun E en => da en fun d en1 => E.nx (en1.set i (.fz d))
def dSetO (i : Nat) (da : DO) : DS := fun E en => da en fun o en1 => E.nx (en1.set i (.ow none o))
theorem Rel.putFz {K : Frag} {B F0 F H : Hp} {en : En} {σ : St} {own : Owner} {v : V} {d : D} (R : PD.Rel K B F0 F en σ H own) (i : Nat) (hd : Dp K F v d) : PD.Rel K B F0 F (en.set i (.fz d)) (σ.set i (some v)) H (dis own i) :=
  R.put i ⟨v, rfl, hd⟩
theorem putAp {K : Frag} {g : Gd} {F H : Hp} {en : En} {σ : St} {own : Owner} {v : V} {A : List Addr} {o : Ow} (R : Rg K g F en σ H own) (ap : Apart K g F H own v A o) (i : Nat) : Rg K g F (en.set i (.ow none o)) (σ.set i (some v)) H (take own i A) :=
  Rel.putO R i ap.1 (fun z hz => ⟨(ap.2 z hz).1, (ap.2 z hz).2.1, .inl (ap.2 z hz).2.2⟩) fun _ h => nomatch h
theorem asg_imp {De : Ends} {σ : St} {H : Hp} {i : Nat} (h : tDS K (dSet i da) De σ H) : tAsg (tD K da) (gName i) De σ H := by
  obtain ⟨g, F, en, own, E, R, eo, q⟩ := h
  exact ⟨g, F, en, own, _, R, q, fun d en1 q1 v H1 F1 own1 R1 s1 hd => eo.nx _ _ _ _ _ (R1.putFz i hd) s1 q1⟩
theorem asgO_imp {da : DO} {De : Ends} {σ : St} {H : Hp} {i : Nat} (h : tDS K (dSetO i da) De σ H) : tAsg (tDO K da) (gName i) De σ H := by
  obtain ⟨g, F, en, own, E, R, eo, q⟩ := h
  exact ⟨g, F, en, own, _, R, q, fun o en1 q1 v A H1 F1 own1 R1 s1 ap => eo.nx _ _ _ _ _ (putAp R1 ap i) s1 q1⟩
theorem dset {i : Nat} {x : Str} (hN : X.N.Nodup) (hi : X.N[i]? = some x) (hx : Loc X.env.scope x) (he : PE X e (tD K da)) (hs : swapsWith e (some (.Name x pos')) pos.line X.env = pure false := by rfl) (hf : X.fn x = true ∨ X.env.scope.names.lookup x = some .local := by first | exact .inl rfl | exact .inr rfl | assumption) :
    PS X (.Assign [.Name x pos'] e pos) (tDS K (dSet i da)) := PS.imp (ps_set hN hi hx he hs hf) fun De σ H h => asg_imp h
theorem dsetO {i : Nat} {x : Str} {da : DO} (hN : X.N.Nodup) (hi : X.N[i]? = some x) (hx : Loc X.env.scope x) (he : PE X e (tDO K da)) (hs : swapsWith e (some (.Name x pos')) pos.line X.env = pure false := by rfl) (hf : X.fn x = true ∨ X.env.scope.names.lookup x = some .local := by first | exact .inl rfl | exact .inr rfl | assumption) :
    PS X (.Assign [.Name x pos'] e pos) (tDS K (dSetO i da)) := PS.imp (ps_set hN hi hx he hs hf) fun De σ H h => asgO_imp h
/-- an assignment whose reading is known, to a name: frozen -/
theorem dset_of {i : Nat} {t : TE} (h : PS X st (tAsg t (gName i))) (ht : ∀ σ H Q, tD K da σ H Q → t σ H Q) : PS X st (tDS K (dSet i da)) :=
  PS.imp h fun De σ H q => ht _ _ _ (asg_imp q)
theorem dsetO_of {i : Nat} {t : TE} {da : DO} (h : PS X st (tAsg t (gName i))) (ht : ∀ σ H Q, tDO K da σ H Q → t σ H Q) : PS X st (tDS K (dSetO i da)) :=
  PS.imp h fun De σ H q => ht _ _ _ (asgO_imp q)

/-! ### targets -/
abbrev DG := D → En → (En → Prop) → Prop
abbrev DGs := List D → En → (En → Prop) → Prop
def kG (K : Frag) (g : Gd) (F : Hp) (ws : List Nat) (σ : St) (Q : St → Hp → Prop) : En → Prop := fun en' => ∀ σ' H' F' own', Rg K g F' en' σ' H' own' → Same F F' → wipe σ' ws = wipe σ ws → Q σ' H'
def tDG (K : Frag) (ws : List Nat) (dg : DG) : TG := fun v σ H Q => ∃ g F en own W d, Rg K g F en σ H own ∧ Dp K F v d ∧ dg d en W ∧ ∀ en', W en' → kG K g F ws σ Q en'
def tDGs (K : Frag) (ws : List Nat) (dg : DGs) : TGs := fun vs σ H Q => ∃ g F en own W ds, Rg K g F en σ H own ∧ DpAll K F vs ds ∧ dg ds en W ∧ ∀ en', W en' → kG K g F ws σ Q en'
theorem wipe_set {σ : St} {i : Nat} {x : Option V} : ∀ {ws : List Nat}, i ∈ ws → wipe (σ.set i x) ws = wipe σ ws
  | [], h => by simp at h
  | w :: ws, h => by
    unfold wipe
    by_cases e : i ∈ ws
    · rw [wipe_set e]
    · have : i = w := by
        rcases List.mem_cons.mp h with z | z
        · exact z
        · exact absurd z e
      subst this
      have key : ∀ (ws : List Nat), i ∉ ws → wipe (σ.set i x) ws = (wipe σ ws).set i x := by
        intro ws
        induction ws with
        | nil => intro _; rfl
        | cons u us ih =>
          intro hu
          unfold wipe
          rw [ih (fun m => hu (by simp [m]))]
          rw [List.set_comm _ _ (fun z => hu (by simp [z]))]
      rw [key ws e, List.set_set]
theorem PG.imp {tg : Expr} {t t' : TG} (h : PG X tg t) (f : ∀ v σ H Q, t' v σ H Q → t v σ H Q) : PG X tg t' := ⟨fun pins s σ H v u Q I r q => h.run pins s σ H v u Q I r (f v σ H Q q)⟩
theorem PGs.imp {tg : List Expr} {t t' : TGs} (h : PGs X tg t) (f : ∀ v σ H Q, t' v σ H Q → t v σ H Q) : PGs X tg t' := ⟨fun pins s σ H v u Q I r q => h.run pins s σ H v u Q I r (f v σ H Q q)⟩
def dgN (i : Nat) : DG := fun d en Q => Q (en.set i (.fz d))
theorem dgn {i : Nat} {x : Str} {ws : List Nat} (hm : i ∈ ws) (hN : X.N.Nodup) (hi : X.N[i]? = some x) (hx : Loc X.env.scope x) (hf : X.fn x = true ∨ X.env.scope.names.lookup x = some .local := by first | exact .inl rfl | exact .inr rfl | assumption) : PG X (.Name x pos) (tDG K ws (dgN i)) :=
  PG.imp (pg_name hN hi hx hf) fun v σ H Q ⟨g, F, en, own, W, d, R, hd, q, k⟩ => k _ q _ _ _ _ (R.putFz i hd) (Same.refl _) (wipe_set hm)
def dgNil : DGs := fun ds en Q => ds = [] ∧ Q en
def dgCons (t : DG) (u : DGs) : DGs := fun ds en Q => match ds with | d :: r => t d en fun en1 => u r en1 Q | [] => False
theorem dgsn {ws : List Nat} : PGs X [] (tDGs K ws dgNil) := PGs.imp pgs_nil fun v σ H Q ⟨g, F, en, own, W, d, R, hd, q, k⟩ => by
  obtain ⟨rfl, q⟩ := q
  cases hd
  exact ⟨rfl, k _ q _ _ _ _ R (Same.refl _) rfl⟩
theorem kG.mono {g : Gd} {F F1 : Hp} {ws : List Nat} {σ : St} {Q : St → Hp → Prop} {en : En} (h : kG K g F ws σ Q en) (s : Same F F1) : kG K g F1 ws σ Q en := fun σ' H' F' own' R q => h σ' H' F' own' R (s.trans q)
theorem dgsc {e : Expr} {es : List Expr} {ws : List Nat} {t : DG} {u : DGs} (h1 : PG X e (tDG K ws t)) (h2 : PGs X es (tDGs K ws u))
    (hs : (assignEach (e :: es) X.env).map (·.2) = assign e X.env :: (assignEach es X.env).map (·.2) := by rfl) : PGs X (e :: es) (tDGs K ws (dgCons t u)) :=
  PGs.imp (pgs_cons h1 h2 hs) fun v σ H Q ⟨g, F, en, own, W, ds, R, hd, q, k⟩ => by
    cases hd with
    | nil => exact (show False from q).elim
    | cons h3 h4 =>
      exact ⟨_, _, rfl, g, F, en, own, _, _, R, h3, q, fun en1 q1 σ1 H1 F1 own1 R1 s1 w1 => ⟨g, F1, en1, own1, _, _, R1, dpAll_mono s1 _ _ h4, q1, fun en' hh σ2 H2 F2 own2 R2 s2 w2 => k _ hh σ2 H2 F2 own2 R2 (s1.trans s2) (w2.trans w1)⟩⟩
def dgTup (n : Nat) (t : DGs) : DG := fun d en Q => match d with | .tuple ds => ds.length = n ∧ t ds en Q | _ => False
theorem dgt {es : List Expr} {k : Nat} {ws : List Nat} {t : DGs} {n : Nat} (hK : X.K = K) (hc : X.calm = true) (h : PGs X es (tDGs K ws t))
    (hn : (assignEach es X.env).length = n := by rfl) (hst : (assignEach es X.env).findIdx? (·.1) = none := by rfl) : PG X (.Tuple es k pos) (tDG K ws (dgTup n t)) :=
  PG.imp (pg_tup hc h hn hst) fun v σ H Q ⟨g, F, en, own, W, d, R, hd, q, k⟩ => by
    subst hK
    unfold dgTup at q
    cases hd with
    | tup hs ha =>
      obtain ⟨q1, q2⟩ := q
      exact ⟨_, _, rfl, seqT_mono R.fh hs, (dpa_len ha).trans q1, g, F, en, own, _, _, R, ha, q2, k⟩
    | non => exact (show False from q).elim
    | bl _ => exact (show False from q).elim
    | int _ => exact (show False from q).elim
    | str _ => exact (show False from q).elim
    | lst _ _ => exact (show False from q).elim
def dAsg (da : DE) (dg : DG) : DS := fun E en => da en fun d en1 => dg d en1 E.nx
theorem dasg {tg : Expr} {ws : List Nat} {dg : DG} (he : PE X e (tD K da)) (hg : PG X tg (tDG K ws dg)) (hs : swapsWithSole [tg] e pos.line X.env = pure false := by rfl) (hw : swappedStores [tg] e X.env = pure none := by rfl)
    (h1 : (assignEach [tg] X.env).map (·.2) = [assign tg X.env] := by rfl) : PS X (.Assign [tg] e pos) (tDS K (dAsg da dg)) :=
  PS.imp (ps_asg he hg hs hw h1) fun De σ H ⟨g, F, en, own, E, R, eo, q⟩ => ⟨g, F, en, own, _, R, q, fun d en1 q1 v H1 F1 own1 R1 s1 hd => ⟨g, F1, en1, own1, _, d, R1, hd, q1, fun en' q' σ' H' F' own' R' s' _ => eo.nx _ _ _ _ _ R' (s1.trans s') q'⟩⟩
/-- a, b = x, y of two local names -/
def dPar (i j : Nat) (t : DA) : DS := fun E en => t en fun ds en1 => match ds with | [d, f] => E.nx ((en1.set i (.fz d)).set j (.fz f)) | _ => False
theorem dpar {i j : Nat} {x y : Str} {t : DA} {px py pt : Pos} {kt k2 pt2} (hc : X.calm = true) (hN : X.N.Nodup) (hi : X.N[i]? = some x) (hj : X.N[j]? = some y) (hij : i ≠ j)
    (hx : X.env.scope.names.lookup x = some .local) (hy : X.env.scope.names.lookup y = some .local) (ha : PA X [a, b] (tDA K t))
    (hw : swappedStores [.Tuple [.Name x px, .Name y py] kt pt] (.Tuple [a, b] k2 pt2) X.env = pure (some [x, y]))
    (hs : swapsWithSole [.Tuple [.Name x px, .Name y py] kt pt] (.Tuple [a, b] k2 pt2) pos.line X.env = pure false := by rfl) :
    PS X (.Assign [.Tuple [.Name x px, .Name y py] kt pt] (.Tuple [a, b] k2 pt2) pos) (tDS K (dPar i j t)) :=
  PS.imp (ps_par hc hN hi hj hij hx hy ha hw hs) fun De σ H ⟨g, F, en, own, E, R, eo, q⟩ => ⟨g, F, en, own, _, R, q, fun ds en1 q1 vs H1 F1 own1 R1 s1 hd => by
    match ds, hd, q1 with
    | [d, f], .cons (v := v) h1 (.cons (v := w) h2 .nil), q1 =>
      exact ⟨v, w, rfl, eo.nx _ _ _ _ _ ((R1.putFz i h1).putFz j h2) s1 q1⟩
    | [], _, q1 => exact (show False from q1).elim
    | [_], _, q1 => exact (show False from q1).elim
    | _ :: _ :: _ :: _, _, q1 => exact (show False from q1).elim⟩
def dAug (i : Nat) (da : DE) (w : D → D → (D → Prop) → Prop) : DS := fun E en => match en[i]? with
  | some (.fz d) => da en fun f en1 => w d f fun z => E.nx (en1.set i (.fz z))
  | _ => False
structure IpD (X : Cx) (K : Frag) (op : Operator) (w : D → D → (D → Prop) → Prop) : Prop where
  ex : ∃ r : TIp, PIp X op r ∧ ∀ g F H en σ own x y d e Q W, Rg K g F en σ H own → Dp K F x d → Dp K F y e → w d e W → (∀ z, W z → kD K g F σ Q z en) → r x y H Q
theorem daug {i : Nat} {x : Str} {op : Operator} {w : D → D → (D → Prop) → Prop} (hN : X.N.Nodup) (hi : X.N[i]? = some x) (hx : Loc X.env.scope x) (he : PE X e (tD K da)) (ho : IpD X K op w) (hf : X.fn x = true ∨ X.env.scope.names.lookup x = some .local := by first | exact .inl rfl | exact .inr rfl | assumption) :
    PS X (.AugAssign (.Name x pos') op e pos) (tDS K (dAug i da w)) := by
  obtain ⟨r, hr, hw⟩ := ho.ex
  refine PS.imp (ps_aug hN hi hx he hr hf) fun De σ H ⟨g, F, en, own, E, R, eo, q⟩ => ?_
  unfold dAug at q
  split at q
  · rename_i d hE
    have hi : i < σ.length := by rw [← R.len]; exact (List.getElem?_eq_some_iff.mp hE).1
    have hx : σ[i]? = some σ[i] := List.getElem?_eq_getElem hi
    obtain ⟨v, e1, hd⟩ := R.at_ i _ _ hx hE
    refine ⟨v, by rw [hx, e1], g, F, en, own, _, R, q, fun f en1 q1 y H1 F1 own1 R1 s1 hy => ?_⟩
    exact hw g F1 H1 en1 σ own1 v y d f _ _ R1 (dp_mono s1 _ _ hd) hy q1 fun z hz v' H' F' own' R' s' hz' => eo.nx _ _ _ _ _ (R'.putFz i hz') (s1.trans s') hz
  · exact q.elim

/-! ### while -/
def dWhile (t : DT) (ds : DS) : DS := fun E en => ∃ W : Nat → En → Prop, (∃ m, W m en) ∧ ∀ m en, W m en →
  t en fun b en1 => if b = true then ds { E with nx := fun en' => ∃ m', m' < m ∧ W m' en', ct := fun en' => ∃ m', m' < m ∧ W m' en', bk := E.nx } en1 else E.nx en1
theorem dwhile {c : Expr} {body : List Stmt} (hp : PassesOwn (model X.prog X.w) X.A X.env X.xe) (hc : PT X c (tDT K ta)) (hb : PSs X body (tDS K d1)) : PS X (.While c body [] pos) (tDS K (dWhile ta d1)) :=
  PS.imp (ps_while hp hc hb) fun De σ H ⟨g, F, en, own, E, R, eo, W, ⟨m0, w0⟩, turn⟩ => by
    refine ⟨fun m σ' H' => ∃ F' en' own', Rg K g F' en' σ' H' own' ∧ Same F F' ∧ W m en', ⟨m0, F, en, own, R, Same.refl _, w0⟩, ?_⟩
    rintro m σ1 H1 ⟨F1, en1, own1, R1, s1, w1⟩
    refine ⟨g, F1, en1, own1, _, R1, turn m en1 w1, fun b en2 q2 H2 F2 own2 R2 s2 => ?_⟩
    cases b with
    | true =>
      refine ⟨fun σ' H' => ∃ m', m' < m ∧ ∃ F' en' own', Rg K g F' en' σ' H' own' ∧ Same F F' ∧ W m' en', fun σ' H' h => h, ?_⟩
      refine ⟨g, F2, en2, own2, _, R2, ⟨?_, ?_, ?_, ?_⟩, q2⟩
      · rintro en' σ' H' F' own' R' s' ⟨m', hm, hw⟩
        exact ⟨m', hm, F', en', own', R', (s1.trans s2).trans s', hw⟩
      · exact (eo.mono (s1.trans s2)).rt
      · intro en' σ' H' F' own' R' s' hh
        exact (eo.mono (s1.trans s2)).nx _ _ _ _ _ R' s' hh
      · rintro en' σ' H' F' own' R' s' ⟨m', hm, hw⟩
        exact ⟨m', hm, F', en', own', R', (s1.trans s2).trans s', hw⟩
    | false => exact eo.nx _ _ _ _ _ R2 (s1.trans s2) q2

/-! ### what is walked -/
abbrev DI := En → (List D → En → Prop) → Prop
structure ItOk (K : Frag) (g : Gd) (F : Hp) (J : It) (ds : List D) : Prop where
  go : ∀ i (g2 : Gd) H F2 en σ own, Same g.B g2.B → Rg K g2 F2 en σ H own → Same F F2 → i < ds.length → J.go i H
  stop : ∀ (g2 : Gd) H F2 en σ own, Same g.B g2.B → Rg K g2 F2 en σ H own → Same F F2 → J.stop ds.length H
  yld : ∀ i (g2 : Gd) H F2 en σ own x H', Same g.B g2.B → Rg K g2 F2 en σ H own → Same F F2 → i < ds.length → J.yld i H x H' → ∃ F3 d, Rg K g2 F3 en σ H' own ∧ Same F2 F3 ∧ ds[i]? = some d ∧ Dp K F3 x d
def tDI (K : Frag) (di : DI) : TI := fun σ H R => ∃ g F en own W, Rg K g F en σ H own ∧ di en W ∧ ∀ ds en', W ds en' → ∀ J H' F' own', Rg K g F' en' σ H' own' → Same F F' → ItOk K g F' J ds → R J H'
theorem PI.imp {tg iter : Expr} {t t' : TI} (h : PI X tg iter t) (f : ∀ σ H Q, t' σ H Q → t σ H Q) : PI X tg iter t' := ⟨fun pins s σ H R I q => h.run pins s σ H R I (f σ H R q)⟩
/-- a walk of things that stand frozen -/
theorem itOk_list {g : Gd} {F : Hp} {p : Addr} {vs : List V} {ds : List D} (h : SqL K F p vs) (hd : DpAll K F vs ds) : ItOk K g F (Itl K p) ds where
  go := fun i g2 H F2 en σ own _ R s hi => ⟨vs, vs[i]'(by rw [dpa_len hd]; exact hi), R.fh.seq (s.seq h), by simp⟩
  stop := fun g2 H F2 en σ own _ R s => ⟨vs, R.fh.seq (s.seq h), by rw [dpa_len hd]; exact Nat.le_refl _⟩
  yld := fun i g2 H F2 en σ own x H' _ R s hi y => by
    obtain ⟨rfl, y⟩ := y
    have hx := y vs (R.fh.seq (s.seq h))
    obtain ⟨d, h1, h2⟩ := dpa_get hd hx
    exact ⟨F2, d, R, Same.refl _, h1, dp_mono s _ _ h2⟩
theorem itOk_tup {g : Gd} {F : Hp} {p : Addr} {vs : List V} {ds : List D} (h : SqT K F p vs) (hd : DpAll K F vs ds) : ItOk K g F (Itt K p) ds where
  go := fun i g2 H F2 en σ own _ R s hi => ⟨vs, vs[i]'(by rw [dpa_len hd]; exact hi), seqT_mono R.fh (seqT_mono s h), by simp⟩
  stop := fun g2 H F2 en σ own _ R s => ⟨vs, seqT_mono R.fh (seqT_mono s h), by rw [dpa_len hd]; exact Nat.le_refl _⟩
  yld := fun i g2 H F2 en σ own x H' _ R s hi y => by
    obtain ⟨rfl, y⟩ := y
    have hx := y vs (seqT_mono R.fh (seqT_mono s h))
    obtain ⟨d, h1, h2⟩ := dpa_get hd hx
    exact ⟨F2, d, R, Same.refl _, h1, dp_mono s _ _ h2⟩
theorem itOk_rng {g : Gd} {F : Hp} {lo : Int} {n : Nat} : ItOk K g F (Itr lo n) ((List.range n).map fun k => PyData.int (lo + (k : Nat))) where
  go := fun i g2 H F2 en σ own _ R s hi => by
    have h0 : i < n := by simpa using hi
    exact h0
  stop := fun g2 H F2 en σ own _ R s => by simp [Itr]
  yld := fun i g2 H F2 en σ own x H' _ R s hi y => by
    obtain ⟨rfl, rfl⟩ := y
    have hi' : i < n := by simpa using hi
    exact ⟨F2, .int (lo + (i : Nat)), R, Same.refl _, by simp [hi'], .int _⟩
/-- pairs made anew, of things that stand frozen -/
theorem pair_new {g : Gd} {F H : Hp} {en : En} {σ : St} {own : Owner} {T : Addr} {x y : V} {d e : D} (R : Rg K g F en σ H own) (hT : H T = none) (h1 : Dp K F x d) (h2 : Dp K F y e) :
    Rg K g (upd F T (.tup [x, y])) en σ (upd H T (.tup [x, y])) own ∧ Same F (upd F T (.tup [x, y])) ∧ Dp K (upd F T (.tup [x, y])) (.ref T) (.tuple [d, e]) :=
  ⟨R.grow hT, same_new (R.fNone hT), .tup (.inl (.inl upd_same)) (.cons (dp_mono (same_new (R.fNone hT)) _ _ h1) (.cons (dp_mono (same_new (R.fNone hT)) _ _ h2) .nil))⟩
theorem itOk_enum {g : Gd} {F : Hp} {p : Addr} {vs : List V} {ds : List D} (h : SqL K F p vs) (hd : DpAll K F vs ds) : ItOk K g F (Ite K p) (ds.zipIdx.map fun z => PyData.tuple [.int (z.2 : Nat), z.1]) where
  go := fun i g2 H F2 en σ own _ R s hi => walk_enum.goes i H (by rw [dpa_len hd]; simpa using hi) (R.fh.seq (s.seq h))
  stop := fun g2 H F2 en σ own _ R s => by
    have := (walk_enum (K := K) (a := p) (xs := vs)).stops H (R.fh.seq (s.seq h))
    rw [dpa_len hd] at this
    simpa using this
  yld := fun i g2 H F2 en σ own x H' _ R s hi y => by
    have hi' : i < ds.length := by simpa using hi
    obtain ⟨T, a, b, rfl, hT, rfl, e1, e2⟩ := walk_enum.yields i H x H' (by rw [dpa_len hd]; exact hi') (R.fh.seq (s.seq h)) y
    have e1' : a = .int (i : Nat) := (Option.some.inj e1).symm
    subst e1'
    obtain ⟨d, h1, h2⟩ := dpa_get hd e2
    obtain ⟨R', s', hp⟩ := pair_new R hT (.int (i : Nat)) (dp_mono s _ _ h2)
    refine ⟨_, _, R', s', ?_, hp⟩
    have e3 : ds[i] = d := by
      rw [List.getElem?_eq_getElem hi'] at h1
      exact Option.some.inj h1
    simp [hi', e3]
theorem itOk_zip {g : Gd} {F : Hp} {p p' : Addr} {vs vs' : List V} {ds ds' : List D} (h : SqL K F p vs) (hd : DpAll K F vs ds) (h' : SqL K F p' vs') (hd' : DpAll K F vs' ds') : ItOk K g F (Itz K p p') ((ds.zip ds').map fun z => PyData.tuple [z.1, z.2]) where
  go := fun i g2 H F2 en σ own _ R s hi => by
    have hi2 : i < ds.length ∧ i < ds'.length := by
      have h0 := hi
      simp only [List.length_map, List.length_zip] at h0
      omega
    exact (walk_zip (n := min vs.length vs'.length) rfl).goes i H (by rw [dpa_len hd, dpa_len hd']; omega) ⟨R.fh.seq (s.seq h), R.fh.seq (s.seq h')⟩
  stop := fun g2 H F2 en σ own _ R s => by
    have := (walk_zip (K := K) (a := p) (b := p') (xs := vs) (ys := vs') (n := min vs.length vs'.length) rfl).stops H ⟨R.fh.seq (s.seq h), R.fh.seq (s.seq h')⟩
    rw [dpa_len hd, dpa_len hd'] at this
    simpa using this
  yld := fun i g2 H F2 en σ own x H' _ R s hi y => by
    have hi2 : i < ds.length ∧ i < ds'.length := by
      have h0 := hi
      simp only [List.length_map, List.length_zip] at h0
      omega
    obtain ⟨T, a, b, rfl, hT, rfl, e1, e2⟩ := (walk_zip (n := min vs.length vs'.length) rfl).yields i H x H' (by rw [dpa_len hd, dpa_len hd']; omega) ⟨R.fh.seq (s.seq h), R.fh.seq (s.seq h')⟩ y
    obtain ⟨d, h1, h2⟩ := dpa_get hd e1
    obtain ⟨d', h1', h2'⟩ := dpa_get hd' e2
    obtain ⟨R', s', hp⟩ := pair_new R hT (dp_mono s _ _ h2) (dp_mono s _ _ h2')
    refine ⟨_, _, R', s', ?_, hp⟩
    have e3 : ds[i] = d := by
      rw [List.getElem?_eq_getElem hi2.1] at h1
      exact Option.some.inj h1
    have e4 : ds'[i] = d' := by
      rw [List.getElem?_eq_getElem hi2.2] at h1'
      exact Option.some.inj h1'
    rw [List.getElem?_map, (List.getElem?_zip_eq_some (z := (d, d'))).mpr ⟨h1, h1'⟩]
    rfl
theorem itOk_rev {g : Gd} {F : Hp} {p : Addr} {vs : List V} {ds : List D} (h : SqL K F p vs) (hd : DpAll K F vs ds) : ItOk K g F (Itv K p vs.length) ds.reverse where
  go := fun i g2 H F2 en σ own _ R s hi => walk_rev.goes i H (by rw [dpa_len hd]; simpa using hi) (R.fh.seq (s.seq h))
  stop := fun g2 H F2 en σ own _ R s => by
    have := (walk_rev (K := K) (a := p) (xs := vs)).stops H (R.fh.seq (s.seq h))
    rw [List.length_reverse, ← dpa_len hd]
    exact this
  yld := fun i g2 H F2 en σ own x H' _ R s hi y => by
    have hi' : i < ds.length := by simpa using hi
    obtain ⟨rfl, e2⟩ := walk_rev.yields i H x H' (by rw [dpa_len hd]; exact hi') (R.fh.seq (s.seq h)) y
    obtain ⟨d, h1, h2⟩ := dpa_get hd e2
    refine ⟨F2, d, R, Same.refl _, ?_, dp_mono s _ _ h2⟩
    rw [List.getElem?_reverse hi']
    rw [dpa_len hd] at h1
    exact h1
theorem itOk_str {g : Gd} {F : Hp} {z : Str} : ItOk K g F (Its z) (z.cps.toList.map fun c => PyData.str ⟨#[c]⟩) where
  go := fun i g2 H F2 en σ own _ R s hi => walk_str.goes i H (by simpa using hi) trivial
  stop := fun g2 H F2 en σ own _ R s => by
    have := (walk_str (z := z)).stops H trivial
    simpa using this
  yld := fun i g2 H F2 en σ own x H' _ R s hi y => by
    obtain ⟨rfl, c, h1, rfl⟩ := walk_str.yields i H x H' (by simpa using hi) trivial y
    exact ⟨F2, _, R, Same.refl _, by simp [h1], .str _⟩

/-- an iterable by its datum: a list, a tuple, a text -/
def dItL (da : DE) : DI := fun en Q => da en fun d en1 => match d with | .list ds => Q ds en1 | _ => False
def dItT (da : DE) : DI := fun en Q => da en fun d en1 => match d with | .tuple ds => Q ds en1 | _ => False
def dItS (da : DE) : DI := fun en Q => da en fun d en1 => match d with | .str z => Q (z.cps.toList.map fun c => PyData.str ⟨#[c]⟩) en1 | _ => False
def onL (d : D) (R : List D → Prop) : Prop := match d with | .list ds => R ds | _ => False
theorem onL_of {F : Hp} {d : D} {v : V} {R : List D → Prop} (hd : Dp K F v d) (q : onL d R) : ∃ p vs ds, v = .ref p ∧ d = .list ds ∧ Rd F p (.lst vs) ∧ DpAll K F vs ds ∧ R ds := by
  cases hd with
  | lst hs ha => exact ⟨_, _, _, rfl, rfl, hs, ha, q⟩
  | non => exact (show False from q).elim
  | bl _ => exact (show False from q).elim
  | int _ => exact (show False from q).elim
  | str _ => exact (show False from q).elim
  | tup _ _ => exact (show False from q).elim
variable {tg : Expr}
theorem dil (hK : X.K = K) (he : PE X e (tD K da)) : PI X tg e (tDI K (dItL da)) := PI.imp (pi_list he) fun σ H R ⟨g, F, en, own, W, RR, q, k⟩ => ⟨g, F, en, own, _, RR, q, fun d en1 q1 v H1 F1 own1 R1 s1 hd => by
  subst hK
  cases hd with
  | lst hs ha => exact ⟨_, rfl, ⟨_, R1.fh.seq (.inl hs)⟩, k _ _ q1 _ H1 F1 own1 R1 s1 (itOk_list (.inl hs) ha)⟩
  | non => exact (show False from q1).elim
  | bl _ => exact (show False from q1).elim
  | int _ => exact (show False from q1).elim
  | str _ => exact (show False from q1).elim
  | tup _ _ => exact (show False from q1).elim⟩
theorem dit (hK : X.K = K) (he : PE X e (tD K da)) : PI X tg e (tDI K (dItT da)) := PI.imp (pi_tup he) fun σ H R ⟨g, F, en, own, W, RR, q, k⟩ => ⟨g, F, en, own, _, RR, q, fun d en1 q1 v H1 F1 own1 R1 s1 hd => by
  subst hK
  cases hd with
  | tup hs ha => exact ⟨_, rfl, ⟨_, seqT_mono R1.fh hs⟩, k _ _ q1 _ H1 F1 own1 R1 s1 (itOk_tup hs ha)⟩
  | non => exact (show False from q1).elim
  | bl _ => exact (show False from q1).elim
  | int _ => exact (show False from q1).elim
  | str _ => exact (show False from q1).elim
  | lst _ _ => exact (show False from q1).elim⟩
theorem dis_ (he : PE X e (tD K da)) : PI X tg e (tDI K (dItS da)) := PI.imp (pi_str he) fun σ H R ⟨g, F, en, own, W, RR, q, k⟩ => ⟨g, F, en, own, _, RR, q, fun d en1 q1 v H1 F1 own1 R1 s1 hd => by
  cases hd with
  | str z => exact ⟨z, rfl, k _ _ q1 _ H1 F1 own1 R1 s1 itOk_str⟩
  | non => exact (show False from q1).elim
  | bl _ => exact (show False from q1).elim
  | int _ => exact (show False from q1).elim
  | tup _ _ => exact (show False from q1).elim
  | lst _ _ => exact (show False from q1).elim⟩
def rng (lo : Int) (n : Nat) : List D := (List.range n).map fun k => PyData.int (lo + (k : Nat))
def dRng1 (t : DA) : DI := fun en Q => t en fun ds en1 => match ds with | [.int j] => (-(2 ^ 62) ≤ j ∧ j < 2 ^ 62) ∧ Q (rng 0 j.toNat) en1 | _ => False
theorem dir1 {t : DA} {p : Pos} (hg : Gl X "range") (hm : X.mg "range" = none) (ha : PA X [a] (tDA K t)) (hs : starEach [a] X.env = [(false, eval a X.env)] := by rfl) : PI X tg (.Call (.Name "range" p) [a] [] pos) (tDI K (dRng1 t)) :=
  PI.imp (pi_range1 hg hm ha hs) fun σ H R ⟨g, F, en, own, W, RR, q, k⟩ => ⟨g, F, en, own, _, RR, q, fun ds en1 q1 vs H1 F1 own1 R1 s1 hd => by
    match ds, hd, q1 with
    | [.int j], .cons (.int _) .nil, q1 => exact ⟨j, rfl, q1.1.1, q1.1.2, k _ _ q1.2 _ H1 F1 own1 R1 s1 itOk_rng⟩
    | [], _, q1 => exact (show False from q1).elim
    | .none :: _, _, q1 => exact (show False from q1).elim
    | .bool _ :: _, _, q1 => exact (show False from q1).elim
    | .str _ :: _, _, q1 => exact (show False from q1).elim
    | .list _ :: _, _, q1 => exact (show False from q1).elim
    | .tuple _ :: _, _, q1 => exact (show False from q1).elim
    | .dict _ :: _, _, q1 => exact (show False from q1).elim
    | .int _ :: _ :: _, _, q1 => exact (show False from q1).elim⟩
end
end PD

namespace PD
open PySem PySem.Spec PyProof.Rows L2
section
variable {X : Cx} {K : Frag}
variable {a b c e : Expr} {da db dc : DE} {pos pos' : Pos} {ta tb : DT} {st : Stmt} {rest : List Stmt} {d1 d2 : DS} {tg : Expr}

/-! ### argument lists by shape -/
def on1 (ds : List D) (R : D → Prop) : Prop := match ds with | [d] => R d | _ => False
def on2 (ds : List D) (R : D → D → Prop) : Prop := match ds with | [d, e] => R d e | _ => False
def onI (d : D) (R : Int → Prop) : Prop := match d with | .int i => R i | _ => False
def onS (d : D) (R : Str → Prop) : Prop := match d with | .str i => R i | _ => False
def onT (d : D) (R : List D → Prop) : Prop := match d with | .tuple ds => R ds | _ => False
/-- a list or a tuple -/
def onQ (d : D) (R : List D → Prop) : Prop := match d with | .list ds => R ds | .tuple ds => R ds | _ => False
section
variable {F : Hp} {d : D} {v : V} {vs : List V} {ds : List D}
theorem on1_of {R : D → Prop} (hd : DpAll K F vs ds) (q : on1 ds R) : ∃ v d, vs = [v] ∧ ds = [d] ∧ Dp K F v d ∧ R d := by
  match ds, hd, q with
  | [d], .cons h1 .nil, q => exact ⟨_, d, rfl, rfl, h1, q⟩
  | [], _, q => exact (show False from q).elim
  | _ :: _ :: _, _, q => exact (show False from q).elim
theorem on2_of {R : D → D → Prop} (hd : DpAll K F vs ds) (q : on2 ds R) : ∃ v u d e, vs = [v, u] ∧ ds = [d, e] ∧ Dp K F v d ∧ Dp K F u e ∧ R d e := by
  match ds, hd, q with
  | [d, e], .cons h1 (.cons h2 .nil), q => exact ⟨_, _, d, e, rfl, rfl, h1, h2, q⟩
  | [], _, q => exact (show False from q).elim
  | [_], _, q => exact (show False from q).elim
  | _ :: _ :: _ :: _, _, q => exact (show False from q).elim
theorem onI_of {R : Int → Prop} (hd : Dp K F v d) (q : onI d R) : ∃ i, v = .int i ∧ d = .int i ∧ R i := by
  cases hd with
  | int i => exact ⟨i, rfl, rfl, q⟩
  | _ => exact (show False from q).elim
theorem onS_of {R : Str → Prop} (hd : Dp K F v d) (q : onS d R) : ∃ i, v = .str i ∧ d = .str i ∧ R i := by
  cases hd with
  | str i => exact ⟨i, rfl, rfl, q⟩
  | _ => exact (show False from q).elim
theorem onT_of {R : List D → Prop} (hd : Dp K F v d) (q : onT d R) : ∃ p vs ds, v = .ref p ∧ d = .tuple ds ∧ SqT K F p vs ∧ DpAll K F vs ds ∧ R ds := by
  cases hd with
  | tup hs ha => exact ⟨_, _, _, rfl, rfl, hs, ha, q⟩
  | _ => exact (show False from q).elim
theorem onQ_of {R : List D → Prop} (hd : Dp K F v d) (q : onQ d R) : ∃ p vs ds, v = .ref p ∧ (SqL K F p vs ∨ SqT K F p vs) ∧ DpAll K F vs ds ∧ R ds := by
  cases hd with
  | lst hs ha => exact ⟨_, _, _, rfl, .inl (.inl hs), ha, q⟩
  | tup hs ha => exact ⟨_, _, _, rfl, .inr hs, ha, q⟩
  | _ => exact (show False from q).elim
end
theorem sq_mono {F H : Hp} {p : Addr} {vs : List V} (s : Same F H) (h : SqL K F p vs ∨ SqT K F p vs) : SqL K H p vs ∨ SqT K H p vs := h.imp s.seq (seqT_mono s)

def dRng2 (t : DA) : DI := fun en Q => t en fun ds en1 => on2 ds fun d e => onI d fun i => onI e fun j => (-(2 ^ 62) ≤ i ∧ i < 2 ^ 62 ∧ -(2 ^ 62) ≤ j ∧ j < 2 ^ 62) ∧ Q (rng i (j - i).toNat) en1
theorem dir2 {t : DA} {p : Pos} (hg : Gl X "range") (hm : X.mg "range" = none) (ha : PA X [a, b] (tDA K t)) (hs : starEach [a, b] X.env = [(false, eval a X.env), (false, eval b X.env)] := by rfl) (hs2 : starEach [b] X.env = [(false, eval b X.env)] := by rfl) :
    PI X tg (.Call (.Name "range" p) [a, b] [] pos) (tDI K (dRng2 t)) :=
  PI.imp (pi_range2 hg hm ha hs hs2) fun σ H R ⟨g, F, en, own, W, RR, q, k⟩ => ⟨g, F, en, own, _, RR, q, fun ds en1 q1 vs H1 F1 own1 R1 s1 hd => by
    obtain ⟨v, u, d, e, rfl, rfl, h1, h2, q1⟩ := on2_of hd q1
    obtain ⟨i, rfl, rfl, q1⟩ := onI_of h1 q1
    obtain ⟨j, rfl, rfl, q1⟩ := onI_of h2 q1
    exact ⟨i, j, rfl, q1.1, k _ _ q1.2 _ H1 F1 own1 R1 s1 itOk_rng⟩⟩
def dEnum (t : DA) : DI := fun en Q => t en fun ds en1 => on1 ds fun d => onL d fun xs => Q (xs.zipIdx.map fun z => PyData.tuple [.int (z.2 : Nat), z.1]) en1
theorem dien {p tpos : Pos} {elts : List Expr} {kk : Nat} {t : DA} (hK : X.K = K) (hg : Gl X "enumerate") (hm : X.mg "enumerate" = none) (ha : PA X [e] (tDA K t)) (hs : starEach [e] X.env = [(false, eval e X.env)] := by rfl) :
    PI X (.Tuple elts kk tpos) (.Call (.Name "enumerate" p) [e] [] pos) (tDI K (dEnum t)) :=
  PI.imp (pi_enum hg hm ha hs) fun σ H R ⟨g, F, en, own, W, RR, q, k⟩ => ⟨g, F, en, own, _, RR, q, fun ds en1 q1 vs H1 F1 own1 R1 s1 hd => by
    subst hK
    obtain ⟨v, d, rfl, rfl, h1, q1⟩ := on1_of hd q1
    obtain ⟨p, vs, xs, rfl, rfl, hq, hx, q1⟩ := onL_of h1 q1
    exact ⟨p, vs, rfl, R1.fh.seq (.inl hq), k _ _ q1 _ H1 F1 own1 R1 s1 (itOk_enum (.inl hq) hx)⟩⟩
def dZip (t : DA) : DI := fun en Q => t en fun ds en1 => on2 ds fun d d' => onL d fun xs => onL d' fun ys => Q ((xs.zip ys).map fun z => PyData.tuple [z.1, z.2]) en1
theorem dizp {e2 : Expr} {p tpos : Pos} {elts : List Expr} {kk : Nat} {t : DA} (hK : X.K = K) (hg : Gl X "zip") (hm : X.mg "zip" = none) (ha : PA X [e, e2] (tDA K t))
    (hs : starEach [e, e2] X.env = (false, eval e X.env) :: starEach [e2] X.env := by rfl) (hpl : (backTo pos (starEach [e2] X.env)).any (·.1) = false := by rfl) :
    PI X (.Tuple elts kk tpos) (.Call (.Name "zip" p) [e, e2] [] pos) (tDI K (dZip t)) :=
  PI.imp (pi_zip hg hm ha hs hpl) fun σ H R ⟨g, F, en, own, W, RR, q, k⟩ => ⟨g, F, en, own, _, RR, q, fun ds en1 q1 vs H1 F1 own1 R1 s1 hd => by
    subst hK
    obtain ⟨v, u, d, e, rfl, rfl, h1, h2, q1⟩ := on2_of hd q1
    obtain ⟨p, vs, xs, rfl, rfl, hq, hx, q1⟩ := onL_of h1 q1
    obtain ⟨p', vs', xs', rfl, rfl, hq', hx', q1⟩ := onL_of h2 q1
    exact ⟨p, p', vs, vs', rfl, R1.fh.seq (.inl hq), R1.fh.seq (.inl hq'), k _ _ q1 _ H1 F1 own1 R1 s1 (itOk_zip (.inl hq) hx (.inl hq') hx')⟩⟩
def dRev (t : DA) : DI := fun en Q => t en fun ds en1 => on1 ds fun d => onL d fun xs => Q xs.reverse en1
theorem dirv {p : Pos} {t : DA} (hK : X.K = K) (hg : Gl X "reversed") (hm : X.mg "reversed" = none) (ha : PA X [e] (tDA K t)) (hs : starEach [e] X.env = [(false, eval e X.env)] := by rfl) :
    PI X tg (.Call (.Name "reversed" p) [e] [] pos) (tDI K (dRev t)) :=
  PI.imp (pi_reversed hg hm ha hs) fun σ H R ⟨g, F, en, own, W, RR, q, k⟩ => ⟨g, F, en, own, _, RR, q, fun ds en1 q1 vs H1 F1 own1 R1 s1 hd => by
    subst hK
    obtain ⟨v, d, rfl, rfl, h1, q1⟩ := on1_of hd q1
    obtain ⟨p, vs, xs, rfl, rfl, hq, hx, q1⟩ := onL_of h1 q1
    exact ⟨p, vs, rfl, R1.fh.seq (.inl hq), k _ _ q1 _ H1 F1 own1 R1 s1 (itOk_rev (.inl hq) hx)⟩⟩

/-! ### for -/
def ForG (dg : DG) (db : DS) (E : DEnds) (ds : List D) (en1 : En) : Prop := ∃ W : Nat → En → Prop, W 0 en1 ∧
  (∀ i d en, ds[i]? = some d → W i en → dg d en fun en2 => db { E with nx := W (i + 1), ct := W (i + 1), bk := E.nx } en2) ∧ ∀ en, W ds.length en → E.nx en
def dFor (di : DI) (dg : DG) (db : DS) : DS := fun E en => di en (ForG dg db E)
theorem for_turns {g : Gd} {F1 H1 : Hp} {en1 : En} {own1 : Owner} {σ1 : St} {dg : DG} {ws : List Nat} {J : It} {ds : List D} {E : DEnds} {De : Ends} {W : Nat → En → Prop} (R1 : Rg K g F1 en1 σ1 H1 own1) (it : ItOk K g F1 J ds) (eo : EndsOk K g F1 E De)
    (w0 : W 0 en1) (wst : ∀ i d en, ds[i]? = some d → W i en → dg d en fun en2 => d1 { E with nx := W (i + 1), ct := W (i + 1), bk := E.nx } en2) (wd : ∀ en, W ds.length en → E.nx en) :
    ∃ W : Nat → Nat → St → Hp → Prop, (∃ m, W 0 m σ1 H1) ∧ ∀ i m σ H, W i m σ H →
      (J.stop i H ∧ De.nx σ H) ∨ (J.go i H ∧ ∃ N : St → Hp → Prop, (∀ σ' H', N σ' H' → ∃ m', m' < m ∧ W (i + 1) m' σ' H') ∧ ∀ x H', J.yld i H x H' → tDG K ws dg x σ H' fun σ2 H2 => tDS K d1 { De with nx := N, ct := N, bk := De.nx } σ2 H2) := by
  refine ⟨fun i m σ' H' => m = ds.length - i ∧ i ≤ ds.length ∧ ∃ F' en' own', Rg K g F' en' σ' H' own' ∧ Same F1 F' ∧ W i en', ⟨ds.length, by simp, Nat.zero_le _, F1, en1, own1, R1, Same.refl _, w0⟩, ?_⟩
  rintro i m σ2 H2 ⟨rfl, hi, F2, en2, own2, R2, s2, w2⟩
  by_cases hlt : i < ds.length
  · refine .inr ⟨it.go i g H2 F2 en2 σ2 own2 (Same.refl _) R2 s2 hlt, fun σ' H' => ∃ F' en' own', Rg K g F' en' σ' H' own' ∧ Same F1 F' ∧ W (i + 1) en', fun σ' H' h => ⟨ds.length - (i + 1), by omega, rfl, hlt, h⟩, fun x H3 y => ?_⟩
    obtain ⟨F3, d, R3, s3, hd1, hd2⟩ := it.yld i g H2 F2 en2 σ2 own2 x H3 (Same.refl _) R2 s2 hlt y
    refine ⟨g, F3, en2, own2, _, d, R3, hd2, wst i d en2 hd1 w2, fun en4 q4 σ4 H4 F4 own4 R4 s4 _ => ?_⟩
    have s14 : Same F1 F4 := (s2.trans s3).trans s4
    refine ⟨g, F4, en4, own4, _, R4, ⟨?_, ?_, ?_, ?_⟩, q4⟩
    · intro en' σ' H' F' own' R' s' hw
      exact ⟨F', en', own', R', s14.trans s', hw⟩
    · exact (eo.mono s14).rt
    · intro en' σ' H' F' own' R' s' hh
      exact (eo.mono s14).nx _ _ _ _ _ R' s' hh
    · intro en' σ' H' F' own' R' s' hw
      exact ⟨F', en', own', R', s14.trans s', hw⟩
  · have e : i = ds.length := by omega
    subst e
    exact .inl ⟨it.stop g H2 F2 en2 σ2 own2 (Same.refl _) R2 s2, (eo.mono s2).nx _ _ _ _ _ R2 (Same.refl _) (wd _ w2)⟩
theorem dfor {iter : Expr} {body : List Stmt} {ws : List Nat} {di : DI} {dg : DG} (hp : PassesOwn (model X.prog X.w) X.A X.env X.xe) (hc : X.calm = true) (hi : PI X tg iter (tDI K di)) (hg : PG X tg (tDG K ws dg)) (hb : PSs X body (tDS K d1))
    (hs : ∀ x, foldedSetIterable iter X.env x = pure x := by intro _; rfl) : PS X (.For tg iter body [] pos) (tDS K (dFor di dg d1)) :=
  PS.imp (ps_for hp hc hi hg hb hs) fun De σ H ⟨g, F, en, own, E, R, eo, q⟩ => ⟨g, F, en, own, _, R, q, fun ds en1 ⟨W, w0, ws, wd⟩ J H1 F1 own1 R1 s1 it => for_turns R1 it (eo.mono s1) w0 ws wd⟩

/-! ### comprehensions -/
/-- the entries of a block's own names: put aside, put back -/
def wipeE (en : En) : List Nat → En
  | [] => en
  | v :: vs => (wipeE en vs).set v .no
def backE (en0 en : En) : List Nat → En
  | [] => en
  | v :: vs => (backE en0 en vs).set v (en0.getD v .no)
def notOwned (en : En) (vs : List Nat) : Prop := ∀ v ∈ vs, ∀ p o, en[v]? ≠ some (.ow p o)
theorem wipeE_length (en : En) : ∀ vs, (wipeE en vs).length = en.length
  | [] => rfl
  | v :: vs => by unfold wipeE; rw [List.length_set, wipeE_length en vs]
theorem backE_length (en0 en : En) : ∀ vs, (backE en0 en vs).length = en.length
  | [] => rfl
  | v :: vs => by unfold backE; rw [List.length_set, backE_length en0 en vs]
theorem wipeE_get {en : En} {i : Nat} : ∀ {vs : List Nat} {e : Ent}, (wipeE en vs)[i]? = some e → (i ∈ vs ∧ e = .no) ∨ (i ∉ vs ∧ en[i]? = some e)
  | [], e, h => .inr ⟨by simp, h⟩
  | v :: vs, e, h => by
    unfold wipeE at h
    rcases get_set h with ⟨rfl, rfl⟩ | ⟨ne, h⟩
    · exact .inl ⟨by simp, rfl⟩
    · rcases wipeE_get h with ⟨m, q⟩ | ⟨m, q⟩
      · exact .inl ⟨by simp [m], q⟩
      · exact .inr ⟨by simp [ne, m], q⟩
theorem backE_get {en0 en : En} {i : Nat} : ∀ {vs : List Nat} {e : Ent}, (backE en0 en vs)[i]? = some e → (i ∈ vs ∧ e = en0.getD i .no) ∨ (i ∉ vs ∧ en[i]? = some e)
  | [], e, h => .inr ⟨by simp, h⟩
  | v :: vs, e, h => by
    unfold backE at h
    rcases get_set h with ⟨rfl, rfl⟩ | ⟨ne, h⟩
    · exact .inl ⟨by simp, rfl⟩
    · rcases backE_get h with ⟨m, q⟩ | ⟨m, q⟩
      · exact .inl ⟨by simp [m], q⟩
      · exact .inr ⟨by simp [ne, m], q⟩
theorem wipe_get_ne {σ : St} {i : Nat} : ∀ {vs : List Nat}, i ∉ vs → (wipe σ vs)[i]? = σ[i]?
  | [], _ => rfl
  | v :: vs, h => by
    unfold wipe
    rw [List.getElem?_set_ne (fun e => h (by simp [e]))]
    exact wipe_get_ne fun m => h (by simp [m])
/-- into the block -/
theorem Rel.wiped {B F0 F H : Hp} {en : En} {σ : St} {own : Owner} (R : PD.Rel K B F0 F en σ H own) (vs : List Nat) : PD.Rel K B F0 F (wipeE en vs) (wipe σ vs) H own where
  f0 := R.f0
  nw := R.nw
  fh := R.fh
  bh := R.bh
  od := R.od
  len := by rw [wipeE_length, wipe_length]; exact R.len
  at_ := fun i x e h1 h2 => by
    rcases wipeE_get h2 with ⟨_, rfl⟩ | ⟨m, q⟩
    · trivial
    · rw [wipe_get_ne m] at h1
      exact R.at_ i x e h1 q
/-- out of it -/
theorem Rel.backed {B F0 F F' H H' : Hp} {en en' : En} {σ σ' : St} {own own' : Owner} (R : PD.Rel K B F0 F en σ H own) (R' : PD.Rel K B F0 F' en' σ' H' own') (s : Same F F') (vs : List Nat) (hn : notOwned en vs) (hw : wipe σ' vs = wipe σ vs) :
    PD.Rel K B F0 F' (backE en en' vs) σ H' own' where
  f0 := R'.f0
  nw := R'.nw
  fh := R'.fh
  bh := R'.bh
  od := R'.od
  len := by
    have e := congrArg List.length hw
    rw [wipe_length, wipe_length] at e
    rw [backE_length, R'.len, e]
  at_ := fun i x e h1 h2 => by
    rcases backE_get h2 with ⟨m, rfl⟩ | ⟨m, q⟩
    · cases he : en[i]? with
      | none => rw [List.getD_eq_getElem?_getD, he]; trivial
      | some u =>
        rw [List.getD_eq_getElem?_getD, he]
        have r := R.at_ i x u h1 he
        cases u with
        | no => trivial
        | fz d => obtain ⟨v, e, h⟩ := r; exact ⟨v, e, dp_mono s _ _ h⟩
        | ow p o => exact absurd he (hn i m p o)
        | rw v => exact r
        | sc ns => obtain ⟨a, e, h⟩ := r; exact ⟨a, e, s.seq h⟩
    · have e2 : σ'[i]? = σ[i]? := by rw [← wipe_get_ne m, hw, wipe_get_ne m]
      exact R'.at_ i x e (by rw [e2]; exact h1) q
/-- a further object is kept as it stands -/
def Gd.more (g : Gd) (p : Addr) (o : HO) : Gd := ⟨upd g.B p o, g.F0⟩
theorem Rel.hold {g : Gd} {F H : Hp} {en : En} {σ : St} {own : Owner} {p : Addr} {o : HO} (R : Rg K g F en σ H own) (hp : H p = some o) (hF : F p = none) (ho : own p = none) : Rg K (g.more p o) F en σ H own where
  f0 := R.f0
  nw := fun a u e => by
    rcases R.nw a u e with h | h
    · exact .inl h
    · refine .inr ?_
      show upd g.B p o a = none
      rw [upd_ne (fun z => by subst z; rw [hF] at e; cases e)]
      exact h
  fh := R.fh
  bh := same_updL R.bh hp
  od := fun a i e => by
    obtain ⟨h1, h2, h3⟩ := R.od a i e
    refine ⟨h1, ?_, h3⟩
    show upd g.B p o a = none
    rw [upd_ne (fun z => by subst z; rw [ho] at e; cases e)]
    exact h2
  len := R.len
  at_ := R.at_
theorem Rel.loose {g : Gd} {F H : Hp} {en : En} {σ : St} {own : Owner} {p : Addr} {o : HO} (R : Rg K (g.more p o) F en σ H own) (h0 : g.F0 p = none) (hB : g.B p = none) : Rg K g F en σ H own ∧ H p = some o ∧ F p = none ∧ own p = none := by
  have hp : H p = some o := R.bh p o (by show upd g.B p o p = _; rw [upd_same])
  have hF : F p = none := by
    cases q : F p with
    | none => rfl
    | some u =>
      rcases R.nw p u q with h | h
      · rw [show (g.more p o).F0 p = none from h0] at h; cases h
      · rw [show (g.more p o).B p = some o from upd_same] at h; cases h
  have ho : own p = none := by
    cases q : own p with
    | none => rfl
    | some i =>
      have h := (R.od p i q).2.1
      rw [show (g.more p o).B p = some o from upd_same] at h; cases h
  refine ⟨⟨R.f0, fun a u e => ?_, R.fh, fun b x e => ?_, fun a i e => ?_, R.len, R.at_⟩, hp, hF, ho⟩
  · rcases R.nw a u e with h | h
    · exact .inl h
    · by_cases ha : a = p
      · subst ha; rw [hF] at e; cases e
      · rw [show (g.more p o).B a = g.B a from upd_ne ha] at h; exact .inr h
  · exact R.bh b x (by rw [show (g.more p o).B b = g.B b from upd_ne (fun z => by subst z; rw [hB] at e; cases e)]; exact e)
  · obtain ⟨h1, h2, h3⟩ := R.od a i e
    have ha : a ≠ p := fun z => by subst z; rw [ho] at e; cases e
    rw [show (g.more p o).B a = g.B a from upd_ne ha] at h2
    exact ⟨h1, h2, h3⟩

def LcG (dg : DG) (tt : DT) (te : DE) (vs : List Nat) (Q : Ow → En → Prop) (ds : List D) (en1 : En) : Prop := ∃ W : Nat → List D → En → Prop, W 0 [] en1 ∧
  (∀ i d acc en, ds[i]? = some d → acc.length ≤ i → W i acc en → notOwned en vs ∧ dg d (wipeE en vs) fun en2 => tt en2 fun b en3 =>
    if b = true then te en3 fun y en4 => W (i + 1) (acc ++ [y]) (backE en en4 vs) else W (i + 1) acc (backE en en3 vs)) ∧ ds.length ≤ sizeLine ∧ ∀ acc en, W ds.length acc en → Q (.lst acc) en
def dLc (di : DI) (dg : DG) (tt : DT) (te : DE) (vs : List Nat) : DO := fun en Q => di en (LcG dg tt te vs Q)
/-- a target within a block -/
abbrev ED (K : Frag) (de : DE) : TE := tD K de
/-- the turns of a comprehension, by data -/
theorem lc_turns {g : Gd} {F1 H1 : Hp} {en1 : En} {own1 : Owner} {dg : DG} {tt : DT} {te : DE} {vs : List Nat} {σ : St} {Q : VK} {J : It} {ds : List D} {Wq : Ow → En → Prop} {Wv : Nat → List D → En → Prop} (R1 : Rg K g F1 en1 σ H1 own1) (it : ItOk K g F1 J ds)
    (w0 : Wv 0 [] en1) (ws : ∀ i d acc en, ds[i]? = some d → acc.length ≤ i → Wv i acc en → notOwned en vs ∧ dg d (wipeE en vs) fun en2 => tt en2 fun b en3 =>
      if b = true then te en3 fun y en4 => Wv (i + 1) (acc ++ [y]) (backE en en4 vs) else Wv (i + 1) acc (backE en en3 vs)) (wl : ds.length ≤ sizeLine) (wd : ∀ acc en, Wv ds.length acc en → Wq (.lst acc) en)
    (k : ∀ o en', Wq o en' → kO K g F1 σ Q o en') (L : Addr) (hL : H1 L = none) :
    ∃ W : Nat → Nat → Hp → Prop, (∃ m, W 0 m (upd H1 L (.lst []))) ∧ ∀ i m H, W i m H →
      (J.stop i H ∧ Q (.ref L) H) ∨ (J.go i H ∧ ∃ Nx : Hp → Prop, (∀ H', Nx H' → ∃ m', m' < m ∧ W (i + 1) m' H') ∧ ∀ x H', J.yld i H x H' → tDG K vs dg x (wipe σ vs) H' fun σ2 H2 => wipe σ2 vs = wipe σ vs ∧ tDT K tt σ2 H2 fun b H3 =>
        if b = true then tD K te σ2 H3 fun y H4 => ∃ acc, H4 L = some (.lst acc) ∧ acc.length < sizeLine ∧ Nx (upd H4 L (.lst (acc ++ [y]))) else Nx H3) := by
  have hB1 : g.B L = none := R1.bNone hL
  have hF01 : g.F0 L = none := R1.f0.free (R1.fNone hL)
  refine ⟨fun i m H' => m = ds.length - i ∧ i ≤ ds.length ∧ ∃ F' en' own' acc vacc, Rg K g F' en' σ H' own' ∧ Same F1 F' ∧ H' L = some (.lst vacc) ∧ F' L = none ∧ own' L = none ∧ DpAll K F' vacc acc ∧ acc.length ≤ i ∧ Wv i acc en',
    ⟨ds.length, by simp, Nat.zero_le _, F1, en1, own1, [], [], R1.apart hL, Same.refl _, upd_same, R1.fNone hL, R1.ownNone hL, .nil, Nat.le_refl _, w0⟩, ?_⟩
  rintro i m H2 ⟨rfl, hi, F2, en2, own2, acc, vacc, R2, s2, e2, f2, o2, d2, l2, w2⟩
  have sB : Same g.B (g.more L (.lst vacc)).B := fun b o e => by
    show upd g.B L (.lst vacc) b = some o
    rw [upd_ne (fun z => by subst z; rw [hB1] at e; cases e)]
    exact e
  have Rh : Rg K (g.more L (.lst vacc)) F2 en2 σ H2 own2 := Rel.hold R2 e2 f2 o2
  by_cases hlt : i < ds.length
  · refine .inr ⟨it.go i _ H2 F2 en2 σ own2 sB Rh s2 hlt, fun H' => ∃ F' en' own' acc vacc, Rg K g F' en' σ H' own' ∧ Same F1 F' ∧ H' L = some (.lst vacc) ∧ F' L = none ∧ own' L = none ∧ DpAll K F' vacc acc ∧ acc.length ≤ i + 1 ∧ Wv (i + 1) acc en',
      fun H' h => ⟨ds.length - (i + 1), by omega, rfl, hlt, h⟩, fun x H3 y => ?_⟩
    obtain ⟨F3, d, R3, s3, hd1, hd2⟩ := it.yld i _ H2 F2 en2 σ own2 x H3 sB Rh s2 hlt y
    obtain ⟨hn, q3⟩ := ws i d acc en2 hd1 l2 w2
    refine ⟨g.more L (.lst vacc), F3, _, own2, _, d, R3.wiped vs, hd2, q3, fun en4 q4 σ4 H4 F4 own4 R4 s4 w4 => ?_⟩
    have w4' : wipe σ4 vs = wipe σ vs := by
      rw [w4]
      have : ∀ (us : List Nat) (τ : St), (∀ u ∈ us, u ∈ vs) → wipe (wipe τ us) vs = wipe τ vs := by
        intro us
        induction us with
        | nil => intro τ _; rfl
        | cons u us ih =>
          intro τ hu
          show wipe ((wipe τ us).set u none) vs = _
          rw [wipe_set (hu u (by simp)), ih τ fun z hz => hu z (by simp [hz])]
      exact this vs σ fun _ h => h
    refine ⟨w4', g.more L (.lst vacc), F4, en4, own4, _, R4, q4, fun b en5 q5 H5 F5 own5 R5 s5 => ?_⟩
    have s15 : Same F1 F5 := ((s2.trans s3).trans s4).trans s5
    cases b with
    | true =>
      refine ⟨g.more L (.lst vacc), F5, en5, own5, _, R5, q5, fun yd en6 q6 yv H6 F6 own6 R6 s6 hy => ?_⟩
      obtain ⟨R7, e7, f7, o7⟩ := Rel.loose R6 hF01 hB1
      have R8 := Rel.backed R2 R7 (((s3.trans s4).trans s5).trans s6) vs hn w4'
      have hl : vacc.length = acc.length := dpa_len d2
      refine ⟨vacc, e7, ?_, F6, _, own6, acc ++ [yd], vacc ++ [yv], R8.poke f7 hB1 o7, s15.trans s6, upd_same, f7, o7, dpa_app (dpAll_mono (((s3.trans s4).trans s5).trans s6) _ _ d2) (.cons hy .nil), by rw [List.length_append, List.length_singleton]; omega, q6⟩
      omega
    | false =>
      obtain ⟨R7, e7, f7, o7⟩ := Rel.loose R5 hF01 hB1
      have R8 := Rel.backed R2 R7 ((s3.trans s4).trans s5) vs hn w4'
      exact ⟨F5, _, own5, acc, vacc, R8, s15, e7, f7, o7, dpAll_mono ((s3.trans s4).trans s5) _ _ d2, by omega, q5⟩
  · have e : i = ds.length := by omega
    subst e
    refine .inl ⟨it.stop g H2 F2 en2 σ own2 (Same.refl _) R2 s2, ?_⟩
    exact k _ _ (wd acc en2 w2) _ [L] H2 F2 own2 R2 s2 ⟨⟨L, vacc, rfl, rfl, e2, d2⟩, fun z hz => by
      have : z = L := by simpa using hz
      subst this
      exact ⟨f2, hB1, o2⟩⟩
/-- the reading of a comprehension, by data -/
theorem lc_imp {di : DI} {dg : DG} {tt : DT} {te : DE} {vs : List Nat} {σ : St} {H : Hp} {Q : VK} (h : tDO K (dLc di dg tt te vs) σ H Q) : tLc (tDI K di) (tDG K vs dg) (tDT K tt) (tD K te) vs σ H Q := by
  obtain ⟨g, F, en, own, W, R, q, k⟩ := h
  refine ⟨g, F, en, own, _, R, q, fun ds en1 ⟨Wv, w0, ws, wl, wd⟩ J H1 F1 own1 R1 s1 it L hL => ?_⟩
  exact lc_turns R1 it w0 ws wl wd (fun o en' hq => (k o en' hq).mono s1) L hL
/-- a list in the guard's hold is walked -/
theorem itOk_held {g : Gd} {F : Hp} {p : Addr} {vs : List V} {ds : List D} (h : g.B p = some (.lst vs)) (hd : DpAll K F vs ds) : ItOk K g F (Itl K p) ds where
  go := fun i g2 H F2 en σ own b R s hi => ⟨vs, vs[i]'(by rw [dpa_len hd]; exact hi), .inl (.inl (R.bh p _ (b p _ h))), by simp⟩
  stop := fun g2 H F2 en σ own b R s => ⟨vs, .inl (.inl (R.bh p _ (b p _ h))), by rw [dpa_len hd]; exact Nat.le_refl _⟩
  yld := fun i g2 H F2 en σ own x H' b R s hi y => by
    obtain ⟨rfl, y⟩ := y
    have hx := y vs (.inl (.inl (R.bh p _ (b p _ h))))
    obtain ⟨d, h1, h2⟩ := dpa_get hd hx
    exact ⟨F2, d, R, Same.refl _, h1, dp_mono s _ _ h2⟩
theorem dlc {elt iter : Expr} {ifs : List Expr} {scope : Scope} {bn : List (Str × Nat)} {di : DI} {dg : DG} {tt : DT} {te : DE} (hc : X.calm = true) (hN : X.N.Nodup) (hi : PI X tg iter (tDI K di)) (ok : BlkOk X.N X.env.scope scope bn)
    (hg : ∀ (s : Shared) (H : Hp) (C : Addr) (cl : List (Str × Addr)) (fp : List Addr), PG (X.blk s H scope (compEnvC scope cl C X.env) fp) tg (tDG K (bn.map (·.2)) dg)) (ht : ∀ (s : Shared) (H : Hp) (C : Addr) (cl : List (Str × Addr)) (fp : List Addr), PTs (X.blk s H scope (compEnvC scope cl C X.env) fp) ifs (tDT K tt))
    (he : ∀ (s : Shared) (H : Hp) (C : Addr) (cl : List (Str × Addr)) (fp : List Addr), PE (X.blk s H scope (compEnvC scope cl C X.env) fp) elt (tD K te)) (hs : ∀ x, foldedSetIterable iter X.env x = pure x := by intro _; rfl) :
    PE X (.ListComp elt [⟨tg, iter, ifs, 0⟩] scope pos) (tDO K (dLc di dg tt te (bn.map (·.2)))) := PE.imp (pe_lc hc hN hi ok hg ht he hs) fun σ H Q h => lc_imp h
/-- a name = [..] -/
theorem dsetLcO {i : Nat} {y : Str} {py spos : Pos} {elt iter : Expr} {ifs : List Expr} {scope : Scope} {bn : List (Str × Nat)} {di : DI} {dg : DG} {tt : DT} {te : DE} (hc : X.calm = true) (hN : X.N.Nodup) (hy : X.N[i]? = some y) (hyl : X.env.scope.names.lookup y = some .local)
    (hsw : swapsWith (.ListComp elt [⟨tg, iter, ifs, 0⟩] scope pos) (some (.Name y py)) spos.line X.env = pure true) (hi : PI X tg iter (tDI K di)) (ok : BlkOk X.N X.env.scope scope bn)
    (hg : ∀ (s : Shared) (H : Hp) (C : Addr) (cl : List (Str × Addr)) (fp : List Addr), PG (X.blk s H scope (compEnvC scope cl C X.env) fp) tg (tDG K (bn.map (·.2)) dg)) (ht : ∀ (s : Shared) (H : Hp) (C : Addr) (cl : List (Str × Addr)) (fp : List Addr), PTs (X.blk s H scope (compEnvC scope cl C X.env) fp) ifs (tDT K tt))
    (he : ∀ (s : Shared) (H : Hp) (C : Addr) (cl : List (Str × Addr)) (fp : List Addr), PE (X.blk s H scope (compEnvC scope cl C X.env) fp) elt (tD K te)) (hs : ∀ x, foldedSetIterable iter X.env x = pure x := by intro _; rfl) :
    PS X (.Assign [.Name y py] (.ListComp elt [⟨tg, iter, ifs, 0⟩] scope pos) spos) (tDS K (dSetO i (dLc di dg tt te (bn.map (·.2))))) := dsetO_of (ps_setLc hc hN hy hyl hsw hi ok hg ht he hs) fun σ H Q h => lc_imp h
theorem dsetLc {i : Nat} {y : Str} {py spos : Pos} {elt iter : Expr} {ifs : List Expr} {scope : Scope} {bn : List (Str × Nat)} {di : DI} {dg : DG} {tt : DT} {te : DE} (hc : X.calm = true) (hN : X.N.Nodup) (hy : X.N[i]? = some y) (hyl : X.env.scope.names.lookup y = some .local)
    (hsw : swapsWith (.ListComp elt [⟨tg, iter, ifs, 0⟩] scope pos) (some (.Name y py)) spos.line X.env = pure true) (hi : PI X tg iter (tDI K di)) (ok : BlkOk X.N X.env.scope scope bn)
    (hg : ∀ (s : Shared) (H : Hp) (C : Addr) (cl : List (Str × Addr)) (fp : List Addr), PG (X.blk s H scope (compEnvC scope cl C X.env) fp) tg (tDG K (bn.map (·.2)) dg)) (ht : ∀ (s : Shared) (H : Hp) (C : Addr) (cl : List (Str × Addr)) (fp : List Addr), PTs (X.blk s H scope (compEnvC scope cl C X.env) fp) ifs (tDT K tt))
    (he : ∀ (s : Shared) (H : Hp) (C : Addr) (cl : List (Str × Addr)) (fp : List Addr), PE (X.blk s H scope (compEnvC scope cl C X.env) fp) elt (tD K te)) (hs : ∀ x, foldedSetIterable iter X.env x = pure x := by intro _; rfl) :
    PS X (.Assign [.Name y py] (.ListComp elt [⟨tg, iter, ifs, 0⟩] scope pos) spos) (tDS K (dSet i (dFr (dLc di dg tt te (bn.map (·.2)))))) := dset_of (ps_setLc hc hN hy hyl hsw hi ok hg ht he hs) fun σ H Q h => lc_imp (by
      obtain ⟨g, F, en, own, W, R, q, k⟩ := h
      refine ⟨g, F, en, own, _, R, q, fun o en1 q1 v A H1 F1 own1 R1 s1 ap => ?_⟩
      cases o with
      | lst xs =>
        obtain ⟨F2, R2, s2, hd⟩ := ap_frz R1 ap
        exact k _ _ q1 v H1 F2 own1 R2 (s1.trans s2) hd
      | dk _ => exact (show False from q1).elim
      | dt _ => exact (show False from q1).elim
      | src _ _ _ => exact (show False from q1).elim)
def dYes : DT := fun en Q => Q true en
theorem dty : PTs X [] (tDT K dYes) := ⟨fun pins s σ H Q I ⟨g, F, en, own, W, R, q, k⟩ => pts_nil.run pins s σ H Q I (k _ _ q H F own R (Same.refl _))⟩
theorem dt1 {c : Expr} (h : PT X c (tDT K ta)) : PTs X [c] (tDT K ta) := pts_one h
end
end PD

/-! Promises of defs that are called where no repr runs: as the library's FnOk, with the guards told. -/
namespace PD
open PySem PySem.Spec PyProof.Rows L2

/-- room, and no guard around -/
structure RoomG (n : Nat) (Ar : Around) : Prop where
  room : Room n Ar
  free : Ar.guards = some []
theorem RoomG.mono {m n : Nat} {Ar : Around} (h : RoomG n Ar) (le : m ≤ n) : RoomG m Ar := ⟨h.room.mono le, h.free⟩
theorem RoomG.hu {n : Nat} {Ar : Around} (h : RoomG n Ar) : Ar.units + 64 < cLine := h.room.units
theorem RoomG.hu5 {n : Nat} {Ar : Around} (h : RoomG n Ar) : Ar.units + 65 < cLine := by
  have := h.room.un
  omega

structure FnG (P : Program) (w : World) (K : Frag) (mg : Str → Option Value) (base : Heap) (CX : CXT) (n : Nat) (f : Addr) (fd : FuncData) (ps : List Str) (sp : Sp) : Prop where
  size : ∀ vs H Q E, sp vs H Q E → vs.length = ps.length
  go : ∀ (Ar : Around) (fr : List Env) (s : Shared) (H : Hp) (ar : Args) (us : List Value) (vs : List V) (Q : VK) (E : XK), RoomG n Ar → Env0 P w K mg base Ar fr s H →
    BindsTo s fd ar (ps.zip us) → Vals vs us → sp vs H Q E → codeAny (model P w) Ar (.call (.ref f) ar) (CR CX fr P w H s Q E) s
section
variable {P : Program} {w : World} {K : Frag} {mg : Str → Option Value} {base : Heap} {CX : CXT} {f : Addr} {fd : FuncData} {ps : List Str} {sp : Sp} {n : Nat}
theorem FnG.mono {m : Nat} (h : FnG P w K mg base CX m f fd ps sp) (le : m ≤ n) : FnG P w K mg base CX n f fd ps sp :=
  ⟨h.size, fun Ar fr s H ar us vs Q E hr => h.go Ar fr s H ar us vs Q E (hr.mono le)⟩
theorem FnG.imp {sp' : Sp} (h : FnG P w K mg base CX n f fd ps sp) (i : ∀ vs H Q E, sp' vs H Q E → sp vs H Q E) : FnG P w K mg base CX n f fd ps sp' :=
  ⟨fun vs H Q E q => h.size vs H Q E (i _ _ _ _ q), fun Ar fr s H ar us vs Q E hr e0 hb hv q => h.go Ar fr s H ar us vs Q E hr e0 hb hv (i _ _ _ _ q)⟩
theorem FnG.ofOk (h : FnOk P w K mg base CX n f fd ps sp) : FnG P w K mg base CX n f fd ps sp :=
  ⟨h.len, fun Ar fr s H ar us vs Q E hr => h.run Ar fr s H ar us vs Q E hr.room⟩

/-- the rule for a def by its body -/
theorem FnG.body {nm qn : Str} {pa : Arguments} {code : List Stmt} {sc : Scope} {dflt kwd dc pmd cod ctd ocl : Value} {ann odc : Option Addr} {osx : Array (Option Value)} {N : List Str}
    (at_ : K.lookup f = some ⟨ocl, odc, .func (PySem.W.fnOf nm qn pa code sc dflt kwd dc pmd ann cod ctd), osx⟩) (hco : PySem.W.codeIn K cod qn = true) (S : FnScope N ps sc)
    (size : ∀ vs H Q E, sp vs H Q E → vs.length = ps.length)
    (walk : ∀ (Ar : Around) (fr : List Env) (s : Shared) (H : Hp) (vs : List V) (Q : VK) (E : XK), RoomG n (Ar.deeper (envOfC qn sc s.heap.objs.size f cod)) → sp vs H Q E →
      ∃ t, PSs (cxOf CX P w K mg base N qn sc f cod Ar fr s H E) code t ∧ t { nx := fun _ H' => Q .non H', rt := Q } (start N vs) H) :
    FnG P w K mg base CX (n + 1) f (PySem.W.fnOf nm qn pa code sc dflt kwd dc pmd ann cod ctd) ps sp := by
  constructor
  · exact size
  intro Ar fr s H ar us vs Q E room e0 bnd vals want
  have many := size vs H Q E want
  have inK : K.In s.heap := e0.mod.kin.keeps (fun z oz hz => (e0.bs z oz hz).1)
  have nolim : s.heap.NoLimit := e0.mod.nolimit.keeps (fun z oz hz => (e0.bs z oz hz).1)
  have kinds : ∀ q ∈ ps.zip us, sc.names.lookup q.1 = some .local ∨ (sc.names.lookup q.1 = some .cell ∧ ((cellsFrom (s.heap.objs.size + 1) sc.names []).lookup q.1).isSome = true) := by
    rintro ⟨nx, vx⟩ hq
    have hm := (List.of_mem_zip hq).1
    cases S.par nx hm with
    | inl hl => exact Or.inl hl
    | inr hc => exact Or.inr ⟨hc, PySem.W.cellsFrom_some _ _ _ (Or.inl hc)⟩
  refine codeAny_call_function room.room.depth (inK _ _ at_) rfl S.co S.gen rfl (PySem.W.codeRec_of inK hco) (bnd _ _ _ _ ?bound)
  refine wpAny_newFunctionEnv_cells S.kind kinds (fun ev hev sn hin => ?ent)
  cases hev
  refine And.intro (nolim.keeps hin.toInCall.keep) (codeAny_func ?inner)
  obtain ⟨t, hrun, hwant⟩ := walk Ar fr s H vs Q E ⟨room.room.deeper _, room.free⟩ want
  have inv0 := inv_start (CX := CX) (E := E) S room.room.hd e0 many vals hin
  have ends : ∀ {τ : St} {J : Hp} {x : V} {u : Value} {s' : Shared}, Inv (cxOf CX P w K mg base N qn sc f cod Ar fr s H E) [] τ J s' → RelV x u → Q x J → CE fr P w H s Q u s' := by
    intro τ J x u s' iv rx qx
    exact ⟨x, J, iv.os, iv.bare, iv.base, iv.hok, rx, qx⟩
  refine wpAny_mono (hrun.run [] sn (start N vs) H _ inv0 hwant) (fun fl s' out => ?out) (fun ex s' out => out)
  cases fl with
  | next => exact let ⟨τ, J, iv, qx⟩ := out; ends (x := V.non) (u := Value.none) iv rfl qx
  | ret u => exact let ⟨x, τ, J, iv, rx, qx⟩ := out; ends iv rx qx
  | brk => exact (let ⟨_, _, _, qx⟩ := out; False.elim qx)
  | cont => exact (let ⟨_, _, _, qx⟩ := out; False.elim qx)
theorem funG {x qn : Str} {st : Stmt} {N : List Str} (Fu : Fun K x qn st f fd) (S : FnScope N ps (defScope st)) (size : ∀ vs H Q E, sp vs H Q E → vs.length = ps.length)
    (walk : ∀ (cod : Value) (Ar : Around) (fr : List Env) (s : Shared) (H : Hp) (vs : List V) (Q : VK) (E : XK), RoomG n (Ar.deeper (envOfC qn (defScope st) s.heap.objs.size f cod)) → sp vs H Q E →
      ∃ t, PSs (cxOf CX P w K mg base N qn (defScope st) f cod Ar fr s H E) (defBody st) t ∧ t { nx := fun _ H' => Q .non H', rt := Q } (start N vs) H) : FnG P w K mg base CX (n + 1) f fd ps sp := by
  obtain ⟨c1, c2, c3, c4, c5, c6, cod, c8, c9, rfl, at_, hco⟩ := Fu.ex
  exact FnG.body at_ hco S size (fun Ar fr s H vs Q E hr want => walk cod Ar fr s H vs Q E hr want)
end

/-! ### calls of such defs -/
section
variable {X : Cx} {CX : CXT} {n : Nat} {f : Addr} {fd : FuncData} {ps : List Str} {sp : Sp} {E : XK} {x : Str} {p pos : Pos} {e : Expr} {es : List Expr} {t : TA}
theorem goG {pins : List (Addr × Obj)} {σ : St} {H : Hp} {s : Shared} {Q : VK} {us : List Value} {vs : List V} (F : FnG X.prog X.w X.K X.mg X.base CX n f fd ps sp) (hr : RoomG n X.A) (hb : Binds X.K fd ps []) (hx : Passes CX X E)
    (iv : Inv X pins σ H s) (rv : Vals vs us) (want : sp vs H Q E) : wpAny (model X.prog X.w) X.A (call (.ref f) us) (EP X pins σ Q) X.xe s := by
  have many : (us ++ ([] : List Value)).length = ps.length := by
    rw [List.append_nil, ← rv.length]
    exact F.size _ _ _ _ want
  have bnd := hb s us iv.kIn many
  rw [List.append_nil] at bnd
  refine wpAny_call (codeAny_mono (F.go X.A X.stack s H _ us vs Q E hr iv.env0 bnd rv want) (fun r s' out => ?_))
  match r, out with
  | .error ex, out => exact hx pins σ H s ex s' iv out
  | .ok (.ret u), out => exact iv.after out
  | .ok .next, out => exact False.elim out
  | .ok .brk, out => exact False.elim out
  | .ok .cont, out => exact False.elim out
def tCallG (sp : Sp) (E : XK) (t : TA) : TE := fun σ H Q => t σ H fun vs H1 => sp vs H1 Q E
theorem pe_callG (F : FnG X.prog X.w X.K X.mg X.base CX n f fd ps sp) (hr : RoomG n X.A) (hg : Gl X x) (hm : X.mg x = some (.ref f)) (hk : PySem.W.keepIn X.K (.ref f) = true) (hb : Binds X.K fd ps []) (hx : Passes CX X E)
    (ha : PA X (e :: es) t) (hdb : (x == ("__debug__" : Str)) = false := by decide) (he : starEach (e :: es) X.env = (false, eval e X.env) :: starEach es X.env := by rfl) (hpl : (backTo pos (starEach es X.env)).any (·.1) = false := by rfl) :
    PE X (.Call (.Name x p) (e :: es) [] pos) (tCallG sp E t) := by
  constructor
  intro pins s σ H Q iv want
  refine wpAny_Call_Name_kw (ld_glob iv hg hm ?_ hdb)
  exact PySem.W.callWith_K (h₀ := X.base) iv.ok.mod.kin hk (thn (ha.run pos pins s σ H _ iv want) (fun us s1 ⟨vs, H1, iv1, rv, w1⟩ => ⟨iv1.kIn, goG F hr hb hx iv1 rv w1⟩)) he hpl
theorem pe_callG0 (F : FnG X.prog X.w X.K X.mg X.base CX n f fd ps sp) (hr : RoomG n X.A) (hg : Gl X x) (hm : X.mg x = some (.ref f)) (hk : PySem.W.keepIn X.K (.ref f) = true) (hb : Binds X.K fd ps []) (hx : Passes CX X E)
    (hdb : (x == ("__debug__" : Str)) = false := by decide) : PE X (.Call (.Name x p) [] [] pos) (tCallG sp E tNil) := by
  constructor
  intro pins s σ H Q iv want
  exact wpAny_Call_Name_kw (ld_glob iv hg hm (PySem.W.callWith_K0 iv.kIn hk (goG F hr hb hx iv .nil want)) hdb)
/-- f(e, .., k = v, ..) -/
structure KwB (K : Frag) (fd : FuncData) (ps ks : List Str) (gl : List Value → List Value → List Value) (gv : List V → List V → List V) : Prop where
  bnd : ∀ (s : Shared) (us ws : List Value), K.In s.heap → (gl us ws).length = ps.length → BindsTo s fd ⟨us, ks.zip ws⟩ (ps.zip (gl us ws))
  val : ∀ {vs : List V} {us : List Value} {zs : List V} {ws : List Value}, Vals vs us → Vals zs ws → Vals (gv vs zs) (gl us ws)
def tCallKG (sp : Sp) (gv : List V → List V → List V) (E : XK) (t tk : TA) : TE := fun σ H Q => t σ H fun vs H1 => tk σ H1 fun zs H2 => sp (gv vs zs) H2 Q E
theorem goKG {pins : List (Addr × Obj)} {σ : St} {H : Hp} {s : Shared} {Q : VK} {us ws : List Value} {vs zs : List V} {ks : List Str} {gl : List Value → List Value → List Value} {gv : List V → List V → List V}
    (F : FnG X.prog X.w X.K X.mg X.base CX n f fd ps sp) (hr : RoomG n X.A) (hb : KwB X.K fd ps ks gl gv) (hx : Passes CX X E)
    (iv : Inv X pins σ H s) (rv : Vals vs us) (rz : Vals zs ws) (want : sp (gv vs zs) H Q E) : wpAny (model X.prog X.w) X.A (call (.ref f) us (ks.zip ws)) (EP X pins σ Q) X.xe s := by
  have rr := hb.val rv rz
  have many : (gl us ws).length = ps.length := by
    rw [← rr.length]
    exact F.size _ _ _ _ want
  refine wpAny_call (codeAny_mono (F.go X.A X.stack s H _ _ _ Q E hr iv.env0 (hb.bnd s us ws iv.kIn many) rr want) (fun r s' out => ?_))
  match r, out with
  | .error ex, out => exact hx pins σ H s ex s' iv out
  | .ok (.ret u), out => exact iv.after out
  | .ok .next, out => exact False.elim out
  | .ok .brk, out => exact False.elim out
  | .ok .cont, out => exact False.elim out
theorem pe_callKG {ks : List Str} {kws : List Keyword} {tk : TA} {gl : List Value → List Value → List Value} {gv : List V → List V → List V} (F : FnG X.prog X.w X.K X.mg X.base CX n f fd ps sp) (hr : RoomG n X.A) (hg : Gl X x) (hm : X.mg x = some (.ref f)) (hk : PySem.W.keepIn X.K (.ref f) = true) (hb : KwB X.K fd ps ks gl gv) (hx : Passes CX X E)
    (ha : PA X (e :: es) t) (hkw : PK X kws tk) (hall : (backToKw pos (keywordEach kws X.env)).all (·.1.isSome) = true := by rfl) (hks : (backToKw pos (keywordEach kws X.env)).filterMap (·.1) = ks := by rfl)
    (hdb : (x == ("__debug__" : Str)) = false := by decide) (he : starEach (e :: es) X.env = (false, eval e X.env) :: starEach es X.env := by rfl)
    (hpl : ((backTo pos (starEach (e :: es) X.env)).any (·.1) || (backToKw pos (keywordEach kws X.env)).any (·.1.isNone)) = false := by rfl) :
    PE X (.Call (.Name x p) (e :: es) kws pos) (tCallKG sp gv E t tk) := by
  constructor
  intro pins s σ H Q iv want
  refine wpAny_Call_Name_kw (ld_glob iv hg hm ?_ hdb)
  refine PySem.W.callWith_KW (h₀ := X.base) iv.ok.mod.kin hk hall (thn (ha.run pos pins s σ H _ iv want) (fun us s1 ⟨vs, H1, iv1, rv, w1⟩ => ?_)) hpl he
  refine thn (hkw.run pos pins s1 σ H1 _ iv1 w1) (fun ws s2 ⟨zs, H2, iv2, rz, w2⟩ => And.intro iv2.kIn ?_)
  rw [hks]
  exact goKG F hr hb hx iv2 rv rz w2
/-- f(k = v, ..): keywords alone -/
theorem pe_callKG0 {ks : List Str} {kws : List Keyword} {tk : TA} {gl : List Value → List Value → List Value} {gv : List V → List V → List V} (F : FnG X.prog X.w X.K X.mg X.base CX n f fd ps sp) (hr : RoomG n X.A) (hg : Gl X x) (hm : X.mg x = some (.ref f)) (hk : PySem.W.keepIn X.K (.ref f) = true) (hb : KwB X.K fd ps ks gl gv) (hx : Passes CX X E)
    (hkw : PK X kws tk) (hall : (backToKw pos (keywordEach kws X.env)).all (·.1.isSome) = true := by rfl) (hks : (backToKw pos (keywordEach kws X.env)).filterMap (·.1) = ks := by rfl)
    (hdb : (x == ("__debug__" : Str)) = false := by decide) (hne : (backToKw pos (keywordEach kws X.env)).any (·.1.isNone) = false := by rfl) : PE X (.Call (.Name x p) [] kws pos) (tCallKG sp gv E tNil tk) := by
  constructor
  intro pins s σ H Q iv want
  refine wpAny_Call_Name_kw (ld_glob iv hg hm ?_ hdb)
  refine PySem.W.callWith_KW0 (h₀ := X.base) iv.ok.mod.kin hk hall (thn (hkw.run pos pins s σ H _ iv want) (fun ws s2 ⟨zs, H2, iv2, rz, w2⟩ => And.intro iv2.kIn ?_)) hne
  rw [hks]
  exact goKG F hr hb hx iv2 .nil rz w2
end
end PD

namespace PD
open PySem PySem.Spec PyProof.Rows L2

/-! ### a def's promise, by data -/
abbrev Post := En → (Res → En → Prop) → Prop
def SpD (K : Frag) (post : Post) : Sp := fun vs H Q _ => ∃ g F own as W, Rg K g F as (vs.map some) H own ∧ post as W ∧
  ∀ r as', W r as' → ∀ v H' F' own', Rg K g F' as' (vs.map some) H' own' → Same F F' → ResOk K g F' H' own' v r → Q v H'
/-- what a body's end must give -/
def exitW (as : En) (W : Res → En → Prop) (r : Res) (en : En) : Prop := ∃ as', W r as' ∧ as'.length = as.length ∧
  ∀ (i : Nat) (e : Ent), as'[i]? = some e → e = Ent.no ∨ ∃ a o o', as[i]? = some (Ent.ow (some a) o) ∧ e = Ent.ow (some a) o' ∧ en[i]? = some e
theorem start_rel {K : Frag} {g : Gd} {F H : Hp} {as : En} {vs : List V} {own : Owner} (N : List Str) (R : Rg K g F as (vs.map some) H own) : Rg K g F (as ++ List.replicate (N.length - as.length) .no) (start N vs) H own where
  f0 := R.f0
  nw := R.nw
  fh := R.fh
  bh := R.bh
  od := R.od
  len := by
    have hl := R.len
    rw [List.length_map] at hl
    show _ = (vs.map some ++ List.replicate (N.length - vs.length) none).length
    rw [List.length_append, List.length_append, List.length_replicate, List.length_replicate, List.length_map, hl]
  at_ := fun i x e h1 h2 => by
    have hl := R.len
    by_cases hi : i < as.length
    · rw [List.getElem?_append_left hi] at h2
      rw [show start N vs = vs.map some ++ List.replicate (N.length - vs.length) none from rfl, List.getElem?_append_left (by rw [← hl]; exact hi)] at h1
      exact R.at_ i x e h1 h2
    · rw [List.getElem?_append_right (by omega), List.getElem?_replicate] at h2
      split at h2
      · cases h2; trivial
      · cases h2
section
variable {P : Program} {w : World} {K : Frag} {mg : Str → Option Value} {base : Heap}
theorem fnD_ends {g : Gd} {F H : Hp} {own : Owner} {as : En} {vs : List V} {W : Res → En → Prop} {Q : VK} (R : Rg K g F as (vs.map some) H own)
    (hk : ∀ r as', W r as' → ∀ v H' F' own', Rg K g F' as' (vs.map some) H' own' → Same F F' → ResOk K g F' H' own' v r → Q v H') :
    EndsOk K g F { nx := exitW as W (.fz .none), rt := exitW as W } { nx := fun _ H' => Q .non H', rt := Q } := by
  have key : ∀ r en v σ H' F' own', Rg K g F' en σ H' own' → Same F F' → ResOk K g F' H' own' v r → exitW as W r en → Q v H' := by
    rintro r en v σ H' F' own' R' s hr ⟨as', hW, hl, hc⟩
    refine hk r as' hW v H' F' own' ⟨R'.f0, R'.nw, R'.fh, R'.bh, R'.od, by rw [hl]; exact R.len, fun i x e h1 h2 => ?_⟩ s hr
    rcases hc i e h2 with rfl | ⟨a, o, o', q1, rfl, q2⟩
    · trivial
    · have hi : i < σ.length := by rw [← R'.len]; exact (List.getElem?_eq_some_iff.mp q2).1
      obtain ⟨v', A, e1, r1, hA, hp⟩ := R'.at_ i _ _ (List.getElem?_eq_getElem hi) q2
      obtain ⟨v0, A0, e0, _, _, hp0⟩ := R.at_ i _ _ h1 q1
      have e2 : v' = .ref a := hp a rfl
      have e3 : v0 = .ref a := hp0 a rfl
      exact ⟨v', A, by rw [e0, e3, e2], r1, hA, hp⟩
  exact ⟨fun en σ H' F' own' R' s hx => key (.fz .none) en .non σ H' F' own' R' s (show Dp K F' .non .none from .non) hx, fun r en v σ H' F' own' R' s hr hx => key r en v σ H' F' own' R' s hr hx, fun _ _ _ _ _ _ _ h => h.elim, fun _ _ _ _ _ _ _ h => h.elim⟩
/-- a def keeps its promise, by its body's reading of data -/
theorem fnD {x qual : Str} {st : Stmt} {f : Addr} {fd : FuncData} {N ps : List Str} {k : Nat} {db : DS} {post : Post} (Fu : Fun K x qual st f fd) (S : FnScope N ps (defScope st)) (hlen : ∀ as W, post as W → as.length = ps.length)
    (hb : ∀ (cod : Value) (A : Around) (outer : List Env) (s : Shared) (H : Hp) (E : XK), RoomG k (A.deeper (envOfC qual (defScope st) s.heap.objs.size f cod)) →
      PSs (cxOf CX0 P w K mg base N qual (defScope st) f cod A outer s H E).nox (defBody st) (tDS K db))
    (hq : ∀ as W, post as W → db { nx := exitW as W (.fz .none), rt := exitW as W } (as ++ List.replicate (N.length - as.length) .no)) : FnG P w K mg base CX0 (k + 1) f fd ps (SpD K post) := by
  refine funG Fu S (fun vs H Q E ⟨g, F, own, as, W, R, hp, _⟩ => ?_) fun cod A outer s H vs Q E hr ⟨g, F, own, as, W, R, hp, hk⟩ => ?_
  · have h1 := R.len
    rw [List.length_map] at h1
    rw [← h1]
    exact hlen as W hp
  · exact ⟨_, (hb cod A outer s H E hr).nox, g, F, _, own, _, start_rel N R, fnD_ends R hk, hq as W hp⟩
end

/-! ### calls -/
inductive Arg where
  | fz (d : D) | vr (j : Nat) | sc (ns : List Int)
def ArgOk (K : Frag) (F : Hp) (σ : St) (v : V) : Arg → Prop
  | .fz d => Dp K F v d
  | .vr j => σ[j]? = some (some v)
  | .sc ns => ∃ a, v = .ref a ∧ SqL K F a (ns.map V.int)
def entOf (α : Nat → Addr) (en : En) : Arg → Ent
  | .fz d => .fz d
  | .vr j => match en[j]? with
    | some (.ow _ o) => .ow (some (α j)) o
    | _ => .no
  | .sc ns => .sc ns
structure Backs (α : Nat → Addr) (args : List Arg) (as' en1 en2 : En) : Prop where
  len : en2.length = en1.length
  mu : ∀ (i j : Nat), args[i]? = some (Arg.vr j) → ∃ p o o', en1[j]? = some (Ent.ow p o) ∧ as'[i]? = some (Ent.ow (some (α j)) o') ∧ en2[j]? = some (Ent.ow p o')
  oth : ∀ (j : Nat), (∀ (i : Nat), args[i]? ≠ some (Arg.vr j)) → en2[j]? = en1[j]?
def Apt (args : List Arg) (en1 : En) : Prop := (∀ (i i' j : Nat), args[i]? = some (Arg.vr j) → args[i']? = some (Arg.vr j) → i = i') ∧ ∀ (i j : Nat), args[i]? = some (Arg.vr j) → ∃ p o, en1[j]? = some (Ent.ow p o)
section
variable {K : Frag} {g : Gd} {F H : Hp} {en : En} {σ : St} {own : Owner}
open Classical in
noncomputable def ownC (own : Owner) (args : List Arg) : Owner := fun a => if h : ∃ i j, own a = some j ∧ args[i]? = some (Arg.vr j) then some h.choose else none
theorem ownC_some {args : List Arg} {a : Addr} {i : Nat} (h : ownC own args a = some i) : ∃ j, own a = some j ∧ args[i]? = some (Arg.vr j) := by
  unfold ownC at h
  split at h
  · rename_i q
    cases h
    exact q.choose_spec
  · cases h
theorem ownC_of {args : List Arg} (hd : ∀ (i i' j : Nat), args[i]? = some (Arg.vr j) → args[i']? = some (Arg.vr j) → i = i') {a : Addr} {i j : Nat} (h1 : own a = some j) (h2 : args[i]? = some (Arg.vr j)) : ownC own args a = some i := by
  have q : ∃ i j, own a = some j ∧ args[i]? = some (Arg.vr j) := ⟨i, j, h1, h2⟩
  unfold ownC
  rw [dif_pos q]
  obtain ⟨j', e1, e2⟩ := q.choose_spec
  rw [h1] at e1
  cases e1
  rw [hd _ _ _ e2 h2]
theorem ownC_none {args : List Arg} {a : Addr} (h : ownC own args a = none) : ∀ (i j : Nat), own a = some j → args[i]? ≠ some (Arg.vr j) := fun i j h1 h2 => by
  have q : ∃ i j, own a = some j ∧ args[i]? = some (Arg.vr j) := ⟨i, j, h1, h2⟩
  unfold ownC at h
  rw [dif_pos q] at h
  cases h
/-- what a callee may take for granted, and must keep -/
noncomputable def gC (own : Owner) (args : List Arg) (F H : Hp) : Gd := ⟨fun a => match ownC own args a with | some _ => none | none => H a, F⟩
theorem gC_B {args : List Arg} {a : Addr} (h : ownC own args a = none) : (gC own args F H).B a = H a := by
  show (match ownC own args a with | some _ => none | none => H a) = _
  rw [h]
theorem gC_B' {args : List Arg} {a : Addr} {i : Nat} (h : ownC own args a = some i) : (gC own args F H).B a = none := by
  show (match ownC own args a with | some _ => none | none => H a) = _
  rw [h]
theorem call_in {args : List Arg} {vs : List V} (R : Rg K g F en σ H own) (ap : Apt args en) (hl : vs.length = args.length) (ha : ∀ (i : Nat) (v : V) (x : Arg), vs[i]? = some v → args[i]? = some x → ArgOk K F σ v x) :
    ∃ α : Nat → Addr, (∀ (j : Nat) (p : Option Addr) (o : Ow), en[j]? = some (Ent.ow p o) → σ[j]? = some (some (V.ref (α j)))) ∧ Rg K (gC own args F H) F (args.map (entOf α en)) (vs.map some) H (ownC own args) := by
  have hα : ∀ (j : Nat) (p : Option Addr) (o : Ow), en[j]? = some (Ent.ow p o) → ∃ a, σ[j]? = some (some (V.ref a)) := by
    intro j p o he
    have hi : j < σ.length := by rw [← R.len]; exact (List.getElem?_eq_some_iff.mp he).1
    obtain ⟨v, A, e, r, _, _⟩ := R.at_ j _ _ (List.getElem?_eq_getElem hi) he
    have : ∃ a, v = V.ref a := by
      cases o with
      | lst xs => obtain ⟨a, _, e, _⟩ := r; exact ⟨a, e⟩
      | dk xs => obtain ⟨a, _, e, _⟩ := r; exact ⟨a, e⟩
      | dt xs => obtain ⟨a, _, e, _⟩ := r; exact ⟨a, e⟩
      | src _ _ _ => obtain ⟨a, _, e, _⟩ := r; exact ⟨a, e⟩
    obtain ⟨a, rfl⟩ := this
    exact ⟨a, by rw [List.getElem?_eq_getElem hi, e]⟩
  refine ⟨fun j => match σ[j]? with | some (some (.ref a)) => a | _ => 0, fun j p o he => ?_, ?_⟩
  · obtain ⟨a, e⟩ := hα j p o he
    simp only [e]
  · refine ⟨Same.refl _, fun a u e => .inl e, R.fh, fun b x e => ?_, fun a i e => ?_, by rw [List.length_map, List.length_map, hl], fun i x e h1 h2 => ?_⟩
    · cases q : ownC own args b with
      | none => rw [gC_B q] at e; exact e
      | some i => rw [gC_B' q] at e; cases e
    · obtain ⟨j, e1, e2⟩ := ownC_some e
      obtain ⟨h1, h2, h3⟩ := R.od a j e1
      exact ⟨h1, gC_B' e, h3⟩
    · rw [List.getElem?_map] at h1 h2
      cases hv : vs[i]? with
      | none => rw [hv] at h1; cases h1
      | some v =>
        rw [hv] at h1
        cases h1
        cases hx : args[i]? with
        | none => rw [hx] at h2; cases h2
        | some y =>
          rw [hx] at h2
          cases h2
          have q := ha i v y hv hx
          cases y with
          | fz d => exact ⟨v, rfl, q⟩
          | sc ns => obtain ⟨a, rfl, q2⟩ := q; exact ⟨a, rfl, q2⟩
          | vr j =>
            obtain ⟨p, o, he⟩ := ap.2 i j hx
            have q' : σ[j]? = some (some v) := q
            obtain ⟨v', A, e, r, hA, hp⟩ := R.at_ j _ _ q' he
            cases e
            obtain ⟨a, ea⟩ := hα j p o he
            rw [q'] at ea
            cases ea
            show EntOk _ _ _ _ _ _ (match en[j]? with | some (.ow _ o) => _ | _ => _)
            rw [he]
            refine ⟨.ref a, A, rfl, r, fun z hz => ownC_of ap.1 (hA z hz) hx, fun a' e' => ?_⟩
            have e2 : (match σ[j]? with | some (some (.ref a)) => a | _ => 0) = a' := Option.some.inj e'
            rw [q'] at e2
            exact congrArg V.ref e2
open Classical in
noncomputable def ownB (own own' : Owner) (args : List Arg) : Owner := fun a => if h : ∃ j i, own' a = some i ∧ args[i]? = some (Arg.vr j) then some h.choose else match ownC own args a with | some _ => none | none => own a
theorem ownB_of {own' : Owner} {args : List Arg} {a : Addr} {i j : Nat} (h1 : own' a = some i) (h2 : args[i]? = some (Arg.vr j)) : ownB own own' args a = some j := by
  have q : ∃ j i, own' a = some i ∧ args[i]? = some (Arg.vr j) := ⟨j, i, h1, h2⟩
  unfold ownB
  rw [dif_pos q]
  obtain ⟨i', e1, e2⟩ := q.choose_spec
  rw [h1] at e1
  cases e1
  rw [h2] at e2
  injection e2 with e2
  injection e2 with e2
  rw [← e2]
theorem ownB_some {own' : Owner} {args : List Arg} {a : Addr} {j : Nat} (h : ownB own own' args a = some j) : (∃ i, own' a = some i ∧ args[i]? = some (Arg.vr j)) ∨ (ownC own args a = none ∧ own a = some j) := by
  unfold ownB at h
  split at h
  · rename_i q
    cases h
    exact .inl q.choose_spec
  · split at h
    · cases h
    · rename_i q; exact .inr ⟨q, h⟩
theorem call_out {args : List Arg} {vs : List V} {α : Nat → Addr} {as' en2 : En} {H' F' : Hp} {own' : Owner} (R : Rg K g F en σ H own) (hl : vs.length = args.length)
    (ha : ∀ (i : Nat) (v : V) (x : Arg), vs[i]? = some v → args[i]? = some x → ArgOk K F σ v x)
    (R' : Rg K (gC own args F H) F' as' (vs.map some) H' own') (bk : Backs α args as' en en2) : Rg K g F' en2 σ H' (ownB own own' args) ∧ Same F F' := by
  have ex : ∀ a o, F' a = some o → F a = some o ∨ g.B a = none := fun a o e => by
    rcases R'.nw a o e with h | h
    · exact .inl h
    · cases q : ownC own args a with
      | none => rw [gC_B q] at h; exact .inr (R.bNone h)
      | some i =>
        obtain ⟨j, e1, _⟩ := ownC_some q
        exact .inr (R.od a j e1).2.1
  have kept : ∀ a j, ownC own args a = none → own a = some j → H' a = H a ∧ F' a = none := fun a j h1 h2 => by
    obtain ⟨f, b, u, e⟩ := R.od a j h2
    have e2 : (gC own args F H).B a = some u := by rw [gC_B h1]; exact e
    refine ⟨(R'.bh a u e2).trans e.symm, ?_⟩
    cases q : F' a with
    | none => rfl
    | some o =>
      rcases R'.nw a o q with h | h
      · rw [show (gC own args F H).F0 a = none from f] at h; cases h
      · rw [e2] at h; cases h
  refine ⟨⟨R.f0.trans R'.f0, fun a o e => ?_, R'.fh, fun b x e => ?_, fun a j e => ?_, by rw [bk.len]; exact R.len, fun j x e h1 h2 => ?_⟩, R'.f0⟩
  · rcases ex a o e with h | h
    · exact R.nw a o h
    · exact .inr h
  · refine R'.bh b x ?_
    cases q : ownC own args b with
    | none => rw [gC_B q]; exact R.bh b x e
    | some i =>
      obtain ⟨j, e1, _⟩ := ownC_some q
      rw [(R.od b j e1).2.1] at e
      cases e
  · rcases ownB_some e with ⟨i, h1, h2⟩ | ⟨h1, h2⟩
    · obtain ⟨f, b, u⟩ := R'.od a i h1
      refine ⟨f, ?_, u⟩
      cases q : ownC own args a with
      | none => rw [gC_B q] at b; exact R.bNone b
      | some i' =>
        obtain ⟨j', e1, _⟩ := ownC_some q
        exact (R.od a j' e1).2.1
    · obtain ⟨k1, k2⟩ := kept a j h1 h2
      obtain ⟨_, b, u, e'⟩ := R.od a j h2
      exact ⟨k2, b, u, k1.trans e'⟩
  · by_cases hj : ∃ i : Nat, args[i]? = some (Arg.vr j)
    · obtain ⟨i, hi⟩ := hj
      obtain ⟨p, o, o', e1, e2, e3⟩ := bk.mu i j hi
      rw [e3] at h2
      cases h2
      obtain ⟨v0, A0, x0, _, _, hp0⟩ := R.at_ j _ _ h1 e1
      have hiv : i < vs.length := by rw [hl]; exact (List.getElem?_eq_some_iff.mp hi).1
      have hv : vs[i]? = some vs[i] := List.getElem?_eq_getElem hiv
      have q := ha i _ _ hv hi
      have q' : σ[j]? = some (some vs[i]) := q
      rw [h1] at q'
      cases q'
      obtain ⟨v', A, x', r, hA, _⟩ := R'.at_ i (some vs[i]) _ (by rw [List.getElem?_map, hv]; rfl) e2
      cases x'
      cases x0
      exact ⟨_, A, rfl, r, fun z hz => ownB_of (hA z hz) hi, hp0⟩
    · have hj' : ∀ (i : Nat), args[i]? ≠ some (Arg.vr j) := fun i hi => hj ⟨i, hi⟩
      rw [bk.oth j hj'] at h2
      have q := R.at_ j x e h1 h2
      cases e with
      | no => trivial
      | fz d => obtain ⟨v, e, h⟩ := q; exact ⟨v, e, dp_mono R'.f0 _ _ h⟩
      | rw v => exact q
      | sc ns => obtain ⟨a, e, h⟩ := q; exact ⟨a, e, R'.f0.seq h⟩
      | ow p o =>
        obtain ⟨v, A, e, r, hA, hp⟩ := q
        have noC : ∀ a ∈ A, ownC own args a = none := fun a ha' => by
          cases q : ownC own args a with
          | none => rfl
          | some i =>
            obtain ⟨j', e1, e2⟩ := ownC_some q
            rw [hA a ha'] at e1
            cases e1
            exact absurd e2 (hj' i)
        refine ⟨v, A, e, repO_keep r R'.f0 fun a ha' => (kept a j (noC a ha') (hA a ha')).1, fun a ha' => ?_, hp⟩
        unfold ownB
        rw [dif_neg ?_, noC a ha']
        · exact hA a ha'
        · rintro ⟨j', i, h3, h4⟩
          obtain ⟨f, b, _⟩ := R'.od a i h3
          rw [gC_B (noC a ha')] at b
          obtain ⟨_, _, u, e'⟩ := R.od a j (hA a ha')
          rw [b] at e'
          cases e'
/-- a result of a call stands as the caller sees it -/
theorem res_out {args : List Arg} {vs : List V} {F' H' : Hp} {as' : En} {own' : Owner} {v : V} {r : Res} (R : Rg K g F en σ H own) (R' : Rg K (gC own args F H) F' as' (vs.map some) H' own') (h : ResOk K (gC own args F H) F' H' own' v r) :
    ResOk K g F' H' (ownB own own' args) v r := by
  cases r with
  | fz d => exact h
  | ow o =>
    obtain ⟨A, r1, r2⟩ := h
    refine ⟨A, r1, fun a ha => ?_⟩
    obtain ⟨h1, h2, h3⟩ := r2 a ha
    have hb : g.B a = none := by
      cases q : ownC own args a with
      | none => rw [gC_B q] at h2; exact R.bNone h2
      | some i =>
        obtain ⟨j, e1, _⟩ := ownC_some q
        exact (R.od a j e1).2.1
    refine ⟨h1, hb, ?_⟩
    cases q : ownB own own' args a with
    | none => rfl
    | some j =>
      rcases ownB_some q with ⟨i, e1, _⟩ | ⟨e1, e2⟩
      · rw [h3] at e1; cases e1
      · rw [gC_B e1] at h2
        obtain ⟨_, _, u, e'⟩ := R.od a j e2
        rw [h2] at e'
        cases e'

/-! ### argument lists with owned names -/
abbrev DB := En → (List Arg → En → Prop) → Prop
inductive ArgsOk (K : Frag) (F : Hp) (σ : St) : List V → List Arg → Prop
  | nil : ArgsOk K F σ [] []
  | cons {v : V} {vs : List V} {a : Arg} {as : List Arg} : ArgOk K F σ v a → ArgsOk K F σ vs as → ArgsOk K F σ (v :: vs) (a :: as)
theorem argsOk_len {vs : List V} {args : List Arg} (h : ArgsOk K F σ vs args) : vs.length = args.length := by
  induction h with
  | nil => rfl
  | cons _ _ ih => exact congrArg (· + 1) ih
theorem argsOk_get {vs : List V} {args : List Arg} (h : ArgsOk K F σ vs args) : ∀ (i : Nat) (v : V) (x : Arg), vs[i]? = some v → args[i]? = some x → ArgOk K F σ v x := by
  induction h with
  | nil => intro i v x h1; simp at h1
  | cons a _ ih =>
    intro i v x h1 h2
    cases i with
    | zero => simp at h1 h2; subst h1; subst h2; exact a
    | succ i => exact ih i v x (by simpa using h1) (by simpa using h2)
def kB (K : Frag) (g : Gd) (F : Hp) (σ : St) (Q : List V → Hp → Prop) : List Arg → En → Prop := fun args en' => ∀ vs H' F' own', Rg K g F' en' σ H' own' → Same F F' → ArgsOk K F' σ vs args → Q vs H'
def tDB (K : Frag) (de : DB) : TA := fun σ H Q => ∃ g F en own W, Rg K g F en σ H own ∧ de en W ∧ ∀ d en', W d en' → kB K g F σ Q d en'
variable {X : Cx} {e : Expr} {es : List Expr} {da : DE} {pos : Pos}
def dNilB : DB := fun en Q => Q [] en
def dConsB (da : DE) (r : DB) : DB := fun en Q => da en fun d en1 => r en1 fun ds en2 => Q (.fz d :: ds) en2
def dRefB (j : Nat) (r : DB) : DB := fun en Q => match en[j]? with | some (.ow _ _) => r en fun ds en2 => Q (.vr j :: ds) en2 | _ => False
theorem argOk_mono {F' : Hp} {v : V} {x : Arg} (s : Same F F') (h : ArgOk K F σ v x) : ArgOk K F' σ v x := by
  cases x with
  | fz d => exact dp_mono s _ _ h
  | vr j => exact h
  | sc ns => obtain ⟨a, e, h⟩ := h; exact ⟨a, e, s.seq h⟩
theorem dbn : PA X [] (tDB K dNilB) := PA.imp pa_nil fun σ H Q ⟨g, F, en, own, W, R, q, k⟩ => k _ _ q [] H F own R (Same.refl _) .nil
theorem dbc {t : DB} (ha : PE X e (tD K da)) (hr : PA X es (tDB K t)) (hs : starEach (e :: es) X.env = (false, eval e X.env) :: starEach es X.env := by rfl) : PA X (e :: es) (tDB K (dConsB da t)) :=
  PA.imp (pa_cons ha hr hs) fun σ H Q ⟨g, F, en, own, W, R, q, k⟩ => ⟨g, F, en, own, _, R, q, fun d en1 q1 v H1 F1 own1 R1 s1 hd => ⟨g, F1, en1, own1, _, R1, q1, fun ds en2 q2 vs H2 F2 own2 R2 s2 hds =>
    k _ _ q2 (v :: vs) H2 F2 own2 R2 (s1.trans s2) (.cons (show Dp K F2 v d from dp_mono s2 _ _ hd) hds)⟩⟩
theorem dbv {t : DB} {j : Nat} (ha : PE X e (tVar j)) (hr : PA X es (tDB K t)) (hs : starEach (e :: es) X.env = (false, eval e X.env) :: starEach es X.env := by rfl) : PA X (e :: es) (tDB K (dRefB j t)) :=
  PA.imp (pa_cons ha hr hs) fun σ H Q ⟨g, F, en, own, W, R, q, k⟩ => by
    unfold dRefB at q
    split at q
    · rename_i p o he
      have hi : j < σ.length := by rw [← R.len]; exact (List.getElem?_eq_some_iff.mp he).1
      obtain ⟨v, A, e1, _⟩ := R.at_ j _ _ (List.getElem?_eq_getElem hi) he
      have hv : σ[j]? = some (some v) := by rw [List.getElem?_eq_getElem hi, e1]
      exact ⟨v, hv, g, F, en, own, _, R, q, fun ds en2 q2 vs H2 F2 own2 R2 s2 hds => k _ _ q2 (v :: vs) H2 F2 own2 R2 s2 (.cons (show σ[j]? = some (some v) from hv) hds)⟩
    · exact q.elim
/-- the script, handed on -/
def dScB (j : Nat) (r : DB) : DB := fun en Q => match en[j]? with | some (.sc ns) => r en fun ds en2 => Q (.sc ns :: ds) en2 | _ => False
theorem sc_at {j : Nat} {ns : List Int} (R : Rg K g F en σ H own) (he : en[j]? = some (.sc ns)) : ∃ a, σ[j]? = some (some (.ref a)) ∧ SqL K F a (ns.map V.int) := by
  have hi : j < σ.length := by rw [← R.len]; exact (List.getElem?_eq_some_iff.mp he).1
  obtain ⟨a, e1, h⟩ := R.at_ j _ _ (List.getElem?_eq_getElem hi) he
  exact ⟨a, by rw [List.getElem?_eq_getElem hi, e1], h⟩
theorem dbs {t : DB} {j : Nat} (ha : PE X e (tVar j)) (hr : PA X es (tDB K t)) (hs : starEach (e :: es) X.env = (false, eval e X.env) :: starEach es X.env := by rfl) : PA X (e :: es) (tDB K (dScB j t)) :=
  PA.imp (pa_cons ha hr hs) fun σ H Q ⟨g, F, en, own, W, R, q, k⟩ => by
    unfold dScB at q
    split at q
    · rename_i ns he
      obtain ⟨a, h1, h2⟩ := sc_at R he
      exact ⟨.ref a, h1, g, F, en, own, _, R, q, fun ds en2 q2 vs H2 F2 own2 R2 s2 hds => k _ _ q2 (.ref a :: vs) H2 F2 own2 R2 s2 (.cons ⟨a, rfl, s2.seq h2⟩ hds)⟩
    · exact q.elim
/-- what a call gives: r behind post -/
def callQ (args : List Arg) (en1 : En) (post : Post) (Q : Res → En → Prop) : Prop := Apt args en1 ∧ ∀ α : Nat → Addr, ∃ W : Res → En → Prop, post (args.map (entOf α en1)) W ∧ ∀ r as', W r as' → ∃ en2, Backs α args as' en1 en2 ∧ Q r en2
def toFz (Q : DQ) : Res → En → Prop := fun r en => match r with | .fz d => Q d en | .ow o => frO Q o en
def toOw (Q : Ow → En → Prop) : Res → En → Prop := fun r en => match r with | .fz _ => False | .ow o => Q o en
def dCall (t : DB) (post : Post) : DE := fun en Q => t en fun args en1 => callQ args en1 post (toFz Q)
def dCallO (t : DB) (post : Post) : DO := fun en Q => t en fun args en1 => callQ args en1 post (toOw Q)
theorem call_run {post : Post} {Qr : Res → En → Prop} {args : List Arg} {vs : List V} {Q : VK} {E : XK} (R : Rg K g F en σ H own) (ha : ArgsOk K F σ vs args) (q : callQ args en post Qr)
    (hQ : ∀ r en2 v H' F' own', Qr r en2 → Rg K g F' en2 σ H' own' → Same F F' → ResOk K g F' H' own' v r → Q v H') : SpD K post vs H Q E := by
  obtain ⟨ap, q⟩ := q
  obtain ⟨α, hα, R1⟩ := call_in R ap (argsOk_len ha) (argsOk_get ha)
  obtain ⟨W, hp, hW⟩ := q α
  refine ⟨_, F, _, _, W, R1, hp, fun r as' hr v H' F' own' R' s' ro => ?_⟩
  obtain ⟨en2, bk, q2⟩ := hW r as' hr
  obtain ⟨R2, s2⟩ := call_out R (argsOk_len ha) (argsOk_get ha) R' bk
  exact hQ r en2 v H' F' _ q2 R2 s2 (res_out R R' ro)
theorem toFz_ok {F' H' : Hp} {own' : Owner} {en2 : En} {r : Res} {v : V} {Q : VK} {W : DQ} (R' : Rg K g F' en2 σ H' own') (ro : ResOk K g F' H' own' v r) (q : toFz W r en2) (k : ∀ d en', W d en' → kD K g F' σ Q d en') : Q v H' := by
  cases r with
  | fz d => exact k _ _ q v H' F' own' R' (Same.refl _) ro
  | ow o =>
    obtain ⟨A, ap⟩ := ro
    cases o with
    | lst xs =>
      obtain ⟨F2, R2, s2, hd⟩ := ap_frz R' ap
      exact k _ _ q v H' F2 own' R2 s2 hd
    | dk _ => exact (show False from q).elim
    | dt _ => exact (show False from q).elim
    | src _ _ _ => exact (show False from q).elim
section
variable {CX : CXT} {k : Nat} {f : Addr} {fd : FuncData} {ps : List Str} {post : Post} {E : XK} {x : Str} {p : Pos} {t : DB}
theorem dcall (F : FnG X.prog X.w X.K X.mg X.base CX k f fd ps (SpD K post)) (hr : RoomG k X.A) (hg : Gl X x) (hm : X.mg x = some (.ref f)) (hk : PySem.W.keepIn X.K (.ref f) = true) (hb : Binds X.K fd ps []) (hx : Passes CX X E)
    (ha : PA X (e :: es) (tDB K t)) (hdb : (x == ("__debug__" : Str)) = false := by decide) (he : starEach (e :: es) X.env = (false, eval e X.env) :: starEach es X.env := by rfl) (hpl : (backTo pos (starEach es X.env)).any (·.1) = false := by rfl) :
    PE X (.Call (.Name x p) (e :: es) [] pos) (tD K (dCall t post)) :=
  PE.imp (pe_callG F hr hg hm hk hb hx ha hdb he hpl) fun σ H Q ⟨g, F, en, own, W, R, q, k⟩ => ⟨g, F, en, own, _, R, q, fun args en1 q1 vs H1 F1 own1 R1 s1 hd =>
    call_run R1 hd q1 fun r en2 v H' F' own' q2 R' s' ro => toFz_ok R' ro q2 fun d en' hh => (k _ _ hh).mono (s1.trans s')⟩
theorem dcallO (F : FnG X.prog X.w X.K X.mg X.base CX k f fd ps (SpD K post)) (hr : RoomG k X.A) (hg : Gl X x) (hm : X.mg x = some (.ref f)) (hk : PySem.W.keepIn X.K (.ref f) = true) (hb : Binds X.K fd ps []) (hx : Passes CX X E)
    (ha : PA X (e :: es) (tDB K t)) (hdb : (x == ("__debug__" : Str)) = false := by decide) (he : starEach (e :: es) X.env = (false, eval e X.env) :: starEach es X.env := by rfl) (hpl : (backTo pos (starEach es X.env)).any (·.1) = false := by rfl) :
    PE X (.Call (.Name x p) (e :: es) [] pos) (tDO K (dCallO t post)) :=
  PE.imp (pe_callG F hr hg hm hk hb hx ha hdb he hpl) fun σ H Q ⟨g, F, en, own, W, R, q, k⟩ => ⟨g, F, en, own, _, R, q, fun args en1 q1 vs H1 F1 own1 R1 s1 hd => by
    refine call_run R1 hd q1 fun r en2 v H' F' own' q2 R' s' ro => ?_
    cases r with
    | fz d => exact (show False from q2).elim
    | ow o =>
      obtain ⟨A, ap⟩ := ro
      exact k _ _ q2 v A H' F' own' R' (s1.trans s') ap⟩
/-- keywords: the values in the parameters' order by gd (positions in args and keywords' values) -/
def dKwB (da : DE) (r : DB) : DB := dConsB da r
theorem kwn : PK X [] (tDB K dNilB) := ⟨fun pos pins s σ H Q iv ⟨g, F, en, own, W, R, q, k⟩ => pk_nil.run pos pins s σ H Q iv (k _ _ q [] H F own R (Same.refl _) .nil)⟩
theorem kwc {nm : Option Str} {kpos : Pos} {kws : List Keyword} {t : DB} (ha : PE X e (tD K da)) (hr : PK X kws (tDB K t)) : PK X (⟨nm, e, kpos⟩ :: kws) (tDB K (dConsB da t)) :=
  ⟨fun pos pins s σ H Q iv ⟨g, F, en, own, W, R, q, k⟩ => (pk_cons ha hr).run pos pins s σ H Q iv ⟨g, F, en, own, _, R, q, fun d en1 q1 v H1 F1 own1 R1 s1 hd => ⟨g, F1, en1, own1, _, R1, q1, fun ds en2 q2 vs H2 F2 own2 R2 s2 hds =>
    k _ _ q2 (v :: vs) H2 F2 own2 R2 (s1.trans s2) (.cons (show Dp K F2 v d from dp_mono s2 _ _ hd) hds)⟩⟩⟩
theorem kwv {nm : Option Str} {kpos : Pos} {kws : List Keyword} {t : DB} {j : Nat} (ha : PE X e (tVar j)) (hr : PK X kws (tDB K t)) : PK X (⟨nm, e, kpos⟩ :: kws) (tDB K (dRefB j t)) :=
  ⟨fun pos pins s σ H Q iv ⟨g, F, en, own, W, R, q, k⟩ => (pk_cons ha hr).run pos pins s σ H Q iv (by
    unfold dRefB at q
    split at q
    · rename_i p o he
      have hi : j < σ.length := by rw [← R.len]; exact (List.getElem?_eq_some_iff.mp he).1
      obtain ⟨v, A, e1, _⟩ := R.at_ j _ _ (List.getElem?_eq_getElem hi) he
      have hv : σ[j]? = some (some v) := by rw [List.getElem?_eq_getElem hi, e1]
      exact ⟨v, hv, g, F, en, own, _, R, q, fun ds en2 q2 vs H2 F2 own2 R2 s2 hds => k _ _ q2 (v :: vs) H2 F2 own2 R2 s2 (.cons (show σ[j]? = some (some v) from hv) hds)⟩
    · exact q.elim)⟩
theorem argsOk_mono {F F' : Hp} {σ : St} {vs : List V} {as : List Arg} (s : Same F F') (h : ArgsOk K F σ vs as) : ArgsOk K F' σ vs as := by
  induction h with
  | nil => exact .nil
  | cons a _ ih => exact .cons (argOk_mono s a) ih
/-- what orders the arguments: the same for values and data -/
structure KwD (K : Frag) (gv : List V → List V → List V) (gd : List Arg → List Arg → List Arg) : Prop where
  ok : ∀ {F : Hp} {σ : St} {vs zs : List V} {as ks : List Arg}, ArgsOk K F σ vs as → ArgsOk K F σ zs ks → ArgsOk K F σ (gv vs zs) (gd as ks)
def dCallK (t tk : DB) (gd : List Arg → List Arg → List Arg) (post : Post) : DE := fun en Q => t en fun as en1 => tk en1 fun ks en2 => callQ (gd as ks) en2 post (toFz Q)
def dCallKO (t tk : DB) (gd : List Arg → List Arg → List Arg) (post : Post) : DO := fun en Q => t en fun as en1 => tk en1 fun ks en2 => callQ (gd as ks) en2 post (toOw Q)
theorem kw_imp {tk : DB} {gv : List V → List V → List V} {gd : List Arg → List Arg → List Arg} {σ : St} {H : Hp} {Q : VK} (hd : KwD K gv gd) (h : tD K (dCallK t tk gd post) σ H Q) : tCallKG (SpD K post) gv E (tDB K t) (tDB K tk) σ H Q := by
  obtain ⟨g, F, en, own, W, R, q, k⟩ := h
  refine ⟨g, F, en, own, _, R, q, fun as en1 q1 vs H1 F1 own1 R1 s1 h1 => ⟨g, F1, en1, own1, _, R1, q1, fun ks en2 q2 zs H2 F2 own2 R2 s2 h2 => ?_⟩⟩
  exact call_run R2 (hd.ok (argsOk_mono s2 h1) h2) q2 fun r en2 v H' F' own' q2 R' s' ro => toFz_ok R' ro q2 fun d en' hh => (k _ _ hh).mono ((s1.trans s2).trans s')
theorem kwO_imp {tk : DB} {gv : List V → List V → List V} {gd : List Arg → List Arg → List Arg} {σ : St} {H : Hp} {Q : VK} (hd : KwD K gv gd) (h : tDO K (dCallKO t tk gd post) σ H Q) : tCallKG (SpD K post) gv E (tDB K t) (tDB K tk) σ H Q := by
  obtain ⟨g, F, en, own, W, R, q, k⟩ := h
  refine ⟨g, F, en, own, _, R, q, fun as en1 q1 vs H1 F1 own1 R1 s1 h1 => ⟨g, F1, en1, own1, _, R1, q1, fun ks en2 q2 zs H2 F2 own2 R2 s2 h2 => ?_⟩⟩
  refine call_run R2 (hd.ok (argsOk_mono s2 h1) h2) q2 fun r en2 v H' F' own' q2 R' s' ro => ?_
  cases r with
  | fz d => exact (show False from q2).elim
  | ow o =>
    obtain ⟨A, ap⟩ := ro
    exact k _ _ q2 v A H' F' own' R' ((s1.trans s2).trans s') ap
/-- a call without arguments -/
theorem dcall0 (F : FnG X.prog X.w X.K X.mg X.base CX k f fd ps (SpD K post)) (hr : RoomG k X.A) (hg : Gl X x) (hm : X.mg x = some (.ref f)) (hk : PySem.W.keepIn X.K (.ref f) = true) (hb : Binds X.K fd ps []) (hx : Passes CX X E)
    (hdb : (x == ("__debug__" : Str)) = false := by decide) : PE X (.Call (.Name x p) [] [] pos) (tD K (dCall dNilB post)) :=
  PE.imp (pe_callG0 F hr hg hm hk hb hx hdb) fun σ H Q ⟨g, F, en, own, W, R, q, k⟩ => call_run (E := E) R .nil q fun r en2 v H' F' own' q2 R' s' ro => toFz_ok R' ro q2 fun d en' hh => (k _ _ hh).mono s'
end
end
end PD

namespace PD
open PySem PySem.Spec PyProof.Rows L2
section
variable {X : Cx} {K : Frag} {g : Gd} {F H : Hp} {en : En} {σ : St} {own : Owner} {Q : VK} {W : D → Prop}
theorem kself {v : V} {z : D} (R : Rg K g F en σ H own) (h : kD K g F σ Q z en) (hd : Dp K F v z) : Q v H := h v H F own R (Same.refl _) hd

/-! ### arithmetic -/
def wAdd (d e : D) (Q : D → Prop) : Prop := match d, e with
  | .int i, .int j => Q (.int (i + j))
  | .str a, .str b => a.length + b.length ≤ sizeLine ∧ Q (.str (a ++ b))
  | _, _ => False
theorem oAdd : OpD X K (binaryOp .Add) wAdd := ⟨_, op_add.or op_add_str, fun g F H en σ own x y d e Q W R hx hy q k => by
  cases hx with
  | int i =>
    cases hy with
    | int j => exact .inl ⟨i, j, rfl, rfl, kself R (k _ q) (.int _)⟩
    | _ => exact (show False from q).elim
  | str i =>
    cases hy with
    | str j => exact .inr ⟨i, j, rfl, rfl, q.1, kself R (k _ q.2) (.str _)⟩
    | _ => exact (show False from q).elim
  | _ => exact (show False from q).elim⟩
def wI (C : Int → Int → Prop) (f : Int → Int → Int) (d e : D) (Q : D → Prop) : Prop := onI d fun i => onI e fun j => C i j ∧ Q (.int (f i j))
theorem oI {op : Operator} {C : Int → Int → Prop} {f : Int → Int → Int} (h : OpR X (binaryOp op) (rI C fun i j => .int (f i j))) : OpD X K (binaryOp op) (wI C f) := ⟨_, h, fun g F H en σ own x y d e Q W R hx hy q k => by
  obtain ⟨i, rfl, rfl, q⟩ := onI_of hx q
  obtain ⟨j, rfl, rfl, q⟩ := onI_of hy q
  exact ⟨i, j, rfl, rfl, q.1, kself R (k _ q.2) (.int _)⟩⟩
def wSub (d e : D) (Q : D → Prop) : Prop := onI d fun i => onI e fun j => Q (.int (i - j))
theorem oSub : OpD X K (binaryOp .Sub) wSub := ⟨_, op_sub, fun g F H en σ own x y d e Q W R hx hy q k => by
  obtain ⟨i, rfl, rfl, q⟩ := onI_of hx q
  obtain ⟨j, rfl, rfl, q⟩ := onI_of hy q
  exact ⟨i, j, rfl, rfl, kself R (k _ q) (.int _)⟩⟩
/-- products below 2^27 bits -/
def wMul : D → D → (D → Prop) → Prop := wI CMulX fun i j => i * j
theorem oMul : OpD X K (binaryOp .Mult) wMul := oI op_mulX
def wMod : D → D → (D → Prop) → Prop := wI (fun _ j => 0 < j) fun i j => i % j
theorem oMod : OpD X K (binaryOp .Mod) wMod := oI op_mod
def CDivA (i j : Int) : Prop := CDivW i j
def wDiv : D → D → (D → Prop) → Prop := wI CDivW fun i j => i / j
theorem oDiv : OpD X K (binaryOp .FloorDiv) wDiv := oI op_fdivW
def CPowW (i j : Int) : Prop := 0 ≤ j ∧ (Builtin.Int.intBits i : Int) * j ≤ 2 ^ 27
theorem op_powW : OpR X (binaryOp .Pow) (rI CPowW fun i j => .int (i ^ j.toNat)) := opI fun _ _ _ _ _ _ _ hc q => pow_int hc.1 hc.2 q
def wPow : D → D → (D → Prop) → Prop := wI CPowW fun i j => i ^ j.toNat
theorem oPow : OpD X K (binaryOp .Pow) wPow := oI op_powW
structure UnD (X : Cx) (K : Frag) (f : Value → Sem Value) (w : D → (D → Prop) → Prop) : Prop where
  ex : ∃ r : V → Hp → VK → Prop, UnR X f r ∧ ∀ g F H en σ own x d Q W, Rg K g F en σ H own → Dp K F x d → w d W → (∀ z, W z → kD K g F σ Q z en) → r x H Q
def dUn (w : D → (D → Prop) → Prop) (da : DE) : DE := fun en Q => da en fun d en1 => w d fun z => Q z en1
variable {a b c e : Expr} {da db dc : DE} {pos pos' apos : Pos} {es : List Expr}
theorem dun {op : UnaryOp} {w : D → (D → Prop) → Prop} (ho : UnD X K (unaryOp op) w) (ha : PE X a (tD K da)) : PE X (.UnaryOp op a pos) (tD K (dUn w da)) := by
  obtain ⟨r, hr, hw⟩ := ho.ex
  refine PE.imp (pe_un hr ha) fun σ H Q ⟨g, F, en, own, W, R, q, k⟩ => ⟨g, F, en, own, _, R, q, fun d en1 q1 v H1 F1 own1 R1 s1 hd => ?_⟩
  exact hw g F1 H1 en1 σ own1 v d Q _ R1 hd q1 fun z hz => (k _ _ hz).mono s1
def wNeg (d : D) (Q : D → Prop) : Prop := onI d fun i => Q (.int (-i))
theorem oNeg : UnD X K (unaryOp .USub) wNeg := ⟨_, un_neg, fun g F H en σ own x d Q W R hx q k => by
  obtain ⟨i, rfl, rfl, q⟩ := onI_of hx q
  exact ⟨i, rfl, kself R (k _ q) (.int _)⟩⟩

/-! ### comparisons -/
mutual
theorem Dp.plain {K : Frag} {F : Hp} : ∀ (d : D) (v : V), Dp K F v d → PyData.plain d = true
  | .none, _, _ => rfl
  | .bool _, _, _ => rfl
  | .int _, _, _ => rfl
  | .str _, _, _ => rfl
  | .list ds, _, h => by
    cases h with
    | lst _ ha => rw [PyData.plain]; exact DpAll.plain ds _ ha
  | .tuple ds, _, h => by
    cases h with
    | tup _ ha => rw [PyData.plain]; exact DpAll.plain ds _ ha
  | .dict _, _, h => nomatch h
theorem DpAll.plain {K : Frag} {F : Hp} : ∀ (ds : List D) (vs : List V), DpAll K F vs ds → PyData.plainAll ds = true
  | [], _, _ => rfl
  | d :: ds, _, h => by
    cases h with
    | cons h1 h2 => rw [PyData.plainAll, Dp.plain d _ h1, DpAll.plain ds _ h2]; rfl
end
def rEqP (K : Frag) : R2 := fun x y H Q => ∃ d e, L2.Dp K H x d ∧ L2.Dp K H y e ∧ d.plain = true ∧ e.plain = true ∧ min d.depth e.depth ≤ 64 ∧ Q (.bl (PyData.eqv d e)) H
def rNeP (K : Frag) : R2 := fun x y H Q => ∃ d e, L2.Dp K H x d ∧ L2.Dp K H y e ∧ d.plain = true ∧ e.plain = true ∧ min d.depth e.depth ≤ 64 ∧ Q (.bl (!PyData.eqv d e)) H
def rInP (K : Frag) : R2 := fun x y H Q => ∃ d ds, L2.Dp K H x d ∧ L2.Dp K H y (.list ds) ∧ d.plain = true ∧ PyData.plainAll ds = true ∧ min (PyData.depthAll ds) d.depth ≤ 64 ∧ Q (.bl (ds.any fun z => PyData.eqv z d)) H
def rNotInP (K : Frag) : R2 := fun x y H Q => ∃ d ds, L2.Dp K H x d ∧ L2.Dp K H y (.list ds) ∧ d.plain = true ∧ PyData.plainAll ds = true ∧ min (PyData.depthAll ds) d.depth ≤ 64 ∧ Q (.bl (!ds.any fun z => PyData.eqv z d)) H
theorem op_eqP (hu : X.A.units + 64 < cLine) : OpR X (compareOp .Eq) (rEqP X.K) := fun pins s σ H x y v u Q I rx ry ⟨d, e, hd, he, p1, p2, dp, q⟩ => by
  obtain ⟨as, r1⟩ := L2.Dp.reads I d x v hd rx
  obtain ⟨bs, r2⟩ := L2.Dp.reads I e y u he ry
  exact PySem.SeqAt.eq_plain r1 r2 p1 p2 (by omega) ⟨.bl _, H, I, rfl, q⟩
theorem op_neP (hu : X.A.units + 64 < cLine) : OpR X (compareOp .NotEq) (rNeP X.K) := fun pins s σ H x y v u Q I rx ry ⟨d, e, hd, he, p1, p2, dp, q⟩ => by
  obtain ⟨as, r1⟩ := L2.Dp.reads I d x v hd rx
  obtain ⟨bs, r2⟩ := L2.Dp.reads I e y u he ry
  exact PySem.SeqAt.ne_plain r1 r2 p1 p2 (by omega) ⟨.bl _, H, I, rfl, q⟩
theorem op_inP (hu : X.A.units + 65 < cLine) : OpR X (compareOp .In) (rInP X.K) := fun pins s σ H x y v u Q I rx ry ⟨d, ds, hd, he, p1, p2, dp, q⟩ => by
  obtain ⟨as, r1⟩ := L2.Dp.reads I d x v hd rx
  obtain ⟨bs, r2⟩ := L2.Dp.reads I (.list ds) y u he ry
  exact PySem.SeqAt.in_list_data r2 r1 p2 p1 (by omega) ⟨.bl _, H, I, rfl, q⟩
theorem op_notInP (hu : X.A.units + 65 < cLine) : OpR X (compareOp .NotIn) (rNotInP X.K) := fun pins s σ H x y v u Q I rx ry ⟨d, ds, hd, he, p1, p2, dp, q⟩ => by
  obtain ⟨as, r1⟩ := L2.Dp.reads I d x v hd rx
  obtain ⟨bs, r2⟩ := L2.Dp.reads I (.list ds) y u he ry
  exact PySem.SeqAt.notIn_list_data r2 r1 p2 p1 (by omega) ⟨.bl _, H, I, rfl, q⟩
def wEq (d e : D) (Q : D → Prop) : Prop := min d.depth e.depth ≤ 64 ∧ Q (.bool (PyData.eqv d e))
def wNe (d e : D) (Q : D → Prop) : Prop := min d.depth e.depth ≤ 64 ∧ Q (.bool (!PyData.eqv d e))
theorem oEq (hK : X.K = K) (hu : X.A.units + 64 < cLine) : OpD X K (compareOp .Eq) wEq := ⟨_, op_eqP hu, fun g F H en σ own x y d e Q W R hx hy q k => by
  subst hK
  exact ⟨d, e, (dp_mono R.fh _ _ hx).old, (dp_mono R.fh _ _ hy).old, hx.plain, hy.plain, q.1, kself R (k _ q.2) (.bl _)⟩⟩
theorem oNe (hK : X.K = K) (hu : X.A.units + 64 < cLine) : OpD X K (compareOp .NotEq) wNe := ⟨_, op_neP hu, fun g F H en σ own x y d e Q W R hx hy q k => by
  subst hK
  exact ⟨d, e, (dp_mono R.fh _ _ hx).old, (dp_mono R.fh _ _ hy).old, hx.plain, hy.plain, q.1, kself R (k _ q.2) (.bl _)⟩⟩
def wCmpI (f : Int → Int → Bool) (d e : D) (Q : D → Prop) : Prop := onI d fun i => onI e fun j => Q (.bool (f i j))
theorem oCmpI {op : CmpOp} {f : Int → Int → Bool} (h : OpR X (compareOp op) (rI0 fun i j => .bl (f i j))) : OpD X K (compareOp op) (wCmpI f) := ⟨_, h, fun g F H en σ own x y d e Q W R hx hy q k => by
  obtain ⟨i, rfl, rfl, q⟩ := onI_of hx q
  obtain ⟨j, rfl, rfl, q⟩ := onI_of hy q
  exact ⟨i, j, rfl, rfl, kself R (k _ q) (.bl _)⟩⟩
def wLt : D → D → (D → Prop) → Prop := wCmpI fun i j => decide (i < j)
def wLe : D → D → (D → Prop) → Prop := wCmpI fun i j => decide (i ≤ j)
def wGt : D → D → (D → Prop) → Prop := wCmpI fun i j => decide (j < i)
def wGe : D → D → (D → Prop) → Prop := wCmpI fun i j => decide (j ≤ i)
theorem oLt : OpD X K (compareOp .Lt) wLt := oCmpI op_lt
theorem oLe : OpD X K (compareOp .LtE) wLe := oCmpI op_le
theorem oGt : OpD X K (compareOp .Gt) wGt := oCmpI op_gt
theorem oGe : OpD X K (compareOp .GtE) wGe := oCmpI op_ge
def wIsN (d : D) : Bool := match d with | .none => true | _ => false
def wIs (d e : D) (Q : D → Prop) : Prop := match e with | .none => Q (.bool (wIsN d)) | _ => False
def wIsNot (d e : D) (Q : D → Prop) : Prop := match e with | .none => Q (.bool (!wIsN d)) | _ => False
theorem isN_of {K : Frag} {F : Hp} {x : V} {d : D} (h : Dp K F x d) : decide (x = .non) = wIsN d := by
  cases h with
  | non => rfl
  | bl b => exact decide_eq_false (fun z => by cases z)
  | int b => exact decide_eq_false (fun z => by cases z)
  | str b => exact decide_eq_false (fun z => by cases z)
  | lst _ _ => exact decide_eq_false (fun z => by cases z)
  | tup _ _ => exact decide_eq_false (fun z => by cases z)
theorem oIs : OpD X K (compareOp .Is) wIs := ⟨_, op_isN, fun g F H en σ own x y d e Q W R hx hy q k => by
  cases hy with
  | non => exact ⟨rfl, by rw [isN_of hx]; exact kself R (k _ q) (.bl _)⟩
  | _ => exact (show False from q).elim⟩
theorem oIsNot : OpD X K (compareOp .IsNot) wIsNot := ⟨_, op_notN, fun g F H en σ own x y d e Q W R hx hy q k => by
  cases hy with
  | non => exact ⟨rfl, by rw [isN_of hx]; exact kself R (k _ q) (.bl _)⟩
  | _ => exact (show False from q).elim⟩
/-- in: a sign of a text; an item of a list -/
def wIn (d e : D) (Q : D → Prop) : Prop := match e with
  | .str z => onS d fun y => ∃ c : Nat, y = ⟨#[c]⟩ ∧ Q (.bool (decide (c ∈ z.cps.toList)))
  | .list ds => min (PyData.depthAll ds) d.depth ≤ 64 ∧ Q (.bool (ds.any fun z => PyData.eqv z d))
  | _ => False
def wNotIn (d e : D) (Q : D → Prop) : Prop := wIn d e fun z => match z with | .bool b => Q (.bool (!b)) | _ => False
theorem oIn (hK : X.K = K) (hu : X.A.units + 65 < cLine) : OpD X K (compareOp .In) wIn := ⟨_, op_in_sign.or (op_inP hu), fun g F H en σ own x y d e Q W R hx hy q k => by
  subst hK
  cases hy with
  | str z =>
    obtain ⟨y, rfl, rfl, c, rfl, q3⟩ := onS_of hx q
    exact .inl ⟨c, z, rfl, rfl, kself R (k _ q3) (.bl _)⟩
  | lst hs ha => exact .inr ⟨d, _, (dp_mono R.fh _ _ hx).old, (dp_mono R.fh _ _ (Dp.lst hs ha)).old, hx.plain, ha.plain, q.1, kself R (k _ q.2) (.bl _)⟩
  | _ => exact (show False from q).elim⟩
theorem oNotIn (hK : X.K = K) (hu : X.A.units + 65 < cLine) : OpD X K (compareOp .NotIn) wNotIn := ⟨_, op_notIn_sign.or (op_notInP hu), fun g F H en σ own x y d e Q W R hx hy q k => by
  subst hK
  cases hy with
  | str z =>
    obtain ⟨y, rfl, rfl, c, rfl, q3⟩ := onS_of hx q
    exact .inl ⟨c, z, rfl, rfl, kself R (k _ q3) (.bl _)⟩
  | lst hs ha => exact .inr ⟨d, _, (dp_mono R.fh _ _ hx).old, (dp_mono R.fh _ _ (Dp.lst hs ha)).old, hx.plain, ha.plain, q.1, kself R (k _ q.2) (.bl _)⟩
  | _ => exact (show False from q).elim⟩
/-- a op b op' c -/
def dChain (w w' : D → D → (D → Prop) → Prop) (da db dc : DE) : DE := fun en Q => da en fun d en1 => db en1 fun f en2 => w d f fun z => onB z fun b => if b = true then dc en2 fun h en3 => w' f h fun z' => Q z' en3 else Q (.bool false) en2
theorem chain_imp {r r' : R2} {w w' : D → D → (D → Prop) → Prop} {σ : St} {H : Hp} {Q : VK}
    (hw : ∀ g F H en σ own x y d e Q W, Rg K g F en σ H own → Dp K F x d → Dp K F y e → w d e W → (∀ z, W z → kD K g F σ Q z en) → r x y H Q)
    (hw' : ∀ g F H en σ own x y d e Q W, Rg K g F en σ H own → Dp K F x d → Dp K F y e → w' d e W → (∀ z, W z → kD K g F σ Q z en) → r' x y H Q)
    (h : tD K (dChain w w' da db dc) σ H Q) : tChain r r' (tD K da) (tD K db) (tD K dc) σ H Q := by
  obtain ⟨g, F, en, own, W, R, q, k⟩ := h
  refine ⟨g, F, en, own, _, R, q, fun d en1 q1 x H1 F1 own1 R1 s1 hx => ⟨g, F1, en1, own1, _, R1, q1, fun f en2 q2 y H2 F2 own2 R2 s2 hy => ?_⟩⟩
  refine hw g F2 H2 en2 σ own2 x y d f _ _ R2 (dp_mono s2 _ _ hx) hy q2 fun z hz v H3 F3 own3 R3 s3 hv => ?_
  obtain ⟨b, rfl, rfl, q3⟩ := onB_of hv hz
  refine ⟨b, rfl, ?_⟩
  cases b with
  | true =>
    refine ⟨g, F3, en2, own3, _, R3, q3, fun h' en4 q4 z' H4 F4 own4 R4 s4 hz' => ?_⟩
    exact hw' g F4 H4 en4 σ own4 y z' f h' Q _ R4 (dp_mono (s3.trans s4) _ _ hy) hz' q4 fun u hu => (k _ _ hu).mono ((((s1.trans s2).trans s3)).trans s4)
  | false => exact kself R3 ((k _ _ q3).mono (((s1.trans s2).trans s3))) (.bl false)
theorem dchain {op op' : CmpOp} {w w' : D → D → (D → Prop) → Prop} (ho : OpD X K (compareOp op) w) (ho' : OpD X K (compareOp op') w') (ha : PE X a (tD K da)) (hb : PE X b (tD K db)) (hc : PE X c (tD K dc))
    (hm : lastMarks [op, op'] [b, c] = false := by with_unfolding_all rfl) : PE X (.Compare a [op, op'] [b, c] pos) (tD K (dChain w w' da db dc)) := by
  obtain ⟨r, hr, hw⟩ := ho.ex
  obtain ⟨r', hr', hw'⟩ := ho'.ex
  exact PE.imp (pe_chain hr hr' ha hb hc hm) fun σ H Q h => chain_imp hw hw' h
theorem tTest_of {t : TE} {da : DE} (hi : ∀ σ H Q, tD K da σ H Q → t σ H Q) {σ : St} {H : Hp} {Q : Bool → Hp → Prop} (h : tDT K (dBl da) σ H Q) : tTest t σ H Q := by
  obtain ⟨g, F, en, own, W, R, q, k⟩ := h
  refine hi _ _ _ ⟨g, F, en, own, _, R, q, fun d en1 q1 v H1 F1 own1 R1 s1 hd => ?_⟩
  obtain ⟨b, e, _, q2⟩ := onB_of hd q1
  exact ⟨b, e, k _ _ q2 H1 F1 own1 R1 s1⟩
theorem dtChain {op op' : CmpOp} {w w' : D → D → (D → Prop) → Prop} (ho : OpD X K (compareOp op) w) (ho' : OpD X K (compareOp op') w') (ha : PE X a (tD K da)) (hb : PE X b (tD K db)) (hc : PE X c (tD K dc))
    (hm : lastMarks [op, op'] [b, c] = false := by with_unfolding_all rfl) : PT X (.Compare a [op, op'] [b, c] pos) (tDT K (dBl (dChain w w' da db dc))) := by
  obtain ⟨r, hr, hw⟩ := ho.ex
  obtain ⟨r', hr', hw'⟩ := ho'.ex
  exact PT.imp (pt_chain hr hr' ha hb hc hm) fun σ H Q h => tTest_of (fun σ H Q h => chain_imp hw hw' h) h

/-! ### subscripts -/
def wIx (d e : D) (Q : D → Prop) : Prop := onI e fun i => match d with
  | .list ds => ∃ z, atI ds i = some z ∧ Q z
  | .tuple ds => ∃ z, atI ds i = some z ∧ Q z
  | .str s => s.length ≤ sizeLine ∧ ∃ c, atI s.cps.toList i = some c ∧ Q (.str ⟨#[c]⟩)
  | _ => False
theorem atI_dpa {vs : List V} {ds : List D} {i : Int} {z : D} (h : DpAll K F vs ds) (e : atI ds i = some z) : ∃ v, atI vs i = some v ∧ Dp K F v z := by
  unfold atI at e ⊢
  rw [dpa_len h]
  cases q : ixN ds.length i with
  | none => rw [q] at e; cases e
  | some j =>
    rw [q] at e
    exact dpa_get' h e
theorem dix (hK : X.K = K) (ha : PE X a (tD K da)) (hb : PE X b (tD K db)) (hs : PlainIx b) : PE X (.Subscript a b pos) (tD K (dOp wIx da db)) :=
  PE.imp (pe_ix ix_seq ha hb hs) fun σ H Q ⟨g, F, en, own, W, R, q, k⟩ => two R q fun F2 en2 H2 own2 x y d e R2 s hx hy q2 => by
    subst hK
    obtain ⟨i, rfl, rfl, q2⟩ := onI_of hy q2
    cases hx with
    | lst hs ha =>
      obtain ⟨z, h1, h2⟩ := q2
      obtain ⟨v, e, hv⟩ := atI_dpa ha h1
      exact .inl ⟨_, _, i, v, rfl, rfl, R2.fh.seq (.inl hs), e, kself R2 ((k _ _ h2).mono s) hv⟩
    | tup hs ha =>
      obtain ⟨z, h1, h2⟩ := q2
      obtain ⟨v, e, hv⟩ := atI_dpa ha h1
      exact .inr (.inl ⟨_, _, i, v, rfl, rfl, seqT_mono R2.fh hs, e, kself R2 ((k _ _ h2).mono s) hv⟩)
    | str z =>
      obtain ⟨h0, c, h1, h2⟩ := q2
      exact .inr (.inr ⟨z, i, c, rfl, rfl, h0, h1, kself R2 ((k _ _ h2).mono s) (.str _)⟩)
    | _ => exact (show False from q2).elim
/-- an item of an owned list -/
def dIxO (j : Nat) (db : DE) : DE := fun en Q => db en fun e en1 => onI e fun i => match en1[j]? with
  | some (.ow _ (.lst ds)) => ∃ z, atI ds i = some z ∧ Q z en1
  | _ => False
theorem ow_at {p : Option Addr} {o : Ow} {j : Nat} (R : Rg K g F en σ H own) (he : en[j]? = some (.ow p o)) : ∃ v A, σ[j]? = some (some v) ∧ RepO K F H v A o ∧ (∀ a ∈ A, own a = some j) ∧ ∀ a, p = some a → v = .ref a := by
  have hi : j < σ.length := by rw [← R.len]; exact (List.getElem?_eq_some_iff.mp he).1
  obtain ⟨v, A, e1, h⟩ := R.at_ j _ _ (List.getElem?_eq_getElem hi) he
  exact ⟨v, A, by rw [List.getElem?_eq_getElem hi, e1], h⟩
/-- an owned list may be read as it stands: its name in a reading -/
theorem lst_at {p : Option Addr} {xs : List D} {j : Nat} (R : Rg K g F en σ H own) (he : en[j]? = some (.ow p (.lst xs))) : ∃ a vs, σ[j]? = some (some (.ref a)) ∧ H a = some (.lst vs) ∧ DpAll K F vs xs ∧ own a = some j ∧ F a = none ∧ g.B a = none := by
  obtain ⟨v, A, h1, ⟨a, vs, rfl, rfl, h2, h3⟩, h4, _⟩ := ow_at R he
  have ho := h4 a (by simp)
  exact ⟨a, vs, h1, h2, h3, ho, (R.od a j ho).1, (R.od a j ho).2.1⟩
/-- .. is changed -/
theorem lst_put {p : Option Addr} {xs ys : List D} {ws : List V} {j : Nat} {a : Addr} (R : Rg K g F en σ H own) (he : en[j]? = some (.ow p (.lst xs))) (hs : σ[j]? = some (some (.ref a))) (ho : own a = some j) (hd : DpAll K F ws ys) :
    Rg K g F (en.set j (.ow p (.lst ys))) σ (upd H a (.lst ws)) own := by
  obtain ⟨v, A, h1, ⟨a', vs, rfl, rfl, h2, h3⟩, h4, h5⟩ := ow_at R he
  rw [hs] at h1
  cases h1
  obtain ⟨hF, hB, _⟩ := R.od a j ho
  refine ⟨R.f0, R.nw, same_updR R.fh hF, same_updR R.bh hB, fun b i e => ?_, by rw [List.length_set]; exact R.len, fun i x e q1 q2 => ?_⟩
  · obtain ⟨k1, k2, u, k3⟩ := R.od b i e
    refine ⟨k1, k2, ?_⟩
    by_cases hb : b = a
    · subst hb; exact ⟨_, upd_same⟩
    · exact ⟨u, by rw [upd_ne hb]; exact k3⟩
  · rcases get_set q2 with ⟨rfl, rfl⟩ | ⟨ne, q2⟩
    · rw [hs] at q1
      cases q1
      exact ⟨.ref a, [a], rfl, ⟨a, ws, rfl, rfl, upd_same, hd⟩, h4, h5⟩
    · exact entOk_keep (R.at_ i x e q1 q2) (Same.refl _) fun b hb => upd_ne fun z => by
        subst z
        rw [ho] at hb
        exact ne (Option.some.inj hb).symm
/-- an owned name's reading, with what stands behind it -/
def dPeek (j : Nat) (Qk : List D → Prop) (en : En) : Prop := match en[j]? with | some (.ow _ (.lst xs)) => Qk xs | _ => False
theorem peek_of {Qk : List D → Prop} {j : Nat} (q : dPeek j Qk en) : ∃ p xs, en[j]? = some (.ow p (.lst xs)) ∧ Qk xs := by
  unfold dPeek at q
  split at q
  · rename_i p xs he
    exact ⟨p, xs, he, q⟩
  · exact q.elim
def dIxP (j : Nat) (db : DE) : DE := fun en Q => dPeek j (fun _ => True) en ∧ db en fun e en1 => onI e fun i => dPeek j (fun ds => ∃ z, atI ds i = some z ∧ Q z en1) en1
theorem dixp {j : Nat} (hK : X.K = K) (ha : PE X a (tVar j)) (hb : PE X b (tD K db)) (hs : PlainIx b) : PE X (.Subscript a b pos) (tD K (dIxP j db)) :=
  PE.imp (pe_ix ix_list ha hb hs) fun σ H Q ⟨g, F, en, own, W, R, ⟨q0, q⟩, k⟩ => by
    subst hK
    obtain ⟨p, xs, he, _⟩ := peek_of q0
    obtain ⟨a, vs, hs, _⟩ := lst_at R he
    refine ⟨.ref a, hs, g, F, en, own, _, R, q, fun d en1 q1 v H1 F1 own1 R1 s1 hd => ?_⟩
    obtain ⟨i, rfl, rfl, q1⟩ := onI_of hd q1
    obtain ⟨p', ys, he', z, h1, h2⟩ := peek_of q1
    obtain ⟨a', vs', hs', hH, hd', _⟩ := lst_at R1 he'
    rw [hs] at hs'
    cases hs'
    obtain ⟨w, e, hw⟩ := atI_dpa hd' h1
    exact ⟨a, vs', i, w, rfl, rfl, .inl (.inl hH), e, kself R1 ((k _ _ h2).mono s1) hw⟩

/-! ### slices -/
abbrev DOpt := En → (Option Int → En → Prop) → Prop
def kOpt (K : Frag) (g : Gd) (F : Hp) (σ : St) (Q : Option Int → Hp → Prop) : Option Int → En → Prop := fun b en' => ∀ H' F' own', Rg K g F' en' σ H' own' → Same F F' → Q b H'
def tDOpt (K : Frag) (de : DOpt) : TO := fun σ H Q => ∃ g F en own W, Rg K g F en σ H own ∧ de en W ∧ ∀ d en', W d en' → kOpt K g F σ Q d en'
def dNoPart : DOpt := fun en Q => Q none en
def dPart (da : DE) : DOpt := fun en Q => da en fun d en1 => onI d fun i => Q (some i) en1
theorem dpn : PO X none (tDOpt K dNoPart) := PO.imp po_none fun σ H Q ⟨g, F, en, own, W, R, q, k⟩ => k _ _ q H F own R (Same.refl _)
theorem dps (h : PE X e (tD K da)) : PO X (some e) (tDOpt K (dPart da)) := PO.imp (po_some h) fun σ H Q ⟨g, F, en, own, W, R, q, k⟩ => ⟨g, F, en, own, _, R, q, fun d en1 q1 v H1 F1 own1 R1 s1 hd => by
  obtain ⟨i, rfl, rfl, q1⟩ := onI_of hd q1
  exact ⟨i, rfl, k _ _ q1 H1 F1 own1 R1 s1⟩⟩
def cutD (xs : List D) (lo hi : Option Int) : List D := (xs.drop (HT.sIx xs.length 0 lo)).take (HT.sIx xs.length xs.length hi - HT.sIx xs.length 0 lo)
theorem cut_dpa {vs : List V} {ds : List D} (h : DpAll K F vs ds) (lo hi : Option Int) : DpAll K F (cutV vs lo hi) (cutD ds lo hi) := by
  unfold cutV cutD
  rw [dpa_len h]
  exact dpa_take _ (dpa_drop _ h)
variable {lo hi : Option Expr} {dlo dhi : DOpt} {p2 : Pos}
/-- xs[lo:hi] of a list: a new list -/
def dSlL (da : DE) (dlo dhi : DOpt) : DO := fun en Q => da en fun d en1 => onL d fun ds => dlo en1 fun l en2 => dhi en2 fun h en3 => Q (.lst (cutD ds l h)) en3
theorem dsl (hK : X.K = K) (he : PE X e (tD K da)) (hl : PO X lo (tDOpt K dlo)) (hh : PO X hi (tDOpt K dhi)) : PE X (.Subscript e (.Slice lo hi none p2) pos) (tDO K (dSlL da dlo dhi)) :=
  PE.imp (pe_slice sl_list he hl hh) fun σ H Q ⟨g, F, en, own, W, R, q, k⟩ => ⟨g, F, en, own, _, R, q, fun d en1 q1 v H1 F1 own1 R1 s1 hd => by
    subst hK
    obtain ⟨p, vs, ds, rfl, rfl, hr, ha, q1⟩ := onL_of hd q1
    refine ⟨g, F1, en1, own1, _, R1, q1, fun l en2 q2 H2 F2 own2 R2 s2 => ⟨g, F2, en2, own2, _, R2, q2, fun h en3 q3 H3 F3 own3 R3 s3 => ?_⟩⟩
    refine ⟨p, vs, rfl, R3.fh.seq ((s2.trans s3).seq (.inl hr)), fun z hz => ?_⟩
    obtain ⟨R4, ap⟩ := new_apart R3 hz (cut_dpa (dpAll_mono (s2.trans s3) _ _ ha) l h)
    exact k _ _ q3 _ _ _ _ _ R4 ((s1.trans s2).trans s3) ap⟩
/-- .. of a text -/
def dSlS (da : DE) (dlo dhi : DOpt) : DE := fun en Q => da en fun d en1 => onS d fun z => dlo en1 fun l en2 => dhi en2 fun h en3 => z.length ≤ sizeLine ∧ Q (.str (cutS z l h)) en3
theorem dsls (he : PE X e (tD K da)) (hl : PO X lo (tDOpt K dlo)) (hh : PO X hi (tDOpt K dhi)) : PE X (.Subscript e (.Slice lo hi none p2) pos) (tD K (dSlS da dlo dhi)) :=
  PE.imp (pe_slice sl_str he hl hh) fun σ H Q ⟨g, F, en, own, W, R, q, k⟩ => ⟨g, F, en, own, _, R, q, fun d en1 q1 v H1 F1 own1 R1 s1 hd => by
    obtain ⟨z, rfl, rfl, q1⟩ := onS_of hd q1
    refine ⟨g, F1, en1, own1, _, R1, q1, fun l en2 q2 H2 F2 own2 R2 s2 => ⟨g, F2, en2, own2, _, R2, q2, fun h en3 q3 H3 F3 own3 R3 s3 => ?_⟩⟩
    exact ⟨z, rfl, q3.1, kself R3 ((k _ _ q3.2).mono ((s1.trans s2).trans s3)) (.str _)⟩⟩

/-! ### built-in functions -/
structure ClD (X : Cx) (K : Frag) (f : Value) (w : List D → (D → Prop) → Prop) : Prop where
  ex : ∃ r : List V → Hp → VK → Prop, CallR X f r ∧ ∀ g F H en σ own vs ds Q W, Rg K g F en σ H own → DpAll K F vs ds → w ds W → (∀ z, W z → kD K g F σ Q z en) → r vs H Q
structure ClO (X : Cx) (K : Frag) (f : Value) (w : List D → (Ow → Prop) → Prop) : Prop where
  ex : ∃ r : List V → Hp → VK → Prop, CallR X f r ∧ ∀ g F H en σ own vs ds Q W, Rg K g F en σ H own → DpAll K F vs ds → w ds W → (∀ z, W z → kO K g F σ Q z en) → r vs H Q
def dCl (w : List D → (D → Prop) → Prop) (t : DA) : DE := fun en Q => t en fun ds en1 => w ds fun z => Q z en1
def dClO (w : List D → (Ow → Prop) → Prop) (t : DA) : DO := fun en Q => t en fun ds en1 => w ds fun z => Q z en1
theorem cl_imp {r : List V → Hp → VK → Prop} {w : List D → (D → Prop) → Prop} {t : DA} {σ : St} {H : Hp} {Q : VK}
    (hw : ∀ g F H en σ own vs ds Q W, Rg K g F en σ H own → DpAll K F vs ds → w ds W → (∀ z, W z → kD K g F σ Q z en) → r vs H Q) (h : tD K (dCl w t) σ H Q) : tCB r (tDA K t) σ H Q := by
  obtain ⟨g, F, en, own, W, R, q, k⟩ := h
  exact ⟨g, F, en, own, _, R, q, fun ds en1 q1 vs H1 F1 own1 R1 s1 hd => hw g F1 H1 en1 σ own1 vs ds Q _ R1 hd q1 fun z hz => (k _ _ hz).mono s1⟩
theorem clO_imp {r : List V → Hp → VK → Prop} {w : List D → (Ow → Prop) → Prop} {t : DA} {σ : St} {H : Hp} {Q : VK}
    (hw : ∀ g F H en σ own vs ds Q W, Rg K g F en σ H own → DpAll K F vs ds → w ds W → (∀ z, W z → kO K g F σ Q z en) → r vs H Q) (h : tDO K (dClO w t) σ H Q) : tCB r (tDA K t) σ H Q := by
  obtain ⟨g, F, en, own, W, R, q, k⟩ := h
  exact ⟨g, F, en, own, _, R, q, fun ds en1 q1 vs H1 F1 own1 R1 s1 hd => hw g F1 H1 en1 σ own1 vs ds Q _ R1 hd q1 fun z hz => (k _ _ hz).mono s1⟩
variable {t : DA} {x : Str} {p : Pos} {id T : String} {w : List D → (D → Prop) → Prop} {wo : List D → (Ow → Prop) → Prop}
theorem dcb (hc : ClD X K (.builtin id) w) (hg : Gl X x) (hm : X.mg x = none) (hv : bootBuiltins x = some (.builtin id)) (ha : PA X (e :: es) (tDA K t)) (hn : x ≠ "__name__" := by decide) (hdb : (x == ("__debug__" : Str)) = false := by decide)
    (he : starEach (e :: es) X.env = (false, eval e X.env) :: starEach es X.env := by rfl) (hpl : (backTo pos (starEach es X.env)).any (·.1) = false := by rfl) : PE X (.Call (.Name x p) (e :: es) [] pos) (tD K (dCl w t)) := by
  obtain ⟨r, hr, hw⟩ := hc.ex
  exact PE.imp (pe_callB hr hg hm hv ha hn hdb he hpl) fun σ H Q h => cl_imp hw h
theorem dct (hc : ClD X K (.type T) w) (hg : Gl X x) (hm : X.mg x = none) (hv : bootBuiltins x = some (.type T)) (ha : PA X (e :: es) (tDA K t)) (hn : x ≠ "__name__" := by decide) (hdb : (x == ("__debug__" : Str)) = false := by decide)
    (he : starEach (e :: es) X.env = (false, eval e X.env) :: starEach es X.env := by rfl) (hpl : (backTo pos (starEach es X.env)).any (·.1) = false := by rfl) : PE X (.Call (.Name x p) (e :: es) [] pos) (tD K (dCl w t)) := by
  obtain ⟨r, hr, hw⟩ := hc.ex
  exact PE.imp (pe_callTy hr hg hm hv ha hn hdb he hpl) fun σ H Q h => cl_imp hw h
theorem dcbO (hc : ClO X K (.builtin id) wo) (hg : Gl X x) (hm : X.mg x = none) (hv : bootBuiltins x = some (.builtin id)) (ha : PA X (e :: es) (tDA K t)) (hn : x ≠ "__name__" := by decide) (hdb : (x == ("__debug__" : Str)) = false := by decide)
    (he : starEach (e :: es) X.env = (false, eval e X.env) :: starEach es X.env := by rfl) (hpl : (backTo pos (starEach es X.env)).any (·.1) = false := by rfl) : PE X (.Call (.Name x p) (e :: es) [] pos) (tDO K (dClO wo t)) := by
  obtain ⟨r, hr, hw⟩ := hc.ex
  exact PE.imp (pe_callB hr hg hm hv ha hn hdb he hpl) fun σ H Q h => clO_imp hw h
theorem dctO (hc : ClO X K (.type T) wo) (hg : Gl X x) (hm : X.mg x = none) (hv : bootBuiltins x = some (.type T)) (ha : PA X (e :: es) (tDA K t)) (hn : x ≠ "__name__" := by decide) (hdb : (x == ("__debug__" : Str)) = false := by decide)
    (he : starEach (e :: es) X.env = (false, eval e X.env) :: starEach es X.env := by rfl) (hpl : (backTo pos (starEach es X.env)).any (·.1) = false := by rfl) : PE X (.Call (.Name x p) (e :: es) [] pos) (tDO K (dClO wo t)) := by
  obtain ⟨r, hr, hw⟩ := hc.ex
  exact PE.imp (pe_callTy hr hg hm hv ha hn hdb he hpl) fun σ H Q h => clO_imp hw h

def wLen (ds : List D) (Q : D → Prop) : Prop := on1 ds fun d => match d with
  | .str z => z.length ≤ sizeLine ∧ Q (.int z.length)
  | .list xs => Q (.int xs.length)
  | .tuple xs => Q (.int xs.length)
  | _ => False
theorem cLen (hK : X.K = K) : ClD X K (.builtin "len") wLen := ⟨_, call_len, fun g F H en σ own vs ds Q W R hd q k => by
  subst hK
  obtain ⟨v, d, rfl, rfl, h1, q⟩ := on1_of hd q
  cases h1 with
  | str z => exact ⟨_, _, rfl, ⟨q.1, rfl⟩, kself R (k _ q.2) (.int _)⟩
  | lst hs ha => exact ⟨_, _, rfl, .inl ⟨_, R.fh.seq (.inl hs), rfl⟩, by rw [dpa_len ha]; exact kself R (k _ q) (.int _)⟩
  | tup hs ha => exact ⟨_, _, rfl, .inr ⟨_, seqT_mono R.fh hs, rfl⟩, by rw [dpa_len ha]; exact kself R (k _ q) (.int _)⟩
  | _ => exact (show False from q).elim⟩
/-- len of an owned name -/
def dLenP (j : Nat) : DE := fun en Q => dPeek j (fun ds => Q (.int ds.length) en) en
theorem dlenp {j : Nat} (hK : X.K = K) (hg : Gl X "len") (hm : X.mg "len" = none) (ha : PE X a (tVar j)) (he : starEach [a] X.env = (false, eval a X.env) :: starEach [] X.env := by rfl) (hpl : (backTo pos (starEach [] X.env)).any (·.1) = false := by rfl) : PE X (.Call (.Name "len" p) [a] [] pos) (tD K (dLenP j)) :=
  PE.imp (pe_callB call_len hg hm PySem.boot_len (pa_cons ha pa_nil he) (he := he) (hpl := hpl)) fun σ H Q ⟨g, F, en, own, W, R, q, k⟩ => by
    subst hK
    obtain ⟨p, xs, he, q⟩ := peek_of q
    obtain ⟨a, vs, hs, hH, hd, _⟩ := lst_at R he
    refine ⟨.ref a, hs, _, _, rfl, .inl ⟨_, .inl (.inl hH), rfl⟩, ?_⟩
    rw [dpa_len hd]
    exact kself R (k _ _ q) (.int _)
def wAbs (ds : List D) (Q : D → Prop) : Prop := on1 ds fun d => onI d fun i => Q (.int (if i < 0 then -i else i))
theorem cAbs : ClD X K (.builtin "abs") wAbs := ⟨_, call_abs, fun g F H en σ own vs ds Q W R hd q k => by
  obtain ⟨v, d, rfl, rfl, h1, q⟩ := on1_of hd q
  obtain ⟨i, rfl, rfl, q⟩ := onI_of h1 q
  exact ⟨i, rfl, kself R (k _ q) (.int _)⟩⟩
def wMax2 (ds : List D) (Q : D → Prop) : Prop := on2 ds fun d e => onI d fun i => onI e fun j => Q (.int (if j > i then j else i))
theorem cMax2 (hc : X.calm = true) : ClD X K (.builtin "max") wMax2 := ⟨_, call_max2 hc, fun g F H en σ own vs ds Q W R hd q k => by
  obtain ⟨v, u, d, e, rfl, rfl, h1, h2, q⟩ := on2_of hd q
  obtain ⟨i, rfl, rfl, q⟩ := onI_of h1 q
  obtain ⟨j, rfl, rfl, q⟩ := onI_of h2 q
  exact ⟨i, j, rfl, kself R (k _ q) (.int _)⟩⟩
def wMin2 (ds : List D) (Q : D → Prop) : Prop := on2 ds fun d e => onI d fun i => onI e fun j => Q (.int (if j < i then j else i))
theorem cMin2 (hc : X.calm = true) : ClD X K (.builtin "min") wMin2 := ⟨_, call_min2 hc, fun g F H en σ own vs ds Q W R hd q k => by
  obtain ⟨v, u, d, e, rfl, rfl, h1, h2, q⟩ := on2_of hd q
  obtain ⟨i, rfl, rfl, q⟩ := onI_of h1 q
  obtain ⟨j, rfl, rfl, q⟩ := onI_of h2 q
  exact ⟨i, j, rfl, kself R (k _ q) (.int _)⟩⟩
def wInt (ds : List D) (Q : D → Prop) : Prop := on1 ds fun d => match d with
  | .int i => Q (.int i)
  | .bool b => Q (.int (if b then 1 else 0))
  | .str z => ∃ n, PySem.intText? z = some n ∧ z.length ≤ 640 ∧ Q (.int n)
  | _ => False
theorem cInt : ClD X K (.type "int") wInt := ⟨_, call_int1.or call_int_str, fun g F H en σ own vs ds Q W R hd q k => by
  obtain ⟨v, d, rfl, rfl, h1, q⟩ := on1_of hd q
  cases h1 with
  | int i => exact .inl (.inl ⟨i, rfl, kself R (k _ q) (.int _)⟩)
  | bl b => exact .inl (.inr ⟨b, rfl, kself R (k _ q) (.int _)⟩)
  | str z =>
    obtain ⟨n, h2, h3, q⟩ := q
    exact .inr ⟨z, n, rfl, h2, h3, kself R (k _ q) (.int _)⟩
  | _ => exact (show False from q).elim⟩
def wStr (ds : List D) (Q : D → Prop) : Prop := on1 ds fun d => match d with
  | .int i => i.natAbs.log2 < 1920 ∧ Q (.str (toString i))
  | .str z => Q (.str z)
  | _ => False
theorem cStr : ClD X K (.type "str") wStr := ⟨_, call_str_int.or SkE.call_str_str, fun g F H en σ own vs ds Q W R hd q k => by
  obtain ⟨v, d, rfl, rfl, h1, q⟩ := on1_of hd q
  cases h1 with
  | int i => exact .inl ⟨i, rfl, q.1, kself R (k _ q.2) (.str _)⟩
  | str z => exact .inr ⟨z, rfl, kself R (k _ q) (.str _)⟩
  | _ => exact (show False from q).elim⟩
/-- lists of truths, of ints -/
def bls? : List D → Option (List Bool)
  | [] => some []
  | .bool b :: r => (bls? r).map (b :: ·)
  | _ => none
def ints? : List D → Option (List Int)
  | [] => some []
  | .int b :: r => (ints? r).map (b :: ·)
  | _ => none
theorem bls_of : ∀ {ds : List D} {bs : List Bool}, bls? ds = some bs → ds = bs.map PyData.bool
  | [], bs, h => by cases h; rfl
  | .bool b :: r, bs, h => by
    unfold bls? at h
    cases q : bls? r with
    | none => rw [q] at h; cases h
    | some cs => rw [q] at h; cases h; rw [bls_of q]; rfl
  | .none :: _, _, h => by cases h
  | .int _ :: _, _, h => by cases h
  | .str _ :: _, _, h => by cases h
  | .list _ :: _, _, h => by cases h
  | .tuple _ :: _, _, h => by cases h
  | .dict _ :: _, _, h => by cases h
theorem ints_of : ∀ {ds : List D} {bs : List Int}, ints? ds = some bs → ds = bs.map PyData.int
  | [], bs, h => by cases h; rfl
  | .int b :: r, bs, h => by
    unfold ints? at h
    cases q : ints? r with
    | none => rw [q] at h; cases h
    | some cs => rw [q] at h; cases h; rw [ints_of q]; rfl
  | .none :: _, _, h => by cases h
  | .bool _ :: _, _, h => by cases h
  | .str _ :: _, _, h => by cases h
  | .list _ :: _, _, h => by cases h
  | .tuple _ :: _, _, h => by cases h
  | .dict _ :: _, _, h => by cases h
theorem bls_map (bs : List Bool) : bls? (bs.map PyData.bool) = some bs := by
  induction bs with
  | nil => rfl
  | cons b r ih => show (bls? (r.map PyData.bool)).map (b :: ·) = _; rw [ih]; rfl
theorem ints_map (bs : List Int) : ints? (bs.map PyData.int) = some bs := by
  induction bs with
  | nil => rfl
  | cons b r ih => show (ints? (r.map PyData.int)).map (b :: ·) = _; rw [ih]; rfl
theorem dpa_bls {vs : List V} : ∀ {bs : List Bool}, DpAll K F vs (bs.map PyData.bool) → vs = bs.map V.bl := by
  induction vs with
  | nil => intro bs h; cases bs with | nil => rfl | cons _ _ => cases h
  | cons v vs ih =>
    intro bs h
    cases bs with
    | nil => cases h
    | cons b bs =>
      cases h with
      | cons h1 h2 => cases h1; rw [ih h2]; rfl
theorem dpa_ints {vs : List V} : ∀ {bs : List Int}, DpAll K F vs (bs.map PyData.int) → vs = bs.map V.int := by
  induction vs with
  | nil => intro bs h; cases bs with | nil => rfl | cons _ _ => cases h
  | cons v vs ih =>
    intro bs h
    cases bs with
    | nil => cases h
    | cons b bs =>
      cases h with
      | cons h1 h2 => cases h1; rw [ih h2]; rfl
theorem ints_dpa : ∀ {bs : List Int}, DpAll K F (bs.map V.int) (bs.map PyData.int)
  | [] => .nil
  | b :: bs => .cons (.int b) ints_dpa
theorem strs_dpa : ∀ {bs : List Str}, DpAll K F (bs.map V.str) (bs.map PyData.str)
  | [] => .nil
  | b :: bs => .cons (.str b) strs_dpa
theorem dpa_strs {vs : List V} : ∀ {bs : List Str}, DpAll K F vs (bs.map PyData.str) → vs = bs.map V.str := by
  induction vs with
  | nil => intro bs h; cases bs with | nil => rfl | cons _ _ => cases h
  | cons v vs ih =>
    intro bs h
    cases bs with
    | nil => cases h
    | cons b bs =>
      cases h with
      | cons h1 h2 => cases h1; rw [ih h2]; rfl
def wAll (ds : List D) (Q : D → Prop) : Prop := on1 ds fun d => onL d fun xs => ∃ bs : List Bool, xs = bs.map PyData.bool ∧ Q (.bool (bs.all _root_.id))
theorem cAll (hK : X.K = K) (hc : X.calm = true) : ClD X K (.builtin "all") wAll := ⟨_, cr_all hc, fun g F H en σ own vs ds Q W R hd q k => by
  subst hK
  obtain ⟨v, d, rfl, rfl, h1, q⟩ := on1_of hd q
  obtain ⟨p, us, xs, rfl, rfl, hs, ha, bs, rfl, q4⟩ := onL_of h1 q
  rw [dpa_bls ha] at hs
  exact ⟨p, bs, rfl, R.fh.seq (.inl hs), kself R (k _ q4) (.bl _)⟩⟩
def wAny (ds : List D) (Q : D → Prop) : Prop := on1 ds fun d => onL d fun xs => ∃ bs : List Bool, xs = bs.map PyData.bool ∧ Q (.bool (bs.any _root_.id))
theorem cAny (hK : X.K = K) (hc : X.calm = true) : ClD X K (.builtin "any") wAny := ⟨_, cr_any hc, fun g F H en σ own vs ds Q W R hd q k => by
  subst hK
  obtain ⟨v, d, rfl, rfl, h1, q⟩ := on1_of hd q
  obtain ⟨p, us, xs, rfl, rfl, hs, ha, bs, rfl, q4⟩ := onL_of h1 q
  rw [dpa_bls ha] at hs
  exact ⟨p, bs, rfl, R.fh.seq (.inl hs), kself R (k _ q4) (.bl _)⟩⟩
def wSum (ds : List D) (Q : D → Prop) : Prop := on1 ds fun d => onL d fun xs => ∃ ns : List Int, xs = ns.map PyData.int ∧ Q (.int ns.sum)
theorem cSum (hK : X.K = K) (hc : X.calm = true) : ClD X K (.builtin "sum") wSum := ⟨_, cr_sum hc, fun g F H en σ own vs ds Q W R hd q k => by
  subst hK
  obtain ⟨v, d, rfl, rfl, h1, q⟩ := on1_of hd q
  obtain ⟨p, us, xs, rfl, rfl, hs, ha, bs, rfl, q4⟩ := onL_of h1 q
  rw [dpa_ints ha] at hs
  exact ⟨p, bs, rfl, R.fh.seq (.inl hs), kself R (k _ q4) (.int _)⟩⟩
/-- sorted of ints -/
def wSortI (ds : List D) (Q : Ow → Prop) : Prop := on1 ds fun d => onL d fun xs => ∃ ns : List Int, xs = ns.map PyData.int ∧ ∀ ns' : List Int, ns'.Perm ns → ns'.Pairwise (· ≤ ·) → Q (.lst (ns'.map PyData.int))
theorem cSortI (hK : X.K = K) : ClO X K (.builtin "sorted") wSortI := ⟨_, cr_sortedI, fun g F H en σ own vs ds Q W R hd q k => by
  subst hK
  obtain ⟨v, d, rfl, rfl, h1, q⟩ := on1_of hd q
  obtain ⟨p, us, xs, rfl, rfl, hs, ha, bs, rfl, q4⟩ := onL_of h1 q
  rw [dpa_ints ha] at hs
  refine ⟨p, bs, rfl, R.fh.seq (.inl hs), fun ns' l hp hpw hl => ?_⟩
  obtain ⟨R2, ap⟩ := new_apart R hl (ints_dpa (bs := ns'))
  exact k _ (q4 ns' hp hpw) _ _ _ _ _ R2 (Same.refl _) ap⟩
/-- list(xs), list(t) -/
def wListO (ds : List D) (Q : Ow → Prop) : Prop := on1 ds fun d => onQ d fun xs => Q (.lst xs)
theorem cListO (hK : X.K = K) : ClO X K (.type "list") wListO := ⟨_, call_list_of, fun g F H en σ own vs ds Q W R hd q k => by
  subst hK
  obtain ⟨v, d, rfl, rfl, h1, q⟩ := on1_of hd q
  obtain ⟨p, us, xs, rfl, hs, ha, q⟩ := onQ_of h1 q
  refine ⟨p, us, rfl, sq_mono R.fh hs, fun l hl => ?_⟩
  obtain ⟨R2, ap⟩ := new_apart R hl ha
  exact k _ q _ _ _ _ _ R2 (Same.refl _) ap⟩
def wTuple (ds : List D) (Q : D → Prop) : Prop := on1 ds fun d => onQ d fun xs => Q (.tuple xs)
theorem cTuple (hK : X.K = K) : ClD X K (.type "tuple") wTuple := ⟨_, call_tuple_of, fun g F H en σ own vs ds Q W R hd q k => by
  subst hK
  obtain ⟨v, d, rfl, rfl, h1, q⟩ := on1_of hd q
  cases h1 with
  | lst hs ha =>
    refine ⟨_, _, rfl, .inl ⟨R.fh.seq (.inl hs), fun l hl => ?_⟩⟩
    exact k _ q _ _ _ _ (R.grow hl) (same_new (R.fNone hl)) (.tup (.inl (.inl upd_same)) (dpAll_mono (same_new (R.fNone hl)) _ _ ha))
  | tup hs ha => exact ⟨_, _, rfl, .inr ⟨seqT_mono R.fh hs, kself R (k _ q) (.tup hs ha)⟩⟩
  | _ => exact (show False from q).elim⟩
/-- repr of data -/
def wRepr (ds : List D) (Q : D → Prop) : Prop := on1 ds fun d => match d with
  | .list xs => d.showable = true ∧ d.hasDict = false ∧ d.depth ≤ 60 ∧ d.shown.length ≤ sizeLine ∧ Q (.str d.shown)
  | .tuple xs => d.showable = true ∧ d.hasDict = false ∧ d.depth ≤ 60 ∧ d.shown.length ≤ sizeLine ∧ Q (.str d.shown)
  | _ => False
end
end PD

namespace PD
open PySem PySem.Spec PyProof.Rows L2
section
variable {X : Cx} {K : Frag} {g : Gd} {F H : Hp} {en : En} {σ : St} {own : Owner} {Q : VK} {W : D → Prop}
variable {a b c e o : Expr} {da db dc : DE} {pos pos' apos : Pos} {es : List Expr} {t : DA} {x : Str} {p : Pos}

/-! ### methods of texts -/
/-- s.m(e): w by the text and the datum -/
structure SmD (X : Cx) (K : Frag) (id : String) (w : Str → D → (D → Prop) → Prop) : Prop where
  ex : ∃ r : V → List V → Hp → VK → Prop, MtR X id r ∧ ∀ g F H en σ own z y d Q W, Rg K g F en σ H own → Dp K F y d → w z d W → (∀ u, W u → kD K g F σ Q u en) → r (.str z) [y] H Q
structure SmO (X : Cx) (K : Frag) (id : String) (w : Str → D → (Ow → Prop) → Prop) : Prop where
  ex : ∃ r : V → List V → Hp → VK → Prop, MtR X id r ∧ ∀ g F H en σ own z y d Q W, Rg K g F en σ H own → Dp K F y d → w z d W → (∀ u, W u → kO K g F σ Q u en) → r (.str z) [y] H Q
def dSm (w : Str → D → (D → Prop) → Prop) (da db : DE) : DE := fun en Q => da en fun d en1 => onS d fun z => db en1 fun f en2 => w z f fun u => Q u en2
def dSmO (w : Str → D → (Ow → Prop) → Prop) (da db : DE) : DO := fun en Q => da en fun d en1 => onS d fun z => db en1 fun f en2 => w z f fun u => Q u en2
theorem dsm {id : String} {name : Str} {w : Str → D → (D → Prop) → Prop} (hm : SmD X K id w) (slot : Slot "str" name id) (ty : typeOf (.builtin id) = pure (.type "method_descriptor")) (ho : PE X o (tD K da)) (he : PE X e (tD K db))
    (hs : starEach [e] X.env = [(false, eval e X.env)] := by rfl) (hbase : attributeBase o name X.env (eval o X.env) = eval o X.env := by rfl) (hline : (apos.endLine == pos.line) = true := by rfl) : PE X (.Call (.Attribute o name apos) [e] [] pos) (tD K (dSm w da db)) := by
  obtain ⟨r, hr, hw⟩ := hm.ex
  refine PE.imp (pe_m1 slot ty hr ho he hs hbase hline) fun σ H Q ⟨g, F, en, own, W, R, q, k⟩ => ⟨g, F, en, own, _, R, q, fun d en1 q1 v H1 F1 own1 R1 s1 hd => ?_⟩
  obtain ⟨z, rfl, rfl, q1⟩ := onS_of hd q1
  refine ⟨⟨z, rfl⟩, g, F1, en1, own1, _, R1, q1, fun f en2 q2 y H2 F2 own2 R2 s2 hy => ?_⟩
  exact hw g F2 H2 en2 σ own2 z y f Q _ R2 hy q2 fun u hu => (k _ _ hu).mono (s1.trans s2)
theorem dsmO {id : String} {name : Str} {w : Str → D → (Ow → Prop) → Prop} (hm : SmO X K id w) (slot : Slot "str" name id) (ty : typeOf (.builtin id) = pure (.type "method_descriptor")) (ho : PE X o (tD K da)) (he : PE X e (tD K db))
    (hs : starEach [e] X.env = [(false, eval e X.env)] := by rfl) (hbase : attributeBase o name X.env (eval o X.env) = eval o X.env := by rfl) (hline : (apos.endLine == pos.line) = true := by rfl) : PE X (.Call (.Attribute o name apos) [e] [] pos) (tDO K (dSmO w da db)) := by
  obtain ⟨r, hr, hw⟩ := hm.ex
  refine PE.imp (pe_m1 slot ty hr ho he hs hbase hline) fun σ H Q ⟨g, F, en, own, W, R, q, k⟩ => ⟨g, F, en, own, _, R, q, fun d en1 q1 v H1 F1 own1 R1 s1 hd => ?_⟩
  obtain ⟨z, rfl, rfl, q1⟩ := onS_of hd q1
  refine ⟨⟨z, rfl⟩, g, F1, en1, own1, _, R1, q1, fun f en2 q2 y H2 F2 own2 R2 s2 hy => ?_⟩
  exact hw g F2 H2 en2 σ own2 z y f Q _ R2 hy q2 fun u hu => (k _ _ hu).mono (s1.trans s2)
def wJoin (z : Str) (d : D) (Q : D → Prop) : Prop := onQ d fun xs => ∃ ys : List Str, xs = ys.map PyData.str ∧ (ys.map (·.length)).sum + ys.length * z.length ≤ 16777216 ∧ Q (.str (PySem.Str.join z ys))
theorem sJoin (hK : X.K = K) : SmD X K "str.join" wJoin := ⟨_, mt_join, fun g F H en σ own z y d Q W R hd q k => by
  subst hK
  obtain ⟨l, vs, ds, rfl, hs, ha, ys, rfl, hz, q⟩ := onQ_of hd q
  rw [dpa_strs ha] at hs
  refine ⟨z, l, ys, rfl, rfl, sq_mono R.fh hs, hz, ?_⟩
  rw [TL.join_eq]
  exact kself R (k _ q) (.str _)⟩
theorem djoin (hK : X.K = K) (ho : PE X o (tD K da)) (he : PE X e (tD K db)) (hs : starEach [e] X.env = [(false, eval e X.env)] := by rfl) (hbase : attributeBase o "join" X.env (eval o X.env) = eval o X.env := by rfl) (hline : (apos.endLine == pos.line) = true := by rfl) :
    PE X (.Call (.Attribute o "join" apos) [e] [] pos) (tD K (dSm wJoin da db)) := dsm (sJoin hK) PySem.F.slot_str_join PySem.F.type_str_join ho he hs hbase hline
def wSplit (z : Str) (d : D) (Q : Ow → Prop) : Prop := onS d fun y => (y.length == 0) = false ∧ z.length + 2 ≤ sizeLine ∧ Q (.lst ((Txt.split z y).map PyData.str))
theorem sSplit : SmO X K "str.split" wSplit := ⟨_, mt_split, fun g F H en σ own z y d Q W R hd q k => by
  obtain ⟨s, rfl, rfl, h1, h2, q⟩ := onS_of hd q
  refine ⟨z, s, rfl, rfl, h1, h2, fun l hl => ?_⟩
  obtain ⟨R2, ap⟩ := new_apart R hl (strs_dpa (bs := Txt.split z s))
  exact k _ q _ _ _ _ _ R2 (Same.refl _) ap⟩
theorem dsplit (ho : PE X o (tD K da)) (he : PE X e (tD K db)) (hs : starEach [e] X.env = [(false, eval e X.env)] := by rfl) (hbase : attributeBase o "split" X.env (eval o X.env) = eval o X.env := by rfl) (hline : (apos.endLine == pos.line) = true := by rfl) :
    PE X (.Call (.Attribute o "split" apos) [e] [] pos) (tDO K (dSmO wSplit da db)) := dsmO sSplit PySem.F.slot_str_split PySem.F.type_str_split ho he hs hbase hline
def wPart (z : Str) (d : D) (Q : D → Prop) : Prop := onS d fun y => (y.length == 0) = false ∧ z.length ≤ sizeLine ∧ Q (.tuple [.str (Txt.partition z y).1, .str (Txt.partition z y).2.1, .str (Txt.partition z y).2.2])
theorem sPart : SmD X K "str.partition" wPart := ⟨_, mt_partition, fun g F H en σ own z y d Q W R hd q k => by
  obtain ⟨s, rfl, rfl, h1, h2, q⟩ := onS_of hd q
  refine ⟨z, s, rfl, rfl, h1, h2, fun l hl => ?_⟩
  exact k _ q _ _ _ _ (R.grow hl) (same_new (R.fNone hl)) (.tup (.inl (.inl upd_same)) (.cons (.str _) (.cons (.str _) (.cons (.str _) .nil))))⟩
theorem dpart (ho : PE X o (tD K da)) (he : PE X e (tD K db)) (hs : starEach [e] X.env = [(false, eval e X.env)] := by rfl) (hbase : attributeBase o "partition" X.env (eval o X.env) = eval o X.env := by rfl) (hline : (apos.endLine == pos.line) = true := by rfl) :
    PE X (.Call (.Attribute o "partition" apos) [e] [] pos) (tD K (dSm wPart da db)) := dsm sPart PySem.F.slot_str_partition PySem.F.type_str_partition ho he hs hbase hline
/-- {e} of an f-string -/
def wFmt (d : D) (Q : D → Prop) : Prop := match d with
  | .str y => y.length ≤ sizeLine ∧ Q (.str y)
  | .int i => i.natAbs.log2 < 1920 ∧ Q (.str (toString i))
  | _ => False
def dFmt (da : DE) : DE := fun en Q => da en fun d en1 => wFmt d fun z => Q z en1
theorem dfmt (he : PE X e (tD K da)) : PE X (.FormattedValue e (-1) none pos) (tD K (dFmt da)) :=
  PE.imp (pe_fmt he) fun σ H Q ⟨g, F, en, own, W, R, q, k⟩ => ⟨g, F, en, own, _, R, q, fun d en1 q1 v H1 F1 own1 R1 s1 hd => by
    cases hd with
    | str y => exact .inl ⟨y, rfl, q1.1, kself R1 ((k _ _ q1.2).mono s1) (.str _)⟩
    | int i => exact .inr ⟨i, rfl, q1.1, kself R1 ((k _ _ q1.2).mono s1) (.str _)⟩
    | _ => exact (show False from q1).elim⟩
inductive PJd (X : Cx) (K : Frag) : List Expr → List DE → Prop where
  | nil : PJd X K [] []
  | cons {e : Expr} {d : DE} {es : List Expr} {ds : List DE} (h : PE X e (tD K d)) (r : PJd X K es ds) : PJd X K (e :: es) (d :: ds)
theorem pjd_ok {es : List Expr} {ds : List DE} (h : PJd X K es ds) : PJ X es (ds.map (tD K)) := by
  induction h with
  | nil => exact .nil
  | cons h _ ih => exact .cons h ih
def dJs : List DE → Str → En → (Str → En → Prop) → Prop
  | [], acc, en, Q => Q acc en
  | d :: ds, acc, en, Q => d en fun x en1 => onS x fun y => (acc ++ y).length ≤ sizeLine ∧ dJs ds (acc ++ y) en1 Q
theorem djs_imp {W : Str → En → Prop} : ∀ {ds : List DE} {acc : Str} {g : Gd} {F H : Hp} {en : En} {own : Owner} {Q : Str → Hp → Prop}, Rg K g F en σ H own → dJs ds acc en W →
    (∀ out en' H' F' own', W out en' → Rg K g F' en' σ H' own' → Same F F' → Q out H') → tJs (ds.map (tD K)) acc σ H Q
  | [], acc, g, F, H, en, own, Q, R, q, k => k acc en H F own q R (Same.refl _)
  | d :: ds, acc, g, F, H, en, own, Q, R, q, k => ⟨g, F, en, own, _, R, q, fun x en1 q1 v H1 F1 own1 R1 s1 hd => by
    obtain ⟨y, rfl, rfl, q1⟩ := onS_of hd q1
    exact ⟨y, rfl, q1.1, djs_imp R1 q1.2 fun out en' H' F' own' hw R' s' => k out en' H' F' own' hw R' (s1.trans s')⟩⟩
def dJoined (ds : List DE) : DE := fun en Q => dJs ds Str.empty en fun out en1 => Q (.str out) en1
theorem djoined {v1 v2 : Expr} {rest : List Expr} {ds : List DE} (h : PJd X K (v1 :: v2 :: rest) ds) : PE X (.JoinedStr (v1 :: v2 :: rest) pos) (tD K (dJoined ds)) :=
  PE.imp (pe_joined (pjd_ok h)) fun σ H Q ⟨g, F, en, own, W, R, q, k⟩ => djs_imp R q fun out en' H' F' own' hw R' s' => kself R' ((k _ _ hw).mono s') (.str _)

/-! ### isinstance of built-in types, repr -/
inductive Ty5 where
  | int | bool | str | list | tuple
def Ty5.nm : Ty5 → String
  | .int => "int" | .bool => "bool" | .str => "str" | .list => "list" | .tuple => "tuple"
inductive Tg where
  | n | b | i | s | l | t | d
def Tg.nm : Tg → String
  | .n => "NoneType" | .b => "bool" | .i => "int" | .s => "str" | .l => "list" | .t => "tuple" | .d => "dict"
def tgD : D → Tg
  | .none => .n | .bool _ => .b | .int _ => .i | .str _ => .s | .list _ => .l | .tuple _ => .t | .dict _ => .d
def isTg : Ty5 → Tg → Bool
  | .int, .i => true | .int, .b => true | .bool, .b => true | .str, .s => true | .list, .l => true | .tuple, .t => true
  | _, _ => false
def isT (T : Ty5) (d : D) : Bool := isTg T (tgD d)
def tyD (d : D) : String := (tgD d).nm
theorem kitTg (T : Ty5) (y : Tg) : kitB y.nm T.nm = some (isTg T y) := by
  cases T <;> cases y <;> decide +kernel
theorem kit5 (T : Ty5) {K : Frag} {F : Hp} {v : V} {d : D} (_ : Dp K F v d) : kitB (tyD d) T.nm = some (isT T d) := kitTg T (tgD d)
theorem ty5 {v : V} {d : D} {H : Hp} (s : Same F H) (h : Dp K F v d) : TyX K H v (.type (tyD d)) := by
  cases h with
  | non => exact .base .non
  | bl b => exact .base (.bl b)
  | int i => exact .base (.int i)
  | str x => exact .base (.str x)
  | lst hs ha =>
    rcases hs with hs | ⟨ob, hs⟩
    · exact .base (.lst (s _ _ hs))
    · exact .base (.frz (s _ _ hs))
  | tup hs ha =>
    rcases hs with (hs | ⟨ob, hs⟩) | ⟨ob, its, n, h1, h2, _⟩
    · exact .base (.tup (s _ _ hs))
    · exact .fTuple (s _ _ hs)
    · exact .kTuple h1 h2
def dIsI (T : Ty5) (da : DE) : DE := fun en Q => da en fun d en1 => Q (.bool (isT T d)) en1
theorem disi (T : Ty5) (hK : X.K = K) {p2 : Pos} {y : Str} (hg : Gl X "isinstance") (hm : X.mg "isinstance" = none) (hg2 : Gl X y) (hm2 : X.mg y = none) (hv2 : bootBuiltins y = some (.type T.nm)) (he : PE X e (tD K da))
    (hn2 : y ≠ "__name__" := by decide) (hdb2 : (y == ("__debug__" : Str)) = false := by decide)
    (hs : starEach [e, .Name y p2] X.env = (false, eval e X.env) :: starEach [.Name y p2] X.env := by rfl) (hs2 : starEach [.Name y p2] X.env = (false, eval (.Name y p2) X.env) :: starEach [] X.env := by rfl) (hpl : (backTo pos (starEach [.Name y p2] X.env)).any (·.1) = false := by rfl) :
    PE X (.Call (.Name "isinstance" p) [e, .Name y p2] [] pos) (tD K (dIsI T da)) :=
  PE.imp (pe_callB call_isi hg hm (by decide +kernel) (pa_cons he (pa_cons (pe_bltn (v := .ty T.nm) hg2 hm2 hv2 rfl hn2 hdb2) pa_nil hs2) hs) (he := hs) (hpl := hpl)) fun σ H Q ⟨g, F, en, own, W, R, q, k⟩ => ⟨g, F, en, own, _, R, q, fun d en1 q1 v H1 F1 own1 R1 s1 hd => by
    subst hK
    exact ⟨v, .ty T.nm, _, _, _, rfl, .ty _, ty5 R1.fh hd, kit_ty (kit5 T hd), kself R1 ((k _ _ q1).mono s1) (.bl _)⟩⟩
def dIsI2 (T U : Ty5) (da : DE) : DE := fun en Q => da en fun d en1 => Q (.bool (isT T d || isT U d)) en1
theorem disi2 (T U : Ty5) (hK : X.K = K) {p2 p3 p4 : Pos} {y z : Str} {kt} (hg : Gl X "isinstance") (hm : X.mg "isinstance" = none) (hg2 : Gl X y) (hm2 : X.mg y = none) (hv2 : bootBuiltins y = some (.type T.nm)) (hg3 : Gl X z) (hm3 : X.mg z = none) (hv3 : bootBuiltins z = some (.type U.nm)) (he : PE X e (tD K da))
    (hn2 : y ≠ "__name__" := by decide) (hdb2 : (y == ("__debug__" : Str)) = false := by decide) (hn3 : z ≠ "__name__" := by decide) (hdb3 : (z == ("__debug__" : Str)) = false := by decide)
    (hs : starEach [e, .Tuple [.Name y p2, .Name z p3] kt p4] X.env = (false, eval e X.env) :: starEach [.Tuple [.Name y p2, .Name z p3] kt p4] X.env := by rfl)
    (hs2 : starEach [.Tuple [.Name y p2, .Name z p3] kt p4] X.env = (false, eval (.Tuple [.Name y p2, .Name z p3] kt p4) X.env) :: starEach [] X.env := by rfl)
    (hs3 : starEach [.Name y p2, .Name z p3] X.env = (false, eval (.Name y p2) X.env) :: starEach [.Name z p3] X.env := by rfl) (hs4 : starEach [.Name z p3] X.env = (false, eval (.Name z p3) X.env) :: starEach [] X.env := by rfl)
    (hpl : (backTo pos (starEach [.Tuple [.Name y p2, .Name z p3] kt p4] X.env)).any (·.1) = false := by rfl) :
    PE X (.Call (.Name "isinstance" p) [e, .Tuple [.Name y p2, .Name z p3] kt p4] [] pos) (tD K (dIsI2 T U da)) :=
  PE.imp (pe_callB call_isiT hg hm (by decide +kernel) (pa_cons he (pa_cons (pe_tup (pa_cons (pe_bltn (v := .ty T.nm) hg2 hm2 hv2 rfl hn2 hdb2) (pa_cons (pe_bltn (v := .ty U.nm) hg3 hm3 hv3 rfl hn3 hdb3) pa_nil hs4) hs3)) pa_nil hs2) hs) (he := hs) (hpl := hpl)) fun σ H Q ⟨g, F, en, own, W, R, q, k⟩ => ⟨g, F, en, own, _, R, q, fun d en1 q1 v H1 F1 own1 R1 s1 hd => by
    subst hK
    refine ⟨by show 2 ≤ sizeLine; decide, fun p hp => ?_⟩
    refine ⟨v, p, _, _, _, _, rfl, upd_same, .cons (.ty _) (.cons (.ty _) .nil), ty5 (R1.fh.trans (same_new hp)) hd, ?_, kself (R1.apart hp) ((k _ _ q1).mono s1) (.bl _)⟩
    refine kitAny_cons (kit_ty (kit5 T hd)) (fun e1 => ?_) (fun e1 => by rw [e1]; rfl)
    rw [e1, Bool.false_or]
    exact kitAny_cons (kit_ty (kit5 U hd)) (fun e2 => by rw [e2]; rfl) (fun e2 => e2)⟩
theorem call_reprD {n : Nat} (hr : RoomG n X.A) : CallR X (.builtin "repr") (fun xs H Q => ∃ (v : V) (d : D), xs = [v] ∧ L2.Dp X.K H v d ∧ (∃ a, v = .ref a) ∧ d.showable = true ∧ d.hasDict = false ∧ d.depth ≤ 60 ∧ d.shown.length ≤ sizeLine ∧ Q (.str d.shown) H) := by
  intro pins s σ H xs us Q iv rv h
  obtain ⟨v, d, rfl, hd, ⟨a, rfl⟩, h1, h2, h3, h4, q⟩ := h
  obtain ⟨u, rfl, ru⟩ := vals1 rv
  cases ru
  obtain ⟨as, rd⟩ := L2.Dp.reads iv d _ _ hd rfl
  refine repr_of_reads' rd h1 (PyData.noDict_hsm h2) hr.free (by have := hr.hu; omega) (fun _ _ z => z) (fun h' u tk kp => ?_) h4
  exact ⟨.str d.shown, H, iv.kept kp, ⟨u, rfl⟩, q⟩
theorem cRepr {n : Nat} (hK : X.K = K) (hr : RoomG n X.A) : ClD X K (.builtin "repr") wRepr := ⟨_, call_reprD hr, fun g F H en σ own vs ds Q W R hd q k => by
  subst hK
  obtain ⟨v, d, rfl, rfl, h1, q⟩ := on1_of hd q
  cases h1 with
  | lst hs ha => exact ⟨_, _, rfl, (dp_mono R.fh _ _ (Dp.lst hs ha)).old, ⟨_, rfl⟩, q.1, q.2.1, q.2.2.1, q.2.2.2.1, kself R (k _ q.2.2.2.2) (.str _)⟩
  | tup hs ha => exact ⟨_, _, rfl, (dp_mono R.fh _ _ (Dp.tup hs ha)).old, ⟨_, rfl⟩, q.1, q.2.1, q.2.2.1, q.2.2.2.1, kself R (k _ q.2.2.2.2) (.str _)⟩
  | _ => exact (show False from q).elim⟩

/-! ### owned lists changed -/
structure MlO (X : Cx) (K : Frag) (id : String) (w : List D → List D → (D → List D → Prop) → Prop) : Prop where
  ex : ∃ r : V → List V → Hp → VK → Prop, MtR X id r ∧ ∀ F H l vs xs us ds (Q : VK) W, Same F H → H l = some (.lst vs) → DpAll K F vs xs → DpAll K F us ds → w xs ds W → (∀ z ys, W z ys → ∀ v ws, Dp K F v z → DpAll K F ws ys → Q v (upd H l (.lst ws))) → r (.ref l) us H Q
/-- an owned list's change -/
def dMut (j : Nat) (f : List D → (List D → En) → Prop) (en : En) : Prop := match en[j]? with | some (.ow p (.lst xs)) => f xs (fun ys => en.set j (.ow p (.lst ys))) | _ => False
theorem mut_of {f : List D → (List D → En) → Prop} {j : Nat} (q : dMut j f en) : ∃ p xs, en[j]? = some (.ow p (.lst xs)) ∧ f xs (fun ys => en.set j (.ow p (.lst ys))) := by
  unfold dMut at q
  split at q
  · rename_i p xs he
    exact ⟨p, xs, he, q⟩
  · exact q.elim
def dMl (w : List D → List D → (D → List D → Prop) → Prop) (j : Nat) (t : DA) : DE := fun en Q => dPeek j (fun _ => True) en ∧ t en fun ds en1 => dMut j (fun xs st => w xs ds fun z ys => Q z (st ys)) en1
theorem ml_imp {w : List D → List D → (D → List D → Prop) → Prop} {r : V → List V → Hp → VK → Prop} {j : Nat} {σ : St} {H : Hp} {Q : VK} (hK : X.K = K)
    (hw : ∀ F H l vs xs us ds (Q : VK) W, Same F H → H l = some (.lst vs) → DpAll K F vs xs → DpAll K F us ds → w xs ds W → (∀ z ys, W z ys → ∀ v ws, Dp K F v z → DpAll K F ws ys → Q v (upd H l (.lst ws))) → r (.ref l) us H Q)
    (h : tD K (dMl w j t) σ H Q) : tBM X.K "list" r (tVar j) (tDA K t) σ H Q := by
  subst hK
  obtain ⟨g, F, en, own, W, R, ⟨q0, q⟩, k⟩ := h
  obtain ⟨p, xs, he, _⟩ := peek_of q0
  obtain ⟨l, vs, hs, hH, _⟩ := lst_at R he
  refine ⟨.ref l, hs, .inl ⟨rfl, _, .inl (.inl hH)⟩, g, F, en, own, _, R, q, fun ds en1 q1 us H1 F1 own1 R1 s1 hd => ?_⟩
  obtain ⟨p', ys, he', q2⟩ := mut_of q1
  obtain ⟨l', vs', hs', hH', hd', ho, _⟩ := lst_at R1 he'
  rw [hs] at hs'
  cases hs'
  exact hw F1 H1 l vs' ys us ds Q _ R1.fh hH' hd' hd q2 fun z zs hz v ws hv hws => (k _ _ hz).mono s1 v _ F1 own1 (lst_put R1 he' hs ho hws) (Same.refl _) hv
theorem dml {id : String} {name : Str} {w : List D → List D → (D → List D → Prop) → Prop} {j : Nat} (hm : MlO X K id w) (hK : X.K = K) (slot : Slot "list" name id) (hty : typeOf (.builtin id) = pure (.type "method_descriptor")) (ho : PE X o (tVar j)) (ha : PA X (e :: es) (tDA K t))
    (hbase : attributeBase o name X.env (eval o X.env) = eval o X.env := by rfl)
    (hfew : ((backTo pos (starEach (e :: es) X.env)).all (fun x => !x.1) && (backToKw pos (keywordEach [] X.env)).all (fun x => x.1.isSome)
      && decide ((e :: es).length + ([] : List Keyword).length + (if ([] : List Keyword).isEmpty then 0 else 1) < 30)) = true := by rfl)
    (hline : (apos.endLine == pos.line) = true := by rfl) (hs : starEach (e :: es) X.env = (false, eval e X.env) :: starEach es X.env := by rfl) (hplain : (backTo pos (starEach es X.env)).any (·.1) = false := by rfl) :
    PE X (.Call (.Attribute o name apos) (e :: es) [] pos) (tD K (dMl w j t)) := by
  obtain ⟨r, hr, hw⟩ := hm.ex
  exact PE.imp (pe_bm PySem.F.plainAttrs_list slot hty hr ho ha hbase hfew hline hs hplain) fun σ H Q h => ml_imp hK hw h
theorem dml0 {id : String} {name : Str} {w : List D → List D → (D → List D → Prop) → Prop} {j : Nat} (hm : MlO X K id w) (hK : X.K = K) (slot : Slot "list" name id) (hty : typeOf (.builtin id) = pure (.type "method_descriptor")) (ho : PE X o (tVar j))
    (hbase : attributeBase o name X.env (eval o X.env) = eval o X.env := by rfl) (hline : (apos.endLine == pos.line) = true := by rfl) : PE X (.Call (.Attribute o name apos) [] [] pos) (tD K (dMl w j dNilA)) := by
  obtain ⟨r, hr, hw⟩ := hm.ex
  refine PE.imp (pe_bm0 PySem.F.plainAttrs_list slot hty hr ho hbase hline) fun σ H Q h => ?_
  obtain ⟨v, h1, h2, h3⟩ := ml_imp hK hw h
  refine ⟨v, h1, h2, ?_⟩
  obtain ⟨g, F, en, own, W, R, q, k⟩ := h3
  exact k _ _ q [] H F own R (Same.refl _) .nil
def wAppend (xs ds : List D) (Q : D → List D → Prop) : Prop := on1 ds fun d => xs.length < sizeLine ∧ Q .none (xs ++ [d])
theorem mAppend : MlO X K "list.append" wAppend := ⟨_, mt_append, fun F H l vs xs us ds Q W s h1 h2 h3 q k => by
  obtain ⟨v, d, rfl, rfl, hd, q⟩ := on1_of h3 q
  exact ⟨l, vs, v, rfl, rfl, h1, by rw [dpa_len h2]; exact q.1, k _ _ q.2 .non _ .non (dpa_app h2 (.cons hd .nil))⟩⟩
theorem dappend {j : Nat} (hK : X.K = K) (ho : PE X o (tVar j)) (ha : PA X [e] (tDA K t)) (hbase : attributeBase o "append" X.env (eval o X.env) = eval o X.env := by rfl)
    (hfew : ((backTo pos (starEach [e] X.env)).all (fun x => !x.1) && (backToKw pos (keywordEach [] X.env)).all (fun x => x.1.isSome)
      && decide ([e].length + ([] : List Keyword).length + (if ([] : List Keyword).isEmpty then 0 else 1) < 30)) = true := by rfl)
    (hline : (apos.endLine == pos.line) = true := by rfl) (hs : starEach [e] X.env = (false, eval e X.env) :: starEach [] X.env := by rfl) (hplain : (backTo pos (starEach [] X.env)).any (·.1) = false := by rfl) :
    PE X (.Call (.Attribute o "append" apos) [e] [] pos) (tD K (dMl wAppend j t)) := dml mAppend hK PySem.F.slot_list_append PySem.F.type_list_append ho ha hbase hfew hline hs hplain
def wPop (xs ds : List D) (Q : D → List D → Prop) : Prop := ds = [] ∧ ∃ y, xs[xs.length - 1]? = some y ∧ Q y xs.dropLast
theorem dpa_dropLast {vs : List V} {ds : List D} (h : DpAll K F vs ds) : DpAll K F vs.dropLast ds.dropLast := by
  rw [List.dropLast_eq_take, List.dropLast_eq_take, dpa_len h]
  exact dpa_take _ h
theorem mPop : MlO X K "list.pop" wPop := ⟨_, mt_pop, fun F H l vs xs us ds Q W s h1 h2 h3 q k => by
  obtain ⟨rfl, y, hy, q⟩ := q
  cases h3
  obtain ⟨v, hv, hd⟩ := dpa_get' h2 hy
  exact ⟨l, vs, v, rfl, rfl, h1, by rw [dpa_len h2]; exact hv, k _ _ q v _ hd (dpa_dropLast h2)⟩⟩
def wPopAt (xs ds : List D) (Q : D → List D → Prop) : Prop := on1 ds fun d => onI d fun i => (-(2 ^ 63) ≤ i ∧ i < 2 ^ 63) ∧ ∃ k y, seqIndex? i xs.length = some k ∧ xs[k]? = some y ∧ Q y (xs.eraseIdx k)
theorem mPopAt : MlO X K "list.pop" wPopAt := ⟨_, mt_popAt, fun F H l vs xs us ds Q W s h1 h2 h3 q k => by
  obtain ⟨v, d, rfl, rfl, hd, q⟩ := on1_of h3 q
  obtain ⟨i, rfl, rfl, hi, m, y, h4, hy, q⟩ := onI_of hd q
  obtain ⟨u, hu, hdu⟩ := dpa_get' h2 hy
  exact ⟨l, vs, i, m, u, rfl, rfl, h1, hi.1, hi.2, by rw [dpa_len h2]; exact h4, hu, k _ _ q u _ hdu (dpa_erase m h2)⟩⟩
def wReverse (xs ds : List D) (Q : D → List D → Prop) : Prop := ds = [] ∧ Q .none xs.reverse
theorem mReverse : MlO X K "list.reverse" wReverse := ⟨_, mt_reverse, fun F H l vs xs us ds Q W s h1 h2 h3 q k => by
  obtain ⟨rfl, q⟩ := q
  cases h3
  exact ⟨l, vs, rfl, rfl, h1, k _ _ q .non _ .non (dpa_rev h2)⟩⟩
def wClear (xs ds : List D) (Q : D → List D → Prop) : Prop := ds = [] ∧ Q .none []
theorem mClear : MlO X K "list.clear" wClear := ⟨_, mt_clear, fun F H l vs xs us ds Q W s h1 h2 h3 q k => by
  obtain ⟨rfl, q⟩ := q
  cases h3
  exact ⟨l, vs, rfl, rfl, h1, k _ _ q .non _ .non .nil⟩⟩
end
end PD

namespace PD
open PySem PySem.Spec PyProof.Rows L2
section
variable {X : Cx} {K : Frag} {g : Gd} {F H : Hp} {en : En} {σ : St} {own : Owner} {Q : VK} {W : D → Prop}
variable {a b c e o : Expr} {da db dc : DE} {pos pos' apos : Pos} {es : List Expr} {t : DA} {x : Str} {p : Pos} {st : Stmt}

/-! ### lists joined, repeated, extended: anything that is read as a list -/
def rCatR : R2 := fun x y H Q => ∃ l b xs zs, x = .ref l ∧ y = .ref b ∧ Rd H l (.lst xs) ∧ Rd H b (.lst zs) ∧ xs.length + zs.length ≤ sizeLine ∧ ∀ p, H p = none → Q (.ref p) (upd H p (.lst (xs ++ zs)))
theorem rd_obj {pins : List (Addr × Obj)} {s : Shared} {l : Addr} {xs : List V} (iv : Inv X pins σ H s) (r : Rd H l (.lst xs)) : xs.length ≤ sizeLine ∧ ∃ (its : List Value) (n : Nat), Vals xs its ∧ s.heap.get? l = some { cls := .type "list", data := .seq its.toArray n } := r.ok iv.hok
theorem op_catR : OpR X (binaryOp .Add) rCatR := by
  intro pins s σ H x y v u Q iv rx ry want
  obtain ⟨l, b, xs, zs, rfl, rfl, h1, h2, small, q⟩ := want
  cases rx
  cases ry
  obtain ⟨_, i1, n1, v1, e1⟩ := rd_obj iv h1
  obtain ⟨_, i2, n2, v2, e2⟩ := rd_obj iv h2
  have z1 := v1.length
  have z2 := v2.length
  refine PySem.P.add_list e1 e2 ?_ (by simp only [List.size_toArray]; omega)
  rw [show i1.toArray ++ i2.toArray = (i1 ++ i2).toArray from by simp]
  exact ⟨V.ref _, _, iv.lnew (t' := s.toks) (v1.append v2) (by simp only [List.length_append]; omega), rfl, q _ iv.fresh⟩
def wCat (d e : D) (Q : Ow → Prop) : Prop := onL d fun xs => onL e fun ys => xs.length + ys.length ≤ sizeLine ∧ Q (.lst (xs ++ ys))
theorem oCat : OpO X K (binaryOp .Add) wCat := ⟨_, op_catR, fun g F H en σ own x y d e Q W R hx hy q k => by
  obtain ⟨l, vs, xs, rfl, rfl, r1, h1, q⟩ := onL_of hx q
  obtain ⟨l2, vs2, ys, rfl, rfl, r2, h2, q⟩ := onL_of hy q
  refine ⟨l, l2, vs, vs2, rfl, rfl, rd_mono R.fh r1, rd_mono R.fh r2, by rw [dpa_len h1, dpa_len h2]; exact q.1, fun m hm => ?_⟩
  obtain ⟨R2, ap⟩ := new_apart R hm (dpa_app h1 h2)
  exact k _ q.2 _ _ _ _ _ R2 (Same.refl _) ap⟩
/-- a text times an int -/
def repS (z : Str) (n : Nat) : Str := ⟨(List.replicate n z.cps).foldl (· ++ ·) #[]⟩
theorem repS_one (z : Str) : repS z 1 = z := by
  unfold repS
  obtain ⟨c⟩ := z
  simp
theorem op_repS : OpR X (binaryOp .Mult) (fun x y H Q => ∃ (z : Str) (n : Nat), x = .str z ∧ y = .int (n : Int) ∧ 1 ≤ n ∧ n < 1000000 ∧ 0 < z.length ∧ z.length * n ≤ 1000000 ∧ Q (.str (repS z n)) H) := by
  intro pins s σ H x y v u Q iv rx ry want
  obtain ⟨z, n, rfl, rfl, h1, h2, h3, h4, q⟩ := want
  obtain ⟨t, rfl⟩ := rx
  obtain ⟨t', rfl⟩ := ry
  have big : ((2 : Int) ^ 63 - 1) / (n : Int) ≥ 1000000 := by
    have : (1000000 : Int) * n ≤ 2 ^ 63 - 1 := by omega
    exact (Int.le_ediv_iff_mul_le (by omega)).mpr this
  have zl : z.length ≤ 1000000 := by
    have := Nat.le_mul_of_pos_right z.length h1
    omega
  refine PySem.P.mul_str ?_ (fun _ _ => by omega) (fun _ _ => ?_) ?_
  · rw [decide_eq_false (by omega), decide_eq_false (by omega)]; rfl
  · have hs := sizeLine_eq
    rw [Int.toNat_natCast]
    exact decide_eq_false (by omega)
  · rw [if_neg (by omega)]
    by_cases h5 : n = 1
    · subst h5
      rw [if_pos (by simp)]
      exact ⟨.str z, H, iv, ⟨t, rfl⟩, by rw [repS_one] at q; exact q⟩
    · rw [if_neg (by simp; omega)]
      refine ⟨?_, ⟨.str (repS z n), H, iv.tok _, ⟨_, by rw [Int.toNat_natCast]; rfl⟩, q⟩⟩
      have e1 : (Array.foldl (fun x1 x2 => x1 ++ x2) #[] (#[] : Array (Array Nat))).size = 0 := rfl
      have hs := sizeLine_eq
      have key : ∀ (m : Nat) (acc : Array Nat), ((List.replicate m z.cps).foldl (· ++ ·) acc).size = acc.size + m * z.cps.size := by
        intro m
        induction m with
        | zero => intro acc; simp
        | succ m ih =>
          intro acc
          rw [List.replicate_succ, List.foldl_cons, ih, Array.size_append, Nat.succ_mul]
          omega
      show _ ≤ _
      have e2 := key n #[]
      rw [Int.toNat_natCast]
      show ((List.replicate n z.cps).foldl (· ++ ·) #[]).size ≤ _
      rw [e2]
      have e3 : z.cps.size = z.length := rfl
      rw [e3, Nat.mul_comm n z.length]
      simp
      omega
def wRepS (d e : D) (Q : D → Prop) : Prop := onS d fun z => onI e fun n => (1 ≤ n ∧ n < 1000000 ∧ 0 < z.length ∧ z.length * n.toNat ≤ 1000000) ∧ Q (.str (repS z n.toNat))
theorem oRepS : OpD X K (binaryOp .Mult) wRepS := ⟨_, op_repS, fun g F H en σ own x y d e Q W R hx hy q k => by
  obtain ⟨z, rfl, rfl, q⟩ := onS_of hx q
  obtain ⟨n, rfl, rfl, ⟨h1, h2, h3, h4⟩, q⟩ := onI_of hy q
  exact ⟨z, n.toNat, rfl, by rw [Int.toNat_of_nonneg (by omega)], by omega, by omega, h3, h4, kself R (k _ q) (.str _)⟩⟩
theorem rExtendR : MtM X "list.extend" (fun x vs H Q => ∃ l b xs zs, x = .ref l ∧ vs = [.ref b] ∧ H l = some (.lst xs) ∧ Rd H b (.lst zs) ∧ xs.length + zs.length ≤ sizeLine ∧ Q .non (upd H l (.lst (xs ++ zs)))) := by
  intro pins s σ H x vs v us Q iv rx rv want
  obtain ⟨l, b, xs, zs, rfl, rfl, h1, h2, small, q⟩ := want
  cases rx
  obtain ⟨u, rfl, ru⟩ := rv.one
  cases ru
  obtain ⟨w1, i1, n1, v1, l1, e1⟩ := iv.lstM h1
  obtain ⟨w2, i2, n2, v2, e2⟩ := rd_obj iv h2
  have l2 := v2.length
  have fits : i1.toArray.size + i2.toArray.size ≤ sizeLine := by simp only [List.size_toArray]; omega
  have short : ¬ (!i1.toArray.isEmpty && Builtin.List.listTooLong (i1.toArray.size + i2.toArray.size)) = true := by
    rw [notLongL fits, Bool.and_false]
    decide
  refine call_meets PySem.F.slot_list_extend ⟨_, e1, rfl⟩ PySem.F.entry_list_extend (PySem.F.args_list_extend_2 _ _)
    (AutoSeq1.list_extend_list_list_0 l i1.toArray n1 b i2.toArray n2 short (by simp only [List.size_toArray]; omega) (by omega)) ⟨e1, e2, ?_⟩
  exact ⟨V.non, _, iv.lset (its' := i1 ++ i2) h1 e1 (by simp) (v1.append v2) (by simp only [List.length_append]; omega), rfl, q⟩
def wExtend (xs ds : List D) (Q : D → List D → Prop) : Prop := on1 ds fun d => onL d fun ys => xs.length + ys.length ≤ sizeLine ∧ Q .none (xs ++ ys)
theorem mExtend : MlO X K "list.extend" wExtend := ⟨_, rExtendR, fun F H l vs xs us ds Q W s h1 h2 h3 q k => by
  obtain ⟨v, d, rfl, rfl, hd, q⟩ := on1_of h3 q
  obtain ⟨b, ws, ys, rfl, rfl, r, hy, q⟩ := onL_of hd q
  exact ⟨l, b, vs, ws, rfl, rfl, h1, rd_mono s r, by rw [dpa_len h2, dpa_len hy]; exact q.1, k _ _ q.2 .non _ .non (dpa_app h2 hy)⟩⟩
def wInsert (xs ds : List D) (Q : D → List D → Prop) : Prop := on2 ds fun d e => onI d fun i => (xs.length < sizeLine ∧ 0 ≤ i ∧ i < 2 ^ 63) ∧ Q .none (xs.take i.toNat ++ [e] ++ xs.drop i.toNat)
theorem mInsert : MlO X K "list.insert" wInsert := ⟨_, mt_insert, fun F H l vs xs us ds Q W s h1 h2 h3 q k => by
  obtain ⟨v, u, d, e, rfl, rfl, hd, he, q⟩ := on2_of h3 q
  obtain ⟨i, rfl, rfl, q⟩ := onI_of hd q
  exact ⟨l, vs, i, u, rfl, rfl, h1, by rw [dpa_len h2]; exact q.1.1, q.1.2.1, q.1.2.2, k _ _ q.2 .non _ .non (dpa_app (dpa_app (dpa_take _ h2) (.cons he .nil)) (dpa_drop _ h2))⟩⟩

/-! ### stores into owned lists -/
/-- a target xs[i], xs an owned name -/
def dgSub (j : Nat) (di : DE) : DG := fun d en Q => dPeek j (fun _ => True) en ∧ di en fun e en1 => onI e fun i => dMut j (fun xs st => ∃ m, ixN xs.length i = some m ∧ Q (st (xs.set m d))) en1
theorem dgsub {ws : List Nat} {i : Expr} {di : DE} {j : Nat} (ho : PE X o (tVar j)) (hi : PE X i (tD K di))
    (ha : ∀ v, assign (.Subscript o i pos) X.env v = (do
      let ov ← holding [v] (eval o X.env)
      let iv ← holding [v, ov] (eval i X.env)
      standAt pos
      holding [v, ov, iv] (setItem ov iv v)
      release [v, ov, iv] []) := by intro _; rfl) : PG X (.Subscript o i pos) (tDG K ws (dgSub j di)) :=
  PG.imp (pg_sub ho hi set_list ha) fun v σ H Q ⟨g, F, en, own, W, d, R, hd, ⟨q0, q⟩, k⟩ => by
    obtain ⟨p, xs, he, _⟩ := peek_of q0
    obtain ⟨l, vs, hs, hH, _⟩ := lst_at R he
    refine ⟨.ref l, hs, g, F, en, own, _, R, q, fun e en1 q1 y H1 F1 own1 R1 s1 hy => ?_⟩
    obtain ⟨i, rfl, rfl, q5⟩ := onI_of hy q1
    obtain ⟨p', ys, he', m, hm, q2⟩ := mut_of q5
    obtain ⟨l', vs', hs', hH', hd', ho', _⟩ := lst_at R1 he'
    rw [hs] at hs'
    cases hs'
    exact ⟨l, vs', i, m, rfl, rfl, hH', by rw [dpa_len hd']; exact hm, k _ q2 _ _ _ _ (lst_put R1 he' hs ho' (dpa_set (dp_mono s1 _ _ hd) m hd')) s1 rfl⟩
/-- xs[i] op= e -/
theorem get_list : PGet X (rIxL X.K) := by
  intro pins s σ H x y v u Q iv rx ry want
  obtain ⟨p, xs, i, z, rfl, rfl, hq, he, q⟩ := want
  cases rx
  obtain ⟨t, rfl⟩ := ry
  obtain ⟨its, rv, pl, hz⟩ := iv.list hq
  obtain ⟨j, h1, h2, h3, h4, h5⟩ := atI_get he
  obtain ⟨w, ew, rw'⟩ := rv.get h2
  have hl := rv.length
  have hn := line63
  by_cases h0 : 0 ≤ i
  · have hj : i.toNat = j := by
      rw [seqIndex_of h0 h5] at h1
      exact Option.some.inj h1
    exact wpAny_getItem_list (x := w) pl.isList h0 (by omega) (by rw [hj]; simpa using ew) ⟨z, H, iv, rw', q⟩
  · have hj : (i + (its.toArray.size : Int)).toNat = j := by
      rw [seqIndex_neg (by omega) h4] at h1
      rw [List.size_toArray, ← hl]
      exact Option.some.inj h1
    exact wpAny_getItem_list_neg (x := w) pl.isList (by omega) (by rw [List.size_toArray] <;> omega) (by omega) (by rw [hj]; simpa using ew) ⟨z, H, iv, rw', q⟩
def dAugS (j : Nat) (di de : DE) (w : D → D → (D → Prop) → Prop) : DS := fun E en => dPeek j (fun _ => True) en ∧ di en fun e en1 => onI e fun i => dPeek j (fun xs => ∃ z, atI xs i = some z ∧ de en1 fun y en2 => w z y fun u => dMut j (fun ys st => ∃ m, ixN ys.length i = some m ∧ E.nx (st (ys.set m u))) en2) en1
theorem daugs {i : Expr} {di de : DE} {w : D → D → (D → Prop) → Prop} {j : Nat} {op : Operator} (hK : X.K = K) (ho : PE X o (tVar j)) (hi : PE X i (tD K di)) (he : PE X e (tD K de)) (hp : IpD X K op w)
    (ha : ∀ ov iv new, augStore i ov iv new = (do holding [new, ov, iv] (setItem ov iv new); release [new, ov, iv] []; pure .next) := by intros; rfl) : PS X (.AugAssign (.Subscript o i pos') op e pos) (tDS K (dAugS j di de w)) := by
  obtain ⟨r, hr, hw⟩ := hp.ex
  refine PS.imp (ps_augS ho hi get_list he hr set_list ha) fun De σ H ⟨g, F, en, own, E, R, eo, ⟨q0, q⟩⟩ => ?_
  subst hK
  obtain ⟨p, xs, h1, _⟩ := peek_of q0
  obtain ⟨l, vs, hs, hH, _⟩ := lst_at R h1
  refine ⟨.ref l, hs, g, F, en, own, _, R, q, fun e en1 q1 y H1 F1 own1 R1 s1 hy => ?_⟩
  obtain ⟨i, rfl, rfl, q5⟩ := onI_of hy q1
  obtain ⟨p1, ys, he1, z, hz, q6⟩ := peek_of q5
  obtain ⟨l1, vs1, hs1, hH1, hd1, ho1, _⟩ := lst_at R1 he1
  rw [hs] at hs1
  cases hs1
  obtain ⟨vz, ez, hvz⟩ := atI_dpa hd1 hz
  refine ⟨l, vs1, i, vz, rfl, rfl, .inl (.inl hH1), ez, g, F1, en1, own1, _, R1, q6, fun y en2 q2 vy H2 F2 own2 R2 s2 hy2 => ?_⟩
  refine hw g F2 H2 en2 σ own2 vz vy z y _ _ R2 (dp_mono s2 _ _ hvz) hy2 q2 fun u hu vu H3 F3 own3 R3 s3 hd3 => ?_
  obtain ⟨p3, zs, he3, m, hm, q3⟩ := mut_of hu
  obtain ⟨l3, vs3, hs3, hH3, hd4, ho3, _⟩ := lst_at R3 he3
  rw [hs] at hs3
  cases hs3
  exact ⟨l, vs3, i, m, rfl, rfl, hH3, by rw [dpa_len hd4]; exact hm, eo.nx _ _ _ _ _ (lst_put R3 he3 hs ho3 (dpa_set hd3 m hd4)) ((s1.trans s2).trans s3) q3⟩
theorem ipAdd : IpD X K .Add wAdd := ⟨_, fun pins s σ H x y v u Q => (iop_add.or iop_add_str) pins s σ H x y v u Q, fun g F H en σ own x y d e Q W R hx hy q k => by
  cases hx with
  | int i =>
    cases hy with
    | int j => exact .inl ⟨i, j, rfl, rfl, kself R (k _ q) (.int _)⟩
    | _ => exact (show False from q).elim
  | str i =>
    cases hy with
    | str j => exact .inr ⟨i, j, rfl, rfl, q.1, kself R (k _ q.2) (.str _)⟩
    | _ => exact (show False from q).elim
  | _ => exact (show False from q).elim⟩

/-! ### the script -/
def onSc (j : Nat) (f : List Int → Prop) (en : En) : Prop := match en[j]? with | some (.sc ns) => f ns | _ => False
theorem onSc_of {f : List Int → Prop} {j : Nat} (q : onSc j f en) : ∃ ns, en[j]? = some (.sc ns) ∧ f ns := by
  unfold onSc at q
  split at q
  · rename_i ns he
    exact ⟨ns, he, q⟩
  · exact q.elim
def dLenS (j : Nat) : DE := fun en Q => onSc j (fun ns => Q (.int ns.length) en) en
theorem dlens {j : Nat} (hK : X.K = K) (hg : Gl X "len") (hm : X.mg "len" = none) (ha : PE X a (tVar j)) (he : starEach [a] X.env = (false, eval a X.env) :: starEach [] X.env := by rfl) (hpl : (backTo pos (starEach [] X.env)).any (·.1) = false := by rfl) : PE X (.Call (.Name "len" p) [a] [] pos) (tD K (dLenS j)) :=
  PE.imp (pe_callB call_len hg hm PySem.boot_len (pa_cons ha pa_nil he) (he := he) (hpl := hpl)) fun σ H Q ⟨g, F, en, own, W, R, q, k⟩ => by
    subst hK
    obtain ⟨ns, h1, q⟩ := onSc_of q
    obtain ⟨l, hs, hq⟩ := sc_at R h1
    refine ⟨.ref l, hs, _, _, rfl, .inl ⟨_, R.fh.seq hq, rfl⟩, ?_⟩
    rw [List.length_map]
    exact kself R (k _ _ q) (.int _)
def dIxS (j : Nat) (db : DE) : DE := fun en Q => onSc j (fun ns => db en fun e en1 => onI e fun i => ∃ z, atI ns i = some z ∧ Q (.int z) en1) en
theorem atI_map {ns : List Int} {i z : Int} (h : atI ns i = some z) : atI (ns.map V.int) i = some (.int z) := by
  unfold atI at h ⊢
  rw [List.length_map]
  cases q : ixN ns.length i with
  | none => rw [q] at h; cases h
  | some j =>
    rw [q] at h
    show (ns.map V.int)[j]? = _
    rw [List.getElem?_map, show ns[j]? = some z from h]
    rfl
theorem dixs {j : Nat} (hK : X.K = K) (ha : PE X a (tVar j)) (hb : PE X b (tD K db)) (hs : PlainIx b) : PE X (.Subscript a b pos) (tD K (dIxS j db)) :=
  PE.imp (pe_ix ix_list ha hb hs) fun σ H Q ⟨g, F, en, own, W, R, q, k⟩ => by
    subst hK
    obtain ⟨ns, h1, q⟩ := onSc_of q
    obtain ⟨l, hs, hq⟩ := sc_at R h1
    refine ⟨.ref l, hs, g, F, en, own, _, R, q, fun d en1 q1 v H1 F1 own1 R1 s1 hd => ?_⟩
    obtain ⟨i, rfl, rfl, z, hz, q5⟩ := onI_of hd q1
    exact ⟨l, _, i, .int z, rfl, rfl, R1.fh.seq (s1.seq hq), atI_map hz, kself R1 ((k _ _ q5).mono s1) (.int _)⟩
/-- script[:k], a new list of ints -/
def dSlSc (j : Nat) (dlo dhi : DOpt) : DO := fun en Q => onSc j (fun ns => dlo en fun l en2 => dhi en2 fun h en3 => Q (.lst (cutD (ns.map PyData.int) l h)) en3) en
theorem dslsc {j : Nat} {lo hi : Option Expr} {dlo dhi : DOpt} {p2 : Pos} (hK : X.K = K) (he : PE X e (tVar j)) (hl : PO X lo (tDOpt K dlo)) (hh : PO X hi (tDOpt K dhi)) : PE X (.Subscript e (.Slice lo hi none p2) pos) (tDO K (dSlSc j dlo dhi)) :=
  PE.imp (pe_slice sl_list he hl hh) fun σ H Q ⟨g, F, en, own, W, R, q, k⟩ => by
    subst hK
    obtain ⟨ns, h1, q⟩ := onSc_of q
    obtain ⟨a, hs, hq⟩ := sc_at R h1
    refine ⟨.ref a, hs, g, F, en, own, _, R, q, fun l en2 q2 H2 F2 own2 R2 s2 => ⟨g, F2, en2, own2, _, R2, q2, fun h en3 q3 H3 F3 own3 R3 s3 => ?_⟩⟩
    refine ⟨a, _, rfl, R3.fh.seq ((s2.trans s3).seq hq), fun z hz => ?_⟩
    obtain ⟨R4, ap⟩ := new_apart R3 hz (cut_dpa (ints_dpa (bs := ns)) l h)
    exact k _ _ q3 _ _ _ _ _ R4 (s2.trans s3) ap

/-! ### len(set(ints)), all different -/
def dLenSet (da : DE) : DE := fun en Q => da en fun d en1 => onL d fun xs => ∃ ns : List Int, xs = ns.map PyData.int ∧ ns.Nodup ∧ ns.length ≤ 4000 ∧ Q (.int ns.length) en1
theorem dlenset {p2 q2 : Pos} (hK : X.K = K) (hg : Gl X "len") (hm : X.mg "len" = none) (hg2 : Gl X "set") (hm2 : X.mg "set" = none) (ha : PE X a (tD K da)) (hc : X.calm = true := by rfl)
    (na : starEach [a] X.env = (false, eval a X.env) :: starEach [] X.env := by rfl) : PE X (.Call (.Name "len" p) [.Call (.Name "set" p2) [a] [] q2] [] pos) (tD K (dLenSet da)) :=
  PE.imp (RZ.pe_lenSetI hg hm hg2 hm2 ha hc na) fun σ H Q ⟨g, F, en, own, W, R, q, k⟩ => ⟨g, F, en, own, _, R, q, fun d en1 q1 v H1 F1 own1 R1 s1 hd => by
    subst hK
    obtain ⟨l, vs, xs, rfl, rfl, hr, ha, ns, rfl, h1, h2, q3⟩ := onL_of hd q1
    rw [dpa_ints ha] at hr
    exact ⟨l, ns, rfl, .inl (rd_mono R1.fh hr), h1, h2, kself R1 ((k _ _ q3).mono s1) (.int _)⟩⟩
end
end PD

namespace PD
open PySem PySem.Spec PyProof.Rows L2
section
variable {X : Cx} {K : Frag} {g : Gd} {F H : Hp} {en : En} {σ : St} {own : Owner} {Q : VK}
variable {a b c e o : Expr} {da db dc : DE} {pos pos' apos : Pos} {es : List Expr} {x : Str} {p : Pos} {st : Stmt}

/-! ### results of either kind -/
abbrev DR := En → (Res → En → Prop) → Prop
def kR (K : Frag) (g : Gd) (F : Hp) (σ : St) (Q : VK) : Res → En → Prop := fun r en' => ∀ v H' F' own', Rg K g F' en' σ H' own' → Same F F' → ResOk K g F' H' own' v r → Q v H'
def tDR (K : Frag) (de : DR) : TE := fun σ H Q => ∃ g F en own W, Rg K g F en σ H own ∧ de en W ∧ ∀ d en', W d en' → kR K g F σ Q d en'
def putR (i : Nat) (r : Res) (en : En) : En := match r with | .fz d => en.set i (.fz d) | .ow o => en.set i (.ow none o)
def dSetR (i : Nat) (dr : DR) : DS := fun E en => dr en fun r en1 => E.nx (putR i r en1)
def dRetR (dr : DR) : DS := fun E en => dr en E.rt
def dCallR (t : DB) (post : Post) : DR := fun en Q => t en fun args en1 => callQ args en1 post Q
theorem dsetR {i : Nat} {x : Str} {dr : DR} (hN : X.N.Nodup) (hi : X.N[i]? = some x) (hx : Loc X.env.scope x) (he : PE X e (tDR K dr)) (hs : swapsWith e (some (.Name x pos')) pos.line X.env = pure false := by rfl) (hf : X.fn x = true ∨ X.env.scope.names.lookup x = some .local := by first | exact .inl rfl | exact .inr rfl | assumption) :
    PS X (.Assign [.Name x pos'] e pos) (tDS K (dSetR i dr)) := PS.imp (ps_set hN hi hx he hs hf) fun De σ H ⟨g, F, en, own, E, R, eo, q⟩ =>
      ⟨g, F, en, own, _, R, q, fun r en1 q1 v H1 F1 own1 R1 s1 ro => by
        cases r with
        | fz d => exact eo.nx _ _ _ _ _ (R1.putFz i ro) s1 q1
        | ow o =>
          obtain ⟨A, ap⟩ := ro
          exact eo.nx _ _ _ _ _ (putAp R1 ap i) s1 q1⟩
theorem dretR {dr : DR} (he : PE X e (tDR K dr)) : PS X (.Return (some e) pos) (tDS K (dRetR dr)) :=
  PS.imp (ps_ret he) fun De σ H ⟨g, F, en, own, E, R, eo, q⟩ => ⟨g, F, en, own, _, R, q, fun r en1 q1 v H1 F1 own1 R1 s1 ro => eo.rt r _ v _ _ _ _ R1 s1 ro q1⟩
theorem dR_of (h : PE X e (tD K da)) : PE X e (tDR K fun en Q => da en fun d en1 => Q (.fz d) en1) :=
  PE.imp h fun σ H Q ⟨g, F, en, own, W, R, q, k⟩ => ⟨g, F, en, own, _, R, q, fun d en1 q1 v H1 F1 own1 R1 s1 hd => k _ _ q1 v H1 F1 own1 R1 s1 hd⟩
theorem dR_ofO {d : DO} (h : PE X e (tDO K d)) : PE X e (tDR K fun en Q => d en fun o en1 => Q (.ow o) en1) :=
  PE.imp h fun σ H Q ⟨g, F, en, own, W, R, q, k⟩ => ⟨g, F, en, own, _, R, q, fun d en1 q1 v A H1 F1 own1 R1 s1 ap => k _ _ q1 v H1 F1 own1 R1 s1 ⟨A, ap⟩⟩
def dIfR (t : DT) (da db : DR) : DR := fun en Q => t en fun c en1 => if c = true then da en1 Q else db en1 Q
theorem difR {c : Expr} {ta : DT} {da db : DR} (hc : PT X c (tDT K ta)) (ha : PE X a (tDR K da)) (hb : PE X b (tDR K db)) : PE X (.IfExp c a b pos) (tDR K (dIfR ta da db)) :=
  PE.imp (pe_ifExp hc ha hb) fun σ H Q ⟨g, F, en, own, W, R, q, k⟩ => ⟨g, F, en, own, _, R, q, fun c en1 q1 H1 F1 own1 R1 s1 => by
    cases c with
    | true => exact ⟨g, F1, en1, own1, _, R1, q1, fun r en' hh v H' F' own' R' s' ro => k _ _ hh v H' F' own' R' (s1.trans s') ro⟩
    | false => exact ⟨g, F1, en1, own1, _, R1, q1, fun r en' hh v H' F' own' R' s' ro => k _ _ hh v H' F' own' R' (s1.trans s') ro⟩⟩
section
variable {CX : CXT} {k : Nat} {f : Addr} {fd : FuncData} {ps : List Str} {post : Post} {E : XK} {t : DB}
theorem dcallR (Fn : FnG X.prog X.w X.K X.mg X.base CX k f fd ps (SpD K post)) (hr : RoomG k X.A) (hg : Gl X x) (hm : X.mg x = some (.ref f)) (hk : PySem.W.keepIn X.K (.ref f) = true) (hb : Binds X.K fd ps []) (hx : Passes CX X E)
    (ha : PA X (e :: es) (tDB K t)) (hdb : (x == ("__debug__" : Str)) = false := by decide) (he : starEach (e :: es) X.env = (false, eval e X.env) :: starEach es X.env := by rfl) (hpl : (backTo pos (starEach es X.env)).any (·.1) = false := by rfl) :
    PE X (.Call (.Name x p) (e :: es) [] pos) (tDR K (dCallR t post)) :=
  PE.imp (pe_callG Fn hr hg hm hk hb hx ha hdb he hpl) fun σ H Q ⟨g, F, en, own, W, R, q, kk⟩ => ⟨g, F, en, own, _, R, q, fun args en1 q1 vs H1 F1 own1 R1 s1 hd =>
    call_run R1 hd q1 fun r en2 v H' F' own' q2 R' s' ro => kk _ _ q2 v H' F' own' R' (s1.trans s') ro⟩
end

/-! ### a fresh thing handed on to be changed: one such argument -/
abbrev DBT := En → (List Arg → Ow → List Arg → En → Prop) → Prop
def kBT (K : Frag) (g : Gd) (F : Hp) (σ : St) (Q : List V → Hp → Prop) : List Arg → Ow → List Arg → En → Prop := fun as1 o as2 en' => ∀ vs1 v vs2 A H' F' own', Rg K g F' en' σ H' own' → Same F F' → ArgsOk K F' σ vs1 as1 → Apart K g F' H' own' v A o → ArgsOk K F' σ vs2 as2 → Q (vs1 ++ v :: vs2) H'
def tDBT (K : Frag) (de : DBT) : TA := fun σ H Q => ∃ g F en own W, Rg K g F en σ H own ∧ de en W ∧ ∀ a1 o a2 en', W a1 o a2 en' → kBT K g F σ Q a1 o a2 en'
def dTmp (d : DO) (t : DB) : DBT := fun en Q => d en fun o en1 => (∃ xs, o = .lst xs) ∧ t en1 fun as en2 => Q [] o as en2
def dTmpC (da : DE) (t : DBT) : DBT := fun en Q => da en fun d en1 => t en1 fun a1 o a2 en2 => Q (.fz d :: a1) o a2 en2
def dTmpV (j : Nat) (t : DBT) : DBT := fun en Q => match en[j]? with | some (.ow _ _) => t en fun a1 o a2 en2 => Q (.vr j :: a1) o a2 en2 | _ => False
theorem dtmp {d : DO} {t : DB} (ha : PE X e (tDO K d)) (hr : PA X es (tDB K t)) (hs : starEach (e :: es) X.env = (false, eval e X.env) :: starEach es X.env := by rfl) : PA X (e :: es) (tDBT K (dTmp d t)) :=
  PA.imp (pa_cons ha hr hs) fun σ H Q ⟨g, F, en, own, W, R, q, k⟩ => ⟨g, F, en, own, _, R, q, fun o en1 ⟨⟨xs, eo⟩, q1⟩ v A H1 F1 own1 R1 s1 ap => by
    subst eo
    obtain ⟨⟨l, vs, rfl, rfl, h1, h2⟩, h3⟩ := ap
    obtain ⟨f1, b1, o1⟩ := h3 l (by simp)
    have z0 : g.F0 l = none := R1.f0.free f1
    refine ⟨g.more l (.lst vs), F1, en1, own1, _, Rel.hold R1 h1 f1 o1, q1, fun as en2 q2 ws H2 F2 own2 R2 s2 hd => ?_⟩
    obtain ⟨R3, e3, f3, o3⟩ := Rel.loose R2 z0 b1
    exact k _ _ _ _ q2 [] (.ref l) ws [l] H2 F2 own2 R3 (s1.trans s2) .nil ⟨⟨l, vs, rfl, rfl, e3, dpAll_mono s2 _ _ h2⟩, fun z hz => by
      have : z = l := by simpa using hz
      subst this
      exact ⟨f3, b1, o3⟩⟩ hd⟩
theorem dtmpc {t : DBT} (ha : PE X e (tD K da)) (hr : PA X es (tDBT K t)) (hs : starEach (e :: es) X.env = (false, eval e X.env) :: starEach es X.env := by rfl) : PA X (e :: es) (tDBT K (dTmpC da t)) :=
  PA.imp (pa_cons ha hr hs) fun σ H Q ⟨g, F, en, own, W, R, q, k⟩ => ⟨g, F, en, own, _, R, q, fun d en1 q1 v H1 F1 own1 R1 s1 hd => ⟨g, F1, en1, own1, _, R1, q1, fun a1 o a2 en2 q2 vs1 u vs2 A H2 F2 own2 R2 s2 h1 h2 h3 =>
    k _ _ _ _ q2 (v :: vs1) u vs2 A H2 F2 own2 R2 (s1.trans s2) (.cons (show Dp K F2 v d from dp_mono s2 _ _ hd) h1) h2 h3⟩⟩
theorem dtmpv {t : DBT} {j : Nat} (ha : PE X e (tVar j)) (hr : PA X es (tDBT K t)) (hs : starEach (e :: es) X.env = (false, eval e X.env) :: starEach es X.env := by rfl) : PA X (e :: es) (tDBT K (dTmpV j t)) :=
  PA.imp (pa_cons ha hr hs) fun σ H Q ⟨g, F, en, own, W, R, q, k⟩ => by
    unfold dTmpV at q
    split at q
    · rename_i p o he
      have hi : j < σ.length := by rw [← R.len]; exact (List.getElem?_eq_some_iff.mp he).1
      obtain ⟨v, A, e1, _⟩ := R.at_ j _ _ (List.getElem?_eq_getElem hi) he
      have hv : σ[j]? = some (some v) := by rw [List.getElem?_eq_getElem hi, e1]
      exact ⟨v, hv, g, F, en, own, _, R, q, fun a1 o a2 en2 q2 vs1 u vs2 A H2 F2 own2 R2 s2 h1 h2 h3 => k _ _ _ _ q2 (v :: vs1) u vs2 A H2 F2 own2 R2 s2 (.cons (show σ[j]? = some (some v) from hv) h1) h2 h3⟩
    · exact q.elim
/-- a further slot for it -/
theorem Rel.ext {v : V} {A : List Addr} {o : Ow} (R : Rg K g F en σ H own) (ap : Apart K g F H own v A o) : Rg K g F (en ++ [.ow none o]) (σ ++ [some v]) H (take own σ.length A) where
  f0 := R.f0
  nw := R.nw
  fh := R.fh
  bh := R.bh
  od := fun z j h => by
    unfold take at h
    split at h
    · rename_i m
      exact ⟨(ap.2 z m).1, (ap.2 z m).2.1, repO_there ap.1 z m⟩
    · exact R.od z j (dis_some h).1
  len := by rw [List.length_append, List.length_append, R.len]; rfl
  at_ := fun i y u h1 h2 => by
    by_cases hi : i < σ.length
    · rw [List.getElem?_append_left hi] at h1
      rw [List.getElem?_append_left (by rw [R.len]; exact hi)] at h2
      have q := R.at_ i y u h1 h2
      cases u with
      | no => trivial
      | fz d => exact q
      | sc ns => exact q
      | rw w => exact q
      | ow p o' =>
        obtain ⟨w, A', e, h, hA, hp⟩ := q
        refine ⟨w, A', e, h, fun z hz => ?_, hp⟩
        unfold take
        rw [if_neg (fun m => by have := (ap.2 z m).2.2; rw [hA z hz] at this; cases this)]
        exact dis_of (hA z hz) (by omega)
    · by_cases hn : i = σ.length
      · subst hn
        rw [List.getElem?_append_right (Nat.le_refl _), Nat.sub_self] at h1
        rw [List.getElem?_append_right (by rw [R.len]; exact Nat.le_refl _), R.len, Nat.sub_self] at h2
        cases h1
        cases h2
        exact ⟨v, A, rfl, ap.1, fun z hz => by unfold take; rw [if_pos hz], fun _ h => nomatch h⟩
      · rw [List.getElem?_eq_none (by rw [List.length_append]; simp; omega)] at h1
        cases h1
theorem Rel.cut {y : Option V} {u : Ent} (R : Rg K g F (en ++ [u]) (σ ++ [y]) H own) : Rg K g F en σ H own where
  f0 := R.f0
  nw := R.nw
  fh := R.fh
  bh := R.bh
  od := R.od
  len := by
    have h := R.len
    rw [List.length_append, List.length_append] at h
    simpa using h
  at_ := fun i x e h1 h2 => by
    have hi : i < σ.length := (List.getElem?_eq_some_iff.mp h1).1
    have hj : i < en.length := (List.getElem?_eq_some_iff.mp h2).1
    exact R.at_ i x e (by rw [List.getElem?_append_left hi]; exact h1) (by rw [List.getElem?_append_left hj]; exact h2)
def callQT (a1 : List Arg) (o : Ow) (a2 : List Arg) (en1 : En) (post : Post) (Q : Res → En → Prop) : Prop :=
  callQ (a1 ++ .vr en1.length :: a2) (en1 ++ [.ow none o]) post fun r en2 => ∃ en3 u, en2 = en3 ++ [u] ∧ en3.length = en1.length ∧ Q r en3
def dCallT (t : DBT) (post : Post) : DE := fun en Q => t en fun a1 o a2 en1 => callQT a1 o a2 en1 post (toFz Q)
theorem argsOk_ext {y : Option V} {vs : List V} {as : List Arg} (h : ArgsOk K F σ vs as) : ArgsOk K F (σ ++ [y]) vs as := by
  induction h with
  | nil => exact .nil
  | @cons v vs a as h _ ih =>
    refine .cons ?_ ih
    cases a with
    | fz d => exact h
    | sc ns => exact h
    | vr j =>
      have h' : σ[j]? = some (some v) := h
      show (σ ++ [y])[j]? = _
      rw [List.getElem?_append_left (List.getElem?_eq_some_iff.mp h').1]
      exact h'
theorem argsOk_app {vs ws : List V} {as bs : List Arg} (h : ArgsOk K F σ vs as) (h2 : ArgsOk K F σ ws bs) : ArgsOk K F σ (vs ++ ws) (as ++ bs) := by
  induction h with
  | nil => exact h2
  | cons a _ ih => exact .cons a ih
section
variable {CX : CXT} {k : Nat} {f : Addr} {fd : FuncData} {ps : List Str} {post : Post} {E : XK} {t : DBT}
theorem dcallT (Fn : FnG X.prog X.w X.K X.mg X.base CX k f fd ps (SpD K post)) (hr : RoomG k X.A) (hg : Gl X x) (hm : X.mg x = some (.ref f)) (hk : PySem.W.keepIn X.K (.ref f) = true) (hb : Binds X.K fd ps []) (hx : Passes CX X E)
    (ha : PA X (e :: es) (tDBT K t)) (hdb : (x == ("__debug__" : Str)) = false := by decide) (he : starEach (e :: es) X.env = (false, eval e X.env) :: starEach es X.env := by rfl) (hpl : (backTo pos (starEach es X.env)).any (·.1) = false := by rfl) :
    PE X (.Call (.Name x p) (e :: es) [] pos) (tD K (dCallT t post)) :=
  PE.imp (pe_callG Fn hr hg hm hk hb hx ha hdb he hpl) fun σ H Q ⟨g, F, en, own, W, R, q, kk⟩ => ⟨g, F, en, own, _, R, q, fun a1 o a2 en1 q1 vs1 v vs2 A H1 F1 own1 R1 s1 h1 ap h2 => by
    have hv : (σ ++ [some v])[en1.length]? = some (some v) := by rw [R1.len, List.getElem?_append_right (Nat.le_refl _), Nat.sub_self]; rfl
    refine call_run (Rel.ext R1 ap) (argsOk_app (argsOk_ext h1) (ArgsOk.cons (a := Arg.vr en1.length) hv (argsOk_ext h2))) q1 fun r en2 w H' F' own' q2 R' s' ro => ?_
    obtain ⟨en3, u, e1, e2, q3⟩ := q2
    subst e1
    exact toFz_ok (Rel.cut R') ro q3 fun d en' hh => (kk _ _ hh).mono (s1.trans s')⟩
end
end

/-! ### the end: the law's own promise -/
def postLaw : Post := fun as W => ∃ ns : List Int, as = [.sc ns] ∧ ns.length ≤ 63 ∧ W (.fz (.bool true)) [.no]
theorem law_start {K : Frag} {H : Hp} {a : Addr} {ns : List Int} (hS : SqL K H a (ns.map V.int)) (hl : ns.length ≤ 63) : SpD K postLaw [.ref a] H (fun v _ => v = .bl true) fun _ _ _ => False := by
  refine ⟨⟨H, H⟩, H, fun _ => none, [.sc ns], fun r as' => r = .fz (.bool true) ∧ as' = [.no], ⟨Same.refl _, fun a o e => .inl e, Same.refl _, fun _ _ h => h, (fun _ _ h => nomatch h), rfl, fun i x e h1 h2 => ?_⟩, ⟨ns, rfl, hl, rfl, rfl⟩, ?_⟩
  · cases i with
    | zero => cases h1; cases h2; exact ⟨a, rfl, hS⟩
    | succ i => simp at h1
  · rintro r as' ⟨rfl, rfl⟩ v H' F' own' R' s' ro
    cases ro
    rfl
theorem law_callG {P : Program} {w : World} {K : Frag} {mg mb : Str → Option Value} {k : Nat} {fa a : Addr} {fd : FuncData} {x : Str} {s1 : Shared} {us : List Value} {ns : List Int} {sp : Sp}
    (inK : K.In s1.heap) (nsg : s1.heap.Ns mainGlobals mg) (nsb : s1.heap.Ns builtinsNs mb) (hbb : ∀ x : Str, x ≠ "__name__" → mb x = bootBuiltins x) (nolim : s1.heap.NoLimit) (nog : s1.gens = #[])
    (obj : s1.heap.get? a = some { cls := .type "list", data := .seq us.toArray }) (hi : IntsAre us ns) (hl : ns.length ≤ sizeLine) (hr : RoomG k callerA)
    (Fn : ∀ base : Heap, K.In base → base.Ns mainGlobals mg → FnG P w K mg base CX0 k fa fd [x] sp) (bnd : ∀ (s : Shared) (u : Value), BindsTo s fd ⟨[u], []⟩ [(x, u)])
    (want : ∀ H : Hp, SqL K H a (ns.map V.int) → sp [.ref a] H (fun v _ => v = .bl true) fun _ _ _ => False) :
    codeAny (model P w) callerA (.call (.ref fa) ⟨[.ref a], []⟩) (fun r s' => r = .ok (.ret (.bool true)) ∧ OldK s1.heap s'.heap ∧ s'.os = s1.os ∧ AllBare s'.gens) s1 := by
  have vals := vals_ints hi
  have many := hi.length
  -- H tracks the script alone, or nothing
  have main : ∀ H : Hp, (∀ b u, H b = some u → b = a ∧ (∃ ob xs, u = .frz ob (.lst xs)) ∧ K.lookup a = none) → SqL K H a (ns.map V.int) → HOk P w H s1.heap →
      codeAny (model P w) callerA (.call (.ref fa) ⟨[.ref a], []⟩) (fun r s' => r = .ok (.ret (.bool true)) ∧ OldK s1.heap s'.heap ∧ s'.os = s1.os ∧ AllBare s'.gens) s1 := by
    intro H only hS hok
    have notDict : ∀ {b : Addr} {ob : Obj} {ds : Array DictEntry} {m : Nat}, s1.heap.get? b = some ob → ob.data = .dict ds m → H b = none := by
      intro b ob ds m h1 h2
      match hb : H b with
      | none => rfl
      | some u =>
        obtain ⟨rfl, _⟩ := only b u hb
        rw [obj] at h1
        cases h1
        exact nomatch h2
    have nsIn : ∀ {b : Addr} {m : Str → Option Value}, s1.heap.Ns b m → (hidT s1.heap H).Ns b m := by
      rintro b m ⟨ob, ds, q, h1, h2, h3⟩
      exact ⟨ob, ds, q, hidT_get h1 (notDict h1 h2), h2, h3⟩
    have inB : K.In (hidT s1.heap H) := by
      intro b ob hb
      refine hidT_get (inK b ob hb) ?_
      match hq : H b with
      | none => rfl
      | some u =>
        obtain ⟨rfl, _, z⟩ := only b u hq
        rw [z] at hb
        exact nomatch hb
    obtain ⟨mc, nl1, nl2⟩ := nolim
    have mod : Mod K mg (hidT s1.heap H) := ⟨inB, nsIn nsg, ⟨mb, nsIn nsb, hbb⟩, ⟨mc, nsIn nl1, nl2⟩⟩
    have entry : Env0 P w K mg (hidT s1.heap H) callerA [] s1 H :=
      ⟨rfl, mod, fun b ob hb => of_hidT hb, Nat.le_of_eq (hidT_size _ _), trivial, (fun b hb => nomatch (show b ∈ ([] : List Addr) from hb)), hok, .of_eq nog⟩
    refine codeAny_mono ((Fn _ inB (nsIn nsg)).go callerA [] s1 H _ [.ref a] [.ref a] _ _ hr entry (bnd s1 (.ref a)) (.cons rfl .nil) (want H hS)) (fun r s' out => ?_)
    match r, out with
    | .error ex, out => exact out.elim
    | .ok .next, out => exact out.elim
    | .ok .brk, out => exact out.elim
    | .ok .cont, out => exact out.elim
    | .ok (.ret u), out =>
      obtain ⟨v, J, os, bare, un, hok', rv, q⟩ := out
      cases (show v = .bl true from q)
      cases (show u = Value.bool true from rv)
      refine ⟨rfl, OldK.of_keep (fun b ob hb => ?_), os, bare⟩
      match hq : H b with
      | none => exact un.keep b ob hb hq (fun z => nomatch (show b ∈ ([] : List Addr) from z)) (fun z => nomatch z)
      | some u =>
        obtain ⟨_, ⟨o2, xs, rfl⟩, _⟩ := only b u hq
        have h1 := (hok b _ hq).1
        have h2 := (hok' b _ (un.frzs b o2 _ hq)).1
        rw [hb] at h1
        cases h1
        exact h2
  match hk : K.lookup a with
  | some ob =>
    have same := inK a ob hk
    rw [obj] at same
    cases same
    exact main (fun _ => none) (fun b u h => nomatch h) (Or.inr ⟨_, us.toArray, _, hk, rfl, rfl, rfl, by rw [List.size_toArray, many]; exact hl, by simpa using vals⟩) (fun b u h => nomatch h)
  | none =>
    refine main (fun b => if b = a then some (.frz { cls := .type "list", data := .seq us.toArray } (.lst (ns.map V.int))) else none) (fun b u h => ?_) (Or.inl (Or.inr ⟨_, if_pos rfl⟩)) (fun b u h => ?_)
    · by_cases e : b = a
      · have h' := (if_pos e).symm.trans h
        cases h'
        exact ⟨e, ⟨_, _, rfl⟩, hk⟩
      · exact nomatch (if_neg e).symm.trans h
    · by_cases e : b = a
      · have h' := (if_pos e).symm.trans h
        cases h'
        subst e
        exact ⟨obj, by rw [List.length_map]; exact hl, us, _, vals, obj⟩
      · exact nomatch (if_neg e).symm.trans h
theorem walkG {l : PySem.W.OpenLaw} {k : Nat} {q : Program} {loose : List Str} {XP : (Str → Option Value) → Heap → Prop} {YP : World → Heap → Prop} {d : DefRec} {K : Params → Frag} {x : Str}
    (hn : l.most = some 63) (hdf : d.params.defaults = []) (hr : RoomG k callerA) (hY : ∀ (w : World) (h : Heap), YP w h → (K w.params).In h)
    (Fn : ∀ (w : World) (mg : Str → Option Value) (fa : Addr) (h : Heap), (K w.params).In h → h.Ns mainGlobals mg → mg d.name = some (.ref fa) →
      ∃ fd : FuncData, (∀ (s : Shared) (u : Value), BindsTo s fd ⟨[u], []⟩ [(x, u)]) ∧
        ∀ base : Heap, (K w.params).In base → base.Ns mainGlobals mg → FnG l.prog w (K w.params) mg base CX0 k fa fd [x] (SpD (K w.params) postLaw)) :
    PySem.W.WalkO q loose XP YP l.row.toRowW d [] (fun f vs => PySem.call f vs) := by
  refine Att.attach_call hn hdf fun w s0 s1 mg mb fa ob pm cd doc a us ns G Y ho hd hcd hmg hobj hints hlen hg => ?_
  have inK := hY w _ Y
  obtain ⟨fd, bnd, hF⟩ := Fn w mg fa _ inK G.T.g hmg
  exact law_callG inK G.T.g G.T.b G.T.builtins G.T.nolimit hg hobj hints (Nat.le_trans hlen (by decide)) hr hF bnd fun H hS => law_start hS hlen
end PD

namespace PD
open PySem PySem.Spec PyProof.Rows L2
section
variable {X : Cx} {K : Frag} {g : Gd} {F H : Hp} {en : En} {σ : St} {own : Owner} {Q : VK}
variable {a b c e o : Expr} {da db dc : DE} {pos pos' apos : Pos} {es : List Expr} {x : Str} {p : Pos} {st : Stmt}

/-! ### owned lists lent for the time of one expression -/
def borE : Ent → Ent
  | .no => .no
  | .fz d => .fz d
  | .ow _ (.lst xs) => .fz (.list xs)
  | .ow _ _ => .no
  | .rw v => .rw v
  | .sc ns => .sc ns
def isFlat : D → Bool
  | .none => true
  | .bool _ => true
  | .int _ => true
  | .str _ => true
  | _ => false
/-- what is frozen meanwhile -/
noncomputable def lentF (F H : Hp) (own : Owner) : Hp := fun a => match F a with
  | some o => some o
  | none => match own a with
    | some _ => H a
    | none => none
noncomputable def lentG (g : Gd) (F H : Hp) (own : Owner) : Gd := ⟨fun a => match g.B a with
  | some o => some o
  | none => lentF F H own a, lentF F H own⟩
theorem lentF_F : Same F (lentF F H own) := fun a o e => by unfold lentF; rw [e]
theorem lentF_H (R : Rg K g F en σ H own) : Same (lentF F H own) H := fun a o e => by
  unfold lentF at e
  cases hF : F a with
  | some u => rw [hF] at e; cases e; exact R.fh a o hF
  | none =>
    rw [hF] at e
    cases ho : own a with
    | none => rw [ho] at e; cases e
    | some i => rw [ho] at e; exact e
theorem lentF_own (R : Rg K g F en σ H own) {a : Addr} {i : Nat} (h : own a = some i) : lentF F H own a = H a := by
  unfold lentF
  rw [(R.od a i h).1, h]
theorem lent_in (R : Rg K g F en σ H own) : Rg K (lentG g F H own) (lentF F H own) (en.map borE) σ H (fun _ => none) where
  f0 := fun a o e => e
  nw := fun a o e => .inl e
  fh := lentF_H R
  bh := fun a o e => by
    have e' : (match g.B a with | some o => some o | none => lentF F H own a) = some o := e
    cases hB : g.B a with
    | some u => rw [hB] at e'; cases e'; exact R.bh a o hB
    | none => rw [hB] at e'; exact lentF_H R a o e'
  od := fun a i e => nomatch e
  len := by rw [List.length_map]; exact R.len
  at_ := fun i y u h1 h2 => by
    rw [List.getElem?_map] at h2
    cases he : en[i]? with
    | none => rw [he] at h2; cases h2
    | some v =>
      rw [he] at h2
      cases h2
      have q := R.at_ i y v h1 he
      cases v with
      | no => trivial
      | fz d => obtain ⟨w, e, h⟩ := q; exact ⟨w, e, dp_mono lentF_F _ _ h⟩
      | rw w => exact q
      | sc ns => obtain ⟨w, e, h⟩ := q; exact ⟨w, e, lentF_F.seq h⟩
      | ow p o' =>
        cases o' with
        | lst xs =>
          obtain ⟨w, A, e, ⟨l, vs, rfl, rfl, h1, h2⟩, hA, _⟩ := q
          have ho := hA l (by simp)
          exact ⟨.ref l, e, .lst (.inl (show lentF F H own l = _ by rw [lentF_own R ho]; exact h1)) (dpAll_mono lentF_F _ _ h2)⟩
        | dk _ => trivial
        | dt _ => trivial
        | src _ _ _ => trivial
theorem lent_out {F2 H2 : Hp} {en2 : En} {own2 : Owner} (R : Rg K g F en σ H own) (R2 : Rg K (lentG g F H own) F2 en2 σ H2 own2) : Rg K g F en σ H2 own where
  f0 := R.f0
  nw := R.nw
  fh := fun a o e => R2.fh a o (R2.f0 a o (lentF_F a o e))
  bh := fun a o e => R2.bh a o (show (match g.B a with | some o => some o | none => lentF F H own a) = some o by rw [e])
  od := fun a i e => by
    obtain ⟨h1, h2, u, h3⟩ := R.od a i e
    exact ⟨h1, h2, u, R2.fh a u (R2.f0 a u (show lentF F H own a = some u by rw [lentF_own R e]; exact h3))⟩
  len := R.len
  at_ := fun i y u h1 h2 => by
    have q := R.at_ i y u h1 h2
    refine entOk_keep q (Same.refl _) fun a ha => ?_
    obtain ⟨_, _, w, h3⟩ := R.od a i ha
    exact (R2.fh a w (R2.f0 a w (show lentF F H own a = some w by rw [lentF_own R ha]; exact h3))).trans h3.symm
theorem dp_flat {F F' : Hp} {v : V} {d : D} (hf : isFlat d = true) (h : Dp K F v d) : Dp K F' v d := by
  cases h with
  | non => exact .non
  | bl b => exact .bl b
  | int i => exact .int i
  | str z => exact .str z
  | lst _ _ => cases hf
  | tup _ _ => cases hf
theorem dpa_flat {F F' : Hp} {vs : List V} : ∀ {ds : List D}, (∀ d ∈ ds, isFlat d = true) → DpAll K F vs ds → DpAll K F' vs ds := by
  intro ds hf h
  induction ds generalizing vs with
  | nil => cases h; exact .nil
  | cons d ds ih => cases h with | cons h1 h2 => exact .cons (dp_flat (hf d (by simp)) h1) (ih (fun d hd => hf d (by simp [hd])) h2)
def dBor (da : DE) : DE := fun en Q => da (en.map borE) fun d _ => isFlat d = true ∧ Q d en
theorem dborrow (h : PE X e (tD K da)) : PE X e (tD K (dBor da)) := PE.imp h fun σ H Q ⟨g, F, en, own, W, R, q, k⟩ =>
  ⟨_, _, _, _, _, lent_in R, q, fun d en1 ⟨hf, q1⟩ v H1 F1 own1 R1 s1 hd => k _ _ q1 v H1 F own (lent_out R R1) (Same.refl _) (dp_flat hf hd)⟩
def dBorT (ta : DT) : DT := fun en Q => ta (en.map borE) fun c _ => Q c en
theorem dborrowT {ta : DT} (h : PT X e (tDT K ta)) : PT X e (tDT K (dBorT ta)) := PT.imp h fun σ H Q ⟨g, F, en, own, W, R, q, k⟩ =>
  ⟨_, _, _, _, _, lent_in R, q, fun d en1 q1 H1 F1 own1 R1 s1 => k _ _ q1 H1 F own (lent_out R R1) (Same.refl _)⟩
def dBorO (d : DO) : DO := fun en Q => d (en.map borE) fun o _ => (∃ xs, o = .lst xs ∧ ∀ z ∈ xs, isFlat z = true) ∧ Q o en
theorem dborrowO {d : DO} (h : PE X e (tDO K d)) : PE X e (tDO K (dBorO d)) := PE.imp h fun σ H Q ⟨g, F, en, own, W, R, q, k⟩ =>
  ⟨_, _, _, _, _, lent_in R, q, fun o en1 ⟨⟨xs, eo, hf⟩, q1⟩ v A H1 F1 own1 R1 s1 ap => by
    subst eo
    obtain ⟨⟨l, vs, rfl, rfl, h1, h2⟩, h3⟩ := ap
    obtain ⟨f1, b1, o1⟩ := h3 l (by simp)
    refine k _ _ q1 (.ref l) [l] H1 F own (lent_out R R1) (Same.refl _) ⟨⟨l, vs, rfl, rfl, h1, dpa_flat hf h2⟩, fun z hz => ?_⟩
    have : z = l := by simpa using hz
    subst this
    have fl : lentF F H own z = none := by
      cases hq : lentF F H own z with
      | none => rfl
      | some u => rw [R1.f0 z u hq] at f1; cases f1
    refine ⟨?_, ?_, ?_⟩
    · cases hq : F z with
      | none => rfl
      | some u => rw [lentF_F z u hq] at fl; cases fl
    · cases hq : g.B z with
      | none => rfl
      | some u =>
        rw [show (lentG g F H own).B z = some u from (show (match g.B z with | some o => some o | none => lentF F H own z) = some u by rw [hq])] at b1
        cases b1
    · cases hq : own z with
      | none => rfl
      | some i =>
        obtain ⟨_, _, u, h4⟩ := R.od z i hq
        rw [lentF_own R hq, h4] at fl
        cases fl⟩
/-- list(xs), xs an owned name: a new list of its items -/
def dListP (j : Nat) : DO := fun en Q => dPeek j (fun xs => Q (.lst xs) en) en
theorem dlistp {j : Nat} (hg : Gl X "list") (hm : X.mg "list" = none) (ha : PE X a (tVar j)) (he : starEach [a] X.env = (false, eval a X.env) :: starEach [] X.env := by rfl) (hpl : (backTo pos (starEach [] X.env)).any (·.1) = false := by rfl) : PE X (.Call (.Name "list" p) [a] [] pos) (tDO K (dListP j)) :=
  PE.imp (pe_callTy call_list_of hg hm (by decide +kernel) (pa_cons ha pa_nil he) (he := he) (hpl := hpl)) fun σ H Q ⟨g, F, en, own, W, R, q, k⟩ => by
    obtain ⟨p, xs, he, q⟩ := peek_of q
    obtain ⟨l, vs, hs, hH, hd, ho, _⟩ := lst_at R he
    refine ⟨_, hs, l, vs, rfl, .inl (.inl (.inl hH)), fun n hn => ?_⟩
    obtain ⟨R1, ap⟩ := new_apart R hn hd
    exact k _ _ q _ _ _ _ _ R1 (Same.refl _) ap

/-! ### a def as it may be called -/
structure CalD (P : Program) (w : World) (K : Frag) (mg : Str → Option Value) (base : Heap) (k : Nat) (x : Str) (ps : List Str) (post : Post) : Prop where
  ex : ∃ (f : Addr) (fd : FuncData), FnG P w K mg base CX0 k f fd ps (SpD K post) ∧ mg x = some (.ref f) ∧ PySem.W.keepIn K (.ref f) = true ∧ Binds K fd ps []
section
variable {k : Nat} {ps : List Str} {post : Post} {t : DB} {tt : DBT}
theorem dcl (C : CalD X.prog X.w X.K X.mg X.base k x ps post) (hr : RoomG k X.A) (ha : PA X (e :: es) (tDB K t)) (hg : Gl X x := by rfl)
    (hdb : (x == ("__debug__" : Str)) = false := by decide) (he : starEach (e :: es) X.env = (false, eval e X.env) :: starEach es X.env := by rfl) (hpl : (backTo pos (starEach es X.env)).any (·.1) = false := by rfl) :
    (hK : X.K = K) → PE X (.Call (.Name x p) (e :: es) [] pos) (tD K (dCall t post)) := fun hK => by
  subst hK
  obtain ⟨f, fd, Fn, h1, h2, h3⟩ := C.ex
  exact dcall Fn hr hg h1 h2 h3 (show Passes CX0 X (fun _ _ _ => False) from pass0) ha hdb he hpl
theorem dclO (C : CalD X.prog X.w X.K X.mg X.base k x ps post) (hr : RoomG k X.A) (ha : PA X (e :: es) (tDB K t)) (hg : Gl X x := by rfl)
    (hdb : (x == ("__debug__" : Str)) = false := by decide) (he : starEach (e :: es) X.env = (false, eval e X.env) :: starEach es X.env := by rfl) (hpl : (backTo pos (starEach es X.env)).any (·.1) = false := by rfl) :
    (hK : X.K = K) → PE X (.Call (.Name x p) (e :: es) [] pos) (tDO K (dCallO t post)) := fun hK => by
  subst hK
  obtain ⟨f, fd, Fn, h1, h2, h3⟩ := C.ex
  exact dcallO Fn hr hg h1 h2 h3 (show Passes CX0 X (fun _ _ _ => False) from pass0) ha hdb he hpl
theorem dclT (C : CalD X.prog X.w X.K X.mg X.base k x ps post) (hr : RoomG k X.A) (ha : PA X (e :: es) (tDBT K tt)) (hg : Gl X x := by rfl)
    (hdb : (x == ("__debug__" : Str)) = false := by decide) (he : starEach (e :: es) X.env = (false, eval e X.env) :: starEach es X.env := by rfl) (hpl : (backTo pos (starEach es X.env)).any (·.1) = false := by rfl) :
    (hK : X.K = K) → PE X (.Call (.Name x p) (e :: es) [] pos) (tD K (dCallT tt post)) := fun hK => by
  subst hK
  obtain ⟨f, fd, Fn, h1, h2, h3⟩ := C.ex
  exact dcallT Fn hr hg h1 h2 h3 (show Passes CX0 X (fun _ _ _ => False) from pass0) ha hdb he hpl
theorem dcl0 (C : CalD X.prog X.w X.K X.mg X.base k x ps post) (hr : RoomG k X.A) (hg : Gl X x := by rfl)
    (hdb : (x == ("__debug__" : Str)) = false := by decide) : (hK : X.K = K) → PE X (.Call (.Name x p) [] [] pos) (tD K (dCall dNilB post)) := fun hK => by
  subst hK
  obtain ⟨f, fd, Fn, h1, h2, h3⟩ := C.ex
  exact dcall0 Fn hr hg h1 h2 h3 (show Passes CX0 X (fun _ _ _ => False) from pass0) hdb
end
end
end PD

/-! Helpers of the pure half: ends, calls, loops, comparisons of data. -/
namespace PD
open PySem PySem.Spec PyProof.Rows L2
abbrev nos (n : Nat) : En := List.replicate n .no
theorem ex_no {as en : En} {W : Res → En → Prop} {r : Res} (h : W r (nos as.length)) : exitW as W r en :=
  ⟨_, h, by rw [List.length_replicate], fun i e he => .inl (by
    rw [List.getElem?_replicate] at he
    split at he
    · cases he; rfl
    · cases he)⟩
/-- of a def whose arguments stay what they are -/
def postF (R : List D → D → Prop) : Post := fun as W => ∃ ds d, as = ds.map Ent.fz ∧ R ds d ∧ W (.fz d) (nos ds.length)
theorem pu_F {R : List D → D → Prop} {b : DS} {n : Nat} (h : ∀ ds d, R ds d → ∀ E : DEnds, (∀ en, E.rt (.fz d) en) → b E (ds.map Ent.fz ++ List.replicate (n - ds.length) .no)) :
    ∀ as W, postF R as W → b { nx := exitW as W (.fz .none), rt := exitW as W } (as ++ List.replicate (n - as.length) .no) := by
  rintro as W ⟨ds, d, rfl, hR, hW⟩
  rw [List.length_map]
  exact h ds d hR _ fun en => ex_no (by rw [List.length_map]; exact hW)
theorem ln_F {R : List D → D → Prop} {n : Nat} (h : ∀ ds d, R ds d → ds.length = n) : ∀ as W, postF R as W → as.length = n := by
  rintro as W ⟨ds, d, rfl, hR, hW⟩
  rw [List.length_map]
  exact h ds d hR
/-- .. which gives an owned list -/
def postFO (R : List D → List D → Prop) : Post := fun as W => ∃ ds xs, as = ds.map Ent.fz ∧ R ds xs ∧ W (.ow (.lst xs)) (nos ds.length)
theorem pu_FO {R : List D → List D → Prop} {b : DS} {n : Nat} (h : ∀ ds d, R ds d → ∀ E : DEnds, (∀ en, E.rt (.ow (.lst d)) en) → b E (ds.map Ent.fz ++ List.replicate (n - ds.length) .no)) :
    ∀ as W, postFO R as W → b { nx := exitW as W (.fz .none), rt := exitW as W } (as ++ List.replicate (n - as.length) .no) := by
  rintro as W ⟨ds, d, rfl, hR, hW⟩
  rw [List.length_map]
  exact h ds d hR _ fun en => ex_no (by rw [List.length_map]; exact hW)
theorem ln_FO {R : List D → List D → Prop} {n : Nat} (h : ∀ ds d, R ds d → ds.length = n) : ∀ as W, postFO R as W → as.length = n := by
  rintro as W ⟨ds, d, rfl, hR, hW⟩
  rw [List.length_map]
  exact h ds d hR
def fzs : List Arg → Option (List D)
  | [] => some []
  | .fz d :: r => match fzs r with | some ds => some (d :: ds) | none => none
  | _ :: _ => none
theorem fzs_map : ∀ {args : List Arg} {ds : List D}, fzs args = some ds → args = ds.map Arg.fz
  | [], ds, h => by cases h; rfl
  | .fz d :: r, ds, h => by
    unfold fzs at h
    split at h
    · rename_i q; cases h; rw [fzs_map q]; rfl
    · cases h
  | .vr _ :: _, _, h => nomatch h
  | .sc _ :: _, _, h => nomatch h
theorem call_fz {post : Post} {args : List Arg} {ds : List D} {en : En} {Q : Res → En → Prop} (h : fzs args = some ds) (hp : post (ds.map Ent.fz) fun r _ => Q r en) : callQ args en post Q := by
  rw [fzs_map h]
  refine ⟨⟨fun i i' j e => ?_, fun i j e => ?_⟩, fun α => ⟨fun r _ => Q r en, ?_, fun r as' hr => ⟨en, ⟨rfl, fun i j e => ?_, fun j _ => rfl⟩, hr⟩⟩⟩
  · rw [List.getElem?_map] at e
    cases hd : ds[i]? <;> rw [hd] at e <;> cases e
  · rw [List.getElem?_map] at e
    cases hd : ds[i]? <;> rw [hd] at e <;> cases e
  · rw [List.map_map, show (entOf α en ∘ Arg.fz) = Ent.fz from rfl]
    exact hp
  · rw [List.getElem?_map] at e
    cases hd : ds[i]? <;> rw [hd] at e <;> cases e
theorem callF {R : List D → D → Prop} {args : List Arg} {ds : List D} {d : D} {en : En} {Q : Res → En → Prop} (h : fzs args = some ds) (hR : R ds d) (hQ : Q (.fz d) en) : callQ args en (postF R) Q :=
  call_fz h ⟨ds, d, rfl, hR, hQ⟩
theorem callFO {R : List D → List D → Prop} {args : List Arg} {ds : List D} {d : List D} {en : En} {Q : Res → En → Prop} (h : fzs args = some ds) (hR : R ds d) (hQ : Q (.ow (.lst d)) en) : callQ args en (postFO R) Q :=
  call_fz h ⟨ds, d, rfl, hR, hQ⟩
/-- one owned list handed on, first -/
theorem call_own {post : Post} {j : Nat} {args : List Arg} {ds : List D} {en : En} {p : Option Addr} {o : Ow} {Q : Res → En → Prop} (he : en[j]? = some (.ow p o)) (h : fzs args = some ds)
    (hp : ∀ a : Addr, post (.ow (some a) o :: ds.map Ent.fz) fun r as' => ∃ o', as'[0]? = some (.ow (some a) o') ∧ Q r (en.set j (.ow p o'))) : callQ (.vr j :: args) en post Q := by
  rw [fzs_map h]
  have one : ∀ (i k : Nat), (Arg.vr j :: ds.map Arg.fz)[i]? = some (Arg.vr k) → i = 0 ∧ k = j := fun i k e => by
    cases i with
    | zero => cases e; exact ⟨rfl, rfl⟩
    | succ i =>
      rw [List.getElem?_cons_succ, List.getElem?_map] at e
      cases hd : ds[i]? <;> rw [hd] at e <;> cases e
  refine ⟨⟨fun i i' k e e' => by rw [(one i k e).1, (one i' k e').1], fun i k e => by rw [(one i k e).2]; exact ⟨p, o, he⟩⟩, fun α => ⟨fun r as' => ∃ o', as'[0]? = some (.ow (some (α j)) o') ∧ Q r (en.set j (.ow p o')), ?_, fun r as' hr => ?_⟩⟩
  · rw [List.map_cons, List.map_map, show (entOf α en ∘ Arg.fz) = Ent.fz from rfl, show entOf α en (.vr j) = .ow (some (α j)) o by dsimp only [entOf]; rw [he]]
    exact hp (α j)
  · obtain ⟨o', h1, h2⟩ := hr
    have hj : j < en.length := (List.getElem?_eq_some_iff.mp he).1
    refine ⟨_, ⟨by rw [List.length_set], fun i k e => ?_, fun k hk => ?_⟩, h2⟩
    · obtain ⟨rfl, rfl⟩ := one i k e
      exact ⟨p, o, o', he, h1, by rw [List.getElem?_set_self hj]⟩
    · rw [List.getElem?_set_ne]
      rintro rfl
      exact hk 0 rfl
/-- the script handed on, first -/
theorem call_sc {post : Post} {ns : List Int} {args : List Arg} {ds : List D} {en : En} {Q : Res → En → Prop} (h : fzs args = some ds) (hp : post (.sc ns :: ds.map Ent.fz) fun r _ => Q r en) : callQ (.sc ns :: args) en post Q := by
  rw [fzs_map h]
  have one : ∀ (i k : Nat), (Arg.sc ns :: ds.map Arg.fz)[i]? ≠ some (Arg.vr k) := fun i k e => by
    cases i with
    | zero => cases e
    | succ i =>
      rw [List.getElem?_cons_succ, List.getElem?_map] at e
      cases hd : ds[i]? <;> rw [hd] at e <;> cases e
  refine ⟨⟨fun i i' j e => absurd e (one _ _), fun i j e => absurd e (one _ _)⟩, fun α => ⟨fun r _ => Q r en, ?_, fun r as' hr => ⟨en, ⟨rfl, fun i j e => absurd e (one _ _), fun j _ => rfl⟩, hr⟩⟩⟩
  rw [List.map_cons, List.map_map, show (entOf α en ∘ Arg.fz) = Ent.fz from rfl]
  exact hp

/-! ### loops -/
theorem iteB {c : Bool} {A B : Prop} (h1 : c = true → A) (h2 : c = false → B) : if c = true then A else B := by
  cases c with
  | true => rw [if_pos rfl]; exact h1 rfl
  | false => rw [if_neg Bool.false_ne_true]; exact h2 rfl
theorem iteT' {c : Bool} {A B : Prop} (hc : c = true) (h : A) : if c = true then A else B := by rw [if_pos hc]; exact h
theorem iteF' {c : Bool} {A B : Prop} (hc : c = false) (h : B) : if c = true then A else B := by rw [hc, if_neg Bool.false_ne_true]; exact h
/-- a comprehension that maps -/
theorem lc_map {ds : List D} (f : D → D) {en : En} {vs : List Nat} {dg : DG} {te : DE} {Q : Ow → En → Prop} (hno : notOwned en vs) (hl : ds.length ≤ sizeLine)
    (hs : ∀ (i : Nat) (d : D) (N : D → En → Prop), ds[i]? = some d → (∀ e, e = en → N (f d) e) → dg d (wipeE en vs) fun en2 => te en2 fun y en4 => N y (backE en en4 vs)) (hQ : Q (.lst (ds.map f)) en) :
    LcG dg dYes te vs Q ds en := by
  refine ⟨fun i acc e => e = en ∧ acc = (ds.take i).map f, ⟨rfl, rfl⟩, ?_, hl, ?_⟩
  · rintro i d acc e hd _ ⟨rfl, rfl⟩
    refine ⟨hno, ?_⟩
    exact hs i d (fun y e' => e' = e ∧ (ds.take i).map f ++ [y] = (ds.take (i + 1)).map f) hd fun e he => ⟨he, by rw [List.take_add_one, hd, List.map_append]; rfl⟩
  · rintro acc e ⟨rfl, rfl⟩
    rw [List.take_length]
    exact hQ
/-- .. that picks -/
theorem lc_pick {ds : List D} (f : D → Option D) {en : En} {vs : List Nat} {dg : DG} {tt : DT} {te : DE} {Q : Ow → En → Prop} (hno : notOwned en vs) (hl : ds.length ≤ sizeLine)
    (hs : ∀ (i : Nat) (d : D) (N : Option D → En → Prop), ds[i]? = some d → (∀ e, e = en → N (f d) e) → dg d (wipeE en vs) fun en2 => tt en2 fun b en3 => if b = true then te en3 fun y en4 => N (some y) (backE en en4 vs) else N none (backE en en3 vs)) (hQ : Q (.lst (ds.filterMap f)) en) :
    LcG dg tt te vs Q ds en := by
  refine ⟨fun i acc e => e = en ∧ acc = (ds.take i).filterMap f, ⟨rfl, rfl⟩, ?_, hl, ?_⟩
  · rintro i d acc e hd _ ⟨rfl, rfl⟩
    refine ⟨hno, ?_⟩
    have h := hs i d (fun o e' => match o with | some y => e' = e ∧ (ds.take i).filterMap f ++ [y] = (ds.take (i + 1)).filterMap f | none => e' = e ∧ (ds.take i).filterMap f = (ds.take (i + 1)).filterMap f) hd fun e he => by
      cases hf : f d with
      | none =>
        refine ⟨he, ?_⟩
        rw [List.take_add_one, hd, List.filterMap_append]
        simp [hf]
      | some y =>
        refine ⟨he, ?_⟩
        rw [List.take_add_one, hd, List.filterMap_append]
        simp [hf]
    exact h
  · rintro acc e ⟨rfl, rfl⟩
    rw [List.take_length]
    exact hQ
theorem map_at {α : Type} {xs : List α} {f : α → D} {i : Nat} {d : D} (h : (xs.map f)[i]? = some d) : ∃ x, xs[i]? = some x ∧ d = f x := by
  rw [List.getElem?_map] at h
  cases e : xs[i]? with
  | none => rw [e] at h; cases h
  | some x => rw [e] at h; cases h; exact ⟨x, rfl, rfl⟩
theorem enum_at {xs : List D} {i : Nat} {d : D} (h : (xs.zipIdx.map fun z => PyData.tuple [.int (z.2 : Nat), z.1])[i]? = some d) : ∃ x, xs[i]? = some x ∧ d = .tuple [.int (i : Nat), x] := by
  rw [List.getElem?_map, List.getElem?_zipIdx] at h
  cases e : xs[i]? with
  | none => rw [e] at h; cases h
  | some x =>
    rw [e] at h
    cases h
    exact ⟨x, rfl, by simp⟩
theorem enum_len {xs : List D} : (xs.zipIdx.map fun z => PyData.tuple [.int (z.2 : Nat), z.1]).length = xs.length := by simp
theorem rng_at {lo : Int} {n i : Nat} {d : D} (h : (rng lo n)[i]? = some d) : i < n ∧ d = .int (lo + (i : Nat)) := by
  unfold rng at h
  obtain ⟨x, hx, rfl⟩ := map_at h
  have h1 : i < (List.range n).length := (List.getElem?_eq_some_iff.mp hx).1
  rw [List.length_range] at h1
  rw [List.getElem?_range h1] at hx
  cases hx
  exact ⟨h1, rfl⟩
theorem rng_len {lo : Int} {n : Nat} : (rng lo n).length = n := by simp [rng]
theorem take_snoc {α : Type} {xs : List α} {i : Nat} {x : α} (h : xs[i]? = some x) : xs.take (i + 1) = xs.take i ++ [x] := by
  rw [List.take_add_one, h]
  rfl

/-! ### comparisons -/
theorem eqv_refl {d : D} (h : d.plain = true) : PyData.eqv d d = true := PySem.SeqAt.eqv_refl_plain d h
theorem eqv_str (x y : Str) : PyData.eqv (.str x) (.str y) = decide (x = y) := by
  rw [PyData.eqv, Bool.eq_iff_iff, beq_iff_eq, decide_eq_true_eq]
theorem eqv_int (x y : Int) : PyData.eqv (.int x) (.int y) = decide (x = y) := by
  rw [PyData.eqv, Bool.eq_iff_iff, beq_iff_eq, decide_eq_true_eq]
theorem any_str (ys : List Str) (z : Str) : ((ys.map PyData.str).any fun d => PyData.eqv d (.str z)) = decide (z ∈ ys) := by
  rw [Bool.eq_iff_iff, List.any_eq_true, decide_eq_true_eq]
  constructor
  · rintro ⟨d, hd, he⟩
    obtain ⟨y, hy, rfl⟩ := List.mem_map.mp hd
    rw [eqv_str, decide_eq_true_eq] at he
    exact he ▸ hy
  · intro h
    exact ⟨_, List.mem_map.mpr ⟨z, h, rfl⟩, by rw [eqv_str, decide_eq_true_eq]⟩
theorem eqv_nil (ds : List D) : PyData.eqv (.list ds) (.list []) = ds.isEmpty := by
  rw [PyData.eqv]
  cases ds <;> rfl
theorem isE_map {α : Type} (f : α → D) (xs : List α) : (xs.map f).isEmpty = xs.isEmpty := by cases xs <;> rfl

/-! ### lengths of texts -/
theorem sum_len {L : Nat} : ∀ {ys : List Str}, (∀ y ∈ ys, y.length ≤ L) → (ys.map (·.length)).sum ≤ ys.length * L
  | [], _ => Nat.zero_le _
  | y :: ys, h => by
    have h1 := h y (by simp)
    have h2 := sum_len (ys := ys) fun z hz => h z (by simp [hz])
    rw [List.map_cons, List.sum_cons, List.length_cons, Nat.add_mul, Nat.one_mul]
    omega
theorem join_len (z : Str) (ys : List Str) : (PySem.Str.join z ys).length ≤ (ys.map (·.length)).sum + ys.length * z.length := StrLaws.join_length_le z ys
theorem app_len (x y : Str) : (x ++ y).length = x.length + y.length := by
  rw [TL.len_tl, TL.tl_append, List.length_append, ← TL.len_tl, ← TL.len_tl]
theorem e_app (x : Str) : Str.empty ++ x = x := TL.ext_tl (by rw [TL.tl_append]; rfl)
/-- a number's text -/
def num (n : Nat) : Str := Str.ofString (toString ((n : Nat) : Int))
theorem tl_num (n : Nat) : TL.tl (num n) = TL.numL n := TL.tl_num n
theorem num_len {n : Nat} (h : n < 100) : (num n).length ≤ 2 := by
  rw [TL.len_tl, tl_num]
  exact TL.numL_len (by decide) (by omega)
theorem num_inj {m n : Nat} (h : num m = num n) : m = n := TL.numL_inj (by rw [← tl_num, ← tl_num, h])
theorem num_free {n s : Nat} (h : s < 48 ∨ 57 < s) : s ∉ TL.tl (num n) := by rw [tl_num]; exact TL.numL_free h
theorem num_ne {n : Nat} : TL.tl (num n) ≠ [] := by rw [tl_num]; exact TL.numL_ne n
theorem int_num {n : Nat} (h : n < 100) : intText? (num n) = some (n : Int) := TL.int_num (Nat.le_trans (TL.numL_len (k := 2) (by decide) (by omega)) (by decide))
end PD

/-! An owned list walked: it stays as it is meanwhile. -/
namespace PD
open PySem PySem.Spec PyProof.Rows L2
section
variable {X : Cx} {K : Frag} {g : Gd} {F H : Hp} {en : En} {σ : St} {own : Owner} {Q : VK}
variable {tg : Expr} {d1 : DS} {pos : Pos} {x : Str} {p : Pos}
theorem Rel.unset {B F0 : Hp} {j : Nat} {v : V} (R : PD.Rel K B F0 F en σ H own) (hv : σ[j]? = some (some v)) : PD.Rel K B F0 F (en.set j (.rw v)) σ H (dis own j) where
  f0 := R.f0
  nw := R.nw
  fh := R.fh
  bh := R.bh
  od := fun a i e => R.od a i (dis_some e).1
  len := by rw [List.length_set]; exact R.len
  at_ := fun i y u h1 h2 => by
    rcases get_set h2 with ⟨rfl, rfl⟩ | ⟨ne, h3⟩
    · exact (show y = some v by rw [hv] at h1; exact (Option.some.inj h1).symm)
    · exact entOk_dis ne (R.at_ i y u h1 h3)
/-- the list's address, its items; the state while it is walked -/
theorem hold_out {j : Nat} {po : Option Addr} {xs : List D} (R : Rg K g F en σ H own) (he : en[j]? = some (.ow po (.lst xs))) :
    ∃ a vs, σ[j]? = some (some (.ref a)) ∧ DpAll K F vs xs ∧ g.B a = none ∧ g.F0 a = none ∧ Same g.B (g.more a (.lst vs)).B ∧ (∀ b, po = some b → b = a) ∧ H a = some (.lst vs) ∧ Rg K (g.more a (.lst vs)) F (en.set j (.rw (.ref a))) σ H (dis own j) := by
  obtain ⟨a, vs, hs, hH, hd, ho, hF, hB⟩ := lst_at R he
  have R1 := Rel.unset R hs
  refine ⟨a, vs, hs, hd, hB, R.f0.free hF, fun b o e => ?_, fun b hb => ?_, hH, Rel.hold R1 hH hF (dis_self ho)⟩
  · show upd g.B a (.lst vs) b = some o
    rw [upd_ne (fun z => by subst z; rw [hB] at e; cases e)]
    exact e
  · obtain ⟨v, A, e, _, _, hp⟩ := R.at_ j _ _ hs he
    cases e
    have := hp b hb
    cases this
    rfl
theorem hold_in {j : Nat} {po : Option Addr} {xs : List D} {a : Addr} {vs : List V} {F' H' : Hp} {en' : En} {σ' : St} {own' : Owner} (hd : DpAll K F vs xs) (hB : g.B a = none) (h0 : g.F0 a = none) (hp : ∀ b, po = some b → b = a) (s : Same F F')
    (R : Rg K (g.more a (.lst vs)) F' en' σ' H' own') (he : en'[j]? = some (.rw (.ref a))) : Rg K g F' (en'.set j (.ow po (.lst xs))) σ' H' (fun z => if z = a then some j else own' z) ∧ own' a = none ∧ F' a = none := by
  obtain ⟨R1, e1, f1, o1⟩ := Rel.loose R h0 hB
  have hj : j < en'.length := (List.getElem?_eq_some_iff.mp he).1
  refine ⟨⟨R1.f0, R1.nw, R1.fh, R1.bh, fun z i e => ?_, by rw [List.length_set]; exact R1.len, fun i y u h1 h2 => ?_⟩, o1, f1⟩
  · by_cases hz : z = a
    · subst hz; exact ⟨f1, hB, _, e1⟩
    · have e' : (if z = a then some j else own' z) = some i := e
      rw [if_neg hz] at e'
      exact R1.od z i e'
  · rcases get_set h2 with ⟨rfl, rfl⟩ | ⟨ne, h3⟩
    · have q : y = some (.ref a) := R1.at_ _ _ _ h1 he
      exact ⟨.ref a, [a], q, ⟨a, vs, rfl, rfl, e1, dpAll_mono s _ _ hd⟩, fun z hz => by
        have : z = a := by simpa using hz
        subst this
        exact if_pos rfl, fun b hb => by rw [hp b hb]⟩
    · have q := R1.at_ i y u h1 h3
      cases u with
      | no => trivial
      | fz d => exact q
      | rw v => exact q
      | sc ns => exact q
      | ow p' o =>
        obtain ⟨v, A, e, h, hA, hp'⟩ := q
        exact ⟨v, A, e, h, fun z hz => by
          have hne : z ≠ a := fun e2 => by have := hA z hz; rw [e2, o1] at this; cases this
          exact (if_neg hne).trans (hA z hz), hp'⟩
theorem apart_in {a : Addr} {j : Nat} {vs : List V} {F' H' : Hp} {own' : Owner} {v : V} {A : List Addr} {o : Ow} (ap : Apart K (g.more a (.lst vs)) F' H' own' v A o) : Apart K g F' H' (fun z => if z = a then some j else own' z) v A o := by
  refine ⟨ap.1, fun z hz => ?_⟩
  obtain ⟨h1, h2, h3⟩ := ap.2 z hz
  have ne : z ≠ a := fun e => by
    subst e
    rw [show (g.more z (.lst vs)).B z = some (.lst vs) from upd_same] at h2
    cases h2
  exact ⟨h1, by rw [show (g.more a (.lst vs)).B z = g.B z from upd_ne ne] at h2; exact h2, (if_neg ne).trans h3⟩
theorem resOk_in {a : Addr} {j : Nat} {vs : List V} {F' H' : Hp} {own' : Owner} {v : V} {r : Res} (h : ResOk K (g.more a (.lst vs)) F' H' own' v r) : ResOk K g F' H' (fun z => if z = a then some j else own' z) v r := by
  cases r with
  | fz d => exact h
  | ow o => obtain ⟨A, ap⟩ := h; exact ⟨A, apart_in ap⟩

def LcPG (j : Nat) (dg : DG) (tt : DT) (te : DE) (vs : List Nat) (en : En) (Q : Ow → En → Prop) (xs : List D) : Prop := xs.length ≤ sizeLine ∧ ∀ a : Addr, ∃ W : Nat → List D → En → Prop, W 0 [] (en.set j (.rw (.ref a))) ∧
  (∀ i d acc e, xs[i]? = some d → acc.length ≤ i → W i acc e → notOwned e vs ∧ dg d (wipeE e vs) fun en2 => tt en2 fun b en3 =>
    if b = true then te en3 fun y en4 => W (i + 1) (acc ++ [y]) (backE e en4 vs) else W (i + 1) acc (backE e en3 vs)) ∧
  ∀ acc e, W xs.length acc e → e[j]? = some (.rw (.ref a)) ∧ ∀ po, en[j]? = some (.ow po (.lst xs)) → Q (.lst acc) (e.set j (.ow po (.lst xs)))
def dLcP (j : Nat) (dg : DG) (tt : DT) (te : DE) (vs : List Nat) : DO := fun en Q => dPeek j (LcPG j dg tt te vs en Q) en
theorem lcP_imp {j : Nat} {dg : DG} {tt : DT} {te : DE} {vs : List Nat} {σ : St} {H : Hp} {Q : VK} (h : tDO K (dLcP j dg tt te vs) σ H Q) : tLc (iList K (tVar j)) (tDG K vs dg) (tDT K tt) (tD K te) vs σ H Q := by
  obtain ⟨g, F, en, own, Wq, R, q, k⟩ := h
  obtain ⟨po, xs, he, wl, q⟩ := peek_of q
  obtain ⟨a, vs', hs, hd, hB, h0, sB, hp, hH, R1⟩ := hold_out R he
  obtain ⟨Wv, w0, ws, wd⟩ := q a
  refine ⟨.ref a, hs, a, rfl, ⟨vs', .inl (.inl hH)⟩, fun L hL => ?_⟩
  have it : ItOk K (g.more a (.lst vs')) F (Itl K a) xs := itOk_held upd_same hd
  refine lc_turns (Wq := fun o e => e[j]? = some (.rw (.ref a)) ∧ Wq o (e.set j (.ow po (.lst xs)))) R1 it w0 ws wl (fun acc e hw => ⟨(wd acc e hw).1, (wd acc e hw).2 po he⟩) (fun o e ⟨h1, h2⟩ v A H' F' own' R' s' ap => ?_) L hL
  obtain ⟨R2, _, _⟩ := hold_in hd hB h0 hp s' R' h1
  exact k _ _ h2 v A H' F' _ R2 s' (apart_in ap)
theorem dlcp {elt iter : Expr} {ifs : List Expr} {scope : Scope} {bn : List (Str × Nat)} {j : Nat} {dg : DG} {tt : DT} {te : DE} (hK : X.K = K) (hc : X.calm = true) (hN : X.N.Nodup) (hi : PE X iter (tVar j)) (ok : BlkOk X.N X.env.scope scope bn)
    (hg : ∀ (s : Shared) (H : Hp) (C : Addr) (cl : List (Str × Addr)) (fp : List Addr), PG (X.blk s H scope (compEnvC scope cl C X.env) fp) tg (tDG K (bn.map (·.2)) dg)) (ht : ∀ (s : Shared) (H : Hp) (C : Addr) (cl : List (Str × Addr)) (fp : List Addr), PTs (X.blk s H scope (compEnvC scope cl C X.env) fp) ifs (tDT K tt))
    (he : ∀ (s : Shared) (H : Hp) (C : Addr) (cl : List (Str × Addr)) (fp : List Addr), PE (X.blk s H scope (compEnvC scope cl C X.env) fp) elt (tD K te)) (hs : ∀ x, foldedSetIterable iter X.env x = pure x := by intro _; rfl) :
    PE X (.ListComp elt [⟨tg, iter, ifs, 0⟩] scope pos) (tDO K (dLcP j dg tt te (bn.map (·.2)))) := by
  subst hK
  exact PE.imp (pe_lc hc hN (pi_list hi) ok hg ht he hs) fun σ H Q h => lcP_imp h
theorem dsetLcPO {i : Nat} {y : Str} {py spos : Pos} {elt iter : Expr} {ifs : List Expr} {scope : Scope} {bn : List (Str × Nat)} {j : Nat} {dg : DG} {tt : DT} {te : DE} (hK : X.K = K) (hc : X.calm = true) (hN : X.N.Nodup) (hy : X.N[i]? = some y) (hyl : X.env.scope.names.lookup y = some .local)
    (hsw : swapsWith (.ListComp elt [⟨tg, iter, ifs, 0⟩] scope pos) (some (.Name y py)) spos.line X.env = pure true) (hi : PE X iter (tVar j)) (ok : BlkOk X.N X.env.scope scope bn)
    (hg : ∀ (s : Shared) (H : Hp) (C : Addr) (cl : List (Str × Addr)) (fp : List Addr), PG (X.blk s H scope (compEnvC scope cl C X.env) fp) tg (tDG K (bn.map (·.2)) dg)) (ht : ∀ (s : Shared) (H : Hp) (C : Addr) (cl : List (Str × Addr)) (fp : List Addr), PTs (X.blk s H scope (compEnvC scope cl C X.env) fp) ifs (tDT K tt))
    (he : ∀ (s : Shared) (H : Hp) (C : Addr) (cl : List (Str × Addr)) (fp : List Addr), PE (X.blk s H scope (compEnvC scope cl C X.env) fp) elt (tD K te)) (hs : ∀ x, foldedSetIterable iter X.env x = pure x := by intro _; rfl) :
    PS X (.Assign [.Name y py] (.ListComp elt [⟨tg, iter, ifs, 0⟩] scope pos) spos) (tDS K (dSetO i (dLcP j dg tt te (bn.map (·.2))))) := by
  subst hK
  exact dsetO_of (ps_setLc hc hN hy hyl hsw (pi_list hi) ok hg ht he hs) fun σ H Q h => lcP_imp h
/-- for x in xs: .., xs an owned name -/
def ForPG (j : Nat) (dg : DG) (db : DS) (E : DEnds) (en : En) (xs : List D) : Prop := ∀ (a : Addr) (po : Option Addr), en[j]? = some (.ow po (.lst xs)) → ∃ W : Nat → En → Prop, W 0 (en.set j (.rw (.ref a))) ∧
  (∀ i d e, xs[i]? = some d → W i e → dg d e fun e2 => db { nx := W (i + 1), ct := W (i + 1), bk := fun e3 => e3[j]? = some (.rw (.ref a)) ∧ E.nx (e3.set j (.ow po (.lst xs))), rt := fun r e3 => e3[j]? = some (.rw (.ref a)) ∧ E.rt r (e3.set j (.ow po (.lst xs))) } e2) ∧
  ∀ e, W xs.length e → e[j]? = some (.rw (.ref a)) ∧ E.nx (e.set j (.ow po (.lst xs)))
def dForP (j : Nat) (dg : DG) (db : DS) : DS := fun E en => dPeek j (ForPG j dg db E en) en
theorem dforp {iter : Expr} {body : List Stmt} {ws : List Nat} {j : Nat} {dg : DG} (hK : X.K = K) (hp : PassesOwn (model X.prog X.w) X.A X.env X.xe) (hc : X.calm = true) (hi : PE X iter (tVar j)) (hg : PG X tg (tDG K ws dg)) (hb : PSs X body (tDS K d1))
    (hs : ∀ x, foldedSetIterable iter X.env x = pure x := by intro _; rfl) : PS X (.For tg iter body [] pos) (tDS K (dForP j dg d1)) := by
  subst hK
  refine PS.imp (ps_for hp hc (pi_list hi) hg hb hs) fun De σ H ⟨g, F, en, own, E, R, eo, q⟩ => ?_
  obtain ⟨po, xs, he, q⟩ := peek_of q
  obtain ⟨a, vs', hss, hd, hB, h0, sB, hpo, hH, R1⟩ := hold_out R he
  obtain ⟨W, w0, wst, wd⟩ := q a po he
  refine ⟨.ref a, hss, a, rfl, ⟨vs', .inl (.inl hH)⟩, ?_⟩
  have it : ItOk X.K (g.more a (.lst vs')) F (Itl X.K a) xs := itOk_held upd_same hd
  have eo' : EndsOk X.K (g.more a (.lst vs')) F { nx := fun e3 => e3[j]? = some (.rw (.ref a)) ∧ E.nx (e3.set j (.ow po (.lst xs))), rt := fun r e3 => e3[j]? = some (.rw (.ref a)) ∧ E.rt r (e3.set j (.ow po (.lst xs))) } De :=
    ⟨fun en' σ' H' F' own' R' s' ⟨h1, h2⟩ => eo.nx _ _ _ _ _ (hold_in hd hB h0 hpo s' R' h1).1 s' h2, fun r en' v σ' H' F' own' R' s' hr ⟨h1, h2⟩ => eo.rt _ _ _ _ _ _ _ (hold_in hd hB h0 hpo s' R' h1).1 s' (resOk_in hr) h2, fun _ _ _ _ _ _ _ h => h.elim, fun _ _ _ _ _ _ _ h => h.elim⟩
  refine for_turns R1 it eo' w0 (fun i d e h1 h2 => wst i d e h1 h2) wd
end
end PD
namespace PD
open PySem PySem.Spec PyProof.Rows L2
theorem dp_i {d : D} {i : Int} : min d.depth (PyData.int i).depth ≤ 64 := Nat.le_trans (Nat.min_le_right _ _) (by rw [PyData.depth]; decide)
theorem dp_s {d : D} {i : Str} : min d.depth (PyData.str i).depth ≤ 64 := Nat.le_trans (Nat.min_le_right _ _) (by rw [PyData.depth]; decide)
theorem dp_n {d : D} : min d.depth PyData.none.depth ≤ 64 := Nat.le_trans (Nat.min_le_right _ _) (by rw [PyData.depth]; decide)
theorem dp_e {d : D} : min d.depth (PyData.list []).depth ≤ 64 := Nat.le_trans (Nat.min_le_right _ _) (by rw [PyData.depth, PyData.depthAll]; decide)
theorem dp_i' {d : D} {i : Int} : min (PyData.int i).depth d.depth ≤ 64 := Nat.le_trans (Nat.min_le_left _ _) (by rw [PyData.depth]; decide)
theorem dp_s' {d : D} {i : Str} : min (PyData.str i).depth d.depth ≤ 64 := Nat.le_trans (Nat.min_le_left _ _) (by rw [PyData.depth]; decide)
theorem dpa_i {n : Nat} {i : Int} : min n (PyData.int i).depth ≤ 64 := Nat.le_trans (Nat.min_le_right _ _) (by rw [PyData.depth]; decide)
theorem dpa_s {n : Nat} {i : Str} : min n (PyData.str i).depth ≤ 64 := Nat.le_trans (Nat.min_le_right _ _) (by rw [PyData.depth]; decide)
theorem dpa_n {n : Nat} : min n PyData.none.depth ≤ 64 := Nat.le_trans (Nat.min_le_right _ _) (by rw [PyData.depth]; decide)
theorem no1 {en : En} {v : Nat} (h : ∀ p o, en[v]? ≠ some (.ow p o)) : notOwned en [v] := fun w hw => by
  have : w = v := by simpa using hw
  subst this
  exact h
theorem no2 {en : En} {v w : Nat} (h : ∀ p o, en[v]? ≠ some (.ow p o)) (h' : ∀ p o, en[w]? ≠ some (.ow p o)) : notOwned en [v, w] := fun z hz => by
  rcases (by simpa using hz : z = v ∨ z = w) with rfl | rfl
  · exact h
  · exact h'
theorem size_ok {n : Nat} (h : n ≤ 16777216) : n ≤ sizeLine := h
theorem size_lt {n : Nat} (h : n < 16777216) : n < sizeLine := h
end PD
namespace PD
open PySem PySem.Spec PyProof.Rows L2
theorem lc_mapx {α : Type} {xs : List α} {g : α → D} (f : α → D) {en : En} {vs : List Nat} {dg : DG} {te : DE} {Q : Ow → En → Prop} (hno : notOwned en vs) (hl : xs.length ≤ sizeLine)
    (hs : ∀ (i : Nat) (x : α) (N : D → En → Prop), xs[i]? = some x → (∀ e, e = en → N (f x) e) → dg (g x) (wipeE en vs) fun en2 => te en2 fun y en4 => N y (backE en en4 vs)) (hQ : Q (.lst (xs.map f)) en) :
    LcG dg dYes te vs Q (xs.map g) en := by
  refine ⟨fun i acc e => e = en ∧ acc = (xs.take i).map f, ⟨rfl, rfl⟩, ?_, by rw [List.length_map]; exact hl, ?_⟩
  · rintro i d acc e hd _ ⟨rfl, rfl⟩
    obtain ⟨x, hx, rfl⟩ := map_at hd
    refine ⟨hno, ?_⟩
    exact hs i x (fun y e' => e' = e ∧ (xs.take i).map f ++ [y] = (xs.take (i + 1)).map f) hx fun e he => ⟨he, by rw [take_snoc hx, List.map_append]; rfl⟩
  · rintro acc e ⟨rfl, rfl⟩
    rw [List.length_map, List.take_length]
    exact hQ
end PD
namespace PD
open PySem PySem.Spec PyProof.Rows L2
theorem ix_nat {n j : Nat} (h : j < n) : ixN n (j : Int) = some j := by
  unfold ixN
  rw [if_pos (by omega), if_pos (by omega), Int.toNat_natCast]
theorem six_nat {n j : Nat} (h : j < n) : seqIndex? (j : Int) n = some j := (ixN_seq (ix_nat h)).1
theorem perm_out {α : Type} {xs : List α} {k : Nat} (h : k < xs.length) : (xs[k] :: xs.eraseIdx k).Perm xs := by
  rw [List.eraseIdx_eq_take_drop_succ]
  have e : xs.take k ++ xs[k] :: xs.drop (k + 1) = xs := by
    rw [← List.drop_eq_getElem_cons h, List.take_append_drop]
  exact (List.perm_middle.symm).trans (List.Perm.of_eq e)
end PD
namespace PD
open PySem PySem.Spec PyProof.Rows L2
theorem rng0_at {n i : Nat} {d : D} (h : (rng 0 n)[i]? = some d) : i < n ∧ d = .int (i : Nat) := by
  obtain ⟨h1, rfl⟩ := rng_at h
  exact ⟨h1, by rw [Int.zero_add]⟩
end PD
namespace PD
open PySem PySem.Spec PyProof.Rows L2
/-! ### tests known -/
def TIs (t : DT) (en : En) (c : Bool) : Prop := ∀ Q : Bool → En → Prop, Q c en → t en Q
theorem and_of {t u : DT} {en : En} {c d : Bool} (h1 : TIs t en c) (h2 : c = true → TIs u en d) : TIs (dAnd t u) en (c && d) := fun Q q => h1 _ (by
  cases c with
  | true => rw [if_pos rfl]; exact h2 rfl _ q
  | false => rw [if_neg Bool.false_ne_true]; exact q)
theorem or_of {t u : DT} {en : En} {c d : Bool} (h1 : TIs t en c) (h2 : c = false → TIs u en d) : TIs (dOr t u) en (c || d) := fun Q q => h1 _ (by
  cases c with
  | true => rw [if_pos rfl]; exact q
  | false => rw [if_neg Bool.false_ne_true]; exact h2 rfl _ q)
theorem not_of {t : DT} {en : En} {c : Bool} (h1 : TIs t en c) : TIs (dNot t) en (!c) := fun Q q => h1 _ q
theorem ifS_of {t : DT} {d1 d2 : DS} {E : DEnds} {en : En} {c : Bool} (ht : TIs t en c) (h1 : c = true → d1 E en) (h2 : c = false → d2 E en) : dIfS t d1 d2 E en := ht _ (by
  cases c with
  | true => rw [if_pos rfl]; exact h1 rfl
  | false => rw [if_neg Bool.false_ne_true]; exact h2 rfl)
end PD
namespace PD
open PySem PySem.Spec PyProof.Rows L2
/-! ### two owned lists handed on -/
def ent2 (j : Nat) (a : Addr) (o1 : Ow) (b : Addr) (o2 : Ow) : PD.Arg → Ent
  | .fz d => .fz d
  | .sc ns => .sc ns
  | .vr m => if m = j then .ow (some a) o1 else .ow (some b) o2
theorem call_two {post : Post} {args : List PD.Arg} {en : En} {Q : Res → En → Prop} {i1 i2 j k : Nat} {p1 p2 : Option Addr} {o1 o2 : Ow} (h1 : args[i1]? = some (PD.Arg.vr j)) (h2 : args[i2]? = some (PD.Arg.vr k)) (hjk : j ≠ k)
    (hall : ∀ (i m : Nat), args[i]? = some (PD.Arg.vr m) → (i = i1 ∧ m = j) ∨ (i = i2 ∧ m = k)) (he1 : en[j]? = some (.ow p1 o1)) (he2 : en[k]? = some (.ow p2 o2))
    (hp : ∀ a b : Addr, post (args.map (ent2 j a o1 b o2)) fun r as' => ∃ o1' o2', as'[i1]? = some (.ow (some a) o1') ∧ as'[i2]? = some (.ow (some b) o2') ∧ Q r ((en.set j (.ow p1 o1')).set k (.ow p2 o2'))) : callQ args en post Q := by
  have hj : j < en.length := (List.getElem?_eq_some_iff.mp he1).1
  have hk : k < en.length := (List.getElem?_eq_some_iff.mp he2).1
  refine ⟨⟨fun i i' m e e' => ?_, fun i m e => ?_⟩, fun α => ⟨fun r as' => ∃ o1' o2', as'[i1]? = some (.ow (some (α j)) o1') ∧ as'[i2]? = some (.ow (some (α k)) o2') ∧ Q r ((en.set j (.ow p1 o1')).set k (.ow p2 o2')), ?_, fun r as' hr => ?_⟩⟩
  · rcases hall i m e with ⟨a, b⟩ | ⟨a, b⟩ <;> rcases hall i' m e' with ⟨c, d⟩ | ⟨c, d⟩
    · rw [a, c]
    · exact absurd (b.symm.trans d) hjk
    · exact absurd (d.symm.trans b) hjk
    · rw [a, c]
  · rcases hall i m e with ⟨_, rfl⟩ | ⟨_, rfl⟩
    · exact ⟨_, _, he1⟩
    · exact ⟨_, _, he2⟩
  · have e : args.map (entOf α en) = args.map (ent2 j (α j) o1 (α k) o2) := by
      refine List.map_congr_left fun x hx => ?_
      cases x with
      | fz d => rfl
      | sc ns => rfl
      | vr m =>
        obtain ⟨i, hi⟩ := List.mem_iff_getElem?.mp hx
        rcases hall i m hi with ⟨_, rfl⟩ | ⟨_, rfl⟩
        · show (match en[m]? with | some (.ow _ o) => Ent.ow (some (α m)) o | _ => Ent.no) = if m = m then _ else _
          rw [he1, if_pos rfl]
        · show (match en[m]? with | some (.ow _ o) => Ent.ow (some (α m)) o | _ => Ent.no) = if m = j then _ else _
          rw [he2, if_neg (Ne.symm hjk)]
    rw [e]
    exact hp (α j) (α k)
  · obtain ⟨o1', o2', q1, q2, q3⟩ := hr
    refine ⟨_, ⟨by rw [List.length_set, List.length_set], fun i m e => ?_, fun m hm => ?_⟩, q3⟩
    · rcases hall i m e with ⟨rfl, rfl⟩ | ⟨rfl, rfl⟩
      · exact ⟨p1, o1, o1', he1, q1, by rw [List.getElem?_set_ne (Ne.symm hjk), List.getElem?_set_self hj]⟩
      · exact ⟨p2, o2, o2', he2, q2, by rw [List.getElem?_set_self (by rw [List.length_set]; exact hk)]⟩
    · rw [List.getElem?_set_ne (fun e => hm i2 (by rw [← e]; exact h2)), List.getElem?_set_ne (fun e => hm i1 (by rw [← e]; exact h1))]
end PD

namespace K95
open PySem PySem.Spec PyProof.Rows L2 PD
/-! ### the words -/
abbrev BL : Str := PySem.Str.ofString " "
abbrev NL : Str := PySem.Str.ofString "\n"
abbrev DS' : Str := PySem.Str.ofString "-"
abbrev QM : Str := PySem.Str.ofString "?"
abbrev LET : Str := PySem.Str.ofString "abcdefghijklmnopqrstuvwxyz"
structure okItem (z : Str) : Prop where
  lo : 1 ≤ z.length
  hi : z.length ≤ 8
  ab : ∀ c ∈ TL.tl z, 97 ≤ c ∧ c ≤ 122
structure VItems (ys : List Str) : Prop where
  ok : ∀ y ∈ ys, okItem y
  nd : ys.Nodup
  lo : 1 ≤ ys.length
  hi : ys.length ≤ 40
def seenD : Option Str → D
  | none => .none
  | some z => .str z
def seenT : Option Str → Str
  | none => QM
  | some z => z
structure VSeen (ss : List (Option Str)) : Prop where
  ok : ∀ y, some y ∈ ss → okItem y
  nd : ∀ (i j : Nat) (y : Str), ss[i]? = some (some y) → ss[j]? = some (some y) → i = j
  lo : 1 ≤ ss.length
  hi : ss.length ≤ 40
abbrev Ed := Nat × Nat
def okEd (e : Ed) : Prop := e.1 < e.2 ∧ e.2 < 40
def edD (e : Ed) : D := .tuple [.int (e.1 : Nat), .int (e.2 : Nat)]
def edT (e : Ed) : Str := num e.1 ++ DS' ++ num e.2
structure VEdges (es : List Ed) : Prop where
  ok : ∀ e ∈ es, okEd e
  nd : es.Nodup
  hi : es.length ≤ 100
def edgesT (es : List Ed) : Str := if es.isEmpty then DS' else PySem.Str.join BL (es.map edT)
structure VTurn (t : List Nat) : Prop where
  ok : ∀ x ∈ t, x < 40
  nd : t.Nodup
  hi : t.length ≤ 40
def turnD (t : List Nat) : D := .list (t.map fun x => .int (x : Nat))
def turnT (t : List Nat) : Str := if t.isEmpty then DS' else PySem.Str.join BL (t.map num)
structure VTurns (ts : List (List Nat)) : Prop where
  ok : ∀ t ∈ ts, VTurn t
  lo : 1 ≤ ts.length
  hi : ts.length ≤ 40
/-! ### the program's own -/
def isInt (d : D) (lo hi : Int) : Bool := match d with | .int i => decide (lo ≤ i) && decide (i ≤ hi) | _ => false
def post_is_integer : Post := postF fun ds d => ∃ x lo hi, ds = [x, .int lo, .int hi] ∧ d = .bool (isInt x lo hi)
def post_is_edge : Post := postF fun ds d => ∃ e, okEd e ∧ ds = [edD e, .int 40] ∧ d = .bool true
def post_is_item : Post := postF fun ds d => ∃ z, okItem z ∧ ds = [.str z] ∧ d = .bool true
def post_write_items : Post := postF fun ds d => ∃ ys, VItems ys ∧ ds = [.list (ys.map .str)] ∧ d = .str (PySem.Str.join BL ys)
def post_write_seen : Post := postF fun ds d => ∃ ss, VSeen ss ∧ ds = [.list (ss.map seenD)] ∧ d = .str (PySem.Str.join BL (ss.map seenT))
def post_write_edges : Post := postF fun ds d => ∃ es, VEdges es ∧ ds = [.list (es.map edD)] ∧ d = .str (edgesT es)
def post_write_turns : Post := postF fun ds d => ∃ ts, VTurns ts ∧ ds = [.list (ts.map turnD)] ∧ d = .str (PySem.Str.join NL (ts.map turnT))
def post_position_in : Post := postF fun ds d => ∃ n : Nat, n < 40 ∧ ds = [.str (num n)] ∧ d = .int n
def post_edge_in : Post := postF fun ds d => ∃ e, okEd e ∧ ds = [.str (edT e)] ∧ d = edD e
def post_turn_in : Post := postF fun ds d => ∃ t, VTurn t ∧ ds = [.str (turnT t)] ∧ d = turnD t
def post_read_items : Post := postF fun ds d => ∃ ys, VItems ys ∧ ds = [.str (PySem.Str.join BL ys)] ∧ d = .list (ys.map .str)
def post_read_seen : Post := postF fun ds d => ∃ ss, VSeen ss ∧ ds = [.str (PySem.Str.join BL (ss.map seenT))] ∧ d = .list (ss.map seenD)
def post_read_edges : Post := postF fun ds d => ∃ es, VEdges es ∧ ds = [.str (edgesT es)] ∧ d = .list (es.map edD)
def post_read_turns : Post := postF fun ds d => ∃ ts, VTurns ts ∧ ds = [.str (PySem.Str.join NL (ts.map turnT))] ∧ d = .list (ts.map turnD)
/-! ### the law's own source of drawn numbers -/
def VSrc (n : Nat) (xs : List D) : Prop := ∃ a b c : Int, xs = [.int a, .int b, .int c] ∧ 0 ≤ a ∧ 0 ≤ b ∧ b < 10 ^ 40 ∧ 0 ≤ c ∧ c ≤ n
theorem VSrc.mono {m n : Nat} {xs : List D} (h : VSrc m xs) (le : m ≤ n) : VSrc n xs := by
  obtain ⟨a, b, c, e, h1, h2, h3, h4, h5⟩ := h
  exact ⟨a, b, c, e, h1, h2, h3, h4, by omega⟩
def postS (k : Nat) (R : List D → (Res → Prop) → Prop) : Post := fun as W => ∃ p xs n ds G, as = Ent.ow (some p) (.lst xs) :: ds.map Ent.fz ∧ VSrc n xs ∧ n + k ≤ 100000 ∧ R ds G ∧
  ∀ r xs', G r → VSrc (n + k) xs' → W r (Ent.ow (some p) (.lst xs') :: nos ds.length)
theorem pu_S {k : Nat} {R : List D → (Res → Prop) → Prop} {b : DS} {m : Nat} (h : ∀ ds G n xs p, R ds G → VSrc n xs → n + k ≤ 100000 → ∀ E : DEnds, (∀ r en xs', G r → VSrc (n + k) xs' → en[0]? = some (Ent.ow (some p) (.lst xs')) → E.rt r en) →
    b E ((Ent.ow (some p) (.lst xs) :: ds.map Ent.fz) ++ List.replicate (m - (ds.length + 1)) .no)) :
    ∀ as W, postS k R as W → b { nx := exitW as W (.fz .none), rt := exitW as W } (as ++ List.replicate (m - as.length) .no) := by
  rintro as W ⟨p, xs, n, ds, G, rfl, hv, hn, hR, hW⟩
  rw [List.length_cons, List.length_map]
  refine h ds G n xs p hR hv hn _ fun r en xs' hr hx he => ⟨_, hW r xs' hr hx, by simp, fun i e h1 => ?_⟩
  cases i with
  | zero => cases h1; exact .inr ⟨p, _, _, rfl, rfl, he⟩
  | succ i =>
    rw [List.getElem?_cons_succ, List.getElem?_replicate] at h1
    split at h1
    · cases h1; exact .inl rfl
    · cases h1
theorem ln_S {k : Nat} {R : List D → (Res → Prop) → Prop} {n : Nat} (h : ∀ ds G, R ds G → ds.length + 1 = n) : ∀ as W, postS k R as W → as.length = n := by
  rintro as W ⟨p, xs, _, ds, G, rfl, hv, hn, hR, hW⟩
  rw [List.length_cons, List.length_map]
  exact h ds G hR
theorem callS {k : Nat} {R : List D → (Res → Prop) → Prop} {j n : Nat} {args : List PD.Arg} {ds : List D} {en : En} {p : Option Addr} {xs : List D} {G : Res → Prop} {Q : Res → En → Prop} (he : en[j]? = some (.ow p (.lst xs))) (h : fzs args = some ds)
    (hR : R ds G) (hv : VSrc n xs) (hn : n + k ≤ 100000) (hQ : ∀ r xs', G r → VSrc (n + k) xs' → Q r (en.set j (.ow p (.lst xs')))) : callQ (.vr j :: args) en (postS k R) Q :=
  call_own he h fun a => ⟨a, xs, n, ds, G, rfl, hv, hn, hR, fun r xs' hr hx => ⟨.lst xs', rfl, hQ r xs' hr hx⟩⟩
def post__law_source : Post := fun as W => ∃ (ns : List Int) (k : Nat), as = [.sc ns, .fz (.int k)] ∧ k ≤ 63 ∧ ∀ xs, VSrc 0 xs → W (.ow (.lst xs)) [.no, .no]
def post__law_pick : Post := postS 1 fun ds G => ∃ m : Nat, 0 < m ∧ m ≤ 1000 ∧ ds = [.int m] ∧ G = fun r => ∃ x : Nat, x < m ∧ r = .fz (.int x)
def post__law_shuffled : Post := postS 100 fun ds G => ∃ xs : List D, xs.length ≤ 100 ∧ ds = [.list xs] ∧ G = fun r => ∃ ys, ys.Perm xs ∧ r = .ow (.lst ys)
def post__law_names : Post := postS 200 fun ds G => ∃ m : Nat, 1 ≤ m ∧ m ≤ 40 ∧ ds = [.int m] ∧ G = fun r => ∃ ys, VItems ys ∧ r = .ow (.lst (ys.map .str))
def allPairs (s : Nat) : List Ed := (List.range s).flatMap fun p => (List.range (s - (p + 1))).map fun q => (p, p + 1 + q)
def post__law_all_pairs : Post := postFO fun ds xs => ∃ s : Nat, s ≤ 40 ∧ ds = [.int s] ∧ xs = (allPairs s).map edD
def post__law_pairs : Post := postS 200 fun ds G => ds = [.int 100] ∧ G = fun r => ∃ es, VEdges es ∧ r = .ow (.lst (es.map edD))
/-- what a row may be, by its door, with its text -/
def VRow (door : Nat) (xs : List D) (pg : Str) : Prop :=
  (door = 0 ∧ ∃ ys, VItems ys ∧ xs = ys.map .str ∧ pg = PySem.Str.join BL ys) ∨ (door = 1 ∧ ∃ ss, VSeen ss ∧ xs = ss.map seenD ∧ pg = PySem.Str.join BL (ss.map seenT)) ∨
  (door = 2 ∧ ∃ es, VEdges es ∧ xs = es.map edD ∧ pg = edgesT es) ∨ (door = 3 ∧ ∃ ts, VTurns ts ∧ xs = ts.map turnD ∧ pg = PySem.Str.join NL (ts.map turnT))
def mostOf (door : Nat) : Nat := if door = 2 then 100 else 40
def NewOk (door : Nat) (d : D) : Prop := (door ≤ 1 ∧ ∃ z, okItem z ∧ d = .str z) ∨ (door = 2 ∧ ∃ e, okEd e ∧ d = edD e) ∨ (door = 3 ∧ ∃ t, VTurn t ∧ d = turnD t)
def post__law_change : Post := fun as W => ∃ p q src row n door new pg, as = [.ow (some p) (.lst src), .ow (some q) (.lst row), .fz (.int (mostOf door : Nat)), .fz new] ∧ VSrc n src ∧ n + 3 ≤ 100000 ∧ VRow door row pg ∧ NewOk door new ∧
  ∀ src' row' pg', VSrc (n + 3) src' → VRow door row' pg' → W (.fz .none) [.ow (some p) (.lst src'), .ow (some q) (.lst row'), .no, .no]
def post__law_page : Post := postF fun ds d => ∃ (door : Nat) (xs : List D) (pg : Str), VRow door xs pg ∧ ds = [.int door, .list xs] ∧ d = .str pg
def post__law_written : Post := postF fun ds d => ∃ (door : Nat) (xs : List D) (pg : Str), VRow door xs pg ∧ ds = [.int door, .list xs] ∧ d = .str pg
def post__law_read : Post := postF fun ds d => ∃ (door : Nat) (xs : List D) (pg : Str), VRow door xs pg ∧ ds = [.int door, .str pg] ∧ d = .list xs
def post__law_new : Post := postS 100 fun ds G => ∃ door : Nat, door ≤ 3 ∧ ds = [.int door] ∧ G = fun r => ∃ d, NewOk door d ∧ r = .fz d
def post__law_right : Post := fun as W => ∃ p q src row n door pg, as = [.ow (some p) (.lst src), .fz (.int (door : Nat)), .ow (some q) (.lst row), .fz (.int (mostOf door : Nat))] ∧ VSrc n src ∧ n + 2000 ≤ 100000 ∧ VRow door row pg ∧
  ∀ src' row', VSrc (n + 2000) src' → W (.fz (.bool true)) [.ow (some p) (.lst src'), .no, .ow (some q) (.lst row'), .no]
def post_law : Post := postLaw
end K95

namespace K95
open PySem PySem.Spec PyProof.Rows L2 PD
/- is_integer(thing, least, most): slots ['thing', 'least', 'most']; owned [] -/
def b_is_integer : DS :=
  (dRet (dAndV (dIsI .int (dVar 0)) (dAndV (dNotV (dIsI .bool (dVar 0))) (dChain wLe wLe (dVar 1) (dVar 0) (dVar 2)))))
/- is_edge(thing, size): slots ['thing', 'size', 'one']; owned [] -/
def b_is_edge_1 : DS :=
  (dRet (dOp wLt (dOp wIx (dVar 0) (dC (.int 0))) (dOp wIx (dVar 0) (dC (.int 1)))))
def b_is_edge : DS :=
  (dSeq (dIfS (dOr (dNot (dTru (dIsI .tuple (dVar 0)))) (dOr (dBl (dOp wNe (dCl wLen (dConsA (dVar 0) dNilA)) (dC (.int 2)))) (dNot (dTru (dCl wAll (dConsA (dFr (dLc (dItT (dVar 0)) (dgN 2) dYes (dCall (dConsB (dVar 2) (dConsB (dC (.int 0)) (dConsB (dOp wSub (dVar 1) (dC (.int 1))) dNilB))) post_is_integer) [2])) dNilA))))))
  (dRet (dC (.bool false)))
  dNext) b_is_edge_1)
/- is_item(thing): slots ['thing', 'letter']; owned [] -/
def b_is_item_1 : DS :=
  (dRet (dCl wAll (dConsA (dFr (dLc (dItS (dVar 0)) (dgN 1) dYes (dOp wIn (dVar 1) (dC (.str (PySem.Str.ofString "abcdefghijklmnopqrstuvwxyz")))) [1])) dNilA)))
def b_is_item : DS :=
  (dSeq (dIfS (dOr (dNot (dTru (dIsI .str (dVar 0)))) (dNot (dBl (dChain wLe wLe (dC (.int 1)) (dCl wLen (dConsA (dVar 0) dNilA)) (dC (.int 8))))))
  (dRet (dC (.bool false)))
  dNext) b_is_item_1)
/- write_items(items): slots ['items']; owned [] -/
def b_write_items : DS :=
  (dRet (dSm wJoin (dC (.str (PySem.Str.ofString " "))) (dVar 0)))
/- write_seen(seen): slots ['seen', 'item']; owned [] -/
def b_write_seen : DS :=
  (dRet (dSm wJoin (dC (.str (PySem.Str.ofString " "))) (dFr (dLc (dItL (dVar 0)) (dgN 1) dYes (dIf (dBl (dOp wIs (dVar 1) (dC .none))) (dC (.str (PySem.Str.ofString "?"))) (dVar 1)) [1]))))
/- write_edges(edges): slots ['edges', 'first', 'second']; owned [] -/
def b_write_edges : DS :=
  (dRet (dIf (dBl (dOp wNe (dVar 0) (dFr (dLst dNilA)))) (dSm wJoin (dC (.str (PySem.Str.ofString " "))) (dFr (dLc (dItL (dVar 0)) (dgTup 2 (dgCons (dgN 1) (dgCons (dgN 2) dgNil))) dYes (dJoined [(dFmt (dVar 1)), (dFmt (dC (.str (PySem.Str.ofString "-")))), (dFmt (dVar 2))]) [1, 2]))) (dC (.str (PySem.Str.ofString "-")))))
/- write_turns(turns): slots ['turns', 'lines', 'turn', 'position']; owned ['lines'] -/
def b_write_turns_1 : DS :=
  (dRet (dSm wJoin (dC (.str (PySem.Str.ofString "\n"))) (dVar 1)))
def b_write_turns_2 : DS :=
  (dSeq (dFor (dItL (dVar 0)) (dgN 2)
  (dDrop (dMl wAppend 1 (dConsA (dIf (dBl (dOp wNe (dVar 2) (dFr (dLst dNilA)))) (dSm wJoin (dC (.str (PySem.Str.ofString " "))) (dFr (dLc (dItL (dVar 2)) (dgN 3) dYes (dCl wStr (dConsA (dVar 3) dNilA)) [3]))) (dC (.str (PySem.Str.ofString "-")))) dNilA)))) b_write_turns_1)
def b_write_turns : DS :=
  (dSeq (dSetO 1 (dLst dNilA)) b_write_turns_2)
/- position_in(word): slots ['word', 'sign']; owned [] -/
def b_position_in_1 : DS :=
  (dRet (dIf (dAnd (dBl (dOp wEq (dVar 0) (dCl wStr (dConsA (dCl wInt (dConsA (dVar 0) dNilA)) dNilA)))) (dBl (dOp wLt (dCl wInt (dConsA (dVar 0) dNilA)) (dC (.int 40))))) (dCl wInt (dConsA (dVar 0) dNilA)) (dC .none)))
def b_position_in : DS :=
  (dSeq (dIfS (dOr (dBl (dOp wEq (dVar 0) (dC (.str (PySem.Str.ofString ""))))) (dOr (dBl (dOp wGt (dCl wLen (dConsA (dVar 0) dNilA)) (dCl wLen (dConsA (dCl wStr (dConsA (dC (.int 40)) dNilA)) dNilA)))) (dNot (dTru (dCl wAll (dConsA (dFr (dLc (dItS (dVar 0)) (dgN 1) dYes (dOp wIn (dVar 1) (dC (.str (PySem.Str.ofString "0123456789")))) [1])) dNilA))))))
  (dRet (dC .none))
  dNext) b_position_in_1)
/- edge_in(word): slots ['word', 'edge', 'first', 'joint', 'second']; owned [] -/
def b_edge_in_1 : DS :=
  (dRet (dIf (dTru (dCall (dConsB (dVar 1) (dConsB (dC (.int 40)) dNilB)) post_is_edge)) (dVar 1) (dC .none)))
def b_edge_in_2 : DS :=
  (dSeq (dSet 1 (dTup (dConsA (dCall (dConsB (dVar 2) dNilB) post_position_in) (dConsA (dCall (dConsB (dVar 4) dNilB) post_position_in) dNilA)))) b_edge_in_1)
def b_edge_in : DS :=
  (dSeq (dAsg (dSm wPart (dVar 0) (dC (.str (PySem.Str.ofString "-")))) (dgTup 3 (dgCons (dgN 2) (dgCons (dgN 3) (dgCons (dgN 4) dgNil))))) b_edge_in_2)
/- turn_in(line): slots ['line', 'found', 'word']; owned [] -/
def b_turn_in_1 : DS :=
  (dRet (dIf (dAnd (dBl (dOp wNotIn (dC .none) (dVar 1))) (dBl (dOp wEq (dLenSet (dVar 1)) (dCl wLen (dConsA (dVar 1) dNilA))))) (dVar 1) (dC .none)))
def b_turn_in_2 : DS :=
  (dSeq (dSet 1 (dFr (dLc (dItL (dFr (dSmO wSplit (dVar 0) (dC (.str (PySem.Str.ofString " ")))))) (dgN 2) dYes (dCall (dConsB (dVar 2) dNilB) post_position_in) [2]))) b_turn_in_1)
def b_turn_in : DS :=
  (dSeq (dIfS (dBl (dOp wEq (dVar 0) (dC (.str (PySem.Str.ofString "-")))))
  (dRet (dFr (dLst dNilA)))
  dNext) b_turn_in_2)
/- read_items(text): slots ['text', 'found', 'number', 'word']; owned ['found'] -/
def b_read_items_1 : DS :=
  (dDrop (dMl wAppend 1 (dConsA (dVar 3) dNilA)))
def b_read_items_2 : DS :=
  (dRet (dVar 1))
def b_read_items_3 : DS :=
  (dSeq (dFor (dEnum (dConsA (dFr (dSmO wSplit (dVar 0) (dC (.str (PySem.Str.ofString " "))))) dNilA)) (dgTup 2 (dgCons (dgN 2) (dgCons (dgN 3) dgNil)))
  (dSeq (dIfS (dOr (dBl (dOp wEq (dVar 2) (dC (.int 40)))) (dOr (dNot (dTru (dCall (dConsB (dVar 3) dNilB) post_is_item))) (dBorT (dBl (dOp wIn (dVar 3) (dVar 1))))))
  dNever
  dNext) b_read_items_1)) b_read_items_2)
def b_read_items : DS :=
  (dSeq (dSetO 1 (dLst dNilA)) b_read_items_3)
/- read_seen(text): slots ['text', 'found', 'number', 'word']; owned ['found'] -/
def b_read_seen_1 : DS :=
  (dDrop (dMl wAppend 1 (dConsA (dIf (dBl (dOp wEq (dVar 3) (dC (.str (PySem.Str.ofString "?"))))) (dC .none) (dVar 3)) dNilA)))
def b_read_seen_2 : DS :=
  (dRet (dVar 1))
def b_read_seen_3 : DS :=
  (dSeq (dFor (dEnum (dConsA (dFr (dSmO wSplit (dVar 0) (dC (.str (PySem.Str.ofString " "))))) dNilA)) (dgTup 2 (dgCons (dgN 2) (dgCons (dgN 3) dgNil)))
  (dSeq (dIfS (dOr (dBl (dOp wEq (dVar 2) (dC (.int 40)))) (dAnd (dBl (dOp wNe (dVar 3) (dC (.str (PySem.Str.ofString "?"))))) (dOr (dNot (dTru (dCall (dConsB (dVar 3) dNilB) post_is_item))) (dBorT (dBl (dOp wIn (dVar 3) (dVar 1)))))))
  dNever
  dNext) b_read_seen_1)) b_read_seen_2)
def b_read_seen : DS :=
  (dSeq (dSetO 1 (dLst dNilA)) b_read_seen_3)
/- read_edges(text): slots ['text', 'words', 'found', 'number', 'word', 'edge']; owned ['found'] -/
def b_read_edges_1 : DS :=
  (dRet (dFr (dLst dNilA)))
def b_read_edges_2 : DS :=
  (dDrop (dMl wAppend 2 (dConsA (dVar 5) dNilA)))
def b_read_edges_3 : DS :=
  (dSeq (dIfS (dOr (dBl (dOp wEq (dVar 3) (dC (.int 100)))) (dOr (dBl (dOp wIs (dVar 5) (dC .none))) (dBorT (dBl (dOp wIn (dVar 5) (dVar 2))))))
  dNever
  dNext) b_read_edges_2)
def b_read_edges_4 : DS :=
  (dRet (dVar 2))
def b_read_edges_5 : DS :=
  (dSeq (dFor (dEnum (dConsA (dVar 1) dNilA)) (dgTup 2 (dgCons (dgN 3) (dgCons (dgN 4) dgNil)))
  (dSeq (dSet 5 (dCall (dConsB (dVar 4) dNilB) post_edge_in)) b_read_edges_3)) b_read_edges_4)
def b_read_edges_6 : DS :=
  (dSeq (dSetO 2 (dLst dNilA)) b_read_edges_5)
def b_read_edges_7 : DS :=
  (dSeq (dIfS (dBl (dOp wEq (dOp wIx (dVar 1) (dC (.int 0))) (dC (.str (PySem.Str.ofString "-")))))
  (dSeq (dIfS (dBl (dOp wGt (dCl wLen (dConsA (dVar 1) dNilA)) (dC (.int 1))))
  dNever
  dNext) b_read_edges_1)
  dNext) b_read_edges_6)
def b_read_edges : DS :=
  (dSeq (dSet 1 (dFr (dSmO wSplit (dVar 0) (dC (.str (PySem.Str.ofString " ")))))) b_read_edges_7)
/- read_turns(text): slots ['text', 'found', 'number', 'line', 'turn']; owned ['found'] -/
def b_read_turns_1 : DS :=
  (dDrop (dMl wAppend 1 (dConsA (dVar 4) dNilA)))
def b_read_turns_2 : DS :=
  (dSeq (dIfS (dOr (dBl (dOp wEq (dVar 2) (dC (.int 40)))) (dBl (dOp wIs (dVar 4) (dC .none))))
  dNever
  dNext) b_read_turns_1)
def b_read_turns_3 : DS :=
  (dRet (dVar 1))
def b_read_turns_4 : DS :=
  (dSeq (dFor (dEnum (dConsA (dFr (dSmO wSplit (dVar 0) (dC (.str (PySem.Str.ofString "\n"))))) dNilA)) (dgTup 2 (dgCons (dgN 2) (dgCons (dgN 3) dgNil)))
  (dSeq (dSet 4 (dCall (dConsB (dVar 3) dNilB) post_turn_in)) b_read_turns_2)) b_read_turns_3)
def b_read_turns : DS :=
  (dSeq (dSetO 1 (dLst dNilA)) b_read_turns_4)
/- _law_source(script, k): slots ['script', 'k', 'cell']; owned [] ; gives an owned list -/
def b__law_source_1 : DS :=
  (dRetO (dLst (dConsA (dCl wMax2 (dConsA (dC (.int 0)) (dConsA (dOp wSub (dCl wAbs (dConsA (dVar 2) dNilA)) (dOp wPow (dC (.int 10)) (dC (.int 18)))) dNilA))) (dConsA (dOp wAdd (dOp wAdd (dOp wMul (dOp wMod (dCl wAbs (dConsA (dVar 2) dNilA)) (dOp wAdd (dOp wPow (dC (.int 10)) (dC (.int 36))) (dC (.int 67)))) (dC (.int 128))) (dVar 1)) (dC (.int 5))) (dConsA (dC (.int 0)) dNilA)))))
def b__law_source : DS :=
  (dSeq (dSet 2 (dIf (dBl (dOp wLt (dVar 1) (dLenS 0))) (dIxS 0 (dVar 1)) (dC (.int 0)))) b__law_source_1)
/- _law_pick(source, count): slots ['source', 'count', 'mixed', 'found']; owned ['source'] -/
def b__law_pick_1 : DS :=
  (dRet (dVar 3))
def b__law_pick_2 : DS :=
  (dSeq (dAsg (dOp wDiv (dIxP 0 (dC (.int 0))) (dVar 1)) (dgSub 0 (dC (.int 0)))) b__law_pick_1)
def b__law_pick_3 : DS :=
  (dRet (dOp wMod (dOp wDiv (dVar 2) (dC (.int 131071))) (dVar 1)))
def b__law_pick_4 : DS :=
  (dSeq (dSet 2 (dOp wMod (dOp wPow (dOp wAdd (dVar 2) (dOp wMul (dC (.int 32452843)) (dIxP 0 (dC (.int 2))))) (dC (.int 3))) (dOp wAdd (dOp wPow (dC (.int 10)) (dC (.int 37))) (dC (.int 43))))) b__law_pick_3)
def b__law_pick_5 : DS :=
  (dSeq (dSet 2 (dOp wMod (dOp wPow (dOp wAdd (dIxP 0 (dC (.int 1))) (dOp wMul (dC (.int 49979687)) (dIxP 0 (dC (.int 2))))) (dC (.int 3))) (dOp wAdd (dOp wPow (dC (.int 10)) (dC (.int 38))) (dC (.int 133))))) b__law_pick_4)
def b__law_pick_6 : DS :=
  (dSeq (dAsg (dOp wAdd (dIxP 0 (dC (.int 2))) (dC (.int 1))) (dgSub 0 (dC (.int 2)))) b__law_pick_5)
def b__law_pick : DS :=
  (dSeq (dIfS (dBorT (dBl (dOp wGt (dOp wIx (dVar 0) (dC (.int 0))) (dC (.int 0)))))
  (dSeq (dSet 3 (dOp wMod (dIxP 0 (dC (.int 0))) (dVar 1))) b__law_pick_2)
  dNext) b__law_pick_6)
/- _law_shuffled(source, row): slots ['source', 'row', 'left', 'k']; owned ['left', 'source'] ; gives an owned list -/
def b__law_shuffled_1 : DS :=
  (dRetO (dLc (dRng1 (dConsA (dCl wLen (dConsA (dVar 1) dNilA)) dNilA)) (dgN 3) dYes (dMl wPopAt 2 (dConsA (dCall (dRefB 0 (dConsB (dLenP 2) dNilB)) post__law_pick) dNilA)) [3]))
def b__law_shuffled : DS :=
  (dSeq (dSetO 2 (dClO wListO (dConsA (dVar 1) dNilA))) b__law_shuffled_1)
/- _law_names(source, size): slots ['source', 'size', 'letters', 'style', 'found', 'k', 'tail']; owned ['found', 'source'] ; gives an owned list -/
def b__law_names_1 : DS :=
  (dDrop (dMl wAppend 4 (dConsA (dOp wIx (dFr (dLst (dConsA (dVar 6) (dConsA (dOp wAdd (dC (.str (PySem.Str.ofString "abcdef"))) (dVar 6)) (dConsA (dOp wRepS (dOp wIx (dVar 2) (dOp wMod (dVar 5) (dC (.int 26)))) (dOp wAdd (dC (.int 1)) (dOp wDiv (dVar 5) (dC (.int 26))))) dNilA))))) (dVar 3)) dNilA)))
def b__law_names_2 : DS :=
  (dRetO (dCallO (dRefB 0 (dConsB (dVar 4) dNilB)) post__law_shuffled))
def b__law_names_3 : DS :=
  (dSeq (dFor (dRng1 (dConsA (dVar 1) dNilA)) (dgN 5)
  (dSeq (dSet 6 (dOp wAdd (dOp wIx (dVar 2) (dOp wDiv (dVar 5) (dC (.int 26)))) (dOp wIx (dVar 2) (dOp wMod (dVar 5) (dC (.int 26)))))) b__law_names_1)) b__law_names_2)
def b__law_names_4 : DS :=
  (dSeq (dSetO 4 (dLst dNilA)) b__law_names_3)
def b__law_names_5 : DS :=
  (dSeq (dSet 3 (dCall (dRefB 0 (dConsB (dC (.int 3)) dNilB)) post__law_pick)) b__law_names_4)
def b__law_names : DS :=
  (dSeq (dSet 2 (dC (.str (PySem.Str.ofString "abcdefghijklmnopqrstuvwxyz")))) b__law_names_5)
/- _law_all_pairs(span): slots ['span', 'found', 'p', 'q']; owned ['found'] ; gives an owned list -/
def b__law_all_pairs_1 : DS :=
  (dRetO (dVarO 1))
def b__law_all_pairs_2 : DS :=
  (dSeq (dFor (dRng1 (dConsA (dVar 0) dNilA)) (dgN 2)
  (dDrop (dMl wExtend 1 (dConsA (dFr (dLc (dRng2 (dConsA (dOp wAdd (dVar 2) (dC (.int 1))) (dConsA (dVar 0) dNilA))) (dgN 3) dYes (dTup (dConsA (dVar 2) (dConsA (dVar 3) dNilA))) [3])) dNilA)))) b__law_all_pairs_1)
def b__law_all_pairs : DS :=
  (dSeq (dSetO 1 (dLst dNilA)) b__law_all_pairs_2)
/- _law_pairs(source, most): slots ['source', 'most', 'span', 'left', 'count', 'k']; owned ['left', 'source'] ; gives an owned list -/
def b__law_pairs_1 : DS :=
  (dRetO (dLc (dRng1 (dConsA (dVar 4) dNilA)) (dgN 5) dYes (dMl wPopAt 3 (dConsA (dCall (dRefB 0 (dConsB (dLenP 3) dNilB)) post__law_pick) dNilA)) [5]))
def b__law_pairs_2 : DS :=
  (dSeq (dSet 4 (dCl wMin2 (dConsA (dLenP 3) (dConsA (dOp wIx (dFr (dLst (dConsA (dC (.int 0)) (dConsA (dC (.int 1)) (dConsA (dCall (dRefB 0 (dConsB (dC (.int 6)) dNilB)) post__law_pick) (dConsA (dCall (dRefB 0 (dConsB (dOp wAdd (dVar 1) (dC (.int 1))) dNilB)) post__law_pick) (dConsA (dVar 1) dNilA))))))) (dCall (dRefB 0 (dConsB (dC (.int 5)) dNilB)) post__law_pick)) dNilA)))) b__law_pairs_1)
def b__law_pairs_3 : DS :=
  (dSeq (dSetO 3 (dCallO (dConsB (dVar 2) dNilB) post__law_all_pairs)) b__law_pairs_2)
def b__law_pairs : DS :=
  (dSeq (dSet 2 (dOp wIx (dFr (dLst (dConsA (dC (.int 2)) (dConsA (dC (.int 6)) (dConsA (dC (.int 40)) dNilA))))) (dCall (dRefB 0 (dConsB (dC (.int 3)) dNilB)) post__law_pick))) b__law_pairs_3)
/- _law_change(source, row, most, new): slots ['source', 'row', 'most', 'new', 'way', 'at', 'to', 'one', 'two']; owned ['row', 'source'] -/
def b__law_change_1 : DS :=
  (dAsg (dTup (dConsA (dIxP 1 (dVar 8)) (dConsA (dIxP 1 (dVar 7)) dNilA))) (dgTup 2 (dgCons (dgSub 1 (dVar 7)) (dgCons (dgSub 1 (dVar 8)) dgNil))))
def b__law_change_2 : DS :=
  (dIfS (dAnd (dBl (dOp wEq (dVar 4) (dC (.int 0)))) (dAnd (dBorT (dBl (dOp wLt (dCl wLen (dConsA (dVar 1) dNilA)) (dVar 2)))) (dBorT (dBl (dOp wNotIn (dVar 3) (dVar 1))))))
  (dDrop (dMl wInsert 1 (dConsA (dVar 5) (dConsA (dVar 3) dNilA))))
  (dIfS (dAnd (dBl (dOp wEq (dVar 4) (dC (.int 1)))) (dBorT (dBl (dOp wGt (dCl wLen (dConsA (dVar 1) dNilA)) (dC (.int 1))))))
  (dDrop (dMl wPopAt 1 (dConsA (dCl wMin2 (dConsA (dVar 5) (dConsA (dOp wSub (dLenP 1) (dC (.int 1))) dNilA))) dNilA)))
  (dIfS (dAnd (dBl (dOp wEq (dVar 4) (dC (.int 2)))) (dAnd (dBorT (dBl (dOp wGt (dCl wLen (dConsA (dVar 1) dNilA)) (dC (.int 0))))) (dBorT (dBl (dOp wNotIn (dVar 3) (dVar 1))))))
  (dAsg (dVar 3) (dgSub 1 (dCl wMin2 (dConsA (dVar 5) (dConsA (dOp wSub (dLenP 1) (dC (.int 1))) dNilA)))))
  (dIfS (dBorT (dBl (dOp wGt (dCl wLen (dConsA (dVar 1) dNilA)) (dC (.int 0)))))
  (dSeq (dPar 7 8 (dConsA (dCl wMin2 (dConsA (dVar 5) (dConsA (dOp wSub (dLenP 1) (dC (.int 1))) dNilA))) (dConsA (dCl wMin2 (dConsA (dVar 6) (dConsA (dOp wSub (dLenP 1) (dC (.int 1))) dNilA))) dNilA))) b__law_change_1)
  dNext))))
def b__law_change_3 : DS :=
  (dSeq (dSet 4 (dCall (dRefB 0 (dConsB (dC (.int 4)) dNilB)) post__law_pick)) b__law_change_2)
def b__law_change : DS :=
  (dSeq (dPar 5 6 (dConsA (dCall (dRefB 0 (dConsB (dOp wAdd (dLenP 1) (dC (.int 1))) dNilB)) post__law_pick) (dConsA (dCall (dRefB 0 (dConsB (dOp wAdd (dLenP 1) (dC (.int 1))) dNilB)) post__law_pick) dNilA))) b__law_change_3)
/- _law_page(door, row): slots ['door', 'row', 'part', 'name', 'one', 'two', 'spot']; owned [] -/
def b__law_page_1 : DS :=
  (dRet (dSm wJoin (dC (.str (PySem.Str.ofString "\n"))) (dFr (dLc (dItL (dVar 1)) (dgN 2) dYes (dIf (dBl (dOp wEq (dCl wLen (dConsA (dVar 2) dNilA)) (dC (.int 0)))) (dC (.str (PySem.Str.ofString "-"))) (dSm wJoin (dC (.str (PySem.Str.ofString " "))) (dFr (dLc (dItL (dVar 2)) (dgN 6) dYes (dCl wStr (dConsA (dVar 6) dNilA)) [6])))) [2]))))
def b__law_page_2 : DS :=
  (dSeq (dIfS (dBl (dOp wEq (dVar 0) (dC (.int 2))))
  (dRet (dIf (dBl (dOp wGt (dCl wLen (dConsA (dVar 1) dNilA)) (dC (.int 0)))) (dSm wJoin (dC (.str (PySem.Str.ofString " "))) (dFr (dLc (dItL (dVar 1)) (dgTup 2 (dgCons (dgN 4) (dgCons (dgN 5) dgNil))) dYes (dOp wAdd (dOp wAdd (dCl wStr (dConsA (dVar 4) dNilA)) (dC (.str (PySem.Str.ofString "-")))) (dCl wStr (dConsA (dVar 5) dNilA))) [4, 5]))) (dC (.str (PySem.Str.ofString "-")))))
  dNext) b__law_page_1)
def b__law_page_3 : DS :=
  (dSeq (dIfS (dBl (dOp wEq (dVar 0) (dC (.int 1))))
  (dRet (dSm wJoin (dC (.str (PySem.Str.ofString " "))) (dFr (dLc (dItL (dVar 1)) (dgN 3) dYes (dIf (dBl (dOp wIs (dVar 3) (dC .none))) (dC (.str (PySem.Str.ofString "?"))) (dVar 3)) [3]))))
  dNext) b__law_page_2)
def b__law_page : DS :=
  (dSeq (dIfS (dBl (dOp wEq (dVar 0) (dC (.int 0))))
  (dRet (dSm wJoin (dC (.str (PySem.Str.ofString " "))) (dVar 1)))
  dNext) b__law_page_3)
/- _law_written(door, row): slots ['door', 'row']; owned [] -/
def b__law_written_1 : DS :=
  (dRet (dIf (dBl (dOp wEq (dVar 0) (dC (.int 2)))) (dCall (dConsB (dVar 1) dNilB) post_write_edges) (dCall (dConsB (dVar 1) dNilB) post_write_turns)))
def b__law_written : DS :=
  (dSeq (dIfS (dBl (dOp wLt (dVar 0) (dC (.int 2))))
  (dRet (dIf (dBl (dOp wEq (dVar 0) (dC (.int 0)))) (dCall (dConsB (dVar 1) dNilB) post_write_items) (dCall (dConsB (dVar 1) dNilB) post_write_seen)))
  dNext) b__law_written_1)
/- _law_read(door, page): slots ['door', 'page']; owned [] -/
def b__law_read_1 : DS :=
  (dRet (dIf (dBl (dOp wEq (dVar 0) (dC (.int 2)))) (dCall (dConsB (dVar 1) dNilB) post_read_edges) (dCall (dConsB (dVar 1) dNilB) post_read_turns)))
def b__law_read : DS :=
  (dSeq (dIfS (dBl (dOp wLt (dVar 0) (dC (.int 2))))
  (dRet (dIf (dBl (dOp wEq (dVar 0) (dC (.int 0)))) (dCall (dConsB (dVar 1) dNilB) post_read_items) (dCall (dConsB (dVar 1) dNilB) post_read_seen)))
  dNext) b__law_read_1)
/- _law_new(source, door): slots ['source', 'door', 'letters', 'name', 'one', 'pair', 'part', 'spot']; owned ['source'] -/
def b__law_new_1 : DS :=
  (dRet (dOp wIx (dFr (dLst (dConsA (dVar 3) (dConsA (dVar 3) (dConsA (dVar 5) (dConsA (dVar 6) dNilA)))))) (dVar 1)))
def b__law_new_2 : DS :=
  (dSeq (dSet 6 (dFr (dLc (dRng1 (dConsA (dC (.int 40)) dNilA)) (dgN 7) (dBl (dOp wEq (dCall (dRefB 0 (dConsB (dC (.int 9)) dNilB)) post__law_pick) (dC (.int 0)))) (dVar 7) [7]))) b__law_new_1)
def b__law_new_3 : DS :=
  (dSeq (dSet 5 (dTup (dConsA (dVar 4) (dConsA (dOp wAdd (dOp wAdd (dVar 4) (dC (.int 1))) (dCall (dRefB 0 (dConsB (dOp wSub (dC (.int 39)) (dVar 4)) dNilB)) post__law_pick)) dNilA)))) b__law_new_2)
def b__law_new_4 : DS :=
  (dSeq (dSet 4 (dCall (dRefB 0 (dConsB (dC (.int 39)) dNilB)) post__law_pick)) b__law_new_3)
def b__law_new_5 : DS :=
  (dSeq (dSet 3 (dOp wAdd (dOp wAdd (dOp wIx (dVar 2) (dCall (dRefB 0 (dConsB (dC (.int 26)) dNilB)) post__law_pick)) (dC (.str (PySem.Str.ofString "q")))) (dOp wIx (dVar 2) (dCall (dRefB 0 (dConsB (dC (.int 26)) dNilB)) post__law_pick)))) b__law_new_4)
def b__law_new : DS :=
  (dSeq (dSet 2 (dC (.str (PySem.Str.ofString "abcdefghijklmnopqrstuvwxyz")))) b__law_new_5)
/- _law_right(source, door, row, most): slots ['source', 'door', 'row', 'most', 'past', 'spin', 'due', 'kept', 'page', 'found', 'text', 'value', 'then', 'copy']; owned ['past', 'row', 'source'] -/
def b__law_right_1 : DS :=
  (dIfS (dAnd (dBl (dOp wEq (dVar 1) (dC (.int 3)))) (dAnd (dBorT (dBl (dOp wGt (dCl wLen (dConsA (dOp wIx (dVar 2) (dC (.int 0))) dNilA)) (dC (.int 0))))) (dBl (dOp wEq (dCall (dRefB 0 (dConsB (dC (.int 2)) dNilB)) post__law_pick) (dC (.int 0))))))
  (dAsg (dFr (dSlL (dIxP 2 (dC (.int 0))) (dPart (dC (.int 1))) dNoPart)) (dgSub 2 (dC (.int 0))))
  dNext)
def b__law_right_2 : DS :=
  (dSeq (dIfS (dAnd (dBl (dOp wEq (dVar 1) (dC (.int 1)))) (dBl (dOp wEq (dCall (dRefB 0 (dConsB (dC (.int 2)) dNilB)) post__law_pick) (dC (.int 0)))))
  (dAsg (dC .none) (dgSub 2 (dCall (dRefB 0 (dConsB (dLenP 2) dNilB)) post__law_pick)))
  dNext) b__law_right_1)
def b__law_right_3 : DS :=
  (dSeq (dDrop (dCall (dRefB 0 (dRefB 2 (dConsB (dVar 3) (dConsB (dCall (dRefB 0 (dConsB (dVar 1) dNilB)) post__law_new) dNilB)))) post__law_change)) b__law_right_2)
def b__law_right_4 : DS :=
  (dSeq (dIfS (dBorT (dBl (dOp wNe (dFr (dLc (dItL (dVar 4)) (dgTup 4 (dgCons (dgN 10) (dgCons (dgN 11) (dgCons (dgN 12) (dgCons (dgN 13) dgNil))))) (dOr (dBl (dOp wNe (dVar 10) (dVar 12))) (dBl (dOp wNe (dVar 11) (dVar 13)))) (dC (.int 1)) [10, 11, 12, 13])) (dFr (dLst dNilA)))))
  (dRet (dC (.bool false)))
  dNext) b__law_right_3)
def b__law_right_5 : DS :=
  (dSeq (dDrop (dMl wAppend 4 (dConsA (dTup (dConsA (dVar 8) (dConsA (dVar 9) (dConsA (dVar 6) (dConsA (dVar 7) dNilA))))) dNilA))) b__law_right_4)
def b__law_right_6 : DS :=
  (dSeq (dIfS (dOr (dBl (dOp wNe (dVar 8) (dVar 6))) (dOr (dBorT (dBl (dOp wNe (dVar 9) (dVar 2)))) (dBorT (dBl (dOp wNe (dVar 2) (dVar 7))))))
  (dRet (dC (.bool false)))
  dNext) b__law_right_5)
def b__law_right_7 : DS :=
  (dSeq (dSet 9 (dCall (dConsB (dVar 1) (dConsB (dVar 8) dNilB)) post__law_read)) b__law_right_6)
def b__law_right_8 : DS :=
  (dSeq (dSet 8 (dBor (dCall (dConsB (dVar 1) (dConsB (dVar 2) dNilB)) post__law_written))) b__law_right_7)
def b__law_right_9 : DS :=
  (dSeq (dSet 7 (dFr (dListP 2))) b__law_right_8)
def b__law_right_10 : DS :=
  (dRet (dC (.bool true)))
def b__law_right_11 : DS :=
  (dSeq (dFor (dRng1 (dConsA (dC (.int 15)) dNilA)) (dgN 5)
  (dSeq (dSet 6 (dBor (dCall (dConsB (dVar 1) (dConsB (dVar 2) dNilB)) post__law_page))) b__law_right_9)) b__law_right_10)
def b__law_right : DS :=
  (dSeq (dSetO 4 (dLst dNilA)) b__law_right_11)
/- law(script): slots ['script', 'k', 'source', 'size', 'row', 'hidden', 'parts', 'name']; owned ['hidden', 'parts', 'row', 'source'] -/
def b_law_1 : DS :=
  (dIfS (dOr (dNot (dTru (dCallT (dTmpV 2 (dTmpC (dC (.int 2)) (dTmp (dCallO (dRefB 2 (dConsB (dC (.int 100)) dNilB)) post__law_pairs) (dConsB (dC (.int 100)) dNilB)))) post__law_right))) (dNot (dTru (dCall (dRefB 2 (dConsB (dC (.int 3)) (dRefB 6 (dConsB (dC (.int 40)) dNilB)))) post__law_right))))
  (dRet (dC (.bool false)))
  dNext)
def b_law_2 : DS :=
  (dSeq (dIfS (dOr (dNot (dTru (dCall (dRefB 2 (dConsB (dC (.int 0)) (dRefB 4 (dConsB (dC (.int 40)) dNilB)))) post__law_right))) (dNot (dTru (dCall (dRefB 2 (dConsB (dC (.int 1)) (dRefB 5 (dConsB (dC (.int 40)) dNilB)))) post__law_right))))
  (dRet (dC (.bool false)))
  dNext) b_law_1)
def b_law_3 : DS :=
  (dSeq (dSetO 6 (dLst (dConsA (dFr (dLst dNilA)) (dConsA (dFr (dLst (dConsA (dC (.int 0)) dNilA))) (dConsA (dFr (dLst (dConsA (dC (.int 39)) (dConsA (dC (.int 0)) dNilA)))) dNilA))))) b_law_2)
def b_law_4 : DS :=
  (dSeq (dSetO 5 (dLcP 4 (dgN 7) dYes (dIf (dBl (dOp wEq (dCall (dRefB 2 (dConsB (dC (.int 2)) dNilB)) post__law_pick) (dC (.int 0)))) (dC .none) (dVar 7)) [7])) b_law_3)
def b_law_5 : DS :=
  (dSeq (dSetO 4 (dCallO (dRefB 2 (dConsB (dVar 3) dNilB)) post__law_names)) b_law_4)
def b_law_6 : DS :=
  (dSeq (dSet 3 (dOp wIx (dFr (dLst (dConsA (dOp wAdd (dC (.int 1)) (dCall (dRefB 2 (dConsB (dC (.int 5)) dNilB)) post__law_pick)) (dConsA (dOp wAdd (dC (.int 1)) (dCall (dRefB 2 (dConsB (dC (.int 40)) dNilB)) post__law_pick)) (dConsA (dC (.int 40)) dNilA))))) (dCall (dRefB 2 (dConsB (dC (.int 3)) dNilB)) post__law_pick))) b_law_5)
def b_law_7 : DS :=
  (dRet (dC (.bool true)))
def b_law : DS :=
  (dSeq (dFor (dRng1 (dConsA (dCl wMax2 (dConsA (dC (.int 1)) (dConsA (dCl wMin2 (dConsA (dC (.int 4)) (dConsA (dLenS 0) dNilA))) dNilA))) dNilA)) (dgN 1)
  (dSeq (dSetO 2 (dCallO (dScB 0 (dConsB (dVar 1) dNilB)) post__law_source)) b_law_6)) b_law_7)
end K95

namespace K95
open PySem PySem.Spec PyProof.Rows L2 PD
theorem isInt_int (i lo hi : Int) : isInt (.int i) lo hi = (decide (lo ≤ i) && decide (i ≤ hi)) := rfl
theorem ln_is_integer : ∀ as W, post_is_integer as W → as.length = 3 := ln_F fun ds d ⟨x, lo, hi, e, _⟩ => by rw [e]; rfl
theorem pu_is_integer : ∀ as W, post_is_integer as W → b_is_integer { nx := exitW as W (.fz .none), rt := exitW as W } (as ++ List.replicate (3 - as.length) .no) := pu_F fun ds d ⟨x, lo, hi, e, e2⟩ E hE => by
  subst e e2
  cases x with
  | int i =>
    show b_is_integer E [.fz _, .fz _, .fz _]
    dsimp only [dSeq, dIfS, dSet, dSetO, dRet, dRetO, dRetN, dDrop, dNext, dNever, dBrk, dCnt, dVar, dVarO, dC, dOp, dOpO, dBl, onB, dTru, truD, dAnd, dOr, dNot, dAndV, dOrV, dNotV, dIf, dIfO, dFr, frO, dNilA, dConsA, dTup, dLst, dgN, dgNil, dgCons, dgTup, dAsg, dPar, dAug, dFor, dForP, dLc, dLcP, dItL, dItT, dItS, onL, dRng1, dRng2, on1, on2, onI, onS, onT, onQ, dEnum, dZip, dRev, wAdd, wI, wSub, wMul, wMod, wDiv, wPow, dUn, wNeg, wEq, wNe, wCmpI, wLt, wLe, wGt, wGe, wIs, wIsNot, wIsN, wIn, wNotIn, dChain, wIx, dIxP, dPeek, dNoPart, dPart, dSlL, dSlS, dCl, dClO, wLen, dLenP, wAbs, wMax2, wMin2, wInt, wStr, wAll, wAny, wSum, wListO, wTuple, wRepr, dSm, dSmO, wJoin, wSplit, wPart, wFmt, dFmt, dJs, dJoined, dIsI, dIsI2, isT, isTg, tgD, dMut, dMl, wAppend, wPop, wPopAt, wReverse, wClear, wCat, wRepS, wExtend, wInsert, dgSub, dAugS, onSc, dLenS, dIxS, dSlSc, dLenSet, dBor, dBorT, dBorO, dListP, borE, isFlat, dCall, dCallO, dCallT, callQT, dNilB, dConsB, dRefB, dScB, dTmp, dTmpC, dTmpV, toFz, toOw, wipeE, backE, putR, dSetR, dRetR, dCallR, dIfR, List.map, List.map_cons, List.map_nil, List.set_cons_zero, List.set_cons_succ, List.getElem?_cons_succ, List.getElem?_cons_zero, List.getElem?_nil, List.cons_append, List.nil_append, List.length_cons, List.length_nil, List.replicate, List.getD_cons_zero, List.getD_cons_succ, b_is_integer]
    refine iteT' rfl (iteT' rfl (iteB (fun h => ?_) fun h => ?_))
    · rw [isInt_int, h] at hE
      exact hE _
    · rw [isInt_int, h] at hE
      exact hE _
  | bool b => exact hE _
  | _ => exact hE _
theorem ln_is_edge : ∀ as W, post_is_edge as W → as.length = 2 := ln_F fun ds d ⟨e, _, e1, _⟩ => by rw [e1]; rfl
theorem pu_is_edge : ∀ as W, post_is_edge as W → b_is_edge { nx := exitW as W (.fz .none), rt := exitW as W } (as ++ List.replicate (3 - as.length) .no) := pu_F fun ds d ⟨e, ⟨h1, h2⟩, e1, e2⟩ E hE => by
  subst e1 e2
  show b_is_edge E [.fz _, .fz _, .no]
  dsimp only [dSeq, dIfS, dSet, dSetO, dRet, dRetO, dRetN, dDrop, dNext, dNever, dBrk, dCnt, dVar, dVarO, dC, dOp, dOpO, dBl, onB, dTru, truD, dAnd, dOr, dNot, dAndV, dOrV, dNotV, dIf, dIfO, dFr, frO, dNilA, dConsA, dTup, dLst, dgN, dgNil, dgCons, dgTup, dAsg, dPar, dAug, dFor, dForP, dLc, dLcP, dItL, dItT, dItS, onL, dRng1, dRng2, on1, on2, onI, onS, onT, onQ, dEnum, dZip, dRev, wAdd, wI, wSub, wMul, wMod, wDiv, wPow, dUn, wNeg, wEq, wNe, wCmpI, wLt, wLe, wGt, wGe, wIs, wIsNot, wIsN, wIn, wNotIn, dChain, wIx, dIxP, dPeek, dNoPart, dPart, dSlL, dSlS, dCl, dClO, wLen, dLenP, wAbs, wMax2, wMin2, wInt, wStr, wAll, wAny, wSum, wListO, wTuple, wRepr, dSm, dSmO, wJoin, wSplit, wPart, wFmt, dFmt, dJs, dJoined, dIsI, dIsI2, isT, isTg, tgD, dMut, dMl, wAppend, wPop, wPopAt, wReverse, wClear, wCat, wRepS, wExtend, wInsert, dgSub, dAugS, onSc, dLenS, dIxS, dSlSc, dLenSet, dBor, dBorT, dBorO, dListP, borE, isFlat, dCall, dCallO, dCallT, callQT, dNilB, dConsB, dRefB, dScB, dTmp, dTmpC, dTmpV, toFz, toOw, wipeE, backE, putR, dSetR, dRetR, dCallR, dIfR, List.map, List.map_cons, List.map_nil, List.set_cons_zero, List.set_cons_succ, List.getElem?_cons_succ, List.getElem?_cons_zero, List.getElem?_nil, List.cons_append, List.nil_append, List.length_cons, List.length_nil, List.replicate, List.getD_cons_zero, List.getD_cons_succ, b_is_edge, b_is_edge_1, edD]
  refine iteF' rfl ⟨dp_i, iteF' (by rw [eqv_int]; rfl) ?_⟩
  refine lc_map (fun _ => .bool true) (no1 fun _ _ h => nomatch h) (size_ok (by show 2 ≤ _; omega)) (fun i d N hd hN => ?_) ?_
  · have : ∃ x : Nat, x < 40 ∧ d = .int x := by
      match i, hd with
      | 0, hd => cases hd; exact ⟨e.1, by omega, rfl⟩
      | 1, hd => cases hd; exact ⟨e.2, by omega, rfl⟩
      | i + 2, hd => cases hd
    obtain ⟨x, hx, rfl⟩ := this
    dsimp only [dSeq, dIfS, dSet, dSetO, dRet, dRetO, dRetN, dDrop, dNext, dNever, dBrk, dCnt, dVar, dVarO, dC, dOp, dOpO, dBl, onB, dTru, truD, dAnd, dOr, dNot, dAndV, dOrV, dNotV, dIf, dIfO, dFr, frO, dNilA, dConsA, dTup, dLst, dgN, dgNil, dgCons, dgTup, dAsg, dPar, dAug, dFor, dForP, dLc, dLcP, dItL, dItT, dItS, onL, dRng1, dRng2, on1, on2, onI, onS, onT, onQ, dEnum, dZip, dRev, wAdd, wI, wSub, wMul, wMod, wDiv, wPow, dUn, wNeg, wEq, wNe, wCmpI, wLt, wLe, wGt, wGe, wIs, wIsNot, wIsN, wIn, wNotIn, dChain, wIx, dIxP, dPeek, dNoPart, dPart, dSlL, dSlS, dCl, dClO, wLen, dLenP, wAbs, wMax2, wMin2, wInt, wStr, wAll, wAny, wSum, wListO, wTuple, wRepr, dSm, dSmO, wJoin, wSplit, wPart, wFmt, dFmt, dJs, dJoined, dIsI, dIsI2, isT, isTg, tgD, dMut, dMl, wAppend, wPop, wPopAt, wReverse, wClear, wCat, wRepS, wExtend, wInsert, dgSub, dAugS, onSc, dLenS, dIxS, dSlSc, dLenSet, dBor, dBorT, dBorO, dListP, borE, isFlat, dCall, dCallO, dCallT, callQT, dNilB, dConsB, dRefB, dScB, dTmp, dTmpC, dTmpV, toFz, toOw, wipeE, backE, putR, dSetR, dRetR, dCallR, dIfR, List.map, List.map_cons, List.map_nil, List.set_cons_zero, List.set_cons_succ, List.getElem?_cons_succ, List.getElem?_cons_zero, List.getElem?_nil, List.cons_append, List.nil_append, List.length_cons, List.length_nil, List.replicate, List.getD_cons_zero, List.getD_cons_succ]
    refine callF rfl ⟨_, _, _, rfl, rfl⟩ ?_
    dsimp only [dSeq, dIfS, dSet, dSetO, dRet, dRetO, dRetN, dDrop, dNext, dNever, dBrk, dCnt, dVar, dVarO, dC, dOp, dOpO, dBl, onB, dTru, truD, dAnd, dOr, dNot, dAndV, dOrV, dNotV, dIf, dIfO, dFr, frO, dNilA, dConsA, dTup, dLst, dgN, dgNil, dgCons, dgTup, dAsg, dPar, dAug, dFor, dForP, dLc, dLcP, dItL, dItT, dItS, onL, dRng1, dRng2, on1, on2, onI, onS, onT, onQ, dEnum, dZip, dRev, wAdd, wI, wSub, wMul, wMod, wDiv, wPow, dUn, wNeg, wEq, wNe, wCmpI, wLt, wLe, wGt, wGe, wIs, wIsNot, wIsN, wIn, wNotIn, dChain, wIx, dIxP, dPeek, dNoPart, dPart, dSlL, dSlS, dCl, dClO, wLen, dLenP, wAbs, wMax2, wMin2, wInt, wStr, wAll, wAny, wSum, wListO, wTuple, wRepr, dSm, dSmO, wJoin, wSplit, wPart, wFmt, dFmt, dJs, dJoined, dIsI, dIsI2, isT, isTg, tgD, dMut, dMl, wAppend, wPop, wPopAt, wReverse, wClear, wCat, wRepS, wExtend, wInsert, dgSub, dAugS, onSc, dLenS, dIxS, dSlSc, dLenSet, dBor, dBorT, dBorO, dListP, borE, isFlat, dCall, dCallO, dCallT, callQT, dNilB, dConsB, dRefB, dScB, dTmp, dTmpC, dTmpV, toFz, toOw, wipeE, backE, putR, dSetR, dRetR, dCallR, dIfR, List.map, List.map_cons, List.map_nil, List.set_cons_zero, List.set_cons_succ, List.getElem?_cons_succ, List.getElem?_cons_zero, List.getElem?_nil, List.cons_append, List.nil_append, List.length_cons, List.length_nil, List.replicate, List.getD_cons_zero, List.getD_cons_succ]
    rw [isInt_int, decide_eq_true (by omega), decide_eq_true (by omega)]
    exact hN _ rfl
  · dsimp only [dSeq, dIfS, dSet, dSetO, dRet, dRetO, dRetN, dDrop, dNext, dNever, dBrk, dCnt, dVar, dVarO, dC, dOp, dOpO, dBl, onB, dTru, truD, dAnd, dOr, dNot, dAndV, dOrV, dNotV, dIf, dIfO, dFr, frO, dNilA, dConsA, dTup, dLst, dgN, dgNil, dgCons, dgTup, dAsg, dPar, dAug, dFor, dForP, dLc, dLcP, dItL, dItT, dItS, onL, dRng1, dRng2, on1, on2, onI, onS, onT, onQ, dEnum, dZip, dRev, wAdd, wI, wSub, wMul, wMod, wDiv, wPow, dUn, wNeg, wEq, wNe, wCmpI, wLt, wLe, wGt, wGe, wIs, wIsNot, wIsN, wIn, wNotIn, dChain, wIx, dIxP, dPeek, dNoPart, dPart, dSlL, dSlS, dCl, dClO, wLen, dLenP, wAbs, wMax2, wMin2, wInt, wStr, wAll, wAny, wSum, wListO, wTuple, wRepr, dSm, dSmO, wJoin, wSplit, wPart, wFmt, dFmt, dJs, dJoined, dIsI, dIsI2, isT, isTg, tgD, dMut, dMl, wAppend, wPop, wPopAt, wReverse, wClear, wCat, wRepS, wExtend, wInsert, dgSub, dAugS, onSc, dLenS, dIxS, dSlSc, dLenSet, dBor, dBorT, dBorO, dListP, borE, isFlat, dCall, dCallO, dCallT, callQT, dNilB, dConsB, dRefB, dScB, dTmp, dTmpC, dTmpV, toFz, toOw, wipeE, backE, putR, dSetR, dRetR, dCallR, dIfR, List.map, List.map_cons, List.map_nil, List.set_cons_zero, List.set_cons_succ, List.getElem?_cons_succ, List.getElem?_cons_zero, List.getElem?_nil, List.cons_append, List.nil_append, List.length_cons, List.length_nil, List.replicate, List.getD_cons_zero, List.getD_cons_succ]
    refine ⟨[true, true], rfl, iteF' rfl ⟨_, rfl, _, rfl, ?_⟩⟩
    dsimp only [dSeq, dIfS, dSet, dSetO, dRet, dRetO, dRetN, dDrop, dNext, dNever, dBrk, dCnt, dVar, dVarO, dC, dOp, dOpO, dBl, onB, dTru, truD, dAnd, dOr, dNot, dAndV, dOrV, dNotV, dIf, dIfO, dFr, frO, dNilA, dConsA, dTup, dLst, dgN, dgNil, dgCons, dgTup, dAsg, dPar, dAug, dFor, dForP, dLc, dLcP, dItL, dItT, dItS, onL, dRng1, dRng2, on1, on2, onI, onS, onT, onQ, dEnum, dZip, dRev, wAdd, wI, wSub, wMul, wMod, wDiv, wPow, dUn, wNeg, wEq, wNe, wCmpI, wLt, wLe, wGt, wGe, wIs, wIsNot, wIsN, wIn, wNotIn, dChain, wIx, dIxP, dPeek, dNoPart, dPart, dSlL, dSlS, dCl, dClO, wLen, dLenP, wAbs, wMax2, wMin2, wInt, wStr, wAll, wAny, wSum, wListO, wTuple, wRepr, dSm, dSmO, wJoin, wSplit, wPart, wFmt, dFmt, dJs, dJoined, dIsI, dIsI2, isT, isTg, tgD, dMut, dMl, wAppend, wPop, wPopAt, wReverse, wClear, wCat, wRepS, wExtend, wInsert, dgSub, dAugS, onSc, dLenS, dIxS, dSlSc, dLenSet, dBor, dBorT, dBorO, dListP, borE, isFlat, dCall, dCallO, dCallT, callQT, dNilB, dConsB, dRefB, dScB, dTmp, dTmpC, dTmpV, toFz, toOw, wipeE, backE, putR, dSetR, dRetR, dCallR, dIfR, List.map, List.map_cons, List.map_nil, List.set_cons_zero, List.set_cons_succ, List.getElem?_cons_succ, List.getElem?_cons_zero, List.getElem?_nil, List.cons_append, List.nil_append, List.length_cons, List.length_nil, List.replicate, List.getD_cons_zero, List.getD_cons_succ]
    rw [decide_eq_true (by omega)]
    exact hE _
theorem ln_is_item : ∀ as W, post_is_item as W → as.length = 1 := ln_F fun ds d ⟨e, _, e1, _⟩ => by rw [e1]; rfl
theorem let_tl : TL.tl LET = (List.range 26).map (97 + ·) := by rw [TL.tl_ofString]; decide +kernel
theorem in_let {c : Nat} (h : 97 ≤ c ∧ c ≤ 122) : c ∈ TL.tl LET := by
  rw [let_tl, List.mem_map]
  exact ⟨c - 97, List.mem_range.mpr (by omega), by omega⟩
theorem all_true {n : Nat} : (List.replicate n true).all _root_.id = true := by
  induction n with
  | zero => rfl
  | succ n ih => rw [List.replicate_succ, List.all_cons, ih]; rfl
theorem pu_is_item : ∀ as W, post_is_item as W → b_is_item { nx := exitW as W (.fz .none), rt := exitW as W } (as ++ List.replicate (2 - as.length) .no) := pu_F fun ds d ⟨z, ⟨h1, h2, h3⟩, e1, e2⟩ E hE => by
  subst e1 e2
  show b_is_item E [.fz _, .no]
  dsimp only [dSeq, dIfS, dSet, dSetO, dRet, dRetO, dRetN, dDrop, dNext, dNever, dBrk, dCnt, dVar, dVarO, dC, dOp, dOpO, dBl, onB, dTru, truD, dAnd, dOr, dNot, dAndV, dOrV, dNotV, dIf, dIfO, dFr, frO, dNilA, dConsA, dTup, dLst, dgN, dgNil, dgCons, dgTup, dAsg, dPar, dAug, dFor, dForP, dLc, dLcP, dItL, dItT, dItS, onL, dRng1, dRng2, on1, on2, onI, onS, onT, onQ, dEnum, dZip, dRev, wAdd, wI, wSub, wMul, wMod, wDiv, wPow, dUn, wNeg, wEq, wNe, wCmpI, wLt, wLe, wGt, wGe, wIs, wIsNot, wIsN, wIn, wNotIn, dChain, wIx, dIxP, dPeek, dNoPart, dPart, dSlL, dSlS, dCl, dClO, wLen, dLenP, wAbs, wMax2, wMin2, wInt, wStr, wAll, wAny, wSum, wListO, wTuple, wRepr, dSm, dSmO, wJoin, wSplit, wPart, wFmt, dFmt, dJs, dJoined, dIsI, dIsI2, isT, isTg, tgD, dMut, dMl, wAppend, wPop, wPopAt, wReverse, wClear, wCat, wRepS, wExtend, wInsert, dgSub, dAugS, onSc, dLenS, dIxS, dSlSc, dLenSet, dBor, dBorT, dBorO, dListP, borE, isFlat, dCall, dCallO, dCallT, callQT, dNilB, dConsB, dRefB, dScB, dTmp, dTmpC, dTmpV, toFz, toOw, wipeE, backE, putR, dSetR, dRetR, dCallR, dIfR, List.map, List.map_cons, List.map_nil, List.set_cons_zero, List.set_cons_succ, List.getElem?_cons_succ, List.getElem?_cons_zero, List.getElem?_nil, List.cons_append, List.nil_append, List.length_cons, List.length_nil, List.replicate, List.getD_cons_zero, List.getD_cons_succ, b_is_item, b_is_item_1]
  refine iteF' rfl ⟨size_ok (by omega), iteT' (decide_eq_true (by omega)) (iteF' (by rw [decide_eq_true (by omega)]; rfl) ?_)⟩
  refine lc_map (fun _ => .bool true) (no1 fun _ _ h => nomatch h) (size_ok (by rw [List.length_map]; rw [TL.len_tl] at h2; show (TL.tl z).length ≤ _; omega)) (fun i d N hd hN => ?_) ?_
  · obtain ⟨c, hc, rfl⟩ := map_at hd
    have hm : c ∈ TL.tl z := List.mem_of_getElem? hc
    dsimp only [dSeq, dIfS, dSet, dSetO, dRet, dRetO, dRetN, dDrop, dNext, dNever, dBrk, dCnt, dVar, dVarO, dC, dOp, dOpO, dBl, onB, dTru, truD, dAnd, dOr, dNot, dAndV, dOrV, dNotV, dIf, dIfO, dFr, frO, dNilA, dConsA, dTup, dLst, dgN, dgNil, dgCons, dgTup, dAsg, dPar, dAug, dFor, dForP, dLc, dLcP, dItL, dItT, dItS, onL, dRng1, dRng2, on1, on2, onI, onS, onT, onQ, dEnum, dZip, dRev, wAdd, wI, wSub, wMul, wMod, wDiv, wPow, dUn, wNeg, wEq, wNe, wCmpI, wLt, wLe, wGt, wGe, wIs, wIsNot, wIsN, wIn, wNotIn, dChain, wIx, dIxP, dPeek, dNoPart, dPart, dSlL, dSlS, dCl, dClO, wLen, dLenP, wAbs, wMax2, wMin2, wInt, wStr, wAll, wAny, wSum, wListO, wTuple, wRepr, dSm, dSmO, wJoin, wSplit, wPart, wFmt, dFmt, dJs, dJoined, dIsI, dIsI2, isT, isTg, tgD, dMut, dMl, wAppend, wPop, wPopAt, wReverse, wClear, wCat, wRepS, wExtend, wInsert, dgSub, dAugS, onSc, dLenS, dIxS, dSlSc, dLenSet, dBor, dBorT, dBorO, dListP, borE, isFlat, dCall, dCallO, dCallT, callQT, dNilB, dConsB, dRefB, dScB, dTmp, dTmpC, dTmpV, toFz, toOw, wipeE, backE, putR, dSetR, dRetR, dCallR, dIfR, List.map, List.map_cons, List.map_nil, List.set_cons_zero, List.set_cons_succ, List.getElem?_cons_succ, List.getElem?_cons_zero, List.getElem?_nil, List.cons_append, List.nil_append, List.length_cons, List.length_nil, List.replicate, List.getD_cons_zero, List.getD_cons_succ]
    refine ⟨c, rfl, ?_⟩
    rw [decide_eq_true (show c ∈ LET.cps.toList from in_let (h3 c hm))]
    exact hN _ rfl
  · dsimp only [dSeq, dIfS, dSet, dSetO, dRet, dRetO, dRetN, dDrop, dNext, dNever, dBrk, dCnt, dVar, dVarO, dC, dOp, dOpO, dBl, onB, dTru, truD, dAnd, dOr, dNot, dAndV, dOrV, dNotV, dIf, dIfO, dFr, frO, dNilA, dConsA, dTup, dLst, dgN, dgNil, dgCons, dgTup, dAsg, dPar, dAug, dFor, dForP, dLc, dLcP, dItL, dItT, dItS, onL, dRng1, dRng2, on1, on2, onI, onS, onT, onQ, dEnum, dZip, dRev, wAdd, wI, wSub, wMul, wMod, wDiv, wPow, dUn, wNeg, wEq, wNe, wCmpI, wLt, wLe, wGt, wGe, wIs, wIsNot, wIsN, wIn, wNotIn, dChain, wIx, dIxP, dPeek, dNoPart, dPart, dSlL, dSlS, dCl, dClO, wLen, dLenP, wAbs, wMax2, wMin2, wInt, wStr, wAll, wAny, wSum, wListO, wTuple, wRepr, dSm, dSmO, wJoin, wSplit, wPart, wFmt, dFmt, dJs, dJoined, dIsI, dIsI2, isT, isTg, tgD, dMut, dMl, wAppend, wPop, wPopAt, wReverse, wClear, wCat, wRepS, wExtend, wInsert, dgSub, dAugS, onSc, dLenS, dIxS, dSlSc, dLenSet, dBor, dBorT, dBorO, dListP, borE, isFlat, dCall, dCallO, dCallT, callQT, dNilB, dConsB, dRefB, dScB, dTmp, dTmpC, dTmpV, toFz, toOw, wipeE, backE, putR, dSetR, dRetR, dCallR, dIfR, List.map, List.map_cons, List.map_nil, List.set_cons_zero, List.set_cons_succ, List.getElem?_cons_succ, List.getElem?_cons_zero, List.getElem?_nil, List.cons_append, List.nil_append, List.length_cons, List.length_nil, List.replicate, List.getD_cons_zero, List.getD_cons_succ]
    refine ⟨List.replicate (TL.tl z).length true, ?_, ?_⟩
    · rw [List.map_replicate, List.map_map]
      exact List.map_const' ..
    · rw [all_true]
      exact hE _
theorem tl_BL : TL.tl BL = [32] := by rw [TL.tl_ofString]; decide +kernel
theorem tl_NL : TL.tl NL = [10] := by rw [TL.tl_ofString]; decide +kernel
theorem tl_DS : TL.tl DS' = [45] := by rw [TL.tl_ofString]; decide +kernel
theorem tl_QM : TL.tl QM = [63] := by rw [TL.tl_ofString]; decide +kernel
theorem len_BL : BL.length = 1 := by rw [TL.len_tl, tl_BL]; rfl
theorem len_NL : NL.length = 1 := by rw [TL.len_tl, tl_NL]; rfl
theorem len_DS : DS'.length = 1 := by rw [TL.len_tl, tl_DS]; rfl
theorem len_QM : QM.length = 1 := by rw [TL.len_tl, tl_QM]; rfl
theorem split_BL {ys : List Str} (hne : ys ≠ []) (h : ∀ p ∈ ys, 32 ∉ TL.tl p) : Txt.split (PySem.Str.join BL ys) BL = ys := by
  rw [← TL.join_eq]
  exact TL.split_join tl_BL (by decide +kernel) hne h
theorem split_NL {ys : List Str} (hne : ys ≠ []) (h : ∀ p ∈ ys, 10 ∉ TL.tl p) : Txt.split (PySem.Str.join NL ys) NL = ys := by
  rw [← TL.join_eq]
  exact TL.split_join tl_NL (by decide +kernel) hne h
/-! ### writing -/
theorem jl {z : Str} {ys : List Str} {L n : Nat} (hz : z.length = 1) (h : ∀ y ∈ ys, y.length ≤ L) (hn : ys.length ≤ n) : (ys.map (·.length)).sum + ys.length * z.length ≤ n * L + n := by
  have h1 := sum_len h
  have h2 : ys.length * L ≤ n * L := Nat.mul_le_mul_right _ hn
  rw [hz]
  omega
theorem ln_write_items : ∀ as W, post_write_items as W → as.length = 1 := ln_F fun ds d ⟨e, _, e1, _⟩ => by rw [e1]; rfl
theorem pu_write_items : ∀ as W, post_write_items as W → b_write_items { nx := exitW as W (.fz .none), rt := exitW as W } (as ++ List.replicate (1 - as.length) .no) := pu_F fun ds d ⟨ys, v, e1, e2⟩ E hE => by
  subst e1 e2
  show b_write_items E [.fz _]
  dsimp only [dSeq, dIfS, dSet, dSetO, dRet, dRetO, dRetN, dDrop, dNext, dNever, dBrk, dCnt, dVar, dVarO, dC, dOp, dOpO, dBl, onB, dTru, truD, dAnd, dOr, dNot, dAndV, dOrV, dNotV, dIf, dIfO, dFr, frO, dNilA, dConsA, dTup, dLst, dgN, dgNil, dgCons, dgTup, dAsg, dPar, dAug, dFor, dForP, dLc, dLcP, dItL, dItT, dItS, onL, dRng1, dRng2, on1, on2, onI, onS, onT, onQ, dEnum, dZip, dRev, wAdd, wI, wSub, wMul, wMod, wDiv, wPow, dUn, wNeg, wEq, wNe, wCmpI, wLt, wLe, wGt, wGe, wIs, wIsNot, wIsN, wIn, wNotIn, dChain, wIx, dIxP, dPeek, dNoPart, dPart, dSlL, dSlS, dCl, dClO, wLen, dLenP, wAbs, wMax2, wMin2, wInt, wStr, wAll, wAny, wSum, wListO, wTuple, wRepr, dSm, dSmO, wJoin, wSplit, wPart, wFmt, dFmt, dJs, dJoined, dIsI, dIsI2, isT, isTg, tgD, dMut, dMl, wAppend, wPop, wPopAt, wReverse, wClear, wCat, wRepS, wExtend, wInsert, dgSub, dAugS, onSc, dLenS, dIxS, dSlSc, dLenSet, dBor, dBorT, dBorO, dListP, borE, isFlat, dCall, dCallO, dCallT, callQT, dNilB, dConsB, dRefB, dScB, dTmp, dTmpC, dTmpV, toFz, toOw, wipeE, backE, putR, dSetR, dRetR, dCallR, dIfR, List.map, List.map_cons, List.map_nil, List.set_cons_zero, List.set_cons_succ, List.getElem?_cons_succ, List.getElem?_cons_zero, List.getElem?_nil, List.cons_append, List.nil_append, List.length_cons, List.length_nil, List.replicate, List.getD_cons_zero, List.getD_cons_succ, b_write_items]
  exact ⟨ys, rfl, Nat.le_trans (jl (L := 8) (n := 40) len_BL (fun y hy => (v.ok y hy).hi) v.hi) (by decide), hE _⟩
theorem seenT_len {ss : List (Option Str)} (v : VSeen ss) : ∀ y ∈ ss.map seenT, y.length ≤ 8 := fun y hy => by
  obtain ⟨o, ho, rfl⟩ := List.mem_map.mp hy
  cases o with
  | none => show QM.length ≤ 8; rw [len_QM]; decide
  | some z => exact (v.ok z ho).hi
theorem ln_write_seen : ∀ as W, post_write_seen as W → as.length = 1 := ln_F fun ds d ⟨e, _, e1, _⟩ => by rw [e1]; rfl
theorem pu_write_seen : ∀ as W, post_write_seen as W → b_write_seen { nx := exitW as W (.fz .none), rt := exitW as W } (as ++ List.replicate (2 - as.length) .no) := pu_F fun ds d ⟨ss, v, e1, e2⟩ E hE => by
  subst e1 e2
  show b_write_seen E [.fz _, .no]
  dsimp only [dSeq, dIfS, dSet, dSetO, dRet, dRetO, dRetN, dDrop, dNext, dNever, dBrk, dCnt, dVar, dVarO, dC, dOp, dOpO, dBl, onB, dTru, truD, dAnd, dOr, dNot, dAndV, dOrV, dNotV, dIf, dIfO, dFr, frO, dNilA, dConsA, dTup, dLst, dgN, dgNil, dgCons, dgTup, dAsg, dPar, dAug, dFor, dForP, dLc, dLcP, dItL, dItT, dItS, onL, dRng1, dRng2, on1, on2, onI, onS, onT, onQ, dEnum, dZip, dRev, wAdd, wI, wSub, wMul, wMod, wDiv, wPow, dUn, wNeg, wEq, wNe, wCmpI, wLt, wLe, wGt, wGe, wIs, wIsNot, wIsN, wIn, wNotIn, dChain, wIx, dIxP, dPeek, dNoPart, dPart, dSlL, dSlS, dCl, dClO, wLen, dLenP, wAbs, wMax2, wMin2, wInt, wStr, wAll, wAny, wSum, wListO, wTuple, wRepr, dSm, dSmO, wJoin, wSplit, wPart, wFmt, dFmt, dJs, dJoined, dIsI, dIsI2, isT, isTg, tgD, dMut, dMl, wAppend, wPop, wPopAt, wReverse, wClear, wCat, wRepS, wExtend, wInsert, dgSub, dAugS, onSc, dLenS, dIxS, dSlSc, dLenSet, dBor, dBorT, dBorO, dListP, borE, isFlat, dCall, dCallO, dCallT, callQT, dNilB, dConsB, dRefB, dScB, dTmp, dTmpC, dTmpV, toFz, toOw, wipeE, backE, putR, dSetR, dRetR, dCallR, dIfR, List.map, List.map_cons, List.map_nil, List.set_cons_zero, List.set_cons_succ, List.getElem?_cons_succ, List.getElem?_cons_zero, List.getElem?_nil, List.cons_append, List.nil_append, List.length_cons, List.length_nil, List.replicate, List.getD_cons_zero, List.getD_cons_succ, b_write_seen]
  refine lc_map (fun d => match d with | .none => .str QM | d => d) (no1 fun _ _ h => nomatch h) (size_ok (by rw [List.length_map]; have := v.hi; omega)) (fun i d N hd hN => ?_) ?_
  · obtain ⟨o, ho, rfl⟩ := map_at hd
    cases o with
    | none => exact hN _ rfl
    | some z => exact hN _ rfl
  · dsimp only [dSeq, dIfS, dSet, dSetO, dRet, dRetO, dRetN, dDrop, dNext, dNever, dBrk, dCnt, dVar, dVarO, dC, dOp, dOpO, dBl, onB, dTru, truD, dAnd, dOr, dNot, dAndV, dOrV, dNotV, dIf, dIfO, dFr, frO, dNilA, dConsA, dTup, dLst, dgN, dgNil, dgCons, dgTup, dAsg, dPar, dAug, dFor, dForP, dLc, dLcP, dItL, dItT, dItS, onL, dRng1, dRng2, on1, on2, onI, onS, onT, onQ, dEnum, dZip, dRev, wAdd, wI, wSub, wMul, wMod, wDiv, wPow, dUn, wNeg, wEq, wNe, wCmpI, wLt, wLe, wGt, wGe, wIs, wIsNot, wIsN, wIn, wNotIn, dChain, wIx, dIxP, dPeek, dNoPart, dPart, dSlL, dSlS, dCl, dClO, wLen, dLenP, wAbs, wMax2, wMin2, wInt, wStr, wAll, wAny, wSum, wListO, wTuple, wRepr, dSm, dSmO, wJoin, wSplit, wPart, wFmt, dFmt, dJs, dJoined, dIsI, dIsI2, isT, isTg, tgD, dMut, dMl, wAppend, wPop, wPopAt, wReverse, wClear, wCat, wRepS, wExtend, wInsert, dgSub, dAugS, onSc, dLenS, dIxS, dSlSc, dLenSet, dBor, dBorT, dBorO, dListP, borE, isFlat, dCall, dCallO, dCallT, callQT, dNilB, dConsB, dRefB, dScB, dTmp, dTmpC, dTmpV, toFz, toOw, wipeE, backE, putR, dSetR, dRetR, dCallR, dIfR, List.map, List.map_cons, List.map_nil, List.set_cons_zero, List.set_cons_succ, List.getElem?_cons_succ, List.getElem?_cons_zero, List.getElem?_nil, List.cons_append, List.nil_append, List.length_cons, List.length_nil, List.replicate, List.getD_cons_zero, List.getD_cons_succ]
    refine ⟨ss.map seenT, ?_, Nat.le_trans (jl (L := 8) (n := 40) len_BL (seenT_len v) (by rw [List.length_map]; exact v.hi)) (by decide), hE _⟩
    rw [List.map_map, List.map_map]
    refine List.map_congr_left fun o _ => ?_
    cases o <;> rfl
theorem edT_len {e : Ed} (h : okEd e) : (edT e).length ≤ 5 := by
  unfold edT
  rw [app_len, app_len, len_DS]
  have h1 := num_len (n := e.1) (by have := h.1; have := h.2; omega)
  have h2 := num_len (n := e.2) (by have := h.2; omega)
  omega
theorem edgesT_cons {es : List Ed} (h : es.isEmpty = false) : edgesT es = PySem.Str.join BL (es.map edT) := by unfold edgesT; rw [h]; rfl
theorem edgesT_nil {es : List Ed} (h : es.isEmpty = true) : edgesT es = DS' := by unfold edgesT; rw [h]; rfl
theorem edT_all {es : List Ed} (v : VEdges es) : ∀ y ∈ es.map edT, y.length ≤ 5 := fun y hy => by
  obtain ⟨o, ho, rfl⟩ := List.mem_map.mp hy
  exact edT_len (v.ok o ho)
theorem small {n : Nat} (h : n < 1000) : ((n : Nat) : Int).natAbs.log2 < 1920 := by
  rw [Int.natAbs_natCast]
  by_cases h0 : n = 0
  · subst h0; decide
  · have : n.log2 < 10 := (Nat.log2_lt h0).mpr (by omega)
    omega
theorem ln_write_edges : ∀ as W, post_write_edges as W → as.length = 1 := ln_F fun ds d ⟨e, _, e1, _⟩ => by rw [e1]; rfl
theorem pu_write_edges : ∀ as W, post_write_edges as W → b_write_edges { nx := exitW as W (.fz .none), rt := exitW as W } (as ++ List.replicate (3 - as.length) .no) := pu_F fun ds d ⟨es, v, e1, e2⟩ E hE => by
  subst e1 e2
  show b_write_edges E [.fz _, .no, .no]
  dsimp only [dSeq, dIfS, dSet, dSetO, dRet, dRetO, dRetN, dDrop, dNext, dNever, dBrk, dCnt, dVar, dVarO, dC, dOp, dOpO, dBl, onB, dTru, truD, dAnd, dOr, dNot, dAndV, dOrV, dNotV, dIf, dIfO, dFr, frO, dNilA, dConsA, dTup, dLst, dgN, dgNil, dgCons, dgTup, dAsg, dPar, dAug, dFor, dForP, dLc, dLcP, dItL, dItT, dItS, onL, dRng1, dRng2, on1, on2, onI, onS, onT, onQ, dEnum, dZip, dRev, wAdd, wI, wSub, wMul, wMod, wDiv, wPow, dUn, wNeg, wEq, wNe, wCmpI, wLt, wLe, wGt, wGe, wIs, wIsNot, wIsN, wIn, wNotIn, dChain, wIx, dIxP, dPeek, dNoPart, dPart, dSlL, dSlS, dCl, dClO, wLen, dLenP, wAbs, wMax2, wMin2, wInt, wStr, wAll, wAny, wSum, wListO, wTuple, wRepr, dSm, dSmO, wJoin, wSplit, wPart, wFmt, dFmt, dJs, dJoined, dIsI, dIsI2, isT, isTg, tgD, dMut, dMl, wAppend, wPop, wPopAt, wReverse, wClear, wCat, wRepS, wExtend, wInsert, dgSub, dAugS, onSc, dLenS, dIxS, dSlSc, dLenSet, dBor, dBorT, dBorO, dListP, borE, isFlat, dCall, dCallO, dCallT, callQT, dNilB, dConsB, dRefB, dScB, dTmp, dTmpC, dTmpV, toFz, toOw, wipeE, backE, putR, dSetR, dRetR, dCallR, dIfR, List.map, List.map_cons, List.map_nil, List.set_cons_zero, List.set_cons_succ, List.getElem?_cons_succ, List.getElem?_cons_zero, List.getElem?_nil, List.cons_append, List.nil_append, List.length_cons, List.length_nil, List.replicate, List.getD_cons_zero, List.getD_cons_succ, b_write_edges]
  refine ⟨by decide, dp_e, ?_⟩
  rw [eqv_nil, isE_map]
  refine iteB (fun h => ?_) fun h => ?_
  · rw [edgesT_cons (by simpa using h)] at hE
    refine lc_mapx (fun e => .str (edT e)) (no2 (fun _ _ h => nomatch h) (fun _ _ h => nomatch h)) (size_ok (by have := v.hi; omega)) (fun i e N he hN => ?_) ?_
    · have ok := v.ok e (List.mem_of_getElem? he)
      have h1 := ok.1
      have h2 := ok.2
      have l1 := num_len (n := e.1) (by omega)
      have l2 := num_len (n := e.2) (by omega)
      unfold edD
      dsimp only [dSeq, dIfS, dSet, dSetO, dRet, dRetO, dRetN, dDrop, dNext, dNever, dBrk, dCnt, dVar, dVarO, dC, dOp, dOpO, dBl, onB, dTru, truD, dAnd, dOr, dNot, dAndV, dOrV, dNotV, dIf, dIfO, dFr, frO, dNilA, dConsA, dTup, dLst, dgN, dgNil, dgCons, dgTup, dAsg, dPar, dAug, dFor, dForP, dLc, dLcP, dItL, dItT, dItS, onL, dRng1, dRng2, on1, on2, onI, onS, onT, onQ, dEnum, dZip, dRev, wAdd, wI, wSub, wMul, wMod, wDiv, wPow, dUn, wNeg, wEq, wNe, wCmpI, wLt, wLe, wGt, wGe, wIs, wIsNot, wIsN, wIn, wNotIn, dChain, wIx, dIxP, dPeek, dNoPart, dPart, dSlL, dSlS, dCl, dClO, wLen, dLenP, wAbs, wMax2, wMin2, wInt, wStr, wAll, wAny, wSum, wListO, wTuple, wRepr, dSm, dSmO, wJoin, wSplit, wPart, wFmt, dFmt, dJs, dJoined, dIsI, dIsI2, isT, isTg, tgD, dMut, dMl, wAppend, wPop, wPopAt, wReverse, wClear, wCat, wRepS, wExtend, wInsert, dgSub, dAugS, onSc, dLenS, dIxS, dSlSc, dLenSet, dBor, dBorT, dBorO, dListP, borE, isFlat, dCall, dCallO, dCallT, callQT, dNilB, dConsB, dRefB, dScB, dTmp, dTmpC, dTmpV, toFz, toOw, wipeE, backE, putR, dSetR, dRetR, dCallR, dIfR, List.map, List.map_cons, List.map_nil, List.set_cons_zero, List.set_cons_succ, List.getElem?_cons_succ, List.getElem?_cons_zero, List.getElem?_nil, List.cons_append, List.nil_append, List.length_cons, List.length_nil, List.replicate, List.getD_cons_zero, List.getD_cons_succ]
      rw [e_app]
      have l3 : (num e.1 ++ DS').length ≤ 3 := by rw [app_len, len_DS]; omega
      have l4 : (num e.1 ++ DS' ++ num e.2).length ≤ 5 := by rw [app_len]; omega
      exact ⟨rfl, rfl, small (by omega), size_ok (Nat.le_trans l1 (by decide)), size_ok (by rw [len_DS]; decide), size_ok (Nat.le_trans l3 (by decide)), small (by omega), size_ok (Nat.le_trans l4 (by decide)), hN _ rfl⟩
    · dsimp only [dSeq, dIfS, dSet, dSetO, dRet, dRetO, dRetN, dDrop, dNext, dNever, dBrk, dCnt, dVar, dVarO, dC, dOp, dOpO, dBl, onB, dTru, truD, dAnd, dOr, dNot, dAndV, dOrV, dNotV, dIf, dIfO, dFr, frO, dNilA, dConsA, dTup, dLst, dgN, dgNil, dgCons, dgTup, dAsg, dPar, dAug, dFor, dForP, dLc, dLcP, dItL, dItT, dItS, onL, dRng1, dRng2, on1, on2, onI, onS, onT, onQ, dEnum, dZip, dRev, wAdd, wI, wSub, wMul, wMod, wDiv, wPow, dUn, wNeg, wEq, wNe, wCmpI, wLt, wLe, wGt, wGe, wIs, wIsNot, wIsN, wIn, wNotIn, dChain, wIx, dIxP, dPeek, dNoPart, dPart, dSlL, dSlS, dCl, dClO, wLen, dLenP, wAbs, wMax2, wMin2, wInt, wStr, wAll, wAny, wSum, wListO, wTuple, wRepr, dSm, dSmO, wJoin, wSplit, wPart, wFmt, dFmt, dJs, dJoined, dIsI, dIsI2, isT, isTg, tgD, dMut, dMl, wAppend, wPop, wPopAt, wReverse, wClear, wCat, wRepS, wExtend, wInsert, dgSub, dAugS, onSc, dLenS, dIxS, dSlSc, dLenSet, dBor, dBorT, dBorO, dListP, borE, isFlat, dCall, dCallO, dCallT, callQT, dNilB, dConsB, dRefB, dScB, dTmp, dTmpC, dTmpV, toFz, toOw, wipeE, backE, putR, dSetR, dRetR, dCallR, dIfR, List.map, List.map_cons, List.map_nil, List.set_cons_zero, List.set_cons_succ, List.getElem?_cons_succ, List.getElem?_cons_zero, List.getElem?_nil, List.cons_append, List.nil_append, List.length_cons, List.length_nil, List.replicate, List.getD_cons_zero, List.getD_cons_succ]
      exact ⟨es.map edT, by rw [List.map_map]; rfl, Nat.le_trans (jl (L := 5) (n := 100) len_BL (edT_all v) (by rw [List.length_map]; exact v.hi)) (by decide), hE _⟩
  · rw [edgesT_nil (by simpa using h)] at hE
    exact hE _
theorem turnT_cons {t : List Nat} (h : t.isEmpty = false) : turnT t = PySem.Str.join BL (t.map num) := by unfold turnT; rw [h]; rfl
theorem turnT_nil {t : List Nat} (h : t.isEmpty = true) : turnT t = DS' := by unfold turnT; rw [h]; rfl
theorem num_all {t : List Nat} (v : VTurn t) : ∀ y ∈ t.map num, y.length ≤ 2 := fun y hy => by
  obtain ⟨n, hn, rfl⟩ := List.mem_map.mp hy
  exact num_len (by have := v.ok n hn; omega)
theorem turnT_len {t : List Nat} (v : VTurn t) : (turnT t).length ≤ 120 := by
  cases h : t.isEmpty with
  | true => rw [turnT_nil h, len_DS]; decide
  | false =>
    rw [turnT_cons h]
    have h1 := join_len BL (t.map num)
    have h2 := jl (L := 2) (n := 40) len_BL (num_all v) (by rw [List.length_map]; exact v.hi)
    omega
theorem turnT_all {ts : List (List Nat)} (v : VTurns ts) : ∀ y ∈ ts.map turnT, y.length ≤ 120 := fun y hy => by
  obtain ⟨n, hn, rfl⟩ := List.mem_map.mp hy
  exact turnT_len (v.ok n hn)
theorem ln_write_turns : ∀ as W, post_write_turns as W → as.length = 1 := ln_F fun ds d ⟨e, _, e1, _⟩ => by rw [e1]; rfl
theorem pu_write_turns : ∀ as W, post_write_turns as W → b_write_turns { nx := exitW as W (.fz .none), rt := exitW as W } (as ++ List.replicate (4 - as.length) .no) := pu_F fun ds d ⟨ts, v, e1, e2⟩ E hE => by
  subst e1 e2
  show b_write_turns E [.fz _, .no, .no, .no]
  dsimp only [dSeq, dIfS, dSet, dSetO, dRet, dRetO, dRetN, dDrop, dNext, dNever, dBrk, dCnt, dVar, dVarO, dC, dOp, dOpO, dBl, onB, dTru, truD, dAnd, dOr, dNot, dAndV, dOrV, dNotV, dIf, dIfO, dFr, frO, dNilA, dConsA, dTup, dLst, dgN, dgNil, dgCons, dgTup, dAsg, dPar, dAug, dFor, dForP, dLc, dLcP, dItL, dItT, dItS, onL, dRng1, dRng2, on1, on2, onI, onS, onT, onQ, dEnum, dZip, dRev, wAdd, wI, wSub, wMul, wMod, wDiv, wPow, dUn, wNeg, wEq, wNe, wCmpI, wLt, wLe, wGt, wGe, wIs, wIsNot, wIsN, wIn, wNotIn, dChain, wIx, dIxP, dPeek, dNoPart, dPart, dSlL, dSlS, dCl, dClO, wLen, dLenP, wAbs, wMax2, wMin2, wInt, wStr, wAll, wAny, wSum, wListO, wTuple, wRepr, dSm, dSmO, wJoin, wSplit, wPart, wFmt, dFmt, dJs, dJoined, dIsI, dIsI2, isT, isTg, tgD, dMut, dMl, wAppend, wPop, wPopAt, wReverse, wClear, wCat, wRepS, wExtend, wInsert, dgSub, dAugS, onSc, dLenS, dIxS, dSlSc, dLenSet, dBor, dBorT, dBorO, dListP, borE, isFlat, dCall, dCallO, dCallT, callQT, dNilB, dConsB, dRefB, dScB, dTmp, dTmpC, dTmpV, toFz, toOw, wipeE, backE, putR, dSetR, dRetR, dCallR, dIfR, List.map, List.map_cons, List.map_nil, List.set_cons_zero, List.set_cons_succ, List.getElem?_cons_succ, List.getElem?_cons_zero, List.getElem?_nil, List.cons_append, List.nil_append, List.length_cons, List.length_nil, List.replicate, List.getD_cons_zero, List.getD_cons_succ, b_write_turns, b_write_turns_1, b_write_turns_2]
  refine ⟨by decide, ?_⟩
  refine ⟨fun i e => ∃ u w, e = [.fz (.list (ts.map turnD)), .ow none (.lst ((ts.take i).map fun t => .str (turnT t))), u, w] ∧ (∀ p o, w ≠ .ow p o), ⟨_, _, rfl, fun _ _ h => nomatch h⟩, ?_, ?_⟩
  · rintro i d e hd ⟨u, w, rfl, hw⟩
    obtain ⟨t, ht, rfl⟩ := map_at hd
    have vt := v.ok t (List.mem_of_getElem? ht)
    have et : turnD t = .list (t.map fun x => .int (x : Nat)) := rfl
    dsimp only [dSeq, dIfS, dSet, dSetO, dRet, dRetO, dRetN, dDrop, dNext, dNever, dBrk, dCnt, dVar, dVarO, dC, dOp, dOpO, dBl, onB, dTru, truD, dAnd, dOr, dNot, dAndV, dOrV, dNotV, dIf, dIfO, dFr, frO, dNilA, dConsA, dTup, dLst, dgN, dgNil, dgCons, dgTup, dAsg, dPar, dAug, dFor, dForP, dLc, dLcP, dItL, dItT, dItS, onL, dRng1, dRng2, on1, on2, onI, onS, onT, onQ, dEnum, dZip, dRev, wAdd, wI, wSub, wMul, wMod, wDiv, wPow, dUn, wNeg, wEq, wNe, wCmpI, wLt, wLe, wGt, wGe, wIs, wIsNot, wIsN, wIn, wNotIn, dChain, wIx, dIxP, dPeek, dNoPart, dPart, dSlL, dSlS, dCl, dClO, wLen, dLenP, wAbs, wMax2, wMin2, wInt, wStr, wAll, wAny, wSum, wListO, wTuple, wRepr, dSm, dSmO, wJoin, wSplit, wPart, wFmt, dFmt, dJs, dJoined, dIsI, dIsI2, isT, isTg, tgD, dMut, dMl, wAppend, wPop, wPopAt, wReverse, wClear, wCat, wRepS, wExtend, wInsert, dgSub, dAugS, onSc, dLenS, dIxS, dSlSc, dLenSet, dBor, dBorT, dBorO, dListP, borE, isFlat, dCall, dCallO, dCallT, callQT, dNilB, dConsB, dRefB, dScB, dTmp, dTmpC, dTmpV, toFz, toOw, wipeE, backE, putR, dSetR, dRetR, dCallR, dIfR, List.map, List.map_cons, List.map_nil, List.set_cons_zero, List.set_cons_succ, List.getElem?_cons_succ, List.getElem?_cons_zero, List.getElem?_nil, List.cons_append, List.nil_append, List.length_cons, List.length_nil, List.replicate, List.getD_cons_zero, List.getD_cons_succ]
    refine ⟨trivial, by decide, dp_e, ?_⟩
    rw [et, eqv_nil, isE_map]
    have hlen : ((ts.take i).map fun t => PyData.str (turnT t)).length < sizeLine := size_lt (by rw [List.length_map, List.length_take]; have := v.hi; omega)
    refine iteB (fun h => ?_) fun h => ?_
    · refine lc_mapx (fun n => .str (num n)) (no1 fun p o h => ?_) (size_ok (by have := vt.hi; omega)) (fun j n N hn hN => ?_) ?_
      · exact hw p o (Option.some.inj h)
      · have := vt.ok n (List.mem_of_getElem? hn)
        dsimp only [dSeq, dIfS, dSet, dSetO, dRet, dRetO, dRetN, dDrop, dNext, dNever, dBrk, dCnt, dVar, dVarO, dC, dOp, dOpO, dBl, onB, dTru, truD, dAnd, dOr, dNot, dAndV, dOrV, dNotV, dIf, dIfO, dFr, frO, dNilA, dConsA, dTup, dLst, dgN, dgNil, dgCons, dgTup, dAsg, dPar, dAug, dFor, dForP, dLc, dLcP, dItL, dItT, dItS, onL, dRng1, dRng2, on1, on2, onI, onS, onT, onQ, dEnum, dZip, dRev, wAdd, wI, wSub, wMul, wMod, wDiv, wPow, dUn, wNeg, wEq, wNe, wCmpI, wLt, wLe, wGt, wGe, wIs, wIsNot, wIsN, wIn, wNotIn, dChain, wIx, dIxP, dPeek, dNoPart, dPart, dSlL, dSlS, dCl, dClO, wLen, dLenP, wAbs, wMax2, wMin2, wInt, wStr, wAll, wAny, wSum, wListO, wTuple, wRepr, dSm, dSmO, wJoin, wSplit, wPart, wFmt, dFmt, dJs, dJoined, dIsI, dIsI2, isT, isTg, tgD, dMut, dMl, wAppend, wPop, wPopAt, wReverse, wClear, wCat, wRepS, wExtend, wInsert, dgSub, dAugS, onSc, dLenS, dIxS, dSlSc, dLenSet, dBor, dBorT, dBorO, dListP, borE, isFlat, dCall, dCallO, dCallT, callQT, dNilB, dConsB, dRefB, dScB, dTmp, dTmpC, dTmpV, toFz, toOw, wipeE, backE, putR, dSetR, dRetR, dCallR, dIfR, List.map, List.map_cons, List.map_nil, List.set_cons_zero, List.set_cons_succ, List.getElem?_cons_succ, List.getElem?_cons_zero, List.getElem?_nil, List.cons_append, List.nil_append, List.length_cons, List.length_nil, List.replicate, List.getD_cons_zero, List.getD_cons_succ]
        exact ⟨small (by omega), hN _ rfl⟩
      · dsimp only [dSeq, dIfS, dSet, dSetO, dRet, dRetO, dRetN, dDrop, dNext, dNever, dBrk, dCnt, dVar, dVarO, dC, dOp, dOpO, dBl, onB, dTru, truD, dAnd, dOr, dNot, dAndV, dOrV, dNotV, dIf, dIfO, dFr, frO, dNilA, dConsA, dTup, dLst, dgN, dgNil, dgCons, dgTup, dAsg, dPar, dAug, dFor, dForP, dLc, dLcP, dItL, dItT, dItS, onL, dRng1, dRng2, on1, on2, onI, onS, onT, onQ, dEnum, dZip, dRev, wAdd, wI, wSub, wMul, wMod, wDiv, wPow, dUn, wNeg, wEq, wNe, wCmpI, wLt, wLe, wGt, wGe, wIs, wIsNot, wIsN, wIn, wNotIn, dChain, wIx, dIxP, dPeek, dNoPart, dPart, dSlL, dSlS, dCl, dClO, wLen, dLenP, wAbs, wMax2, wMin2, wInt, wStr, wAll, wAny, wSum, wListO, wTuple, wRepr, dSm, dSmO, wJoin, wSplit, wPart, wFmt, dFmt, dJs, dJoined, dIsI, dIsI2, isT, isTg, tgD, dMut, dMl, wAppend, wPop, wPopAt, wReverse, wClear, wCat, wRepS, wExtend, wInsert, dgSub, dAugS, onSc, dLenS, dIxS, dSlSc, dLenSet, dBor, dBorT, dBorO, dListP, borE, isFlat, dCall, dCallO, dCallT, callQT, dNilB, dConsB, dRefB, dScB, dTmp, dTmpC, dTmpV, toFz, toOw, wipeE, backE, putR, dSetR, dRetR, dCallR, dIfR, List.map, List.map_cons, List.map_nil, List.set_cons_zero, List.set_cons_succ, List.getElem?_cons_succ, List.getElem?_cons_zero, List.getElem?_nil, List.cons_append, List.nil_append, List.length_cons, List.length_nil, List.replicate, List.getD_cons_zero, List.getD_cons_succ]
        refine ⟨t.map num, by rw [List.map_map]; rfl, Nat.le_trans (jl (L := 2) (n := 40) len_BL (num_all vt) (by rw [List.length_map]; exact vt.hi)) (by decide), hlen, .fz (turnD t), w, ?_, hw⟩
        rw [take_snoc ht, List.map_append, List.map_cons, List.map_nil, turnT_cons (by simpa using h)]
        rfl
    · refine ⟨hlen, .fz (turnD t), w, ?_, hw⟩
      rw [take_snoc ht, List.map_append, List.map_cons, List.map_nil, turnT_nil (by simpa using h)]
      rfl
  · rintro e ⟨u, w, rfl, hw⟩
    dsimp only [dSeq, dIfS, dSet, dSetO, dRet, dRetO, dRetN, dDrop, dNext, dNever, dBrk, dCnt, dVar, dVarO, dC, dOp, dOpO, dBl, onB, dTru, truD, dAnd, dOr, dNot, dAndV, dOrV, dNotV, dIf, dIfO, dFr, frO, dNilA, dConsA, dTup, dLst, dgN, dgNil, dgCons, dgTup, dAsg, dPar, dAug, dFor, dForP, dLc, dLcP, dItL, dItT, dItS, onL, dRng1, dRng2, on1, on2, onI, onS, onT, onQ, dEnum, dZip, dRev, wAdd, wI, wSub, wMul, wMod, wDiv, wPow, dUn, wNeg, wEq, wNe, wCmpI, wLt, wLe, wGt, wGe, wIs, wIsNot, wIsN, wIn, wNotIn, dChain, wIx, dIxP, dPeek, dNoPart, dPart, dSlL, dSlS, dCl, dClO, wLen, dLenP, wAbs, wMax2, wMin2, wInt, wStr, wAll, wAny, wSum, wListO, wTuple, wRepr, dSm, dSmO, wJoin, wSplit, wPart, wFmt, dFmt, dJs, dJoined, dIsI, dIsI2, isT, isTg, tgD, dMut, dMl, wAppend, wPop, wPopAt, wReverse, wClear, wCat, wRepS, wExtend, wInsert, dgSub, dAugS, onSc, dLenS, dIxS, dSlSc, dLenSet, dBor, dBorT, dBorO, dListP, borE, isFlat, dCall, dCallO, dCallT, callQT, dNilB, dConsB, dRefB, dScB, dTmp, dTmpC, dTmpV, toFz, toOw, wipeE, backE, putR, dSetR, dRetR, dCallR, dIfR, List.map, List.map_cons, List.map_nil, List.set_cons_zero, List.set_cons_succ, List.getElem?_cons_succ, List.getElem?_cons_zero, List.getElem?_nil, List.cons_append, List.nil_append, List.length_cons, List.length_nil, List.replicate, List.getD_cons_zero, List.getD_cons_succ]
    rw [List.length_map, List.take_length]
    exact ⟨ts.map turnT, by rw [List.map_map]; rfl, Nat.le_trans (jl (L := 120) (n := 40) len_NL (turnT_all v) (by rw [List.length_map]; exact v.hi)) (by decide), hE _⟩
/-! ### reading -/
abbrev DIG : Str := PySem.Str.ofString "0123456789"
theorem dig_tl : TL.tl DIG = (List.range 10).map (48 + ·) := by rw [TL.tl_ofString]; decide +kernel
theorem in_dig {n c : Nat} (h : c ∈ TL.tl (num n)) : c ∈ TL.tl DIG := by
  rw [dig_tl, List.mem_map]
  have h1 : 48 ≤ c := Nat.le_of_not_lt fun z => num_free (.inl z) h
  have h2 : c ≤ 57 := Nat.le_of_not_lt fun z => num_free (.inr z) h
  exact ⟨c - 48, List.mem_range.mpr (by omega), by omega⟩
theorem ln_position_in : ∀ as W, post_position_in as W → as.length = 1 := ln_F fun ds d ⟨e, _, e1, _⟩ => by rw [e1]; rfl
theorem pu_position_in : ∀ as W, post_position_in as W → b_position_in { nx := exitW as W (.fz .none), rt := exitW as W } (as ++ List.replicate (2 - as.length) .no) := pu_F fun ds d ⟨n, hn, e1, e2⟩ E hE => by
  subst e1 e2
  show b_position_in E [.fz _, .no]
  have l1 := num_len (n := n) (by omega)
  have hi := int_num (n := n) (by omega)
  have lp : (num n).length ≠ 0 := by
    rw [TL.len_tl]
    exact fun e => num_ne (List.length_eq_zero_iff.mp e)
  dsimp only [dSeq, dIfS, dSet, dSetO, dRet, dRetO, dRetN, dDrop, dNext, dNever, dBrk, dCnt, dVar, dVarO, dC, dOp, dOpO, dBl, onB, dTru, truD, dAnd, dOr, dNot, dAndV, dOrV, dNotV, dIf, dIfO, dFr, frO, dNilA, dConsA, dTup, dLst, dgN, dgNil, dgCons, dgTup, dAsg, dPar, dAug, dFor, dForP, dLc, dLcP, dItL, dItT, dItS, onL, dRng1, dRng2, on1, on2, onI, onS, onT, onQ, dEnum, dZip, dRev, wAdd, wI, wSub, wMul, wMod, wDiv, wPow, dUn, wNeg, wEq, wNe, wCmpI, wLt, wLe, wGt, wGe, wIs, wIsNot, wIsN, wIn, wNotIn, dChain, wIx, dIxP, dPeek, dNoPart, dPart, dSlL, dSlS, dCl, dClO, wLen, dLenP, wAbs, wMax2, wMin2, wInt, wStr, wAll, wAny, wSum, wListO, wTuple, wRepr, dSm, dSmO, wJoin, wSplit, wPart, wFmt, dFmt, dJs, dJoined, dIsI, dIsI2, isT, isTg, tgD, dMut, dMl, wAppend, wPop, wPopAt, wReverse, wClear, wCat, wRepS, wExtend, wInsert, dgSub, dAugS, onSc, dLenS, dIxS, dSlSc, dLenSet, dBor, dBorT, dBorO, dListP, borE, isFlat, dCall, dCallO, dCallT, callQT, dNilB, dConsB, dRefB, dScB, dTmp, dTmpC, dTmpV, toFz, toOw, wipeE, backE, putR, dSetR, dRetR, dCallR, dIfR, List.map, List.map_cons, List.map_nil, List.set_cons_zero, List.set_cons_succ, List.getElem?_cons_succ, List.getElem?_cons_zero, List.getElem?_nil, List.cons_append, List.nil_append, List.length_cons, List.length_nil, List.replicate, List.getD_cons_zero, List.getD_cons_succ, b_position_in, b_position_in_1]
  refine ⟨dp_s, iteF' (by rw [eqv_str]; exact decide_eq_false fun e => lp (by rw [e]; rfl)) ⟨size_ok (Nat.le_trans l1 (by decide)), by decide, by decide +kernel, iteF' (decide_eq_false ?_) ?_⟩⟩
  · rw [show (Str.ofString (toString (40 : Int))).length = 2 by decide +kernel]
    omega
  refine lc_mapx (fun _ => .bool true) (no1 fun _ _ h => nomatch h) (size_ok (by rw [TL.len_tl] at l1; show (TL.tl (num n)).length ≤ _; omega)) (fun i c N hc hN => ?_) ?_
  · dsimp only [dSeq, dIfS, dSet, dSetO, dRet, dRetO, dRetN, dDrop, dNext, dNever, dBrk, dCnt, dVar, dVarO, dC, dOp, dOpO, dBl, onB, dTru, truD, dAnd, dOr, dNot, dAndV, dOrV, dNotV, dIf, dIfO, dFr, frO, dNilA, dConsA, dTup, dLst, dgN, dgNil, dgCons, dgTup, dAsg, dPar, dAug, dFor, dForP, dLc, dLcP, dItL, dItT, dItS, onL, dRng1, dRng2, on1, on2, onI, onS, onT, onQ, dEnum, dZip, dRev, wAdd, wI, wSub, wMul, wMod, wDiv, wPow, dUn, wNeg, wEq, wNe, wCmpI, wLt, wLe, wGt, wGe, wIs, wIsNot, wIsN, wIn, wNotIn, dChain, wIx, dIxP, dPeek, dNoPart, dPart, dSlL, dSlS, dCl, dClO, wLen, dLenP, wAbs, wMax2, wMin2, wInt, wStr, wAll, wAny, wSum, wListO, wTuple, wRepr, dSm, dSmO, wJoin, wSplit, wPart, wFmt, dFmt, dJs, dJoined, dIsI, dIsI2, isT, isTg, tgD, dMut, dMl, wAppend, wPop, wPopAt, wReverse, wClear, wCat, wRepS, wExtend, wInsert, dgSub, dAugS, onSc, dLenS, dIxS, dSlSc, dLenSet, dBor, dBorT, dBorO, dListP, borE, isFlat, dCall, dCallO, dCallT, callQT, dNilB, dConsB, dRefB, dScB, dTmp, dTmpC, dTmpV, toFz, toOw, wipeE, backE, putR, dSetR, dRetR, dCallR, dIfR, List.map, List.map_cons, List.map_nil, List.set_cons_zero, List.set_cons_succ, List.getElem?_cons_succ, List.getElem?_cons_zero, List.getElem?_nil, List.cons_append, List.nil_append, List.length_cons, List.length_nil, List.replicate, List.getD_cons_zero, List.getD_cons_succ]
    refine ⟨c, rfl, ?_⟩
    rw [decide_eq_true (show c ∈ DIG.cps.toList from in_dig (n := n) (List.mem_of_getElem? hc))]
    exact hN _ rfl
  · dsimp only [dSeq, dIfS, dSet, dSetO, dRet, dRetO, dRetN, dDrop, dNext, dNever, dBrk, dCnt, dVar, dVarO, dC, dOp, dOpO, dBl, onB, dTru, truD, dAnd, dOr, dNot, dAndV, dOrV, dNotV, dIf, dIfO, dFr, frO, dNilA, dConsA, dTup, dLst, dgN, dgNil, dgCons, dgTup, dAsg, dPar, dAug, dFor, dForP, dLc, dLcP, dItL, dItT, dItS, onL, dRng1, dRng2, on1, on2, onI, onS, onT, onQ, dEnum, dZip, dRev, wAdd, wI, wSub, wMul, wMod, wDiv, wPow, dUn, wNeg, wEq, wNe, wCmpI, wLt, wLe, wGt, wGe, wIs, wIsNot, wIsN, wIn, wNotIn, dChain, wIx, dIxP, dPeek, dNoPart, dPart, dSlL, dSlS, dCl, dClO, wLen, dLenP, wAbs, wMax2, wMin2, wInt, wStr, wAll, wAny, wSum, wListO, wTuple, wRepr, dSm, dSmO, wJoin, wSplit, wPart, wFmt, dFmt, dJs, dJoined, dIsI, dIsI2, isT, isTg, tgD, dMut, dMl, wAppend, wPop, wPopAt, wReverse, wClear, wCat, wRepS, wExtend, wInsert, dgSub, dAugS, onSc, dLenS, dIxS, dSlSc, dLenSet, dBor, dBorT, dBorO, dListP, borE, isFlat, dCall, dCallO, dCallT, callQT, dNilB, dConsB, dRefB, dScB, dTmp, dTmpC, dTmpV, toFz, toOw, wipeE, backE, putR, dSetR, dRetR, dCallR, dIfR, List.map, List.map_cons, List.map_nil, List.set_cons_zero, List.set_cons_succ, List.getElem?_cons_succ, List.getElem?_cons_zero, List.getElem?_nil, List.cons_append, List.nil_append, List.length_cons, List.length_nil, List.replicate, List.getD_cons_zero, List.getD_cons_succ]
    refine ⟨List.replicate (TL.tl (num n)).length true, ?_, iteF' (by rw [all_true]; rfl) ?_⟩
    · rw [List.map_replicate]
      exact List.map_const' ..
    · refine ⟨n, hi, by omega, small (by omega), dp_s, iteT' ?_ ⟨n, hi, by omega, iteT' (decide_eq_true (by omega)) ⟨n, hi, by omega, hE _⟩⟩⟩
      rw [eqv_str]
      exact decide_eq_true rfl
theorem ln_edge_in : ∀ as W, post_edge_in as W → as.length = 1 := ln_F fun ds d ⟨e, _, e1, _⟩ => by rw [e1]; rfl
theorem pu_edge_in : ∀ as W, post_edge_in as W → b_edge_in { nx := exitW as W (.fz .none), rt := exitW as W } (as ++ List.replicate (5 - as.length) .no) := pu_F fun ds d ⟨e, ok, e1, e2⟩ E hE => by
  subst e1 e2
  show b_edge_in E [.fz _, .no, .no, .no, .no]
  have h1 := ok.1
  have h2 := ok.2
  dsimp only [dSeq, dIfS, dSet, dSetO, dRet, dRetO, dRetN, dDrop, dNext, dNever, dBrk, dCnt, dVar, dVarO, dC, dOp, dOpO, dBl, onB, dTru, truD, dAnd, dOr, dNot, dAndV, dOrV, dNotV, dIf, dIfO, dFr, frO, dNilA, dConsA, dTup, dLst, dgN, dgNil, dgCons, dgTup, dAsg, dPar, dAug, dFor, dForP, dLc, dLcP, dItL, dItT, dItS, onL, dRng1, dRng2, on1, on2, onI, onS, onT, onQ, dEnum, dZip, dRev, wAdd, wI, wSub, wMul, wMod, wDiv, wPow, dUn, wNeg, wEq, wNe, wCmpI, wLt, wLe, wGt, wGe, wIs, wIsNot, wIsN, wIn, wNotIn, dChain, wIx, dIxP, dPeek, dNoPart, dPart, dSlL, dSlS, dCl, dClO, wLen, dLenP, wAbs, wMax2, wMin2, wInt, wStr, wAll, wAny, wSum, wListO, wTuple, wRepr, dSm, dSmO, wJoin, wSplit, wPart, wFmt, dFmt, dJs, dJoined, dIsI, dIsI2, isT, isTg, tgD, dMut, dMl, wAppend, wPop, wPopAt, wReverse, wClear, wCat, wRepS, wExtend, wInsert, dgSub, dAugS, onSc, dLenS, dIxS, dSlSc, dLenSet, dBor, dBorT, dBorO, dListP, borE, isFlat, dCall, dCallO, dCallT, callQT, dNilB, dConsB, dRefB, dScB, dTmp, dTmpC, dTmpV, toFz, toOw, wipeE, backE, putR, dSetR, dRetR, dCallR, dIfR, List.map, List.map_cons, List.map_nil, List.set_cons_zero, List.set_cons_succ, List.getElem?_cons_succ, List.getElem?_cons_zero, List.getElem?_nil, List.cons_append, List.nil_append, List.length_cons, List.length_nil, List.replicate, List.getD_cons_zero, List.getD_cons_succ, b_edge_in, b_edge_in_1, b_edge_in_2]
  refine ⟨by decide, size_ok (Nat.le_trans (edT_len ok) (by decide)), ?_⟩
  rw [show Txt.partition (edT e) DS' = (num e.1, DS', num e.2) from TL.partition_app tl_DS (num_free (by decide))]
  dsimp only [dSeq, dIfS, dSet, dSetO, dRet, dRetO, dRetN, dDrop, dNext, dNever, dBrk, dCnt, dVar, dVarO, dC, dOp, dOpO, dBl, onB, dTru, truD, dAnd, dOr, dNot, dAndV, dOrV, dNotV, dIf, dIfO, dFr, frO, dNilA, dConsA, dTup, dLst, dgN, dgNil, dgCons, dgTup, dAsg, dPar, dAug, dFor, dForP, dLc, dLcP, dItL, dItT, dItS, onL, dRng1, dRng2, on1, on2, onI, onS, onT, onQ, dEnum, dZip, dRev, wAdd, wI, wSub, wMul, wMod, wDiv, wPow, dUn, wNeg, wEq, wNe, wCmpI, wLt, wLe, wGt, wGe, wIs, wIsNot, wIsN, wIn, wNotIn, dChain, wIx, dIxP, dPeek, dNoPart, dPart, dSlL, dSlS, dCl, dClO, wLen, dLenP, wAbs, wMax2, wMin2, wInt, wStr, wAll, wAny, wSum, wListO, wTuple, wRepr, dSm, dSmO, wJoin, wSplit, wPart, wFmt, dFmt, dJs, dJoined, dIsI, dIsI2, isT, isTg, tgD, dMut, dMl, wAppend, wPop, wPopAt, wReverse, wClear, wCat, wRepS, wExtend, wInsert, dgSub, dAugS, onSc, dLenS, dIxS, dSlSc, dLenSet, dBor, dBorT, dBorO, dListP, borE, isFlat, dCall, dCallO, dCallT, callQT, dNilB, dConsB, dRefB, dScB, dTmp, dTmpC, dTmpV, toFz, toOw, wipeE, backE, putR, dSetR, dRetR, dCallR, dIfR, List.map, List.map_cons, List.map_nil, List.set_cons_zero, List.set_cons_succ, List.getElem?_cons_succ, List.getElem?_cons_zero, List.getElem?_nil, List.cons_append, List.nil_append, List.length_cons, List.length_nil, List.replicate, List.getD_cons_zero, List.getD_cons_succ]
  refine ⟨rfl, rfl, callF rfl ⟨e.1, by omega, rfl, rfl⟩ ?_⟩
  dsimp only [dSeq, dIfS, dSet, dSetO, dRet, dRetO, dRetN, dDrop, dNext, dNever, dBrk, dCnt, dVar, dVarO, dC, dOp, dOpO, dBl, onB, dTru, truD, dAnd, dOr, dNot, dAndV, dOrV, dNotV, dIf, dIfO, dFr, frO, dNilA, dConsA, dTup, dLst, dgN, dgNil, dgCons, dgTup, dAsg, dPar, dAug, dFor, dForP, dLc, dLcP, dItL, dItT, dItS, onL, dRng1, dRng2, on1, on2, onI, onS, onT, onQ, dEnum, dZip, dRev, wAdd, wI, wSub, wMul, wMod, wDiv, wPow, dUn, wNeg, wEq, wNe, wCmpI, wLt, wLe, wGt, wGe, wIs, wIsNot, wIsN, wIn, wNotIn, dChain, wIx, dIxP, dPeek, dNoPart, dPart, dSlL, dSlS, dCl, dClO, wLen, dLenP, wAbs, wMax2, wMin2, wInt, wStr, wAll, wAny, wSum, wListO, wTuple, wRepr, dSm, dSmO, wJoin, wSplit, wPart, wFmt, dFmt, dJs, dJoined, dIsI, dIsI2, isT, isTg, tgD, dMut, dMl, wAppend, wPop, wPopAt, wReverse, wClear, wCat, wRepS, wExtend, wInsert, dgSub, dAugS, onSc, dLenS, dIxS, dSlSc, dLenSet, dBor, dBorT, dBorO, dListP, borE, isFlat, dCall, dCallO, dCallT, callQT, dNilB, dConsB, dRefB, dScB, dTmp, dTmpC, dTmpV, toFz, toOw, wipeE, backE, putR, dSetR, dRetR, dCallR, dIfR, List.map, List.map_cons, List.map_nil, List.set_cons_zero, List.set_cons_succ, List.getElem?_cons_succ, List.getElem?_cons_zero, List.getElem?_nil, List.cons_append, List.nil_append, List.length_cons, List.length_nil, List.replicate, List.getD_cons_zero, List.getD_cons_succ]
  refine callF rfl ⟨e.2, by omega, rfl, rfl⟩ ?_
  dsimp only [dSeq, dIfS, dSet, dSetO, dRet, dRetO, dRetN, dDrop, dNext, dNever, dBrk, dCnt, dVar, dVarO, dC, dOp, dOpO, dBl, onB, dTru, truD, dAnd, dOr, dNot, dAndV, dOrV, dNotV, dIf, dIfO, dFr, frO, dNilA, dConsA, dTup, dLst, dgN, dgNil, dgCons, dgTup, dAsg, dPar, dAug, dFor, dForP, dLc, dLcP, dItL, dItT, dItS, onL, dRng1, dRng2, on1, on2, onI, onS, onT, onQ, dEnum, dZip, dRev, wAdd, wI, wSub, wMul, wMod, wDiv, wPow, dUn, wNeg, wEq, wNe, wCmpI, wLt, wLe, wGt, wGe, wIs, wIsNot, wIsN, wIn, wNotIn, dChain, wIx, dIxP, dPeek, dNoPart, dPart, dSlL, dSlS, dCl, dClO, wLen, dLenP, wAbs, wMax2, wMin2, wInt, wStr, wAll, wAny, wSum, wListO, wTuple, wRepr, dSm, dSmO, wJoin, wSplit, wPart, wFmt, dFmt, dJs, dJoined, dIsI, dIsI2, isT, isTg, tgD, dMut, dMl, wAppend, wPop, wPopAt, wReverse, wClear, wCat, wRepS, wExtend, wInsert, dgSub, dAugS, onSc, dLenS, dIxS, dSlSc, dLenSet, dBor, dBorT, dBorO, dListP, borE, isFlat, dCall, dCallO, dCallT, callQT, dNilB, dConsB, dRefB, dScB, dTmp, dTmpC, dTmpV, toFz, toOw, wipeE, backE, putR, dSetR, dRetR, dCallR, dIfR, List.map, List.map_cons, List.map_nil, List.set_cons_zero, List.set_cons_succ, List.getElem?_cons_succ, List.getElem?_cons_zero, List.getElem?_nil, List.cons_append, List.nil_append, List.length_cons, List.length_nil, List.replicate, List.getD_cons_zero, List.getD_cons_succ]
  refine ⟨by decide, callF rfl ⟨e, ok, rfl, rfl⟩ ?_⟩
  dsimp only [dSeq, dIfS, dSet, dSetO, dRet, dRetO, dRetN, dDrop, dNext, dNever, dBrk, dCnt, dVar, dVarO, dC, dOp, dOpO, dBl, onB, dTru, truD, dAnd, dOr, dNot, dAndV, dOrV, dNotV, dIf, dIfO, dFr, frO, dNilA, dConsA, dTup, dLst, dgN, dgNil, dgCons, dgTup, dAsg, dPar, dAug, dFor, dForP, dLc, dLcP, dItL, dItT, dItS, onL, dRng1, dRng2, on1, on2, onI, onS, onT, onQ, dEnum, dZip, dRev, wAdd, wI, wSub, wMul, wMod, wDiv, wPow, dUn, wNeg, wEq, wNe, wCmpI, wLt, wLe, wGt, wGe, wIs, wIsNot, wIsN, wIn, wNotIn, dChain, wIx, dIxP, dPeek, dNoPart, dPart, dSlL, dSlS, dCl, dClO, wLen, dLenP, wAbs, wMax2, wMin2, wInt, wStr, wAll, wAny, wSum, wListO, wTuple, wRepr, dSm, dSmO, wJoin, wSplit, wPart, wFmt, dFmt, dJs, dJoined, dIsI, dIsI2, isT, isTg, tgD, dMut, dMl, wAppend, wPop, wPopAt, wReverse, wClear, wCat, wRepS, wExtend, wInsert, dgSub, dAugS, onSc, dLenS, dIxS, dSlSc, dLenSet, dBor, dBorT, dBorO, dListP, borE, isFlat, dCall, dCallO, dCallT, callQT, dNilB, dConsB, dRefB, dScB, dTmp, dTmpC, dTmpV, toFz, toOw, wipeE, backE, putR, dSetR, dRetR, dCallR, dIfR, List.map, List.map_cons, List.map_nil, List.set_cons_zero, List.set_cons_succ, List.getElem?_cons_succ, List.getElem?_cons_zero, List.getElem?_nil, List.cons_append, List.nil_append, List.length_cons, List.length_nil, List.replicate, List.getD_cons_zero, List.getD_cons_succ]
  exact iteT' rfl (hE _)
theorem in_num_join {t : List Nat} : ∀ p ∈ t.map num, 32 ∉ TL.tl p := fun p hp => by
  obtain ⟨n, _, rfl⟩ := List.mem_map.mp hp
  exact num_free (by decide)
theorem joinL_mem {S : List Nat} {c : Nat} : ∀ {ls : List (List Nat)}, c ∈ TL.joinL S ls → c ∈ S ∨ ∃ l ∈ ls, c ∈ l
  | [], h => by simp [TL.joinL] at h
  | [l], h => .inr ⟨l, by simp, by simpa [TL.joinL] using h⟩
  | l :: m :: r, h => by
    have h' : c ∈ l ++ (S ++ TL.joinL S (m :: r)) := by simpa [TL.joinL] using h
    rcases List.mem_append.mp h' with h1 | h1
    · exact .inr ⟨l, by simp, h1⟩
    · rcases List.mem_append.mp h1 with h2 | h2
      · exact .inl h2
      · rcases joinL_mem h2 with h3 | ⟨q, hq, h3⟩
        · exact .inl h3
        · exact .inr ⟨q, by simp [hq], h3⟩
theorem join_mem {z : Str} {ys : List Str} {c : Nat} (h : c ∈ TL.tl (PySem.Str.join z ys)) : c ∈ TL.tl z ∨ ∃ y ∈ ys, c ∈ TL.tl y := by
  rw [TL.tl_join] at h
  rcases joinL_mem h with h | ⟨l, hl, h⟩
  · exact .inl h
  · obtain ⟨y, hy, rfl⟩ := List.mem_map.mp hl
    exact .inr ⟨y, hy, h⟩
/-- the text of a turn that is not empty is no sign of an empty one -/
theorem turnT_ne {t : List Nat} (h : t.isEmpty = false) : turnT t ≠ DS' := fun e => by
  have h1 : (45 : Nat) ∈ TL.tl (turnT t) := by rw [e, tl_DS]; decide
  rw [turnT_cons h] at h1
  rcases join_mem h1 with h2 | ⟨y, hy, h2⟩
  · rw [tl_BL] at h2; revert h2; decide
  · obtain ⟨n, _, rfl⟩ := List.mem_map.mp hy
    exact num_free (by decide) h2
theorem ln_turn_in : ∀ as W, post_turn_in as W → as.length = 1 := ln_F fun ds d ⟨e, _, e1, _⟩ => by rw [e1]; rfl
theorem pu_turn_in : ∀ as W, post_turn_in as W → b_turn_in { nx := exitW as W (.fz .none), rt := exitW as W } (as ++ List.replicate (3 - as.length) .no) := pu_F fun ds d ⟨t, v, e1, e2⟩ E hE => by
  subst e1 e2
  show b_turn_in E [.fz _, .no, .no]
  dsimp only [dSeq, dIfS, dSet, dSetO, dRet, dRetO, dRetN, dDrop, dNext, dNever, dBrk, dCnt, dVar, dVarO, dC, dOp, dOpO, dBl, onB, dTru, truD, dAnd, dOr, dNot, dAndV, dOrV, dNotV, dIf, dIfO, dFr, frO, dNilA, dConsA, dTup, dLst, dgN, dgNil, dgCons, dgTup, dAsg, dPar, dAug, dFor, dForP, dLc, dLcP, dItL, dItT, dItS, onL, dRng1, dRng2, on1, on2, onI, onS, onT, onQ, dEnum, dZip, dRev, wAdd, wI, wSub, wMul, wMod, wDiv, wPow, dUn, wNeg, wEq, wNe, wCmpI, wLt, wLe, wGt, wGe, wIs, wIsNot, wIsN, wIn, wNotIn, dChain, wIx, dIxP, dPeek, dNoPart, dPart, dSlL, dSlS, dCl, dClO, wLen, dLenP, wAbs, wMax2, wMin2, wInt, wStr, wAll, wAny, wSum, wListO, wTuple, wRepr, dSm, dSmO, wJoin, wSplit, wPart, wFmt, dFmt, dJs, dJoined, dIsI, dIsI2, isT, isTg, tgD, dMut, dMl, wAppend, wPop, wPopAt, wReverse, wClear, wCat, wRepS, wExtend, wInsert, dgSub, dAugS, onSc, dLenS, dIxS, dSlSc, dLenSet, dBor, dBorT, dBorO, dListP, borE, isFlat, dCall, dCallO, dCallT, callQT, dNilB, dConsB, dRefB, dScB, dTmp, dTmpC, dTmpV, toFz, toOw, wipeE, backE, putR, dSetR, dRetR, dCallR, dIfR, List.map, List.map_cons, List.map_nil, List.set_cons_zero, List.set_cons_succ, List.getElem?_cons_succ, List.getElem?_cons_zero, List.getElem?_nil, List.cons_append, List.nil_append, List.length_cons, List.length_nil, List.replicate, List.getD_cons_zero, List.getD_cons_succ, b_turn_in, b_turn_in_1, b_turn_in_2]
  refine ⟨dp_s, ?_⟩
  rw [eqv_str]
  cases h : t.isEmpty with
  | true =>
    refine iteT' (decide_eq_true (turnT_nil h)) ⟨by decide, ?_⟩
    rw [List.isEmpty_iff.mp h] at hE
    exact hE _
  | false =>
    refine iteF' (decide_eq_false (turnT_ne h)) ⟨by decide +kernel, size_ok (by have := turnT_len v; omega), ?_⟩
    have hne : t.map num ≠ [] := fun e => by
      rw [List.map_eq_nil_iff] at e
      rw [e] at h
      cases h
    rw [turnT_cons h]
    rw [show Txt.split (PySem.Str.join BL (t.map num)) (PySem.Str.ofString " ") = t.map num from split_BL hne in_num_join, List.map_map]
    refine lc_mapx (fun n => .int (n : Nat)) (no1 fun _ _ h => nomatch h) (size_ok (by have := v.hi; omega)) (fun i n N hn hN => ?_) ?_
    · have := v.ok n (List.mem_of_getElem? hn)
      dsimp only [dSeq, dIfS, dSet, dSetO, dRet, dRetO, dRetN, dDrop, dNext, dNever, dBrk, dCnt, dVar, dVarO, dC, dOp, dOpO, dBl, onB, dTru, truD, dAnd, dOr, dNot, dAndV, dOrV, dNotV, dIf, dIfO, dFr, frO, dNilA, dConsA, dTup, dLst, dgN, dgNil, dgCons, dgTup, dAsg, dPar, dAug, dFor, dForP, dLc, dLcP, dItL, dItT, dItS, onL, dRng1, dRng2, on1, on2, onI, onS, onT, onQ, dEnum, dZip, dRev, wAdd, wI, wSub, wMul, wMod, wDiv, wPow, dUn, wNeg, wEq, wNe, wCmpI, wLt, wLe, wGt, wGe, wIs, wIsNot, wIsN, wIn, wNotIn, dChain, wIx, dIxP, dPeek, dNoPart, dPart, dSlL, dSlS, dCl, dClO, wLen, dLenP, wAbs, wMax2, wMin2, wInt, wStr, wAll, wAny, wSum, wListO, wTuple, wRepr, dSm, dSmO, wJoin, wSplit, wPart, wFmt, dFmt, dJs, dJoined, dIsI, dIsI2, isT, isTg, tgD, dMut, dMl, wAppend, wPop, wPopAt, wReverse, wClear, wCat, wRepS, wExtend, wInsert, dgSub, dAugS, onSc, dLenS, dIxS, dSlSc, dLenSet, dBor, dBorT, dBorO, dListP, borE, isFlat, dCall, dCallO, dCallT, callQT, dNilB, dConsB, dRefB, dScB, dTmp, dTmpC, dTmpV, toFz, toOw, wipeE, backE, putR, dSetR, dRetR, dCallR, dIfR, List.map, List.map_cons, List.map_nil, List.set_cons_zero, List.set_cons_succ, List.getElem?_cons_succ, List.getElem?_cons_zero, List.getElem?_nil, List.cons_append, List.nil_append, List.length_cons, List.length_nil, List.replicate, List.getD_cons_zero, List.getD_cons_succ]
      exact callF rfl ⟨n, by omega, rfl, rfl⟩ (hN _ rfl)
    · dsimp only [dSeq, dIfS, dSet, dSetO, dRet, dRetO, dRetN, dDrop, dNext, dNever, dBrk, dCnt, dVar, dVarO, dC, dOp, dOpO, dBl, onB, dTru, truD, dAnd, dOr, dNot, dAndV, dOrV, dNotV, dIf, dIfO, dFr, frO, dNilA, dConsA, dTup, dLst, dgN, dgNil, dgCons, dgTup, dAsg, dPar, dAug, dFor, dForP, dLc, dLcP, dItL, dItT, dItS, onL, dRng1, dRng2, on1, on2, onI, onS, onT, onQ, dEnum, dZip, dRev, wAdd, wI, wSub, wMul, wMod, wDiv, wPow, dUn, wNeg, wEq, wNe, wCmpI, wLt, wLe, wGt, wGe, wIs, wIsNot, wIsN, wIn, wNotIn, dChain, wIx, dIxP, dPeek, dNoPart, dPart, dSlL, dSlS, dCl, dClO, wLen, dLenP, wAbs, wMax2, wMin2, wInt, wStr, wAll, wAny, wSum, wListO, wTuple, wRepr, dSm, dSmO, wJoin, wSplit, wPart, wFmt, dFmt, dJs, dJoined, dIsI, dIsI2, isT, isTg, tgD, dMut, dMl, wAppend, wPop, wPopAt, wReverse, wClear, wCat, wRepS, wExtend, wInsert, dgSub, dAugS, onSc, dLenS, dIxS, dSlSc, dLenSet, dBor, dBorT, dBorO, dListP, borE, isFlat, dCall, dCallO, dCallT, callQT, dNilB, dConsB, dRefB, dScB, dTmp, dTmpC, dTmpV, toFz, toOw, wipeE, backE, putR, dSetR, dRetR, dCallR, dIfR, List.map, List.map_cons, List.map_nil, List.set_cons_zero, List.set_cons_succ, List.getElem?_cons_succ, List.getElem?_cons_zero, List.getElem?_nil, List.cons_append, List.nil_append, List.length_cons, List.length_nil, List.replicate, List.getD_cons_zero, List.getD_cons_succ]
      have h0 : ((t.map fun n => PyData.int (n : Nat)).any fun z => PyData.eqv z .none) = false := by
        rw [List.any_eq_false]
        intro d hd
        obtain ⟨n, _, rfl⟩ := List.mem_map.mp hd
        rw [PyData.eqv]
        decide
      refine ⟨dpa_n, iteT' (by rw [h0]; rfl) ⟨t.map fun n => ((n : Nat) : Int), by rw [List.map_map]; rfl, ?_, by rw [List.length_map]; have := v.hi; omega, dp_i, iteT' ?_ (hE _)⟩⟩
      · exact List.pairwise_map.mpr (v.nd.imp fun hne e => hne (Int.ofNat.inj e))
      · rw [eqv_int, List.length_map, List.length_map]
        exact decide_eq_true rfl
theorem item_free {z : Str} (h : okItem z) {c : Nat} (hc : c < 97) : c ∉ TL.tl z := fun m => by
  have := h.ab c m
  omega
theorem ln_read_items : ∀ as W, post_read_items as W → as.length = 1 := ln_F fun ds d ⟨e, _, e1, _⟩ => by rw [e1]; rfl
theorem pu_read_items : ∀ as W, post_read_items as W → b_read_items { nx := exitW as W (.fz .none), rt := exitW as W } (as ++ List.replicate (4 - as.length) .no) := pu_F fun ds d ⟨ys, v, e1, e2⟩ E hE => by
  subst e1 e2
  show b_read_items E [.fz _, .no, .no, .no]
  have hlen : (PySem.Str.join BL ys).length ≤ 400 := by
    have h1 := join_len BL ys
    have h2 := jl (L := 8) (n := 40) len_BL (fun y hy => (v.ok y hy).hi) v.hi
    omega
  have hne : ys ≠ [] := fun e => by have := v.lo; rw [e] at this; simp at this
  have hlo := v.lo
  have hhi := v.hi
  dsimp only [dSeq, dIfS, dSet, dSetO, dRet, dRetO, dRetN, dDrop, dNext, dNever, dBrk, dCnt, dVar, dVarO, dC, dOp, dOpO, dBl, onB, dTru, truD, dAnd, dOr, dNot, dAndV, dOrV, dNotV, dIf, dIfO, dFr, frO, dNilA, dConsA, dTup, dLst, dgN, dgNil, dgCons, dgTup, dAsg, dPar, dAug, dFor, dForP, dLc, dLcP, dItL, dItT, dItS, onL, dRng1, dRng2, on1, on2, onI, onS, onT, onQ, dEnum, dZip, dRev, wAdd, wI, wSub, wMul, wMod, wDiv, wPow, dUn, wNeg, wEq, wNe, wCmpI, wLt, wLe, wGt, wGe, wIs, wIsNot, wIsN, wIn, wNotIn, dChain, wIx, dIxP, dPeek, dNoPart, dPart, dSlL, dSlS, dCl, dClO, wLen, dLenP, wAbs, wMax2, wMin2, wInt, wStr, wAll, wAny, wSum, wListO, wTuple, wRepr, dSm, dSmO, wJoin, wSplit, wPart, wFmt, dFmt, dJs, dJoined, dIsI, dIsI2, isT, isTg, tgD, dMut, dMl, wAppend, wPop, wPopAt, wReverse, wClear, wCat, wRepS, wExtend, wInsert, dgSub, dAugS, onSc, dLenS, dIxS, dSlSc, dLenSet, dBor, dBorT, dBorO, dListP, borE, isFlat, dCall, dCallO, dCallT, callQT, dNilB, dConsB, dRefB, dScB, dTmp, dTmpC, dTmpV, toFz, toOw, wipeE, backE, putR, dSetR, dRetR, dCallR, dIfR, List.map, List.map_cons, List.map_nil, List.set_cons_zero, List.set_cons_succ, List.getElem?_cons_succ, List.getElem?_cons_zero, List.getElem?_nil, List.cons_append, List.nil_append, List.length_cons, List.length_nil, List.replicate, List.getD_cons_zero, List.getD_cons_succ, b_read_items, b_read_items_1, b_read_items_2, b_read_items_3]
  refine ⟨by decide, by decide +kernel, size_ok (by omega), ?_⟩
  rw [show Txt.split (PySem.Str.join BL ys) (PySem.Str.ofString " ") = ys from split_BL hne fun p hp => item_free (v.ok p hp) (by decide)]
  refine ⟨fun i e => ∃ u w, e = [.fz (.str (PySem.Str.join BL ys)), .ow none (.lst ((ys.take i).map .str)), u, w], ⟨_, _, rfl⟩, ?_, ?_⟩
  · rintro i d e hd ⟨u, w, rfl⟩
    obtain ⟨x, hx, rfl⟩ := enum_at hd
    obtain ⟨y, hy, rfl⟩ := map_at hx
    have hi : i < ys.length := (List.getElem?_eq_some_iff.mp hy).1
    dsimp only [dSeq, dIfS, dSet, dSetO, dRet, dRetO, dRetN, dDrop, dNext, dNever, dBrk, dCnt, dVar, dVarO, dC, dOp, dOpO, dBl, onB, dTru, truD, dAnd, dOr, dNot, dAndV, dOrV, dNotV, dIf, dIfO, dFr, frO, dNilA, dConsA, dTup, dLst, dgN, dgNil, dgCons, dgTup, dAsg, dPar, dAug, dFor, dForP, dLc, dLcP, dItL, dItT, dItS, onL, dRng1, dRng2, on1, on2, onI, onS, onT, onQ, dEnum, dZip, dRev, wAdd, wI, wSub, wMul, wMod, wDiv, wPow, dUn, wNeg, wEq, wNe, wCmpI, wLt, wLe, wGt, wGe, wIs, wIsNot, wIsN, wIn, wNotIn, dChain, wIx, dIxP, dPeek, dNoPart, dPart, dSlL, dSlS, dCl, dClO, wLen, dLenP, wAbs, wMax2, wMin2, wInt, wStr, wAll, wAny, wSum, wListO, wTuple, wRepr, dSm, dSmO, wJoin, wSplit, wPart, wFmt, dFmt, dJs, dJoined, dIsI, dIsI2, isT, isTg, tgD, dMut, dMl, wAppend, wPop, wPopAt, wReverse, wClear, wCat, wRepS, wExtend, wInsert, dgSub, dAugS, onSc, dLenS, dIxS, dSlSc, dLenSet, dBor, dBorT, dBorO, dListP, borE, isFlat, dCall, dCallO, dCallT, callQT, dNilB, dConsB, dRefB, dScB, dTmp, dTmpC, dTmpV, toFz, toOw, wipeE, backE, putR, dSetR, dRetR, dCallR, dIfR, List.map, List.map_cons, List.map_nil, List.set_cons_zero, List.set_cons_succ, List.getElem?_cons_succ, List.getElem?_cons_zero, List.getElem?_nil, List.cons_append, List.nil_append, List.length_cons, List.length_nil, List.replicate, List.getD_cons_zero, List.getD_cons_succ]
    refine ⟨rfl, rfl, dp_i, iteF' ?_ (callF rfl ⟨y, v.ok y (List.mem_of_getElem? hy), rfl, rfl⟩ ?_)⟩
    · rw [eqv_int]
      exact decide_eq_false (by omega)
    dsimp only [dSeq, dIfS, dSet, dSetO, dRet, dRetO, dRetN, dDrop, dNext, dNever, dBrk, dCnt, dVar, dVarO, dC, dOp, dOpO, dBl, onB, dTru, truD, dAnd, dOr, dNot, dAndV, dOrV, dNotV, dIf, dIfO, dFr, frO, dNilA, dConsA, dTup, dLst, dgN, dgNil, dgCons, dgTup, dAsg, dPar, dAug, dFor, dForP, dLc, dLcP, dItL, dItT, dItS, onL, dRng1, dRng2, on1, on2, onI, onS, onT, onQ, dEnum, dZip, dRev, wAdd, wI, wSub, wMul, wMod, wDiv, wPow, dUn, wNeg, wEq, wNe, wCmpI, wLt, wLe, wGt, wGe, wIs, wIsNot, wIsN, wIn, wNotIn, dChain, wIx, dIxP, dPeek, dNoPart, dPart, dSlL, dSlS, dCl, dClO, wLen, dLenP, wAbs, wMax2, wMin2, wInt, wStr, wAll, wAny, wSum, wListO, wTuple, wRepr, dSm, dSmO, wJoin, wSplit, wPart, wFmt, dFmt, dJs, dJoined, dIsI, dIsI2, isT, isTg, tgD, dMut, dMl, wAppend, wPop, wPopAt, wReverse, wClear, wCat, wRepS, wExtend, wInsert, dgSub, dAugS, onSc, dLenS, dIxS, dSlSc, dLenSet, dBor, dBorT, dBorO, dListP, borE, isFlat, dCall, dCallO, dCallT, callQT, dNilB, dConsB, dRefB, dScB, dTmp, dTmpC, dTmpV, toFz, toOw, wipeE, backE, putR, dSetR, dRetR, dCallR, dIfR, List.map, List.map_cons, List.map_nil, List.set_cons_zero, List.set_cons_succ, List.getElem?_cons_succ, List.getElem?_cons_zero, List.getElem?_nil, List.cons_append, List.nil_append, List.length_cons, List.length_nil, List.replicate, List.getD_cons_zero, List.getD_cons_succ]
    refine iteF' rfl ⟨dpa_s, ?_⟩
    rw [any_str]
    refine iteF' (decide_eq_false ?_) ⟨trivial, size_lt (by rw [List.length_map, List.length_take]; omega), .fz (.int i), .fz (.str y), ?_⟩
    · intro hm
      obtain ⟨j, hj, e⟩ := List.mem_iff_getElem.mp hm
      rw [List.length_take] at hj
      rw [List.getElem_take] at e
      have h1 : ys[j]? = some y := by rw [List.getElem?_eq_getElem (by omega), e]
      have h2 := (List.getElem?_inj (by omega) v.nd).mp (h1.trans hy.symm)
      omega
    · rw [take_snoc hy, List.map_append]
      rfl
  · rintro e ⟨u, w, rfl⟩
    rw [enum_len, List.length_map]
    dsimp only [dSeq, dIfS, dSet, dSetO, dRet, dRetO, dRetN, dDrop, dNext, dNever, dBrk, dCnt, dVar, dVarO, dC, dOp, dOpO, dBl, onB, dTru, truD, dAnd, dOr, dNot, dAndV, dOrV, dNotV, dIf, dIfO, dFr, frO, dNilA, dConsA, dTup, dLst, dgN, dgNil, dgCons, dgTup, dAsg, dPar, dAug, dFor, dForP, dLc, dLcP, dItL, dItT, dItS, onL, dRng1, dRng2, on1, on2, onI, onS, onT, onQ, dEnum, dZip, dRev, wAdd, wI, wSub, wMul, wMod, wDiv, wPow, dUn, wNeg, wEq, wNe, wCmpI, wLt, wLe, wGt, wGe, wIs, wIsNot, wIsN, wIn, wNotIn, dChain, wIx, dIxP, dPeek, dNoPart, dPart, dSlL, dSlS, dCl, dClO, wLen, dLenP, wAbs, wMax2, wMin2, wInt, wStr, wAll, wAny, wSum, wListO, wTuple, wRepr, dSm, dSmO, wJoin, wSplit, wPart, wFmt, dFmt, dJs, dJoined, dIsI, dIsI2, isT, isTg, tgD, dMut, dMl, wAppend, wPop, wPopAt, wReverse, wClear, wCat, wRepS, wExtend, wInsert, dgSub, dAugS, onSc, dLenS, dIxS, dSlSc, dLenSet, dBor, dBorT, dBorO, dListP, borE, isFlat, dCall, dCallO, dCallT, callQT, dNilB, dConsB, dRefB, dScB, dTmp, dTmpC, dTmpV, toFz, toOw, wipeE, backE, putR, dSetR, dRetR, dCallR, dIfR, List.map, List.map_cons, List.map_nil, List.set_cons_zero, List.set_cons_succ, List.getElem?_cons_succ, List.getElem?_cons_zero, List.getElem?_nil, List.cons_append, List.nil_append, List.length_cons, List.length_nil, List.replicate, List.getD_cons_zero, List.getD_cons_succ]
    rw [List.take_length]
    exact hE _
theorem ln_read_seen : ∀ as W, post_read_seen as W → as.length = 1 := ln_F fun ds d ⟨e, _, e1, _⟩ => by rw [e1]; rfl
theorem any_seen (ss : List (Option Str)) (z : Str) : ((ss.map seenD).any fun d => PyData.eqv d (.str z)) = decide (some z ∈ ss) := by
  rw [Bool.eq_iff_iff, List.any_eq_true, decide_eq_true_eq]
  constructor
  · rintro ⟨d, hd, he⟩
    obtain ⟨o, ho, rfl⟩ := List.mem_map.mp hd
    cases o with
    | none => rw [show seenD none = .none from rfl, PyData.eqv] at he; cases he
    | some y =>
      rw [show seenD (some y) = .str y from rfl, eqv_str, decide_eq_true_eq] at he
      exact he ▸ ho
  · intro h
    exact ⟨_, List.mem_map.mpr ⟨_, h, rfl⟩, by rw [show seenD (some z) = .str z from rfl, eqv_str, decide_eq_true_eq]⟩
theorem pu_read_seen : ∀ as W, post_read_seen as W → b_read_seen { nx := exitW as W (.fz .none), rt := exitW as W } (as ++ List.replicate (4 - as.length) .no) := pu_F fun ds d ⟨ss, v, e1, e2⟩ E hE => by
  subst e1 e2
  show b_read_seen E [.fz _, .no, .no, .no]
  have hlen : (PySem.Str.join BL (ss.map seenT)).length ≤ 400 := by
    have h1 := join_len BL (ss.map seenT)
    have h2 := jl (L := 8) (n := 40) len_BL (seenT_len v) (by rw [List.length_map]; exact v.hi)
    omega
  have hlo := v.lo
  have hhi := v.hi
  have hne : ss.map seenT ≠ [] := fun e => by rw [List.map_eq_nil_iff] at e; rw [e] at hlo; simp at hlo
  dsimp only [dSeq, dIfS, dSet, dSetO, dRet, dRetO, dRetN, dDrop, dNext, dNever, dBrk, dCnt, dVar, dVarO, dC, dOp, dOpO, dBl, onB, dTru, truD, dAnd, dOr, dNot, dAndV, dOrV, dNotV, dIf, dIfO, dFr, frO, dNilA, dConsA, dTup, dLst, dgN, dgNil, dgCons, dgTup, dAsg, dPar, dAug, dFor, dForP, dLc, dLcP, dItL, dItT, dItS, onL, dRng1, dRng2, on1, on2, onI, onS, onT, onQ, dEnum, dZip, dRev, wAdd, wI, wSub, wMul, wMod, wDiv, wPow, dUn, wNeg, wEq, wNe, wCmpI, wLt, wLe, wGt, wGe, wIs, wIsNot, wIsN, wIn, wNotIn, dChain, wIx, dIxP, dPeek, dNoPart, dPart, dSlL, dSlS, dCl, dClO, wLen, dLenP, wAbs, wMax2, wMin2, wInt, wStr, wAll, wAny, wSum, wListO, wTuple, wRepr, dSm, dSmO, wJoin, wSplit, wPart, wFmt, dFmt, dJs, dJoined, dIsI, dIsI2, isT, isTg, tgD, dMut, dMl, wAppend, wPop, wPopAt, wReverse, wClear, wCat, wRepS, wExtend, wInsert, dgSub, dAugS, onSc, dLenS, dIxS, dSlSc, dLenSet, dBor, dBorT, dBorO, dListP, borE, isFlat, dCall, dCallO, dCallT, callQT, dNilB, dConsB, dRefB, dScB, dTmp, dTmpC, dTmpV, toFz, toOw, wipeE, backE, putR, dSetR, dRetR, dCallR, dIfR, List.map, List.map_cons, List.map_nil, List.set_cons_zero, List.set_cons_succ, List.getElem?_cons_succ, List.getElem?_cons_zero, List.getElem?_nil, List.cons_append, List.nil_append, List.length_cons, List.length_nil, List.replicate, List.getD_cons_zero, List.getD_cons_succ, b_read_seen, b_read_seen_1, b_read_seen_2, b_read_seen_3]
  refine ⟨by decide, by decide +kernel, size_ok (by omega), ?_⟩
  rw [show Txt.split (PySem.Str.join BL (ss.map seenT)) (PySem.Str.ofString " ") = ss.map seenT from split_BL hne fun p hp => by
    obtain ⟨o, ho, rfl⟩ := List.mem_map.mp hp
    cases o with
    | none => show 32 ∉ TL.tl QM; rw [tl_QM]; decide
    | some z => exact item_free (v.ok z ho) (by decide), List.map_map]
  refine ⟨fun i e => ∃ u w, e = [.fz (.str (PySem.Str.join BL (ss.map seenT))), .ow none (.lst ((ss.take i).map seenD)), u, w], ⟨_, _, rfl⟩, ?_, ?_⟩
  · rintro i d e hd ⟨u, w, rfl⟩
    obtain ⟨x, hx, rfl⟩ := enum_at hd
    obtain ⟨o, ho, rfl⟩ := map_at hx
    have hi : i < ss.length := (List.getElem?_eq_some_iff.mp ho).1
    have hs : ((ss.take i).map seenD).length < sizeLine := size_lt (by rw [List.length_map, List.length_take]; omega)
    have h40 : ¬ ((i : Nat) : Int) = 40 := by omega
    cases o with
    | none =>
      show _
      dsimp only [dSeq, dIfS, dSet, dSetO, dRet, dRetO, dRetN, dDrop, dNext, dNever, dBrk, dCnt, dVar, dVarO, dC, dOp, dOpO, dBl, onB, dTru, truD, dAnd, dOr, dNot, dAndV, dOrV, dNotV, dIf, dIfO, dFr, frO, dNilA, dConsA, dTup, dLst, dgN, dgNil, dgCons, dgTup, dAsg, dPar, dAug, dFor, dForP, dLc, dLcP, dItL, dItT, dItS, onL, dRng1, dRng2, on1, on2, onI, onS, onT, onQ, dEnum, dZip, dRev, wAdd, wI, wSub, wMul, wMod, wDiv, wPow, dUn, wNeg, wEq, wNe, wCmpI, wLt, wLe, wGt, wGe, wIs, wIsNot, wIsN, wIn, wNotIn, dChain, wIx, dIxP, dPeek, dNoPart, dPart, dSlL, dSlS, dCl, dClO, wLen, dLenP, wAbs, wMax2, wMin2, wInt, wStr, wAll, wAny, wSum, wListO, wTuple, wRepr, dSm, dSmO, wJoin, wSplit, wPart, wFmt, dFmt, dJs, dJoined, dIsI, dIsI2, isT, isTg, tgD, dMut, dMl, wAppend, wPop, wPopAt, wReverse, wClear, wCat, wRepS, wExtend, wInsert, dgSub, dAugS, onSc, dLenS, dIxS, dSlSc, dLenSet, dBor, dBorT, dBorO, dListP, borE, isFlat, dCall, dCallO, dCallT, callQT, dNilB, dConsB, dRefB, dScB, dTmp, dTmpC, dTmpV, toFz, toOw, wipeE, backE, putR, dSetR, dRetR, dCallR, dIfR, List.map, List.map_cons, List.map_nil, List.set_cons_zero, List.set_cons_succ, List.getElem?_cons_succ, List.getElem?_cons_zero, List.getElem?_nil, List.cons_append, List.nil_append, List.length_cons, List.length_nil, List.replicate, List.getD_cons_zero, List.getD_cons_succ, Function.comp, seenT]
      refine ⟨rfl, rfl, dp_i, iteF' (by rw [eqv_int]; exact decide_eq_false h40) ⟨dp_s, iteF' (by rw [eqv_str, decide_eq_true rfl]; rfl) ⟨trivial, dp_s, iteT' (by rw [eqv_str]; exact decide_eq_true rfl) ⟨hs, .fz (.int i), .fz (.str QM), ?_⟩⟩⟩⟩
      rw [take_snoc ho, List.map_append]
      rfl
    | some y =>
      have oy := v.ok y (List.mem_of_getElem? ho)
      have nq : ¬ y = QM := fun e => item_free oy (c := 63) (by decide) (by rw [e, tl_QM]; decide)
      dsimp only [dSeq, dIfS, dSet, dSetO, dRet, dRetO, dRetN, dDrop, dNext, dNever, dBrk, dCnt, dVar, dVarO, dC, dOp, dOpO, dBl, onB, dTru, truD, dAnd, dOr, dNot, dAndV, dOrV, dNotV, dIf, dIfO, dFr, frO, dNilA, dConsA, dTup, dLst, dgN, dgNil, dgCons, dgTup, dAsg, dPar, dAug, dFor, dForP, dLc, dLcP, dItL, dItT, dItS, onL, dRng1, dRng2, on1, on2, onI, onS, onT, onQ, dEnum, dZip, dRev, wAdd, wI, wSub, wMul, wMod, wDiv, wPow, dUn, wNeg, wEq, wNe, wCmpI, wLt, wLe, wGt, wGe, wIs, wIsNot, wIsN, wIn, wNotIn, dChain, wIx, dIxP, dPeek, dNoPart, dPart, dSlL, dSlS, dCl, dClO, wLen, dLenP, wAbs, wMax2, wMin2, wInt, wStr, wAll, wAny, wSum, wListO, wTuple, wRepr, dSm, dSmO, wJoin, wSplit, wPart, wFmt, dFmt, dJs, dJoined, dIsI, dIsI2, isT, isTg, tgD, dMut, dMl, wAppend, wPop, wPopAt, wReverse, wClear, wCat, wRepS, wExtend, wInsert, dgSub, dAugS, onSc, dLenS, dIxS, dSlSc, dLenSet, dBor, dBorT, dBorO, dListP, borE, isFlat, dCall, dCallO, dCallT, callQT, dNilB, dConsB, dRefB, dScB, dTmp, dTmpC, dTmpV, toFz, toOw, wipeE, backE, putR, dSetR, dRetR, dCallR, dIfR, List.map, List.map_cons, List.map_nil, List.set_cons_zero, List.set_cons_succ, List.getElem?_cons_succ, List.getElem?_cons_zero, List.getElem?_nil, List.cons_append, List.nil_append, List.length_cons, List.length_nil, List.replicate, List.getD_cons_zero, List.getD_cons_succ, Function.comp, seenT]
      refine ⟨rfl, rfl, dp_i, iteF' (by rw [eqv_int]; exact decide_eq_false h40) ⟨dp_s, iteT' (by rw [eqv_str, decide_eq_false nq]; rfl) (callF rfl ⟨y, oy, rfl, rfl⟩ ?_)⟩⟩
      dsimp only [dSeq, dIfS, dSet, dSetO, dRet, dRetO, dRetN, dDrop, dNext, dNever, dBrk, dCnt, dVar, dVarO, dC, dOp, dOpO, dBl, onB, dTru, truD, dAnd, dOr, dNot, dAndV, dOrV, dNotV, dIf, dIfO, dFr, frO, dNilA, dConsA, dTup, dLst, dgN, dgNil, dgCons, dgTup, dAsg, dPar, dAug, dFor, dForP, dLc, dLcP, dItL, dItT, dItS, onL, dRng1, dRng2, on1, on2, onI, onS, onT, onQ, dEnum, dZip, dRev, wAdd, wI, wSub, wMul, wMod, wDiv, wPow, dUn, wNeg, wEq, wNe, wCmpI, wLt, wLe, wGt, wGe, wIs, wIsNot, wIsN, wIn, wNotIn, dChain, wIx, dIxP, dPeek, dNoPart, dPart, dSlL, dSlS, dCl, dClO, wLen, dLenP, wAbs, wMax2, wMin2, wInt, wStr, wAll, wAny, wSum, wListO, wTuple, wRepr, dSm, dSmO, wJoin, wSplit, wPart, wFmt, dFmt, dJs, dJoined, dIsI, dIsI2, isT, isTg, tgD, dMut, dMl, wAppend, wPop, wPopAt, wReverse, wClear, wCat, wRepS, wExtend, wInsert, dgSub, dAugS, onSc, dLenS, dIxS, dSlSc, dLenSet, dBor, dBorT, dBorO, dListP, borE, isFlat, dCall, dCallO, dCallT, callQT, dNilB, dConsB, dRefB, dScB, dTmp, dTmpC, dTmpV, toFz, toOw, wipeE, backE, putR, dSetR, dRetR, dCallR, dIfR, List.map, List.map_cons, List.map_nil, List.set_cons_zero, List.set_cons_succ, List.getElem?_cons_succ, List.getElem?_cons_zero, List.getElem?_nil, List.cons_append, List.nil_append, List.length_cons, List.length_nil, List.replicate, List.getD_cons_zero, List.getD_cons_succ]
      refine iteF' rfl ⟨dpa_s, ?_⟩
      rw [any_seen]
      refine iteF' (decide_eq_false ?_) ⟨trivial, dp_s, iteF' (by rw [eqv_str]; exact decide_eq_false nq) ⟨hs, .fz (.int i), .fz (.str y), ?_⟩⟩
      · intro hm
        obtain ⟨j, hj, e⟩ := List.mem_iff_getElem.mp hm
        rw [List.length_take] at hj
        rw [List.getElem_take] at e
        have h1 : ss[j]? = some (some y) := by rw [List.getElem?_eq_getElem (by omega), e]
        have := v.nd j i y h1 ho
        omega
      · rw [take_snoc ho, List.map_append]
        rfl
  · rintro e ⟨u, w, rfl⟩
    rw [enum_len, List.length_map]
    dsimp only [dSeq, dIfS, dSet, dSetO, dRet, dRetO, dRetN, dDrop, dNext, dNever, dBrk, dCnt, dVar, dVarO, dC, dOp, dOpO, dBl, onB, dTru, truD, dAnd, dOr, dNot, dAndV, dOrV, dNotV, dIf, dIfO, dFr, frO, dNilA, dConsA, dTup, dLst, dgN, dgNil, dgCons, dgTup, dAsg, dPar, dAug, dFor, dForP, dLc, dLcP, dItL, dItT, dItS, onL, dRng1, dRng2, on1, on2, onI, onS, onT, onQ, dEnum, dZip, dRev, wAdd, wI, wSub, wMul, wMod, wDiv, wPow, dUn, wNeg, wEq, wNe, wCmpI, wLt, wLe, wGt, wGe, wIs, wIsNot, wIsN, wIn, wNotIn, dChain, wIx, dIxP, dPeek, dNoPart, dPart, dSlL, dSlS, dCl, dClO, wLen, dLenP, wAbs, wMax2, wMin2, wInt, wStr, wAll, wAny, wSum, wListO, wTuple, wRepr, dSm, dSmO, wJoin, wSplit, wPart, wFmt, dFmt, dJs, dJoined, dIsI, dIsI2, isT, isTg, tgD, dMut, dMl, wAppend, wPop, wPopAt, wReverse, wClear, wCat, wRepS, wExtend, wInsert, dgSub, dAugS, onSc, dLenS, dIxS, dSlSc, dLenSet, dBor, dBorT, dBorO, dListP, borE, isFlat, dCall, dCallO, dCallT, callQT, dNilB, dConsB, dRefB, dScB, dTmp, dTmpC, dTmpV, toFz, toOw, wipeE, backE, putR, dSetR, dRetR, dCallR, dIfR, List.map, List.map_cons, List.map_nil, List.set_cons_zero, List.set_cons_succ, List.getElem?_cons_succ, List.getElem?_cons_zero, List.getElem?_nil, List.cons_append, List.nil_append, List.length_cons, List.length_nil, List.replicate, List.getD_cons_zero, List.getD_cons_succ]
    rw [List.take_length]
    exact hE _
theorem eqv_ed (a b : Ed) : PyData.eqv (edD a) (edD b) = decide (a = b) := by
  unfold edD
  rw [PyData.eqv, PyData.eqvAll, PyData.eqvAll, PyData.eqvAll, eqv_int, eqv_int, Bool.and_true, Bool.eq_iff_iff, Bool.and_eq_true, decide_eq_true_eq, decide_eq_true_eq, decide_eq_true_eq]
  constructor
  · rintro ⟨h1, h2⟩
    exact Prod.ext (Int.ofNat.inj h1) (Int.ofNat.inj h2)
  · rintro rfl
    exact ⟨rfl, rfl⟩
theorem any_ed (es : List Ed) (z : Ed) : ((es.map edD).any fun d => PyData.eqv d (edD z)) = decide (z ∈ es) := by
  rw [Bool.eq_iff_iff, List.any_eq_true, decide_eq_true_eq]
  constructor
  · rintro ⟨d, hd, he⟩
    obtain ⟨o, ho, rfl⟩ := List.mem_map.mp hd
    rw [eqv_ed, decide_eq_true_eq] at he
    exact he ▸ ho
  · intro h
    exact ⟨_, List.mem_map.mpr ⟨_, h, rfl⟩, by rw [eqv_ed, decide_eq_true_eq]⟩
theorem ed_depth (e : Ed) : (edD e).depth = 1 := by
  unfold edD
  rw [PyData.depth, PyData.depthAll, PyData.depthAll, PyData.depthAll, PyData.depth, PyData.depth]
  rfl
theorem edT_free {e : Ed} {c : Nat} (h : c < 48 ∨ 57 < c) (h2 : c ≠ 45) : c ∉ TL.tl (edT e) := fun hm => by
  unfold edT at hm
  rw [TL.tl_append, TL.tl_append, tl_DS] at hm
  rcases List.mem_append.mp hm with h1 | h1
  · rcases List.mem_append.mp h1 with h3 | h3
    · exact num_free h h3
    · exact h2 (by simpa using h3)
  · exact num_free h h1
theorem edT_ne {e : Ed} : edT e ≠ DS' := fun h => by
  have h1 : TL.tl (edT e) = TL.tl DS' := by rw [h]
  unfold edT at h1
  rw [TL.tl_append, TL.tl_append, tl_DS] at h1
  have h2 := congrArg List.length h1
  rw [List.length_append, List.length_append] at h2
  have h3 : (TL.tl (num e.1)).length ≠ 0 := fun e => num_ne (List.length_eq_zero_iff.mp e)
  simp only [List.length_cons, List.length_nil] at h2
  omega
theorem join_one (z y : Str) : PySem.Str.join z [y] = y := TL.ext_tl (by rw [TL.tl_join]; rfl)
theorem ln_read_edges : ∀ as W, post_read_edges as W → as.length = 1 := ln_F fun ds d ⟨e, _, e1, _⟩ => by rw [e1]; rfl
theorem pu_read_edges : ∀ as W, post_read_edges as W → b_read_edges { nx := exitW as W (.fz .none), rt := exitW as W } (as ++ List.replicate (6 - as.length) .no) := pu_F fun ds d ⟨es, v, e1, e2⟩ E hE => by
  subst e1 e2
  show b_read_edges E [.fz _, .no, .no, .no, .no, .no]
  have hhi := v.hi
  cases h : es.isEmpty with
  | true =>
    rw [edgesT_nil h]
    rw [List.isEmpty_iff.mp h] at hE
    dsimp only [dSeq, dIfS, dSet, dSetO, dRet, dRetO, dRetN, dDrop, dNext, dNever, dBrk, dCnt, dVar, dVarO, dC, dOp, dOpO, dBl, onB, dTru, truD, dAnd, dOr, dNot, dAndV, dOrV, dNotV, dIf, dIfO, dFr, frO, dNilA, dConsA, dTup, dLst, dgN, dgNil, dgCons, dgTup, dAsg, dPar, dAug, dFor, dForP, dLc, dLcP, dItL, dItT, dItS, onL, dRng1, dRng2, on1, on2, onI, onS, onT, onQ, dEnum, dZip, dRev, wAdd, wI, wSub, wMul, wMod, wDiv, wPow, dUn, wNeg, wEq, wNe, wCmpI, wLt, wLe, wGt, wGe, wIs, wIsNot, wIsN, wIn, wNotIn, dChain, wIx, dIxP, dPeek, dNoPart, dPart, dSlL, dSlS, dCl, dClO, wLen, dLenP, wAbs, wMax2, wMin2, wInt, wStr, wAll, wAny, wSum, wListO, wTuple, wRepr, dSm, dSmO, wJoin, wSplit, wPart, wFmt, dFmt, dJs, dJoined, dIsI, dIsI2, isT, isTg, tgD, dMut, dMl, wAppend, wPop, wPopAt, wReverse, wClear, wCat, wRepS, wExtend, wInsert, dgSub, dAugS, onSc, dLenS, dIxS, dSlSc, dLenSet, dBor, dBorT, dBorO, dListP, borE, isFlat, dCall, dCallO, dCallT, callQT, dNilB, dConsB, dRefB, dScB, dTmp, dTmpC, dTmpV, toFz, toOw, wipeE, backE, putR, dSetR, dRetR, dCallR, dIfR, List.map, List.map_cons, List.map_nil, List.set_cons_zero, List.set_cons_succ, List.getElem?_cons_succ, List.getElem?_cons_zero, List.getElem?_nil, List.cons_append, List.nil_append, List.length_cons, List.length_nil, List.replicate, List.getD_cons_zero, List.getD_cons_succ, b_read_edges, b_read_edges_1, b_read_edges_2, b_read_edges_3, b_read_edges_4, b_read_edges_5, b_read_edges_6, b_read_edges_7]
    refine ⟨by decide +kernel, size_ok (by rw [len_DS]; decide), ?_⟩
    rw [show Txt.split DS' (PySem.Str.ofString " ") = [DS'] from (by
      have := split_BL (ys := [DS']) (by simp) (fun p hp => by
        rw [List.mem_singleton.mp hp, tl_DS]
        decide)
      rw [join_one] at this
      exact this)]
    refine ⟨_, rfl, dp_s, iteT' (by rw [eqv_str]; exact decide_eq_true rfl) (iteF' rfl ⟨by decide, hE _⟩)⟩
  | false =>
    rw [edgesT_cons h]
    have hlen : (PySem.Str.join BL (es.map edT)).length ≤ 600 := by
      have h1 := join_len BL (es.map edT)
      have h2 := jl (L := 5) (n := 100) len_BL (edT_all v) (by rw [List.length_map]; exact v.hi)
      omega
    have hne : es.map edT ≠ [] := fun e => by rw [List.map_eq_nil_iff] at e; rw [e] at h; cases h
    dsimp only [dSeq, dIfS, dSet, dSetO, dRet, dRetO, dRetN, dDrop, dNext, dNever, dBrk, dCnt, dVar, dVarO, dC, dOp, dOpO, dBl, onB, dTru, truD, dAnd, dOr, dNot, dAndV, dOrV, dNotV, dIf, dIfO, dFr, frO, dNilA, dConsA, dTup, dLst, dgN, dgNil, dgCons, dgTup, dAsg, dPar, dAug, dFor, dForP, dLc, dLcP, dItL, dItT, dItS, onL, dRng1, dRng2, on1, on2, onI, onS, onT, onQ, dEnum, dZip, dRev, wAdd, wI, wSub, wMul, wMod, wDiv, wPow, dUn, wNeg, wEq, wNe, wCmpI, wLt, wLe, wGt, wGe, wIs, wIsNot, wIsN, wIn, wNotIn, dChain, wIx, dIxP, dPeek, dNoPart, dPart, dSlL, dSlS, dCl, dClO, wLen, dLenP, wAbs, wMax2, wMin2, wInt, wStr, wAll, wAny, wSum, wListO, wTuple, wRepr, dSm, dSmO, wJoin, wSplit, wPart, wFmt, dFmt, dJs, dJoined, dIsI, dIsI2, isT, isTg, tgD, dMut, dMl, wAppend, wPop, wPopAt, wReverse, wClear, wCat, wRepS, wExtend, wInsert, dgSub, dAugS, onSc, dLenS, dIxS, dSlSc, dLenSet, dBor, dBorT, dBorO, dListP, borE, isFlat, dCall, dCallO, dCallT, callQT, dNilB, dConsB, dRefB, dScB, dTmp, dTmpC, dTmpV, toFz, toOw, wipeE, backE, putR, dSetR, dRetR, dCallR, dIfR, List.map, List.map_cons, List.map_nil, List.set_cons_zero, List.set_cons_succ, List.getElem?_cons_succ, List.getElem?_cons_zero, List.getElem?_nil, List.cons_append, List.nil_append, List.length_cons, List.length_nil, List.replicate, List.getD_cons_zero, List.getD_cons_succ, b_read_edges, b_read_edges_1, b_read_edges_2, b_read_edges_3, b_read_edges_4, b_read_edges_5, b_read_edges_6, b_read_edges_7]
    refine ⟨by decide +kernel, size_ok (by omega), ?_⟩
    rw [show Txt.split (PySem.Str.join BL (es.map edT)) (PySem.Str.ofString " ") = es.map edT from split_BL hne fun p hp => by
      obtain ⟨e, he, rfl⟩ := List.mem_map.mp hp
      exact edT_free (by decide) (by decide), List.map_map]
    obtain ⟨e0, r0, e0r⟩ : ∃ e0 r0, es = e0 :: r0 := by
      cases es with
      | nil => cases h
      | cons e0 r0 => exact ⟨e0, r0, rfl⟩
    refine ⟨.str (edT e0), by rw [e0r]; exact atI_nat (j := 0) rfl, dp_s, iteF' (by rw [eqv_str]; exact decide_eq_false edT_ne) ⟨by decide, ?_⟩⟩
    refine ⟨fun i e => ∃ u w x, e = [.fz (.str (PySem.Str.join BL (es.map edT))), .fz (.list (es.map (PyData.str ∘ edT))), .ow none (.lst ((es.take i).map edD)), u, w, x], ⟨_, _, _, rfl⟩, ?_, ?_⟩
    · rintro i d e hd ⟨u, w, x, rfl⟩
      obtain ⟨x, hx, rfl⟩ := enum_at hd
      obtain ⟨e, he, rfl⟩ := map_at hx
      have hi : i < es.length := (List.getElem?_eq_some_iff.mp he).1
      have hs : ((es.take i).map edD).length < sizeLine := size_lt (by rw [List.length_map, List.length_take]; omega)
      dsimp only [dSeq, dIfS, dSet, dSetO, dRet, dRetO, dRetN, dDrop, dNext, dNever, dBrk, dCnt, dVar, dVarO, dC, dOp, dOpO, dBl, onB, dTru, truD, dAnd, dOr, dNot, dAndV, dOrV, dNotV, dIf, dIfO, dFr, frO, dNilA, dConsA, dTup, dLst, dgN, dgNil, dgCons, dgTup, dAsg, dPar, dAug, dFor, dForP, dLc, dLcP, dItL, dItT, dItS, onL, dRng1, dRng2, on1, on2, onI, onS, onT, onQ, dEnum, dZip, dRev, wAdd, wI, wSub, wMul, wMod, wDiv, wPow, dUn, wNeg, wEq, wNe, wCmpI, wLt, wLe, wGt, wGe, wIs, wIsNot, wIsN, wIn, wNotIn, dChain, wIx, dIxP, dPeek, dNoPart, dPart, dSlL, dSlS, dCl, dClO, wLen, dLenP, wAbs, wMax2, wMin2, wInt, wStr, wAll, wAny, wSum, wListO, wTuple, wRepr, dSm, dSmO, wJoin, wSplit, wPart, wFmt, dFmt, dJs, dJoined, dIsI, dIsI2, isT, isTg, tgD, dMut, dMl, wAppend, wPop, wPopAt, wReverse, wClear, wCat, wRepS, wExtend, wInsert, dgSub, dAugS, onSc, dLenS, dIxS, dSlSc, dLenSet, dBor, dBorT, dBorO, dListP, borE, isFlat, dCall, dCallO, dCallT, callQT, dNilB, dConsB, dRefB, dScB, dTmp, dTmpC, dTmpV, toFz, toOw, wipeE, backE, putR, dSetR, dRetR, dCallR, dIfR, List.map, List.map_cons, List.map_nil, List.set_cons_zero, List.set_cons_succ, List.getElem?_cons_succ, List.getElem?_cons_zero, List.getElem?_nil, List.cons_append, List.nil_append, List.length_cons, List.length_nil, List.replicate, List.getD_cons_zero, List.getD_cons_succ, Function.comp]
      refine ⟨rfl, rfl, callF rfl ⟨e, v.ok e (List.mem_of_getElem? he), rfl, rfl⟩ ?_⟩
      dsimp only [dSeq, dIfS, dSet, dSetO, dRet, dRetO, dRetN, dDrop, dNext, dNever, dBrk, dCnt, dVar, dVarO, dC, dOp, dOpO, dBl, onB, dTru, truD, dAnd, dOr, dNot, dAndV, dOrV, dNotV, dIf, dIfO, dFr, frO, dNilA, dConsA, dTup, dLst, dgN, dgNil, dgCons, dgTup, dAsg, dPar, dAug, dFor, dForP, dLc, dLcP, dItL, dItT, dItS, onL, dRng1, dRng2, on1, on2, onI, onS, onT, onQ, dEnum, dZip, dRev, wAdd, wI, wSub, wMul, wMod, wDiv, wPow, dUn, wNeg, wEq, wNe, wCmpI, wLt, wLe, wGt, wGe, wIs, wIsNot, wIsN, wIn, wNotIn, dChain, wIx, dIxP, dPeek, dNoPart, dPart, dSlL, dSlS, dCl, dClO, wLen, dLenP, wAbs, wMax2, wMin2, wInt, wStr, wAll, wAny, wSum, wListO, wTuple, wRepr, dSm, dSmO, wJoin, wSplit, wPart, wFmt, dFmt, dJs, dJoined, dIsI, dIsI2, isT, isTg, tgD, dMut, dMl, wAppend, wPop, wPopAt, wReverse, wClear, wCat, wRepS, wExtend, wInsert, dgSub, dAugS, onSc, dLenS, dIxS, dSlSc, dLenSet, dBor, dBorT, dBorO, dListP, borE, isFlat, dCall, dCallO, dCallT, callQT, dNilB, dConsB, dRefB, dScB, dTmp, dTmpC, dTmpV, toFz, toOw, wipeE, backE, putR, dSetR, dRetR, dCallR, dIfR, List.map, List.map_cons, List.map_nil, List.set_cons_zero, List.set_cons_succ, List.getElem?_cons_succ, List.getElem?_cons_zero, List.getElem?_nil, List.cons_append, List.nil_append, List.length_cons, List.length_nil, List.replicate, List.getD_cons_zero, List.getD_cons_succ]
      refine ⟨dp_i, iteF' (by rw [eqv_int]; exact decide_eq_false (by omega)) ?_⟩
      refine iteF' rfl ⟨by rw [ed_depth]; exact Nat.le_trans (Nat.min_le_right _ _) (by decide), ?_⟩
      rw [any_ed]
      refine iteF' (decide_eq_false ?_) ⟨trivial, hs, .fz (.int i), .fz (.str (edT e)), .fz (edD e), ?_⟩
      · intro hm
        obtain ⟨j, hj, e'⟩ := List.mem_iff_getElem.mp hm
        rw [List.length_take] at hj
        rw [List.getElem_take] at e'
        have h1 : es[j]? = some e := by rw [List.getElem?_eq_getElem (by omega), e']
        have h2 := (List.getElem?_inj (by omega) v.nd).mp (h1.trans he.symm)
        omega
      · rw [take_snoc he, List.map_append]
        rfl
    · rintro e ⟨u, w, x, rfl⟩
      rw [enum_len, List.length_map]
      dsimp only [dSeq, dIfS, dSet, dSetO, dRet, dRetO, dRetN, dDrop, dNext, dNever, dBrk, dCnt, dVar, dVarO, dC, dOp, dOpO, dBl, onB, dTru, truD, dAnd, dOr, dNot, dAndV, dOrV, dNotV, dIf, dIfO, dFr, frO, dNilA, dConsA, dTup, dLst, dgN, dgNil, dgCons, dgTup, dAsg, dPar, dAug, dFor, dForP, dLc, dLcP, dItL, dItT, dItS, onL, dRng1, dRng2, on1, on2, onI, onS, onT, onQ, dEnum, dZip, dRev, wAdd, wI, wSub, wMul, wMod, wDiv, wPow, dUn, wNeg, wEq, wNe, wCmpI, wLt, wLe, wGt, wGe, wIs, wIsNot, wIsN, wIn, wNotIn, dChain, wIx, dIxP, dPeek, dNoPart, dPart, dSlL, dSlS, dCl, dClO, wLen, dLenP, wAbs, wMax2, wMin2, wInt, wStr, wAll, wAny, wSum, wListO, wTuple, wRepr, dSm, dSmO, wJoin, wSplit, wPart, wFmt, dFmt, dJs, dJoined, dIsI, dIsI2, isT, isTg, tgD, dMut, dMl, wAppend, wPop, wPopAt, wReverse, wClear, wCat, wRepS, wExtend, wInsert, dgSub, dAugS, onSc, dLenS, dIxS, dSlSc, dLenSet, dBor, dBorT, dBorO, dListP, borE, isFlat, dCall, dCallO, dCallT, callQT, dNilB, dConsB, dRefB, dScB, dTmp, dTmpC, dTmpV, toFz, toOw, wipeE, backE, putR, dSetR, dRetR, dCallR, dIfR, List.map, List.map_cons, List.map_nil, List.set_cons_zero, List.set_cons_succ, List.getElem?_cons_succ, List.getElem?_cons_zero, List.getElem?_nil, List.cons_append, List.nil_append, List.length_cons, List.length_nil, List.replicate, List.getD_cons_zero, List.getD_cons_succ]
      rw [List.take_length]
      exact hE _
theorem turnT_free {t : List Nat} {c : Nat} (h : c < 48 ∨ 57 < c) (h2 : c ≠ 45) (h3 : c ≠ 32) : c ∉ TL.tl (turnT t) := fun hm => by
  cases e : t.isEmpty with
  | true => rw [turnT_nil e, tl_DS] at hm; exact h2 (by simpa using hm)
  | false =>
    rw [turnT_cons e] at hm
    rcases join_mem hm with h4 | ⟨y, hy, h4⟩
    · rw [tl_BL] at h4; exact h3 (by simpa using h4)
    · obtain ⟨n, _, rfl⟩ := List.mem_map.mp hy
      exact num_free h h4
theorem ln_read_turns : ∀ as W, post_read_turns as W → as.length = 1 := ln_F fun ds d ⟨e, _, e1, _⟩ => by rw [e1]; rfl
theorem pu_read_turns : ∀ as W, post_read_turns as W → b_read_turns { nx := exitW as W (.fz .none), rt := exitW as W } (as ++ List.replicate (5 - as.length) .no) := pu_F fun ds d ⟨ts, v, e1, e2⟩ E hE => by
  subst e1 e2
  show b_read_turns E [.fz _, .no, .no, .no, .no]
  have hhi := v.hi
  have hlo := v.lo
  have hlen : (PySem.Str.join NL (ts.map turnT)).length ≤ 4840 := by
    have h1 := join_len NL (ts.map turnT)
    have h2 := jl (L := 120) (n := 40) len_NL (turnT_all v) (by rw [List.length_map]; exact v.hi)
    omega
  have hne : ts.map turnT ≠ [] := fun e => by rw [List.map_eq_nil_iff] at e; rw [e] at hlo; simp at hlo
  dsimp only [dSeq, dIfS, dSet, dSetO, dRet, dRetO, dRetN, dDrop, dNext, dNever, dBrk, dCnt, dVar, dVarO, dC, dOp, dOpO, dBl, onB, dTru, truD, dAnd, dOr, dNot, dAndV, dOrV, dNotV, dIf, dIfO, dFr, frO, dNilA, dConsA, dTup, dLst, dgN, dgNil, dgCons, dgTup, dAsg, dPar, dAug, dFor, dForP, dLc, dLcP, dItL, dItT, dItS, onL, dRng1, dRng2, on1, on2, onI, onS, onT, onQ, dEnum, dZip, dRev, wAdd, wI, wSub, wMul, wMod, wDiv, wPow, dUn, wNeg, wEq, wNe, wCmpI, wLt, wLe, wGt, wGe, wIs, wIsNot, wIsN, wIn, wNotIn, dChain, wIx, dIxP, dPeek, dNoPart, dPart, dSlL, dSlS, dCl, dClO, wLen, dLenP, wAbs, wMax2, wMin2, wInt, wStr, wAll, wAny, wSum, wListO, wTuple, wRepr, dSm, dSmO, wJoin, wSplit, wPart, wFmt, dFmt, dJs, dJoined, dIsI, dIsI2, isT, isTg, tgD, dMut, dMl, wAppend, wPop, wPopAt, wReverse, wClear, wCat, wRepS, wExtend, wInsert, dgSub, dAugS, onSc, dLenS, dIxS, dSlSc, dLenSet, dBor, dBorT, dBorO, dListP, borE, isFlat, dCall, dCallO, dCallT, callQT, dNilB, dConsB, dRefB, dScB, dTmp, dTmpC, dTmpV, toFz, toOw, wipeE, backE, putR, dSetR, dRetR, dCallR, dIfR, List.map, List.map_cons, List.map_nil, List.set_cons_zero, List.set_cons_succ, List.getElem?_cons_succ, List.getElem?_cons_zero, List.getElem?_nil, List.cons_append, List.nil_append, List.length_cons, List.length_nil, List.replicate, List.getD_cons_zero, List.getD_cons_succ, b_read_turns, b_read_turns_1, b_read_turns_2, b_read_turns_3, b_read_turns_4]
  refine ⟨by decide, by decide +kernel, size_ok (by omega), ?_⟩
  rw [show Txt.split (PySem.Str.join NL (ts.map turnT)) (PySem.Str.ofString "\n") = ts.map turnT from split_NL hne fun p hp => by
    obtain ⟨e, he, rfl⟩ := List.mem_map.mp hp
    exact turnT_free (by decide) (by decide) (by decide), List.map_map]
  refine ⟨fun i e => ∃ u w x, e = [.fz (.str (PySem.Str.join NL (ts.map turnT))), .ow none (.lst ((ts.take i).map turnD)), u, w, x], ⟨_, _, _, rfl⟩, ?_, ?_⟩
  · rintro i d e hd ⟨u, w, x, rfl⟩
    obtain ⟨x, hx, rfl⟩ := enum_at hd
    obtain ⟨t, ht, rfl⟩ := map_at hx
    have hi : i < ts.length := (List.getElem?_eq_some_iff.mp ht).1
    dsimp only [dSeq, dIfS, dSet, dSetO, dRet, dRetO, dRetN, dDrop, dNext, dNever, dBrk, dCnt, dVar, dVarO, dC, dOp, dOpO, dBl, onB, dTru, truD, dAnd, dOr, dNot, dAndV, dOrV, dNotV, dIf, dIfO, dFr, frO, dNilA, dConsA, dTup, dLst, dgN, dgNil, dgCons, dgTup, dAsg, dPar, dAug, dFor, dForP, dLc, dLcP, dItL, dItT, dItS, onL, dRng1, dRng2, on1, on2, onI, onS, onT, onQ, dEnum, dZip, dRev, wAdd, wI, wSub, wMul, wMod, wDiv, wPow, dUn, wNeg, wEq, wNe, wCmpI, wLt, wLe, wGt, wGe, wIs, wIsNot, wIsN, wIn, wNotIn, dChain, wIx, dIxP, dPeek, dNoPart, dPart, dSlL, dSlS, dCl, dClO, wLen, dLenP, wAbs, wMax2, wMin2, wInt, wStr, wAll, wAny, wSum, wListO, wTuple, wRepr, dSm, dSmO, wJoin, wSplit, wPart, wFmt, dFmt, dJs, dJoined, dIsI, dIsI2, isT, isTg, tgD, dMut, dMl, wAppend, wPop, wPopAt, wReverse, wClear, wCat, wRepS, wExtend, wInsert, dgSub, dAugS, onSc, dLenS, dIxS, dSlSc, dLenSet, dBor, dBorT, dBorO, dListP, borE, isFlat, dCall, dCallO, dCallT, callQT, dNilB, dConsB, dRefB, dScB, dTmp, dTmpC, dTmpV, toFz, toOw, wipeE, backE, putR, dSetR, dRetR, dCallR, dIfR, List.map, List.map_cons, List.map_nil, List.set_cons_zero, List.set_cons_succ, List.getElem?_cons_succ, List.getElem?_cons_zero, List.getElem?_nil, List.cons_append, List.nil_append, List.length_cons, List.length_nil, List.replicate, List.getD_cons_zero, List.getD_cons_succ, Function.comp]
    refine ⟨rfl, rfl, callF rfl ⟨t, v.ok t (List.mem_of_getElem? ht), rfl, rfl⟩ ?_⟩
    dsimp only [dSeq, dIfS, dSet, dSetO, dRet, dRetO, dRetN, dDrop, dNext, dNever, dBrk, dCnt, dVar, dVarO, dC, dOp, dOpO, dBl, onB, dTru, truD, dAnd, dOr, dNot, dAndV, dOrV, dNotV, dIf, dIfO, dFr, frO, dNilA, dConsA, dTup, dLst, dgN, dgNil, dgCons, dgTup, dAsg, dPar, dAug, dFor, dForP, dLc, dLcP, dItL, dItT, dItS, onL, dRng1, dRng2, on1, on2, onI, onS, onT, onQ, dEnum, dZip, dRev, wAdd, wI, wSub, wMul, wMod, wDiv, wPow, dUn, wNeg, wEq, wNe, wCmpI, wLt, wLe, wGt, wGe, wIs, wIsNot, wIsN, wIn, wNotIn, dChain, wIx, dIxP, dPeek, dNoPart, dPart, dSlL, dSlS, dCl, dClO, wLen, dLenP, wAbs, wMax2, wMin2, wInt, wStr, wAll, wAny, wSum, wListO, wTuple, wRepr, dSm, dSmO, wJoin, wSplit, wPart, wFmt, dFmt, dJs, dJoined, dIsI, dIsI2, isT, isTg, tgD, dMut, dMl, wAppend, wPop, wPopAt, wReverse, wClear, wCat, wRepS, wExtend, wInsert, dgSub, dAugS, onSc, dLenS, dIxS, dSlSc, dLenSet, dBor, dBorT, dBorO, dListP, borE, isFlat, dCall, dCallO, dCallT, callQT, dNilB, dConsB, dRefB, dScB, dTmp, dTmpC, dTmpV, toFz, toOw, wipeE, backE, putR, dSetR, dRetR, dCallR, dIfR, List.map, List.map_cons, List.map_nil, List.set_cons_zero, List.set_cons_succ, List.getElem?_cons_succ, List.getElem?_cons_zero, List.getElem?_nil, List.cons_append, List.nil_append, List.length_cons, List.length_nil, List.replicate, List.getD_cons_zero, List.getD_cons_succ]
    refine ⟨dp_i, iteF' (by rw [eqv_int]; exact decide_eq_false (by omega)) (iteF' rfl ⟨trivial, size_lt (by rw [List.length_map, List.length_take]; omega), .fz (.int i), .fz (.str (turnT t)), .fz (turnD t), ?_⟩)⟩
    rw [take_snoc ht, List.map_append]
    rfl
  · rintro e ⟨u, w, x, rfl⟩
    rw [enum_len, List.length_map]
    dsimp only [dSeq, dIfS, dSet, dSetO, dRet, dRetO, dRetN, dDrop, dNext, dNever, dBrk, dCnt, dVar, dVarO, dC, dOp, dOpO, dBl, onB, dTru, truD, dAnd, dOr, dNot, dAndV, dOrV, dNotV, dIf, dIfO, dFr, frO, dNilA, dConsA, dTup, dLst, dgN, dgNil, dgCons, dgTup, dAsg, dPar, dAug, dFor, dForP, dLc, dLcP, dItL, dItT, dItS, onL, dRng1, dRng2, on1, on2, onI, onS, onT, onQ, dEnum, dZip, dRev, wAdd, wI, wSub, wMul, wMod, wDiv, wPow, dUn, wNeg, wEq, wNe, wCmpI, wLt, wLe, wGt, wGe, wIs, wIsNot, wIsN, wIn, wNotIn, dChain, wIx, dIxP, dPeek, dNoPart, dPart, dSlL, dSlS, dCl, dClO, wLen, dLenP, wAbs, wMax2, wMin2, wInt, wStr, wAll, wAny, wSum, wListO, wTuple, wRepr, dSm, dSmO, wJoin, wSplit, wPart, wFmt, dFmt, dJs, dJoined, dIsI, dIsI2, isT, isTg, tgD, dMut, dMl, wAppend, wPop, wPopAt, wReverse, wClear, wCat, wRepS, wExtend, wInsert, dgSub, dAugS, onSc, dLenS, dIxS, dSlSc, dLenSet, dBor, dBorT, dBorO, dListP, borE, isFlat, dCall, dCallO, dCallT, callQT, dNilB, dConsB, dRefB, dScB, dTmp, dTmpC, dTmpV, toFz, toOw, wipeE, backE, putR, dSetR, dRetR, dCallR, dIfR, List.map, List.map_cons, List.map_nil, List.set_cons_zero, List.set_cons_succ, List.getElem?_cons_succ, List.getElem?_cons_zero, List.getElem?_nil, List.cons_append, List.nil_append, List.length_cons, List.length_nil, List.replicate, List.getD_cons_zero, List.getD_cons_succ]
    rw [List.take_length]
    exact hE _
end K95

namespace K95
open PySem PySem.Spec PyProof.Rows L2 PD
theorem bitsN {x : Int} (k : Nat) (h0 : 0 ≤ x) (h : x < 2 ^ k) : (Builtin.Int.intBits x : Int) ≤ k := by
  unfold Builtin.Int.intBits
  split
  · omega
  · rename_i hx
    have hx' : x ≠ 0 := by simpa using hx
    obtain ⟨n, rfl⟩ : ∃ n : Nat, x = n := ⟨x.toNat, by omega⟩
    rw [Int.natAbs_natCast]
    have h1 : n < 2 ^ k := by exact_mod_cast h
    have := (Nat.log2_lt (by omega)).mpr h1
    omega
theorem pow_ok {x : Int} (h0 : 0 ≤ x) (h : x < 2 ^ 200) : CPowW x 3 := ⟨by decide, by have := bitsN 200 h0 h; omega⟩
theorem pow10 (j : Int) (h0 : 0 ≤ j) (h : j ≤ 100) : CPowW 10 j := by
  have e : (Builtin.Int.intBits 10 : Int) = 4 := by decide
  refine ⟨h0, ?_⟩
  rw [e]
  omega
theorem mul_ok {x y : Int} (h0 : 0 ≤ x) (h : x < 2 ^ 200) (h1 : 0 ≤ y) (h2 : y < 2 ^ 200) : CMulX x y := by
  have a := bitsN 200 h0 h
  have b := bitsN 200 h1 h2
  unfold CMulX
  omega
theorem ln__law_source : ∀ as W, post__law_source as W → as.length = 2 := fun as W ⟨ns, k, e, _⟩ => by rw [e]; rfl
theorem src_ok (z : Int) (k : Nat) (hk : k ≤ 63) : CMulX (z % (10 ^ Int.toNat 36 + 67)) 128 ∧ VSrc 0 [.int (if z - 10 ^ Int.toNat 18 > 0 then z - 10 ^ Int.toNat 18 else 0), .int (z % (10 ^ Int.toNat 36 + 67) * 128 + (k : Nat) + 5), .int 0] := by
  have e36 : (10 : Int) ^ Int.toNat 36 + 67 = 1000000000000000000000000000000000067 := by decide
  rw [e36]
  have h1 := Int.emod_nonneg z (b := 1000000000000000000000000000000000067) (by decide)
  have h2 := Int.emod_lt_of_pos z (b := 1000000000000000000000000000000000067) (by decide)
  refine ⟨mul_ok h1 (by omega) (by decide) (by decide), _, _, _, rfl, ?_, by omega, by omega, by decide, by decide⟩
  split <;> omega
theorem pu__law_source : ∀ as W, post__law_source as W → b__law_source { nx := exitW as W (.fz .none), rt := exitW as W } (as ++ List.replicate (3 - as.length) .no) := by
  rintro as W ⟨ns, k, rfl, hk, hW⟩
  show b__law_source _ [.sc _, .fz _, .no]
  dsimp only [dSeq, dIfS, dSet, dSetO, dRet, dRetO, dRetN, dDrop, dNext, dNever, dBrk, dCnt, dVar, dVarO, dC, dOp, dOpO, dBl, onB, dTru, truD, dAnd, dOr, dNot, dAndV, dOrV, dNotV, dIf, dIfO, dFr, frO, dNilA, dConsA, dTup, dLst, dgN, dgNil, dgCons, dgTup, dAsg, dPar, dAug, dFor, dForP, dLc, dLcP, dItL, dItT, dItS, onL, dRng1, dRng2, on1, on2, onI, onS, onT, onQ, dEnum, dZip, dRev, wAdd, wI, wSub, wMul, wMod, wDiv, wPow, dUn, wNeg, wEq, wNe, wCmpI, wLt, wLe, wGt, wGe, wIs, wIsNot, wIsN, wIn, wNotIn, dChain, wIx, dIxP, dPeek, dNoPart, dPart, dSlL, dSlS, dCl, dClO, wLen, dLenP, wAbs, wMax2, wMin2, wInt, wStr, wAll, wAny, wSum, wListO, wTuple, wRepr, dSm, dSmO, wJoin, wSplit, wPart, wFmt, dFmt, dJs, dJoined, dIsI, dIsI2, isT, isTg, tgD, dMut, dMl, wAppend, wPop, wPopAt, wReverse, wClear, wCat, wRepS, wExtend, wInsert, dgSub, dAugS, onSc, dLenS, dIxS, dSlSc, dLenSet, dBor, dBorT, dBorO, dListP, borE, isFlat, dCall, dCallO, dCallT, callQT, dNilB, dConsB, dRefB, dScB, dTmp, dTmpC, dTmpV, toFz, toOw, wipeE, backE, putR, dSetR, dRetR, dCallR, dIfR, List.map, List.map_cons, List.map_nil, List.set_cons_zero, List.set_cons_succ, List.getElem?_cons_succ, List.getElem?_cons_zero, List.getElem?_nil, List.cons_append, List.nil_append, List.length_cons, List.length_nil, List.replicate, List.getD_cons_zero, List.getD_cons_succ, b__law_source, b__law_source_1]
  refine iteB (fun h => ?_) fun h => ?_
  · have hk' : k < ns.length := by have := of_decide_eq_true h; omega
    refine ⟨ns[k], atI_nat (List.getElem?_eq_getElem hk'), pow10 _ (by decide) (by decide), pow10 _ (by decide) (by decide), by decide, (src_ok _ k hk).1, by decide, ?_⟩
    exact ex_no (hW _ (src_ok _ k hk).2)
  · refine ⟨pow10 _ (by decide) (by decide), pow10 _ (by decide) (by decide), by decide, (src_ok _ k hk).1, by decide, ?_⟩
    exact ex_no (hW _ (src_ok _ k hk).2)
theorem ln__law_pick : ∀ as W, post__law_pick as W → as.length = 2 := ln_S fun ds G ⟨m, _, _, e, _⟩ => by rw [e]; rfl
theorem pu__law_pick : ∀ as W, post__law_pick as W → b__law_pick { nx := exitW as W (.fz .none), rt := exitW as W } (as ++ List.replicate (4 - as.length) .no) := pu_S fun ds G n xs p ⟨m, hm, hm2, e1, e2⟩ hv hn E hE => by
  subst e1 e2
  obtain ⟨a, b, c, rfl, h1, h2, h3, h4, h5⟩ := hv
  show b__law_pick E [.ow _ _, .fz _, .no, .no]
  have hdv : CDivW a m := ⟨by omega, by rw [Int.natAbs_natCast]; have := (Nat.log2_lt (n := m) (k := 10) (by omega)).mpr (by omega); omega⟩
  dsimp only [dSeq, dIfS, dSet, dSetO, dRet, dRetO, dRetN, dDrop, dNext, dNever, dBrk, dCnt, dVar, dVarO, dC, dOp, dOpO, dBl, onB, dTru, truD, dAnd, dOr, dNot, dAndV, dOrV, dNotV, dIf, dIfO, dFr, frO, dNilA, dConsA, dTup, dLst, dgN, dgNil, dgCons, dgTup, dAsg, dPar, dAug, dFor, dForP, dLc, dLcP, dItL, dItT, dItS, onL, dRng1, dRng2, on1, on2, onI, onS, onT, onQ, dEnum, dZip, dRev, wAdd, wI, wSub, wMul, wMod, wDiv, wPow, dUn, wNeg, wEq, wNe, wCmpI, wLt, wLe, wGt, wGe, wIs, wIsNot, wIsN, wIn, wNotIn, dChain, wIx, dIxP, dPeek, dNoPart, dPart, dSlL, dSlS, dCl, dClO, wLen, dLenP, wAbs, wMax2, wMin2, wInt, wStr, wAll, wAny, wSum, wListO, wTuple, wRepr, dSm, dSmO, wJoin, wSplit, wPart, wFmt, dFmt, dJs, dJoined, dIsI, dIsI2, isT, isTg, tgD, dMut, dMl, wAppend, wPop, wPopAt, wReverse, wClear, wCat, wRepS, wExtend, wInsert, dgSub, dAugS, onSc, dLenS, dIxS, dSlSc, dLenSet, dBor, dBorT, dBorO, dListP, borE, isFlat, dCall, dCallO, dCallT, callQT, dNilB, dConsB, dRefB, dScB, dTmp, dTmpC, dTmpV, toFz, toOw, wipeE, backE, putR, dSetR, dRetR, dCallR, dIfR, List.map, List.map_cons, List.map_nil, List.set_cons_zero, List.set_cons_succ, List.getElem?_cons_succ, List.getElem?_cons_zero, List.getElem?_nil, List.cons_append, List.nil_append, List.length_cons, List.length_nil, List.replicate, List.getD_cons_zero, List.getD_cons_succ, b__law_pick, b__law_pick_1, b__law_pick_2]
  refine ⟨.int a, rfl, ?_⟩
  dsimp only [dSeq, dIfS, dSet, dSetO, dRet, dRetO, dRetN, dDrop, dNext, dNever, dBrk, dCnt, dVar, dVarO, dC, dOp, dOpO, dBl, onB, dTru, truD, dAnd, dOr, dNot, dAndV, dOrV, dNotV, dIf, dIfO, dFr, frO, dNilA, dConsA, dTup, dLst, dgN, dgNil, dgCons, dgTup, dAsg, dPar, dAug, dFor, dForP, dLc, dLcP, dItL, dItT, dItS, onL, dRng1, dRng2, on1, on2, onI, onS, onT, onQ, dEnum, dZip, dRev, wAdd, wI, wSub, wMul, wMod, wDiv, wPow, dUn, wNeg, wEq, wNe, wCmpI, wLt, wLe, wGt, wGe, wIs, wIsNot, wIsN, wIn, wNotIn, dChain, wIx, dIxP, dPeek, dNoPart, dPart, dSlL, dSlS, dCl, dClO, wLen, dLenP, wAbs, wMax2, wMin2, wInt, wStr, wAll, wAny, wSum, wListO, wTuple, wRepr, dSm, dSmO, wJoin, wSplit, wPart, wFmt, dFmt, dJs, dJoined, dIsI, dIsI2, isT, isTg, tgD, dMut, dMl, wAppend, wPop, wPopAt, wReverse, wClear, wCat, wRepS, wExtend, wInsert, dgSub, dAugS, onSc, dLenS, dIxS, dSlSc, dLenSet, dBor, dBorT, dBorO, dListP, borE, isFlat, dCall, dCallO, dCallT, callQT, dNilB, dConsB, dRefB, dScB, dTmp, dTmpC, dTmpV, toFz, toOw, wipeE, backE, putR, dSetR, dRetR, dCallR, dIfR, List.map, List.map_cons, List.map_nil, List.set_cons_zero, List.set_cons_succ, List.getElem?_cons_succ, List.getElem?_cons_zero, List.getElem?_nil, List.cons_append, List.nil_append, List.length_cons, List.length_nil, List.replicate, List.getD_cons_zero, List.getD_cons_succ]
  refine iteB (fun h => ?_) fun h => ?_
  · refine ⟨trivial, .int a, rfl, ?_⟩
    dsimp only [dSeq, dIfS, dSet, dSetO, dRet, dRetO, dRetN, dDrop, dNext, dNever, dBrk, dCnt, dVar, dVarO, dC, dOp, dOpO, dBl, onB, dTru, truD, dAnd, dOr, dNot, dAndV, dOrV, dNotV, dIf, dIfO, dFr, frO, dNilA, dConsA, dTup, dLst, dgN, dgNil, dgCons, dgTup, dAsg, dPar, dAug, dFor, dForP, dLc, dLcP, dItL, dItT, dItS, onL, dRng1, dRng2, on1, on2, onI, onS, onT, onQ, dEnum, dZip, dRev, wAdd, wI, wSub, wMul, wMod, wDiv, wPow, dUn, wNeg, wEq, wNe, wCmpI, wLt, wLe, wGt, wGe, wIs, wIsNot, wIsN, wIn, wNotIn, dChain, wIx, dIxP, dPeek, dNoPart, dPart, dSlL, dSlS, dCl, dClO, wLen, dLenP, wAbs, wMax2, wMin2, wInt, wStr, wAll, wAny, wSum, wListO, wTuple, wRepr, dSm, dSmO, wJoin, wSplit, wPart, wFmt, dFmt, dJs, dJoined, dIsI, dIsI2, isT, isTg, tgD, dMut, dMl, wAppend, wPop, wPopAt, wReverse, wClear, wCat, wRepS, wExtend, wInsert, dgSub, dAugS, onSc, dLenS, dIxS, dSlSc, dLenSet, dBor, dBorT, dBorO, dListP, borE, isFlat, dCall, dCallO, dCallT, callQT, dNilB, dConsB, dRefB, dScB, dTmp, dTmpC, dTmpV, toFz, toOw, wipeE, backE, putR, dSetR, dRetR, dCallR, dIfR, List.map, List.map_cons, List.map_nil, List.set_cons_zero, List.set_cons_succ, List.getElem?_cons_succ, List.getElem?_cons_zero, List.getElem?_nil, List.cons_append, List.nil_append, List.length_cons, List.length_nil, List.replicate, List.getD_cons_zero, List.getD_cons_succ]
    refine ⟨by omega, trivial, .int a, rfl, ?_⟩
    dsimp only [dSeq, dIfS, dSet, dSetO, dRet, dRetO, dRetN, dDrop, dNext, dNever, dBrk, dCnt, dVar, dVarO, dC, dOp, dOpO, dBl, onB, dTru, truD, dAnd, dOr, dNot, dAndV, dOrV, dNotV, dIf, dIfO, dFr, frO, dNilA, dConsA, dTup, dLst, dgN, dgNil, dgCons, dgTup, dAsg, dPar, dAug, dFor, dForP, dLc, dLcP, dItL, dItT, dItS, onL, dRng1, dRng2, on1, on2, onI, onS, onT, onQ, dEnum, dZip, dRev, wAdd, wI, wSub, wMul, wMod, wDiv, wPow, dUn, wNeg, wEq, wNe, wCmpI, wLt, wLe, wGt, wGe, wIs, wIsNot, wIsN, wIn, wNotIn, dChain, wIx, dIxP, dPeek, dNoPart, dPart, dSlL, dSlS, dCl, dClO, wLen, dLenP, wAbs, wMax2, wMin2, wInt, wStr, wAll, wAny, wSum, wListO, wTuple, wRepr, dSm, dSmO, wJoin, wSplit, wPart, wFmt, dFmt, dJs, dJoined, dIsI, dIsI2, isT, isTg, tgD, dMut, dMl, wAppend, wPop, wPopAt, wReverse, wClear, wCat, wRepS, wExtend, wInsert, dgSub, dAugS, onSc, dLenS, dIxS, dSlSc, dLenSet, dBor, dBorT, dBorO, dListP, borE, isFlat, dCall, dCallO, dCallT, callQT, dNilB, dConsB, dRefB, dScB, dTmp, dTmpC, dTmpV, toFz, toOw, wipeE, backE, putR, dSetR, dRetR, dCallR, dIfR, List.map, List.map_cons, List.map_nil, List.set_cons_zero, List.set_cons_succ, List.getElem?_cons_succ, List.getElem?_cons_zero, List.getElem?_nil, List.cons_append, List.nil_append, List.length_cons, List.length_nil, List.replicate, List.getD_cons_zero, List.getD_cons_succ]
    refine ⟨hdv, trivial, 0, rfl, ?_⟩
    have q1 := Int.emod_nonneg a (b := (m : Int)) (by omega)
    have q2 := Int.emod_lt_of_pos a (b := (m : Int)) (by omega)
    refine hE _ _ _ ⟨(a % m).toNat, by omega, by rw [Int.toNat_of_nonneg q1]⟩ ?_ rfl
    exact ⟨_, _, _, rfl, Int.ediv_nonneg h1 (by omega), h2, h3, h4, by omega⟩
  · dsimp only [dSeq, dIfS, dSet, dSetO, dRet, dRetO, dRetN, dDrop, dNext, dNever, dBrk, dCnt, dVar, dVarO, dC, dOp, dOpO, dBl, onB, dTru, truD, dAnd, dOr, dNot, dAndV, dOrV, dNotV, dIf, dIfO, dFr, frO, dNilA, dConsA, dTup, dLst, dgN, dgNil, dgCons, dgTup, dAsg, dPar, dAug, dFor, dForP, dLc, dLcP, dItL, dItT, dItS, onL, dRng1, dRng2, on1, on2, onI, onS, onT, onQ, dEnum, dZip, dRev, wAdd, wI, wSub, wMul, wMod, wDiv, wPow, dUn, wNeg, wEq, wNe, wCmpI, wLt, wLe, wGt, wGe, wIs, wIsNot, wIsN, wIn, wNotIn, dChain, wIx, dIxP, dPeek, dNoPart, dPart, dSlL, dSlS, dCl, dClO, wLen, dLenP, wAbs, wMax2, wMin2, wInt, wStr, wAll, wAny, wSum, wListO, wTuple, wRepr, dSm, dSmO, wJoin, wSplit, wPart, wFmt, dFmt, dJs, dJoined, dIsI, dIsI2, isT, isTg, tgD, dMut, dMl, wAppend, wPop, wPopAt, wReverse, wClear, wCat, wRepS, wExtend, wInsert, dgSub, dAugS, onSc, dLenS, dIxS, dSlSc, dLenSet, dBor, dBorT, dBorO, dListP, borE, isFlat, dCall, dCallO, dCallT, callQT, dNilB, dConsB, dRefB, dScB, dTmp, dTmpC, dTmpV, toFz, toOw, wipeE, backE, putR, dSetR, dRetR, dCallR, dIfR, List.map, List.map_cons, List.map_nil, List.set_cons_zero, List.set_cons_succ, List.getElem?_cons_succ, List.getElem?_cons_zero, List.getElem?_nil, List.cons_append, List.nil_append, List.length_cons, List.length_nil, List.replicate, List.getD_cons_zero, List.getD_cons_succ, b__law_pick_3, b__law_pick_4, b__law_pick_5, b__law_pick_6]
    have hc := h5
    have e38 : (10 : Int) ^ Int.toNat 38 + 133 = 100000000000000000000000000000000000133 := by decide
    have e37 : (10 : Int) ^ Int.toNat 37 + 43 = 10000000000000000000000000000000000043 := by decide
    rw [e38, e37]
    refine ⟨trivial, .int c, rfl, trivial, 2, rfl, trivial, .int b, rfl, trivial, .int (c + 1), rfl, mul_ok (by decide) (by decide) (by omega) (by omega), pow_ok (by omega) (by omega), pow10 _ (by decide) (by decide), by decide, trivial, .int (c + 1), rfl,
      mul_ok (by decide) (by decide) (by omega) (by omega), ?_⟩
    generalize (b + 49979687 * (c + 1)) ^ Int.toNat 3 = y
    have q1 := Int.emod_nonneg y (b := 100000000000000000000000000000000000133) (by decide)
    have q2 := Int.emod_lt_of_pos y (b := 100000000000000000000000000000000000133) (by decide)
    generalize y % 100000000000000000000000000000000000133 = y2 at q1 q2
    refine ⟨pow_ok (by omega) (by omega), pow10 _ (by decide) (by decide), by decide, ⟨by decide, by decide⟩, by omega, ?_⟩
    generalize (y2 + 32452843 * (c + 1)) ^ Int.toNat 3 % 10000000000000000000000000000000000043 = y3
    have q3 := Int.emod_nonneg (y3 / 131071) (b := (m : Int)) (by omega)
    have q4 := Int.emod_lt_of_pos (y3 / 131071) (b := (m : Int)) (by omega)
    refine hE _ _ _ ⟨(y3 / 131071 % m).toNat, by omega, by rw [Int.toNat_of_nonneg q3]⟩ ?_ rfl
    exact ⟨_, _, _, rfl, h1, h2, h3, by omega, by omega⟩
/-- a draw, called -/
theorem pick {j n m : Nat} {en : En} {p : Option Addr} {xs : List D} {Q : Res → En → Prop} (he : en[j]? = some (.ow p (.lst xs))) (hv : VSrc n xs) (hn : n + 1 ≤ 100000) (h0 : 0 < m) (h1 : m ≤ 1000)
    (hQ : ∀ (x : Nat) xs', x < m → VSrc (n + 1) xs' → Q (.fz (.int x)) (en.set j (.ow p (.lst xs')))) : callQ [.vr j, .fz (.int m)] en post__law_pick Q :=
  callS he rfl ⟨m, h0, h1, rfl, rfl⟩ hv hn fun r xs' ⟨x, hx, e⟩ hx' => by
    subst e
    exact hQ x xs' hx hx'
theorem ln__law_shuffled : ∀ as W, post__law_shuffled as W → as.length = 2 := ln_S fun ds G ⟨m, _, e, _⟩ => by rw [e]; rfl
theorem pu__law_shuffled : ∀ as W, post__law_shuffled as W → b__law_shuffled { nx := exitW as W (.fz .none), rt := exitW as W } (as ++ List.replicate (4 - as.length) .no) := pu_S fun ds G n xs p ⟨row, hl, e1, e2⟩ hv hn E hE => by
  subst e1 e2
  show b__law_shuffled E [.ow _ _, .fz _, .no, .no]
  dsimp only [dSeq, dIfS, dSet, dSetO, dRet, dRetO, dRetN, dDrop, dNext, dNever, dBrk, dCnt, dVar, dVarO, dC, dOp, dOpO, dBl, onB, dTru, truD, dAnd, dOr, dNot, dAndV, dOrV, dNotV, dIf, dIfO, dFr, frO, dNilA, dConsA, dTup, dLst, dgN, dgNil, dgCons, dgTup, dAsg, dPar, dAug, dFor, dForP, dLc, dLcP, dItL, dItT, dItS, onL, dRng1, dRng2, on1, on2, onI, onS, onT, onQ, dEnum, dZip, dRev, wAdd, wI, wSub, wMul, wMod, wDiv, wPow, dUn, wNeg, wEq, wNe, wCmpI, wLt, wLe, wGt, wGe, wIs, wIsNot, wIsN, wIn, wNotIn, dChain, wIx, dIxP, dPeek, dNoPart, dPart, dSlL, dSlS, dCl, dClO, wLen, dLenP, wAbs, wMax2, wMin2, wInt, wStr, wAll, wAny, wSum, wListO, wTuple, wRepr, dSm, dSmO, wJoin, wSplit, wPart, wFmt, dFmt, dJs, dJoined, dIsI, dIsI2, isT, isTg, tgD, dMut, dMl, wAppend, wPop, wPopAt, wReverse, wClear, wCat, wRepS, wExtend, wInsert, dgSub, dAugS, onSc, dLenS, dIxS, dSlSc, dLenSet, dBor, dBorT, dBorO, dListP, borE, isFlat, dCall, dCallO, dCallT, callQT, dNilB, dConsB, dRefB, dScB, dTmp, dTmpC, dTmpV, toFz, toOw, wipeE, backE, putR, dSetR, dRetR, dCallR, dIfR, List.map, List.map_cons, List.map_nil, List.set_cons_zero, List.set_cons_succ, List.getElem?_cons_succ, List.getElem?_cons_zero, List.getElem?_nil, List.cons_append, List.nil_append, List.length_cons, List.length_nil, List.replicate, List.getD_cons_zero, List.getD_cons_succ, b__law_shuffled, b__law_shuffled_1]
  refine ⟨by omega, ?_⟩
  rw [show ((row.length : Nat) : Int).toNat = row.length by omega]
  refine ⟨fun i acc e => ∃ src left, e = [.ow (some p) (.lst src), .fz (.list row), .ow none (.lst left), .no] ∧ VSrc (n + i) src ∧ (acc ++ left).Perm row ∧ left.length + i = row.length, ⟨xs, row, rfl, hv, List.Perm.refl _, rfl⟩, ?_, size_ok (by rw [rng_len]; omega), ?_⟩
  · rintro i d acc e hd _ ⟨src, left, rfl, hv', hp, hi⟩
    obtain ⟨hi2, rfl⟩ := rng_at hd
    refine ⟨(no1 fun _ _ h => nomatch h), ?_⟩
    dsimp only [dSeq, dIfS, dSet, dSetO, dRet, dRetO, dRetN, dDrop, dNext, dNever, dBrk, dCnt, dVar, dVarO, dC, dOp, dOpO, dBl, onB, dTru, truD, dAnd, dOr, dNot, dAndV, dOrV, dNotV, dIf, dIfO, dFr, frO, dNilA, dConsA, dTup, dLst, dgN, dgNil, dgCons, dgTup, dAsg, dPar, dAug, dFor, dForP, dLc, dLcP, dItL, dItT, dItS, onL, dRng1, dRng2, on1, on2, onI, onS, onT, onQ, dEnum, dZip, dRev, wAdd, wI, wSub, wMul, wMod, wDiv, wPow, dUn, wNeg, wEq, wNe, wCmpI, wLt, wLe, wGt, wGe, wIs, wIsNot, wIsN, wIn, wNotIn, dChain, wIx, dIxP, dPeek, dNoPart, dPart, dSlL, dSlS, dCl, dClO, wLen, dLenP, wAbs, wMax2, wMin2, wInt, wStr, wAll, wAny, wSum, wListO, wTuple, wRepr, dSm, dSmO, wJoin, wSplit, wPart, wFmt, dFmt, dJs, dJoined, dIsI, dIsI2, isT, isTg, tgD, dMut, dMl, wAppend, wPop, wPopAt, wReverse, wClear, wCat, wRepS, wExtend, wInsert, dgSub, dAugS, onSc, dLenS, dIxS, dSlSc, dLenSet, dBor, dBorT, dBorO, dListP, borE, isFlat, dCall, dCallO, dCallT, callQT, dNilB, dConsB, dRefB, dScB, dTmp, dTmpC, dTmpV, toFz, toOw, wipeE, backE, putR, dSetR, dRetR, dCallR, dIfR, List.map, List.map_cons, List.map_nil, List.set_cons_zero, List.set_cons_succ, List.getElem?_cons_succ, List.getElem?_cons_zero, List.getElem?_nil, List.cons_append, List.nil_append, List.length_cons, List.length_nil, List.replicate, List.getD_cons_zero, List.getD_cons_succ, dYes]
    refine iteT' rfl ⟨trivial, ?_⟩
    refine pick rfl hv' (by omega) (by omega) (by omega) fun x src' hx hv2 => ?_
    dsimp only [dSeq, dIfS, dSet, dSetO, dRet, dRetO, dRetN, dDrop, dNext, dNever, dBrk, dCnt, dVar, dVarO, dC, dOp, dOpO, dBl, onB, dTru, truD, dAnd, dOr, dNot, dAndV, dOrV, dNotV, dIf, dIfO, dFr, frO, dNilA, dConsA, dTup, dLst, dgN, dgNil, dgCons, dgTup, dAsg, dPar, dAug, dFor, dForP, dLc, dLcP, dItL, dItT, dItS, onL, dRng1, dRng2, on1, on2, onI, onS, onT, onQ, dEnum, dZip, dRev, wAdd, wI, wSub, wMul, wMod, wDiv, wPow, dUn, wNeg, wEq, wNe, wCmpI, wLt, wLe, wGt, wGe, wIs, wIsNot, wIsN, wIn, wNotIn, dChain, wIx, dIxP, dPeek, dNoPart, dPart, dSlL, dSlS, dCl, dClO, wLen, dLenP, wAbs, wMax2, wMin2, wInt, wStr, wAll, wAny, wSum, wListO, wTuple, wRepr, dSm, dSmO, wJoin, wSplit, wPart, wFmt, dFmt, dJs, dJoined, dIsI, dIsI2, isT, isTg, tgD, dMut, dMl, wAppend, wPop, wPopAt, wReverse, wClear, wCat, wRepS, wExtend, wInsert, dgSub, dAugS, onSc, dLenS, dIxS, dSlSc, dLenSet, dBor, dBorT, dBorO, dListP, borE, isFlat, dCall, dCallO, dCallT, callQT, dNilB, dConsB, dRefB, dScB, dTmp, dTmpC, dTmpV, toFz, toOw, wipeE, backE, putR, dSetR, dRetR, dCallR, dIfR, List.map, List.map_cons, List.map_nil, List.set_cons_zero, List.set_cons_succ, List.getElem?_cons_succ, List.getElem?_cons_zero, List.getElem?_nil, List.cons_append, List.nil_append, List.length_cons, List.length_nil, List.replicate, List.getD_cons_zero, List.getD_cons_succ]
    refine ⟨⟨by omega, by omega⟩, x, left[x], six_nat hx, List.getElem?_eq_getElem hx, src', left.eraseIdx x, rfl, hv2, ?_, ?_⟩
    · refine List.Perm.trans ?_ hp
      rw [List.append_assoc]
      exact List.Perm.append_left _ (perm_out hx)
    · rw [List.length_eraseIdx_of_lt hx]
      omega
  · rintro acc e ⟨src, left, rfl, hv', hp, hi⟩
    rw [rng_len] at hi hv'
    have : left = [] := List.length_eq_zero_iff.mp (by omega)
    subst this
    rw [List.append_nil] at hp
    exact hE _ _ _ ⟨acc, hp, rfl⟩ (hv'.mono (by omega)) rfl
/-! ### names -/
theorem letter {j : Nat} (h : j < 26) : atI LET.cps.toList ((j : Nat) : Int) = some (97 + j) := atI_nat (by
  show (TL.tl LET)[j]? = _
  rw [let_tl, List.getElem?_map, List.getElem?_range h]
  rfl)
theorem perm_back {α : Type} {f : α → D} {g : D → α} (hg : ∀ x, g (f x) = x) {ys : List D} {zs : List α} (h : ys.Perm (zs.map f)) : ∃ ws : List α, ws.Perm zs ∧ ys = ws.map f := by
  refine ⟨ys.map g, ?_, ?_⟩
  · have h2 := h.map g
    rw [List.map_map, show g ∘ f = _root_.id from funext hg, List.map_id] at h2
    exact h2
  · rw [List.map_map]
    refine (List.map_id' ys).symm.trans (List.map_congr_left fun y hy => ?_)
    obtain ⟨x, _, rfl⟩ := List.mem_map.mp (h.mem_iff.mp hy)
    show f x = f (g (f x))
    rw [hg]
def strOf : D → Str
  | .str z => z
  | _ => Str.empty
def nameOf (style k : Nat) : Str :=
  if style = 0 then ⟨#[97 + k / 26]⟩ ++ ⟨#[97 + k % 26]⟩ else if style = 1 then PySem.Str.ofString "abcdef" ++ (⟨#[97 + k / 26]⟩ ++ ⟨#[97 + k % 26]⟩) else repS ⟨#[97 + k % 26]⟩ (1 + k / 26)
theorem names_ok (style : Nat) (hs : style < 3) (k : Nat) (hk : k < 40) : okItem (nameOf style k) := by
  have h : ∀ s ∈ List.range 3, ∀ k ∈ List.range 40, (decide (1 ≤ (nameOf s k).length) && decide ((nameOf s k).length ≤ 8) && (nameOf s k).cps.toList.all fun c => decide (97 ≤ c) && decide (c ≤ 122)) = true := by decide +kernel
  have h1 := h style (List.mem_range.mpr hs) k (List.mem_range.mpr hk)
  rw [Bool.and_eq_true, Bool.and_eq_true, decide_eq_true_eq, decide_eq_true_eq, List.all_eq_true] at h1
  refine ⟨h1.1.1, h1.1.2, fun c hc => ?_⟩
  have h2 := h1.2 c hc
  rw [Bool.and_eq_true, decide_eq_true_eq, decide_eq_true_eq] at h2
  exact h2
theorem names_nd (style : Nat) (hs : style < 3) (m : Nat) (hm : m ≤ 40) : ((List.range m).map (nameOf style)).Nodup := by
  have h : ∀ s ∈ List.range 3, ((List.range 40).map (nameOf s)).Nodup := by decide +kernel
  have h1 := h style (List.mem_range.mpr hs)
  have h2 : (List.range m).map (nameOf style) = ((List.range 40).map (nameOf style)).take m := by
    rw [← List.map_take, List.take_range, Nat.min_eq_left hm]
  rw [h2]
  exact h1.sublist (List.take_sublist _ _)
theorem ln__law_names : ∀ as W, post__law_names as W → as.length = 2 := ln_S fun ds G ⟨m, _, _, e, _⟩ => by rw [e]; rfl
theorem pu__law_names : ∀ as W, post__law_names as W → b__law_names { nx := exitW as W (.fz .none), rt := exitW as W } (as ++ List.replicate (7 - as.length) .no) := pu_S fun ds G n xs p ⟨m, h1, h2, e1, e2⟩ hv hn E hE => by
  subst e1 e2
  show b__law_names E [.ow _ _, .fz _, .no, .no, .no, .no, .no]
  dsimp only [dSeq, dIfS, dSet, dSetO, dRet, dRetO, dRetN, dDrop, dNext, dNever, dBrk, dCnt, dVar, dVarO, dC, dOp, dOpO, dBl, onB, dTru, truD, dAnd, dOr, dNot, dAndV, dOrV, dNotV, dIf, dIfO, dFr, frO, dNilA, dConsA, dTup, dLst, dgN, dgNil, dgCons, dgTup, dAsg, dPar, dAug, dFor, dForP, dLc, dLcP, dItL, dItT, dItS, onL, dRng1, dRng2, on1, on2, onI, onS, onT, onQ, dEnum, dZip, dRev, wAdd, wI, wSub, wMul, wMod, wDiv, wPow, dUn, wNeg, wEq, wNe, wCmpI, wLt, wLe, wGt, wGe, wIs, wIsNot, wIsN, wIn, wNotIn, dChain, wIx, dIxP, dPeek, dNoPart, dPart, dSlL, dSlS, dCl, dClO, wLen, dLenP, wAbs, wMax2, wMin2, wInt, wStr, wAll, wAny, wSum, wListO, wTuple, wRepr, dSm, dSmO, wJoin, wSplit, wPart, wFmt, dFmt, dJs, dJoined, dIsI, dIsI2, isT, isTg, tgD, dMut, dMl, wAppend, wPop, wPopAt, wReverse, wClear, wCat, wRepS, wExtend, wInsert, dgSub, dAugS, onSc, dLenS, dIxS, dSlSc, dLenSet, dBor, dBorT, dBorO, dListP, borE, isFlat, dCall, dCallO, dCallT, callQT, dNilB, dConsB, dRefB, dScB, dTmp, dTmpC, dTmpV, toFz, toOw, wipeE, backE, putR, dSetR, dRetR, dCallR, dIfR, List.map, List.map_cons, List.map_nil, List.set_cons_zero, List.set_cons_succ, List.getElem?_cons_succ, List.getElem?_cons_zero, List.getElem?_nil, List.cons_append, List.nil_append, List.length_cons, List.length_nil, List.replicate, List.getD_cons_zero, List.getD_cons_succ, b__law_names, b__law_names_1, b__law_names_2, b__law_names_3, b__law_names_4, b__law_names_5]
  refine pick (m := 3) rfl hv (by omega) (by omega) (by omega) fun style src hs hv2 => ?_
  dsimp only [dSeq, dIfS, dSet, dSetO, dRet, dRetO, dRetN, dDrop, dNext, dNever, dBrk, dCnt, dVar, dVarO, dC, dOp, dOpO, dBl, onB, dTru, truD, dAnd, dOr, dNot, dAndV, dOrV, dNotV, dIf, dIfO, dFr, frO, dNilA, dConsA, dTup, dLst, dgN, dgNil, dgCons, dgTup, dAsg, dPar, dAug, dFor, dForP, dLc, dLcP, dItL, dItT, dItS, onL, dRng1, dRng2, on1, on2, onI, onS, onT, onQ, dEnum, dZip, dRev, wAdd, wI, wSub, wMul, wMod, wDiv, wPow, dUn, wNeg, wEq, wNe, wCmpI, wLt, wLe, wGt, wGe, wIs, wIsNot, wIsN, wIn, wNotIn, dChain, wIx, dIxP, dPeek, dNoPart, dPart, dSlL, dSlS, dCl, dClO, wLen, dLenP, wAbs, wMax2, wMin2, wInt, wStr, wAll, wAny, wSum, wListO, wTuple, wRepr, dSm, dSmO, wJoin, wSplit, wPart, wFmt, dFmt, dJs, dJoined, dIsI, dIsI2, isT, isTg, tgD, dMut, dMl, wAppend, wPop, wPopAt, wReverse, wClear, wCat, wRepS, wExtend, wInsert, dgSub, dAugS, onSc, dLenS, dIxS, dSlSc, dLenSet, dBor, dBorT, dBorO, dListP, borE, isFlat, dCall, dCallO, dCallT, callQT, dNilB, dConsB, dRefB, dScB, dTmp, dTmpC, dTmpV, toFz, toOw, wipeE, backE, putR, dSetR, dRetR, dCallR, dIfR, List.map, List.map_cons, List.map_nil, List.set_cons_zero, List.set_cons_succ, List.getElem?_cons_succ, List.getElem?_cons_zero, List.getElem?_nil, List.cons_append, List.nil_append, List.length_cons, List.length_nil, List.replicate, List.getD_cons_zero, List.getD_cons_succ]
  refine ⟨by decide, by omega, ?_⟩
  rw [show ((m : Nat) : Int).toNat = m by omega]
  refine ⟨fun i e => ∃ u w, e = [.ow (some p) (.lst src), .fz (.int m), .fz (.str LET), .fz (.int style), .ow none (.lst ((List.range i).map fun k => .str (nameOf style k))), u, w], ⟨_, _, rfl⟩, ?_, ?_⟩
  · rintro i d e hd ⟨u, w, rfl⟩
    obtain ⟨hi2, rfl⟩ := rng_at hd
    have e1 : (0 + (i : Int)) / 26 = ((i / 26 : Nat) : Int) := by omega
    have e2 : (0 + (i : Int)) % 26 = ((i % 26 : Nat) : Int) := by omega
    have hL : LET.length ≤ sizeLine := by decide +kernel
    have hA : (PySem.Str.ofString "abcdef").length = 6 := by decide +kernel
    have h26 : CDivW (0 + (i : Int)) 26 := ⟨by decide, by decide⟩
    dsimp only [dSeq, dIfS, dSet, dSetO, dRet, dRetO, dRetN, dDrop, dNext, dNever, dBrk, dCnt, dVar, dVarO, dC, dOp, dOpO, dBl, onB, dTru, truD, dAnd, dOr, dNot, dAndV, dOrV, dNotV, dIf, dIfO, dFr, frO, dNilA, dConsA, dTup, dLst, dgN, dgNil, dgCons, dgTup, dAsg, dPar, dAug, dFor, dForP, dLc, dLcP, dItL, dItT, dItS, onL, dRng1, dRng2, on1, on2, onI, onS, onT, onQ, dEnum, dZip, dRev, wAdd, wI, wSub, wMul, wMod, wDiv, wPow, dUn, wNeg, wEq, wNe, wCmpI, wLt, wLe, wGt, wGe, wIs, wIsNot, wIsN, wIn, wNotIn, dChain, wIx, dIxP, dPeek, dNoPart, dPart, dSlL, dSlS, dCl, dClO, wLen, dLenP, wAbs, wMax2, wMin2, wInt, wStr, wAll, wAny, wSum, wListO, wTuple, wRepr, dSm, dSmO, wJoin, wSplit, wPart, wFmt, dFmt, dJs, dJoined, dIsI, dIsI2, isT, isTg, tgD, dMut, dMl, wAppend, wPop, wPopAt, wReverse, wClear, wCat, wRepS, wExtend, wInsert, dgSub, dAugS, onSc, dLenS, dIxS, dSlSc, dLenSet, dBor, dBorT, dBorO, dListP, borE, isFlat, dCall, dCallO, dCallT, callQT, dNilB, dConsB, dRefB, dScB, dTmp, dTmpC, dTmpV, toFz, toOw, wipeE, backE, putR, dSetR, dRetR, dCallR, dIfR, List.map, List.map_cons, List.map_nil, List.set_cons_zero, List.set_cons_succ, List.getElem?_cons_succ, List.getElem?_cons_zero, List.getElem?_nil, List.cons_append, List.nil_append, List.length_cons, List.length_nil, List.replicate, List.getD_cons_zero, List.getD_cons_succ]
    rw [e1, e2]
    refine ⟨h26, hL, 97 + i / 26, letter (by omega), by decide, hL, 97 + i % 26, letter (by omega), by show 1 + 1 ≤ _; decide, trivial, ?_, by decide, hL, 97 + i % 26, letter (by omega), h26, ⟨by omega, by omega, by show 0 < 1; decide, ?_⟩, by decide, .str (nameOf style i), ?_,
      size_lt (by rw [List.length_map, List.length_range]; omega), .fz (.int (0 + i)), .fz (.str (⟨#[97 + i / 26]⟩ ++ ⟨#[97 + i % 26]⟩)), ?_⟩
    · rw [hA, app_len]
      show 6 + (1 + 1) ≤ _
      decide
    · show 1 * _ ≤ 1000000
      omega
    · rw [show (1 + ((i / 26 : Nat) : Int)).toNat = 1 + i / 26 by omega]
      match style, hs with
      | 0, _ => rfl
      | 1, _ => rfl
      | 2, _ => rfl
    · rw [List.range_succ, List.map_append]
      rfl
  · rintro e ⟨u, w, rfl⟩
    dsimp only [dSeq, dIfS, dSet, dSetO, dRet, dRetO, dRetN, dDrop, dNext, dNever, dBrk, dCnt, dVar, dVarO, dC, dOp, dOpO, dBl, onB, dTru, truD, dAnd, dOr, dNot, dAndV, dOrV, dNotV, dIf, dIfO, dFr, frO, dNilA, dConsA, dTup, dLst, dgN, dgNil, dgCons, dgTup, dAsg, dPar, dAug, dFor, dForP, dLc, dLcP, dItL, dItT, dItS, onL, dRng1, dRng2, on1, on2, onI, onS, onT, onQ, dEnum, dZip, dRev, wAdd, wI, wSub, wMul, wMod, wDiv, wPow, dUn, wNeg, wEq, wNe, wCmpI, wLt, wLe, wGt, wGe, wIs, wIsNot, wIsN, wIn, wNotIn, dChain, wIx, dIxP, dPeek, dNoPart, dPart, dSlL, dSlS, dCl, dClO, wLen, dLenP, wAbs, wMax2, wMin2, wInt, wStr, wAll, wAny, wSum, wListO, wTuple, wRepr, dSm, dSmO, wJoin, wSplit, wPart, wFmt, dFmt, dJs, dJoined, dIsI, dIsI2, isT, isTg, tgD, dMut, dMl, wAppend, wPop, wPopAt, wReverse, wClear, wCat, wRepS, wExtend, wInsert, dgSub, dAugS, onSc, dLenS, dIxS, dSlSc, dLenSet, dBor, dBorT, dBorO, dListP, borE, isFlat, dCall, dCallO, dCallT, callQT, dNilB, dConsB, dRefB, dScB, dTmp, dTmpC, dTmpV, toFz, toOw, wipeE, backE, putR, dSetR, dRetR, dCallR, dIfR, List.map, List.map_cons, List.map_nil, List.set_cons_zero, List.set_cons_succ, List.getElem?_cons_succ, List.getElem?_cons_zero, List.getElem?_nil, List.cons_append, List.nil_append, List.length_cons, List.length_nil, List.replicate, List.getD_cons_zero, List.getD_cons_succ]
    rw [rng_len]
    refine callS rfl rfl ⟨_, by rw [List.length_map, List.length_range]; omega, rfl, rfl⟩ hv2 (by omega) fun r src' ⟨ys, hp, e⟩ hv3 => ?_
    subst e
    dsimp only [dSeq, dIfS, dSet, dSetO, dRet, dRetO, dRetN, dDrop, dNext, dNever, dBrk, dCnt, dVar, dVarO, dC, dOp, dOpO, dBl, onB, dTru, truD, dAnd, dOr, dNot, dAndV, dOrV, dNotV, dIf, dIfO, dFr, frO, dNilA, dConsA, dTup, dLst, dgN, dgNil, dgCons, dgTup, dAsg, dPar, dAug, dFor, dForP, dLc, dLcP, dItL, dItT, dItS, onL, dRng1, dRng2, on1, on2, onI, onS, onT, onQ, dEnum, dZip, dRev, wAdd, wI, wSub, wMul, wMod, wDiv, wPow, dUn, wNeg, wEq, wNe, wCmpI, wLt, wLe, wGt, wGe, wIs, wIsNot, wIsN, wIn, wNotIn, dChain, wIx, dIxP, dPeek, dNoPart, dPart, dSlL, dSlS, dCl, dClO, wLen, dLenP, wAbs, wMax2, wMin2, wInt, wStr, wAll, wAny, wSum, wListO, wTuple, wRepr, dSm, dSmO, wJoin, wSplit, wPart, wFmt, dFmt, dJs, dJoined, dIsI, dIsI2, isT, isTg, tgD, dMut, dMl, wAppend, wPop, wPopAt, wReverse, wClear, wCat, wRepS, wExtend, wInsert, dgSub, dAugS, onSc, dLenS, dIxS, dSlSc, dLenSet, dBor, dBorT, dBorO, dListP, borE, isFlat, dCall, dCallO, dCallT, callQT, dNilB, dConsB, dRefB, dScB, dTmp, dTmpC, dTmpV, toFz, toOw, wipeE, backE, putR, dSetR, dRetR, dCallR, dIfR, List.map, List.map_cons, List.map_nil, List.set_cons_zero, List.set_cons_succ, List.getElem?_cons_succ, List.getElem?_cons_zero, List.getElem?_nil, List.cons_append, List.nil_append, List.length_cons, List.length_nil, List.replicate, List.getD_cons_zero, List.getD_cons_succ]
    rw [show ((List.range m).map fun k => PyData.str (nameOf style k)) = ((List.range m).map (nameOf style)).map .str by rw [List.map_map]; rfl] at hp
    obtain ⟨ws, hw, rfl⟩ := perm_back (g := strOf) (fun _ => rfl) hp
    have hl := hw.length_eq
    rw [List.length_map, List.length_range] at hl
    refine hE _ _ _ ⟨ws, ⟨fun y hy => ?_, (hw.nodup_iff).mpr (names_nd style hs m h2), by omega, by omega⟩, rfl⟩ (hv3.mono (by omega)) rfl
    obtain ⟨k, hk, rfl⟩ := List.mem_map.mp (hw.mem_iff.mp hy)
    exact names_ok style hs k (by have := List.mem_range.mp hk; omega)
/-! ### pairs -/
theorem pairs_ok {s : Nat} (hs : s ≤ 40) : ∀ e ∈ allPairs s, okEd e := fun e he => by
  unfold allPairs at he
  obtain ⟨p, hp, h⟩ := List.mem_flatMap.mp he
  obtain ⟨q, hq, rfl⟩ := List.mem_map.mp h
  have h1 := List.mem_range.mp hp
  have h2 := List.mem_range.mp hq
  exact ⟨by show p < p + 1 + q; omega, by show p + 1 + q < 40; omega⟩
theorem pairs_nd (s : Nat) : (allPairs s).Nodup := by
  unfold allPairs
  refine List.pairwise_flatMap.mpr ⟨fun p _ => ?_, ?_⟩
  · refine List.pairwise_map.mpr (List.nodup_range.imp fun hne e => hne ?_)
    have := congrArg Prod.snd e
    simp only at this
    omega
  · refine List.nodup_range.imp fun hne x hx y hy e => hne ?_
    obtain ⟨q, _, rfl⟩ := List.mem_map.mp hx
    obtain ⟨r, _, rfl⟩ := List.mem_map.mp hy
    exact congrArg Prod.fst e
theorem pairs_len : ∀ s ∈ [2, 6, 40], (allPairs s).length ≤ 780 := by decide +kernel
theorem ln__law_all_pairs : ∀ as W, post__law_all_pairs as W → as.length = 1 := ln_FO fun ds G ⟨m, _, e, _⟩ => by rw [e]; rfl
theorem pu__law_all_pairs : ∀ as W, post__law_all_pairs as W → b__law_all_pairs { nx := exitW as W (.fz .none), rt := exitW as W } (as ++ List.replicate (4 - as.length) .no) := pu_FO fun ds xs ⟨s, hs, e1, e2⟩ E hE => by
  subst e1 e2
  show b__law_all_pairs E [.fz _, .no, .no, .no]
  dsimp only [dSeq, dIfS, dSet, dSetO, dRet, dRetO, dRetN, dDrop, dNext, dNever, dBrk, dCnt, dVar, dVarO, dC, dOp, dOpO, dBl, onB, dTru, truD, dAnd, dOr, dNot, dAndV, dOrV, dNotV, dIf, dIfO, dFr, frO, dNilA, dConsA, dTup, dLst, dgN, dgNil, dgCons, dgTup, dAsg, dPar, dAug, dFor, dForP, dLc, dLcP, dItL, dItT, dItS, onL, dRng1, dRng2, on1, on2, onI, onS, onT, onQ, dEnum, dZip, dRev, wAdd, wI, wSub, wMul, wMod, wDiv, wPow, dUn, wNeg, wEq, wNe, wCmpI, wLt, wLe, wGt, wGe, wIs, wIsNot, wIsN, wIn, wNotIn, dChain, wIx, dIxP, dPeek, dNoPart, dPart, dSlL, dSlS, dCl, dClO, wLen, dLenP, wAbs, wMax2, wMin2, wInt, wStr, wAll, wAny, wSum, wListO, wTuple, wRepr, dSm, dSmO, wJoin, wSplit, wPart, wFmt, dFmt, dJs, dJoined, dIsI, dIsI2, isT, isTg, tgD, dMut, dMl, wAppend, wPop, wPopAt, wReverse, wClear, wCat, wRepS, wExtend, wInsert, dgSub, dAugS, onSc, dLenS, dIxS, dSlSc, dLenSet, dBor, dBorT, dBorO, dListP, borE, isFlat, dCall, dCallO, dCallT, callQT, dNilB, dConsB, dRefB, dScB, dTmp, dTmpC, dTmpV, toFz, toOw, wipeE, backE, putR, dSetR, dRetR, dCallR, dIfR, List.map, List.map_cons, List.map_nil, List.set_cons_zero, List.set_cons_succ, List.getElem?_cons_succ, List.getElem?_cons_zero, List.getElem?_nil, List.cons_append, List.nil_append, List.length_cons, List.length_nil, List.replicate, List.getD_cons_zero, List.getD_cons_succ, b__law_all_pairs, b__law_all_pairs_1, b__law_all_pairs_2]
  refine ⟨by decide, by omega, ?_⟩
  rw [show ((s : Nat) : Int).toNat = s by omega]
  refine ⟨fun i e => ∃ u w, e = [.fz (.int s), .ow none (.lst (((List.range i).flatMap fun p => (List.range (s - (p + 1))).map fun q => (p, p + 1 + q)).map edD)), u, w] ∧ (∀ p o, w ≠ .ow p o) ∧ ((List.range i).flatMap fun p => (List.range (s - (p + 1))).map fun q => (p, p + 1 + q)).length ≤ i * 40, ⟨_, _, rfl, (fun _ _ h => nomatch h), by simp⟩, ?_, ?_⟩
  · rintro i d e hd ⟨u, w, rfl, hw, hl⟩
    obtain ⟨hi, rfl⟩ := rng0_at hd
    dsimp only [dSeq, dIfS, dSet, dSetO, dRet, dRetO, dRetN, dDrop, dNext, dNever, dBrk, dCnt, dVar, dVarO, dC, dOp, dOpO, dBl, onB, dTru, truD, dAnd, dOr, dNot, dAndV, dOrV, dNotV, dIf, dIfO, dFr, frO, dNilA, dConsA, dTup, dLst, dgN, dgNil, dgCons, dgTup, dAsg, dPar, dAug, dFor, dForP, dLc, dLcP, dItL, dItT, dItS, onL, dRng1, dRng2, on1, on2, onI, onS, onT, onQ, dEnum, dZip, dRev, wAdd, wI, wSub, wMul, wMod, wDiv, wPow, dUn, wNeg, wEq, wNe, wCmpI, wLt, wLe, wGt, wGe, wIs, wIsNot, wIsN, wIn, wNotIn, dChain, wIx, dIxP, dPeek, dNoPart, dPart, dSlL, dSlS, dCl, dClO, wLen, dLenP, wAbs, wMax2, wMin2, wInt, wStr, wAll, wAny, wSum, wListO, wTuple, wRepr, dSm, dSmO, wJoin, wSplit, wPart, wFmt, dFmt, dJs, dJoined, dIsI, dIsI2, isT, isTg, tgD, dMut, dMl, wAppend, wPop, wPopAt, wReverse, wClear, wCat, wRepS, wExtend, wInsert, dgSub, dAugS, onSc, dLenS, dIxS, dSlSc, dLenSet, dBor, dBorT, dBorO, dListP, borE, isFlat, dCall, dCallO, dCallT, callQT, dNilB, dConsB, dRefB, dScB, dTmp, dTmpC, dTmpV, toFz, toOw, wipeE, backE, putR, dSetR, dRetR, dCallR, dIfR, List.map, List.map_cons, List.map_nil, List.set_cons_zero, List.set_cons_succ, List.getElem?_cons_succ, List.getElem?_cons_zero, List.getElem?_nil, List.cons_append, List.nil_append, List.length_cons, List.length_nil, List.replicate, List.getD_cons_zero, List.getD_cons_succ]
    refine ⟨trivial, by omega, ?_⟩
    unfold rng
    rw [show ((s : Int) - ((i : Nat) + 1)).toNat = s - (i + 1) by omega]
    refine lc_mapx (fun q => edD (i, i + 1 + q)) (no1 fun p o h => hw p o (Option.some.inj h)) (size_ok (by rw [List.length_range]; omega)) (fun k q N hq hN => ?_) ?_
    · dsimp only [dSeq, dIfS, dSet, dSetO, dRet, dRetO, dRetN, dDrop, dNext, dNever, dBrk, dCnt, dVar, dVarO, dC, dOp, dOpO, dBl, onB, dTru, truD, dAnd, dOr, dNot, dAndV, dOrV, dNotV, dIf, dIfO, dFr, frO, dNilA, dConsA, dTup, dLst, dgN, dgNil, dgCons, dgTup, dAsg, dPar, dAug, dFor, dForP, dLc, dLcP, dItL, dItT, dItS, onL, dRng1, dRng2, on1, on2, onI, onS, onT, onQ, dEnum, dZip, dRev, wAdd, wI, wSub, wMul, wMod, wDiv, wPow, dUn, wNeg, wEq, wNe, wCmpI, wLt, wLe, wGt, wGe, wIs, wIsNot, wIsN, wIn, wNotIn, dChain, wIx, dIxP, dPeek, dNoPart, dPart, dSlL, dSlS, dCl, dClO, wLen, dLenP, wAbs, wMax2, wMin2, wInt, wStr, wAll, wAny, wSum, wListO, wTuple, wRepr, dSm, dSmO, wJoin, wSplit, wPart, wFmt, dFmt, dJs, dJoined, dIsI, dIsI2, isT, isTg, tgD, dMut, dMl, wAppend, wPop, wPopAt, wReverse, wClear, wCat, wRepS, wExtend, wInsert, dgSub, dAugS, onSc, dLenS, dIxS, dSlSc, dLenSet, dBor, dBorT, dBorO, dListP, borE, isFlat, dCall, dCallO, dCallT, callQT, dNilB, dConsB, dRefB, dScB, dTmp, dTmpC, dTmpV, toFz, toOw, wipeE, backE, putR, dSetR, dRetR, dCallR, dIfR, List.map, List.map_cons, List.map_nil, List.set_cons_zero, List.set_cons_succ, List.getElem?_cons_succ, List.getElem?_cons_zero, List.getElem?_nil, List.cons_append, List.nil_append, List.length_cons, List.length_nil, List.replicate, List.getD_cons_zero, List.getD_cons_succ]
      refine ⟨by decide, ?_⟩
      have e2 : ((i : Nat) : Int) + 1 + (q : Nat) = ((i + 1 + q : Nat) : Int) := by omega
      rw [e2]
      exact hN _ rfl
    · dsimp only [dSeq, dIfS, dSet, dSetO, dRet, dRetO, dRetN, dDrop, dNext, dNever, dBrk, dCnt, dVar, dVarO, dC, dOp, dOpO, dBl, onB, dTru, truD, dAnd, dOr, dNot, dAndV, dOrV, dNotV, dIf, dIfO, dFr, frO, dNilA, dConsA, dTup, dLst, dgN, dgNil, dgCons, dgTup, dAsg, dPar, dAug, dFor, dForP, dLc, dLcP, dItL, dItT, dItS, onL, dRng1, dRng2, on1, on2, onI, onS, onT, onQ, dEnum, dZip, dRev, wAdd, wI, wSub, wMul, wMod, wDiv, wPow, dUn, wNeg, wEq, wNe, wCmpI, wLt, wLe, wGt, wGe, wIs, wIsNot, wIsN, wIn, wNotIn, dChain, wIx, dIxP, dPeek, dNoPart, dPart, dSlL, dSlS, dCl, dClO, wLen, dLenP, wAbs, wMax2, wMin2, wInt, wStr, wAll, wAny, wSum, wListO, wTuple, wRepr, dSm, dSmO, wJoin, wSplit, wPart, wFmt, dFmt, dJs, dJoined, dIsI, dIsI2, isT, isTg, tgD, dMut, dMl, wAppend, wPop, wPopAt, wReverse, wClear, wCat, wRepS, wExtend, wInsert, dgSub, dAugS, onSc, dLenS, dIxS, dSlSc, dLenSet, dBor, dBorT, dBorO, dListP, borE, isFlat, dCall, dCallO, dCallT, callQT, dNilB, dConsB, dRefB, dScB, dTmp, dTmpC, dTmpV, toFz, toOw, wipeE, backE, putR, dSetR, dRetR, dCallR, dIfR, List.map, List.map_cons, List.map_nil, List.set_cons_zero, List.set_cons_succ, List.getElem?_cons_succ, List.getElem?_cons_zero, List.getElem?_nil, List.cons_append, List.nil_append, List.length_cons, List.length_nil, List.replicate, List.getD_cons_zero, List.getD_cons_succ]
      have e3 : ((List.range (i + 1)).flatMap fun p => (List.range (s - (p + 1))).map fun q => (p, p + 1 + q)) = ((List.range i).flatMap fun p => (List.range (s - (p + 1))).map fun q => (p, p + 1 + q)) ++ (List.range (s - (i + 1))).map fun q => (i, i + 1 + q) := by
        rw [List.range_succ, List.flatMap_append]
        simp
      have e4 : ((List.range i).flatMap fun p => (List.range (s - (p + 1))).map fun q => (p, p + 1 + q)).length ≤ 1600 := Nat.le_trans hl (by have : i * 40 ≤ 40 * 40 := Nat.mul_le_mul_right _ (by omega); omega)
      refine ⟨size_ok (by rw [List.length_map, List.length_map, List.length_range]; omega), .fz (.int i), w, ?_, hw, ?_⟩
      · rw [e3, List.map_append, List.map_map]
        rfl
      · rw [e3, List.length_append, List.length_map, List.length_range, Nat.add_mul]
        omega
  · rintro e ⟨u, w, rfl, hw, hl⟩
    rw [rng_len]
    exact hE _
def edOf : D → Ed
  | .tuple [.int a, .int b] => (a.toNat, b.toNat)
  | _ => (0, 0)
theorem edOf_edD (e : Ed) : edOf (edD e) = e := by
  show ((e.1 : Int).toNat, (e.2 : Int).toNat) = e
  rw [Int.toNat_natCast, Int.toNat_natCast]
/-- what is drawn without putting back -/
theorem drawn {xs : List Ed} {acc left : List D} (h : (acc ++ left).Perm (xs.map edD)) (hn : xs.Nodup) (ho : ∀ e ∈ xs, okEd e) (hl : acc.length ≤ 100) : ∃ es, VEdges es ∧ acc = es.map edD := by
  obtain ⟨ws, hw, e⟩ := perm_back edOf_edD h
  refine ⟨ws.take acc.length, ⟨fun z hz => ho z (hw.mem_iff.mp (List.mem_of_mem_take hz)), ((hw.nodup_iff).mpr hn).sublist (List.take_sublist _ _), by rw [List.length_take]; omega⟩, ?_⟩
  rw [List.map_take, ← e, List.take_left]
theorem ln__law_pairs : ∀ as W, post__law_pairs as W → as.length = 2 := ln_S fun ds G ⟨e, _⟩ => by rw [e]; rfl
theorem pu__law_pairs : ∀ as W, post__law_pairs as W → b__law_pairs { nx := exitW as W (.fz .none), rt := exitW as W } (as ++ List.replicate (6 - as.length) .no) := pu_S fun ds G n xs p ⟨e1, e2⟩ hv hn E hE => by
  subst e1 e2
  show b__law_pairs E [.ow _ _, .fz _, .no, .no, .no, .no]
  dsimp only [dSeq, dIfS, dSet, dSetO, dRet, dRetO, dRetN, dDrop, dNext, dNever, dBrk, dCnt, dVar, dVarO, dC, dOp, dOpO, dBl, onB, dTru, truD, dAnd, dOr, dNot, dAndV, dOrV, dNotV, dIf, dIfO, dFr, frO, dNilA, dConsA, dTup, dLst, dgN, dgNil, dgCons, dgTup, dAsg, dPar, dAug, dFor, dForP, dLc, dLcP, dItL, dItT, dItS, onL, dRng1, dRng2, on1, on2, onI, onS, onT, onQ, dEnum, dZip, dRev, wAdd, wI, wSub, wMul, wMod, wDiv, wPow, dUn, wNeg, wEq, wNe, wCmpI, wLt, wLe, wGt, wGe, wIs, wIsNot, wIsN, wIn, wNotIn, dChain, wIx, dIxP, dPeek, dNoPart, dPart, dSlL, dSlS, dCl, dClO, wLen, dLenP, wAbs, wMax2, wMin2, wInt, wStr, wAll, wAny, wSum, wListO, wTuple, wRepr, dSm, dSmO, wJoin, wSplit, wPart, wFmt, dFmt, dJs, dJoined, dIsI, dIsI2, isT, isTg, tgD, dMut, dMl, wAppend, wPop, wPopAt, wReverse, wClear, wCat, wRepS, wExtend, wInsert, dgSub, dAugS, onSc, dLenS, dIxS, dSlSc, dLenSet, dBor, dBorT, dBorO, dListP, borE, isFlat, dCall, dCallO, dCallT, callQT, dNilB, dConsB, dRefB, dScB, dTmp, dTmpC, dTmpV, toFz, toOw, wipeE, backE, putR, dSetR, dRetR, dCallR, dIfR, List.map, List.map_cons, List.map_nil, List.set_cons_zero, List.set_cons_succ, List.getElem?_cons_succ, List.getElem?_cons_zero, List.getElem?_nil, List.cons_append, List.nil_append, List.length_cons, List.length_nil, List.replicate, List.getD_cons_zero, List.getD_cons_succ, b__law_pairs]
  refine ⟨by decide, pick (m := 3) rfl hv (by omega) (by omega) (by omega) fun x src hx hv1 => ?_⟩
  obtain ⟨s, hs, es⟩ : ∃ s : Nat, s ∈ [2, 6, 40] ∧ atI [PyData.int 2, .int 6, .int 40] ((x : Nat) : Int) = some (.int s) := by
    match x, hx with
    | 0, _ => exact ⟨2, by decide, rfl⟩
    | 1, _ => exact ⟨6, by decide, rfl⟩
    | 2, _ => exact ⟨40, by decide, rfl⟩
  have hs40 : s ≤ 40 := by
    rcases (by simpa using hs : s = 2 ∨ s = 6 ∨ s = 40) with rfl | rfl | rfl <;> decide
  have hlen := pairs_len s hs
  dsimp only [dSeq, dIfS, dSet, dSetO, dRet, dRetO, dRetN, dDrop, dNext, dNever, dBrk, dCnt, dVar, dVarO, dC, dOp, dOpO, dBl, onB, dTru, truD, dAnd, dOr, dNot, dAndV, dOrV, dNotV, dIf, dIfO, dFr, frO, dNilA, dConsA, dTup, dLst, dgN, dgNil, dgCons, dgTup, dAsg, dPar, dAug, dFor, dForP, dLc, dLcP, dItL, dItT, dItS, onL, dRng1, dRng2, on1, on2, onI, onS, onT, onQ, dEnum, dZip, dRev, wAdd, wI, wSub, wMul, wMod, wDiv, wPow, dUn, wNeg, wEq, wNe, wCmpI, wLt, wLe, wGt, wGe, wIs, wIsNot, wIsN, wIn, wNotIn, dChain, wIx, dIxP, dPeek, dNoPart, dPart, dSlL, dSlS, dCl, dClO, wLen, dLenP, wAbs, wMax2, wMin2, wInt, wStr, wAll, wAny, wSum, wListO, wTuple, wRepr, dSm, dSmO, wJoin, wSplit, wPart, wFmt, dFmt, dJs, dJoined, dIsI, dIsI2, isT, isTg, tgD, dMut, dMl, wAppend, wPop, wPopAt, wReverse, wClear, wCat, wRepS, wExtend, wInsert, dgSub, dAugS, onSc, dLenS, dIxS, dSlSc, dLenSet, dBor, dBorT, dBorO, dListP, borE, isFlat, dCall, dCallO, dCallT, callQT, dNilB, dConsB, dRefB, dScB, dTmp, dTmpC, dTmpV, toFz, toOw, wipeE, backE, putR, dSetR, dRetR, dCallR, dIfR, List.map, List.map_cons, List.map_nil, List.set_cons_zero, List.set_cons_succ, List.getElem?_cons_succ, List.getElem?_cons_zero, List.getElem?_nil, List.cons_append, List.nil_append, List.length_cons, List.length_nil, List.replicate, List.getD_cons_zero, List.getD_cons_succ]
  refine ⟨_, es, ?_⟩
  dsimp only [dSeq, dIfS, dSet, dSetO, dRet, dRetO, dRetN, dDrop, dNext, dNever, dBrk, dCnt, dVar, dVarO, dC, dOp, dOpO, dBl, onB, dTru, truD, dAnd, dOr, dNot, dAndV, dOrV, dNotV, dIf, dIfO, dFr, frO, dNilA, dConsA, dTup, dLst, dgN, dgNil, dgCons, dgTup, dAsg, dPar, dAug, dFor, dForP, dLc, dLcP, dItL, dItT, dItS, onL, dRng1, dRng2, on1, on2, onI, onS, onT, onQ, dEnum, dZip, dRev, wAdd, wI, wSub, wMul, wMod, wDiv, wPow, dUn, wNeg, wEq, wNe, wCmpI, wLt, wLe, wGt, wGe, wIs, wIsNot, wIsN, wIn, wNotIn, dChain, wIx, dIxP, dPeek, dNoPart, dPart, dSlL, dSlS, dCl, dClO, wLen, dLenP, wAbs, wMax2, wMin2, wInt, wStr, wAll, wAny, wSum, wListO, wTuple, wRepr, dSm, dSmO, wJoin, wSplit, wPart, wFmt, dFmt, dJs, dJoined, dIsI, dIsI2, isT, isTg, tgD, dMut, dMl, wAppend, wPop, wPopAt, wReverse, wClear, wCat, wRepS, wExtend, wInsert, dgSub, dAugS, onSc, dLenS, dIxS, dSlSc, dLenSet, dBor, dBorT, dBorO, dListP, borE, isFlat, dCall, dCallO, dCallT, callQT, dNilB, dConsB, dRefB, dScB, dTmp, dTmpC, dTmpV, toFz, toOw, wipeE, backE, putR, dSetR, dRetR, dCallR, dIfR, List.map, List.map_cons, List.map_nil, List.set_cons_zero, List.set_cons_succ, List.getElem?_cons_succ, List.getElem?_cons_zero, List.getElem?_nil, List.cons_append, List.nil_append, List.length_cons, List.length_nil, List.replicate, List.getD_cons_zero, List.getD_cons_succ, b__law_pairs_1, b__law_pairs_2, b__law_pairs_3]
  refine callFO rfl ⟨s, hs40, rfl, rfl⟩ ?_
  dsimp only [dSeq, dIfS, dSet, dSetO, dRet, dRetO, dRetN, dDrop, dNext, dNever, dBrk, dCnt, dVar, dVarO, dC, dOp, dOpO, dBl, onB, dTru, truD, dAnd, dOr, dNot, dAndV, dOrV, dNotV, dIf, dIfO, dFr, frO, dNilA, dConsA, dTup, dLst, dgN, dgNil, dgCons, dgTup, dAsg, dPar, dAug, dFor, dForP, dLc, dLcP, dItL, dItT, dItS, onL, dRng1, dRng2, on1, on2, onI, onS, onT, onQ, dEnum, dZip, dRev, wAdd, wI, wSub, wMul, wMod, wDiv, wPow, dUn, wNeg, wEq, wNe, wCmpI, wLt, wLe, wGt, wGe, wIs, wIsNot, wIsN, wIn, wNotIn, dChain, wIx, dIxP, dPeek, dNoPart, dPart, dSlL, dSlS, dCl, dClO, wLen, dLenP, wAbs, wMax2, wMin2, wInt, wStr, wAll, wAny, wSum, wListO, wTuple, wRepr, dSm, dSmO, wJoin, wSplit, wPart, wFmt, dFmt, dJs, dJoined, dIsI, dIsI2, isT, isTg, tgD, dMut, dMl, wAppend, wPop, wPopAt, wReverse, wClear, wCat, wRepS, wExtend, wInsert, dgSub, dAugS, onSc, dLenS, dIxS, dSlSc, dLenSet, dBor, dBorT, dBorO, dListP, borE, isFlat, dCall, dCallO, dCallT, callQT, dNilB, dConsB, dRefB, dScB, dTmp, dTmpC, dTmpV, toFz, toOw, wipeE, backE, putR, dSetR, dRetR, dCallR, dIfR, List.map, List.map_cons, List.map_nil, List.set_cons_zero, List.set_cons_succ, List.getElem?_cons_succ, List.getElem?_cons_zero, List.getElem?_nil, List.cons_append, List.nil_append, List.length_cons, List.length_nil, List.replicate, List.getD_cons_zero, List.getD_cons_succ]
  refine pick (m := 6) rfl hv1 (by omega) (by omega) (by omega) fun x1 src1 hx1 hv2 => ?_
  dsimp only [dSeq, dIfS, dSet, dSetO, dRet, dRetO, dRetN, dDrop, dNext, dNever, dBrk, dCnt, dVar, dVarO, dC, dOp, dOpO, dBl, onB, dTru, truD, dAnd, dOr, dNot, dAndV, dOrV, dNotV, dIf, dIfO, dFr, frO, dNilA, dConsA, dTup, dLst, dgN, dgNil, dgCons, dgTup, dAsg, dPar, dAug, dFor, dForP, dLc, dLcP, dItL, dItT, dItS, onL, dRng1, dRng2, on1, on2, onI, onS, onT, onQ, dEnum, dZip, dRev, wAdd, wI, wSub, wMul, wMod, wDiv, wPow, dUn, wNeg, wEq, wNe, wCmpI, wLt, wLe, wGt, wGe, wIs, wIsNot, wIsN, wIn, wNotIn, dChain, wIx, dIxP, dPeek, dNoPart, dPart, dSlL, dSlS, dCl, dClO, wLen, dLenP, wAbs, wMax2, wMin2, wInt, wStr, wAll, wAny, wSum, wListO, wTuple, wRepr, dSm, dSmO, wJoin, wSplit, wPart, wFmt, dFmt, dJs, dJoined, dIsI, dIsI2, isT, isTg, tgD, dMut, dMl, wAppend, wPop, wPopAt, wReverse, wClear, wCat, wRepS, wExtend, wInsert, dgSub, dAugS, onSc, dLenS, dIxS, dSlSc, dLenSet, dBor, dBorT, dBorO, dListP, borE, isFlat, dCall, dCallO, dCallT, callQT, dNilB, dConsB, dRefB, dScB, dTmp, dTmpC, dTmpV, toFz, toOw, wipeE, backE, putR, dSetR, dRetR, dCallR, dIfR, List.map, List.map_cons, List.map_nil, List.set_cons_zero, List.set_cons_succ, List.getElem?_cons_succ, List.getElem?_cons_zero, List.getElem?_nil, List.cons_append, List.nil_append, List.length_cons, List.length_nil, List.replicate, List.getD_cons_zero, List.getD_cons_succ]
  refine pick (m := 101) rfl hv2 (by omega) (by omega) (by omega) fun x2 src2 hx2 hv3 => ?_
  dsimp only [dSeq, dIfS, dSet, dSetO, dRet, dRetO, dRetN, dDrop, dNext, dNever, dBrk, dCnt, dVar, dVarO, dC, dOp, dOpO, dBl, onB, dTru, truD, dAnd, dOr, dNot, dAndV, dOrV, dNotV, dIf, dIfO, dFr, frO, dNilA, dConsA, dTup, dLst, dgN, dgNil, dgCons, dgTup, dAsg, dPar, dAug, dFor, dForP, dLc, dLcP, dItL, dItT, dItS, onL, dRng1, dRng2, on1, on2, onI, onS, onT, onQ, dEnum, dZip, dRev, wAdd, wI, wSub, wMul, wMod, wDiv, wPow, dUn, wNeg, wEq, wNe, wCmpI, wLt, wLe, wGt, wGe, wIs, wIsNot, wIsN, wIn, wNotIn, dChain, wIx, dIxP, dPeek, dNoPart, dPart, dSlL, dSlS, dCl, dClO, wLen, dLenP, wAbs, wMax2, wMin2, wInt, wStr, wAll, wAny, wSum, wListO, wTuple, wRepr, dSm, dSmO, wJoin, wSplit, wPart, wFmt, dFmt, dJs, dJoined, dIsI, dIsI2, isT, isTg, tgD, dMut, dMl, wAppend, wPop, wPopAt, wReverse, wClear, wCat, wRepS, wExtend, wInsert, dgSub, dAugS, onSc, dLenS, dIxS, dSlSc, dLenSet, dBor, dBorT, dBorO, dListP, borE, isFlat, dCall, dCallO, dCallT, callQT, dNilB, dConsB, dRefB, dScB, dTmp, dTmpC, dTmpV, toFz, toOw, wipeE, backE, putR, dSetR, dRetR, dCallR, dIfR, List.map, List.map_cons, List.map_nil, List.set_cons_zero, List.set_cons_succ, List.getElem?_cons_succ, List.getElem?_cons_zero, List.getElem?_nil, List.cons_append, List.nil_append, List.length_cons, List.length_nil, List.replicate, List.getD_cons_zero, List.getD_cons_succ]
  refine ⟨by decide, pick (m := 5) rfl hv3 (by omega) (by omega) (by omega) fun x3 src3 hx3 hv4 => ?_⟩
  obtain ⟨k, hk, ek⟩ : ∃ k : Nat, k ≤ 100 ∧ atI [PyData.int 0, .int 1, .int (x1 : Nat), .int (x2 : Nat), .int 100] ((x3 : Nat) : Int) = some (.int k) := by
    match x3, hx3 with
    | 0, _ => exact ⟨0, by decide, rfl⟩
    | 1, _ => exact ⟨1, by decide, rfl⟩
    | 2, _ => exact ⟨x1, by omega, rfl⟩
    | 3, _ => exact ⟨x2, by omega, rfl⟩
    | 4, _ => exact ⟨100, by decide, rfl⟩
  dsimp only [dSeq, dIfS, dSet, dSetO, dRet, dRetO, dRetN, dDrop, dNext, dNever, dBrk, dCnt, dVar, dVarO, dC, dOp, dOpO, dBl, onB, dTru, truD, dAnd, dOr, dNot, dAndV, dOrV, dNotV, dIf, dIfO, dFr, frO, dNilA, dConsA, dTup, dLst, dgN, dgNil, dgCons, dgTup, dAsg, dPar, dAug, dFor, dForP, dLc, dLcP, dItL, dItT, dItS, onL, dRng1, dRng2, on1, on2, onI, onS, onT, onQ, dEnum, dZip, dRev, wAdd, wI, wSub, wMul, wMod, wDiv, wPow, dUn, wNeg, wEq, wNe, wCmpI, wLt, wLe, wGt, wGe, wIs, wIsNot, wIsN, wIn, wNotIn, dChain, wIx, dIxP, dPeek, dNoPart, dPart, dSlL, dSlS, dCl, dClO, wLen, dLenP, wAbs, wMax2, wMin2, wInt, wStr, wAll, wAny, wSum, wListO, wTuple, wRepr, dSm, dSmO, wJoin, wSplit, wPart, wFmt, dFmt, dJs, dJoined, dIsI, dIsI2, isT, isTg, tgD, dMut, dMl, wAppend, wPop, wPopAt, wReverse, wClear, wCat, wRepS, wExtend, wInsert, dgSub, dAugS, onSc, dLenS, dIxS, dSlSc, dLenSet, dBor, dBorT, dBorO, dListP, borE, isFlat, dCall, dCallO, dCallT, callQT, dNilB, dConsB, dRefB, dScB, dTmp, dTmpC, dTmpV, toFz, toOw, wipeE, backE, putR, dSetR, dRetR, dCallR, dIfR, List.map, List.map_cons, List.map_nil, List.set_cons_zero, List.set_cons_succ, List.getElem?_cons_succ, List.getElem?_cons_zero, List.getElem?_nil, List.cons_append, List.nil_append, List.length_cons, List.length_nil, List.replicate, List.getD_cons_zero, List.getD_cons_succ]
  refine ⟨_, ek, ?_⟩
  dsimp only [dSeq, dIfS, dSet, dSetO, dRet, dRetO, dRetN, dDrop, dNext, dNever, dBrk, dCnt, dVar, dVarO, dC, dOp, dOpO, dBl, onB, dTru, truD, dAnd, dOr, dNot, dAndV, dOrV, dNotV, dIf, dIfO, dFr, frO, dNilA, dConsA, dTup, dLst, dgN, dgNil, dgCons, dgTup, dAsg, dPar, dAug, dFor, dForP, dLc, dLcP, dItL, dItT, dItS, onL, dRng1, dRng2, on1, on2, onI, onS, onT, onQ, dEnum, dZip, dRev, wAdd, wI, wSub, wMul, wMod, wDiv, wPow, dUn, wNeg, wEq, wNe, wCmpI, wLt, wLe, wGt, wGe, wIs, wIsNot, wIsN, wIn, wNotIn, dChain, wIx, dIxP, dPeek, dNoPart, dPart, dSlL, dSlS, dCl, dClO, wLen, dLenP, wAbs, wMax2, wMin2, wInt, wStr, wAll, wAny, wSum, wListO, wTuple, wRepr, dSm, dSmO, wJoin, wSplit, wPart, wFmt, dFmt, dJs, dJoined, dIsI, dIsI2, isT, isTg, tgD, dMut, dMl, wAppend, wPop, wPopAt, wReverse, wClear, wCat, wRepS, wExtend, wInsert, dgSub, dAugS, onSc, dLenS, dIxS, dSlSc, dLenSet, dBor, dBorT, dBorO, dListP, borE, isFlat, dCall, dCallO, dCallT, callQT, dNilB, dConsB, dRefB, dScB, dTmp, dTmpC, dTmpV, toFz, toOw, wipeE, backE, putR, dSetR, dRetR, dCallR, dIfR, List.map, List.map_cons, List.map_nil, List.set_cons_zero, List.set_cons_succ, List.getElem?_cons_succ, List.getElem?_cons_zero, List.getElem?_nil, List.cons_append, List.nil_append, List.length_cons, List.length_nil, List.replicate, List.getD_cons_zero, List.getD_cons_succ]
  obtain ⟨c, ec, hc1, hc2⟩ : ∃ c : Nat, (if ((k : Nat) : Int) < (((allPairs s).map edD).length : Nat) then ((k : Nat) : Int) else (((allPairs s).map edD).length : Nat)) = (c : Nat) ∧ c ≤ k ∧ c ≤ (allPairs s).length := by
    rw [List.length_map]
    by_cases h : k < (allPairs s).length
    · exact ⟨k, by rw [if_pos (by omega)], by omega, by omega⟩
    · exact ⟨_, by rw [if_neg (by omega)], by omega, by omega⟩
  rw [ec, show ((c : Nat) : Int).toNat = c by omega]
  refine ⟨by omega, ?_⟩
  refine ⟨fun i acc e => ∃ src left, e = [.ow (some p) (.lst src), .fz (.int 100), .fz (.int s), .ow none (.lst left), .fz (.int c), .no] ∧ VSrc (n + 4 + i) src ∧ (acc ++ left).Perm ((allPairs s).map edD) ∧ left.length + i = (allPairs s).length ∧ acc.length = i, ⟨src3, _, rfl, hv4, List.Perm.refl _, by rw [List.length_map]; rfl, rfl⟩, ?_, size_ok (by rw [rng_len]; omega), ?_⟩
  · rintro i d acc e hd _ ⟨src, left, rfl, hv', hp, hi, ha⟩
    obtain ⟨hi2, rfl⟩ := rng0_at hd
    refine ⟨(no1 fun _ _ h => nomatch h), ?_⟩
    dsimp only [dSeq, dIfS, dSet, dSetO, dRet, dRetO, dRetN, dDrop, dNext, dNever, dBrk, dCnt, dVar, dVarO, dC, dOp, dOpO, dBl, onB, dTru, truD, dAnd, dOr, dNot, dAndV, dOrV, dNotV, dIf, dIfO, dFr, frO, dNilA, dConsA, dTup, dLst, dgN, dgNil, dgCons, dgTup, dAsg, dPar, dAug, dFor, dForP, dLc, dLcP, dItL, dItT, dItS, onL, dRng1, dRng2, on1, on2, onI, onS, onT, onQ, dEnum, dZip, dRev, wAdd, wI, wSub, wMul, wMod, wDiv, wPow, dUn, wNeg, wEq, wNe, wCmpI, wLt, wLe, wGt, wGe, wIs, wIsNot, wIsN, wIn, wNotIn, dChain, wIx, dIxP, dPeek, dNoPart, dPart, dSlL, dSlS, dCl, dClO, wLen, dLenP, wAbs, wMax2, wMin2, wInt, wStr, wAll, wAny, wSum, wListO, wTuple, wRepr, dSm, dSmO, wJoin, wSplit, wPart, wFmt, dFmt, dJs, dJoined, dIsI, dIsI2, isT, isTg, tgD, dMut, dMl, wAppend, wPop, wPopAt, wReverse, wClear, wCat, wRepS, wExtend, wInsert, dgSub, dAugS, onSc, dLenS, dIxS, dSlSc, dLenSet, dBor, dBorT, dBorO, dListP, borE, isFlat, dCall, dCallO, dCallT, callQT, dNilB, dConsB, dRefB, dScB, dTmp, dTmpC, dTmpV, toFz, toOw, wipeE, backE, putR, dSetR, dRetR, dCallR, dIfR, List.map, List.map_cons, List.map_nil, List.set_cons_zero, List.set_cons_succ, List.getElem?_cons_succ, List.getElem?_cons_zero, List.getElem?_nil, List.cons_append, List.nil_append, List.length_cons, List.length_nil, List.replicate, List.getD_cons_zero, List.getD_cons_succ, dYes]
    refine iteT' rfl ⟨trivial, ?_⟩
    refine pick rfl hv' (by omega) (by omega) (by omega) fun x src' hx hv2 => ?_
    dsimp only [dSeq, dIfS, dSet, dSetO, dRet, dRetO, dRetN, dDrop, dNext, dNever, dBrk, dCnt, dVar, dVarO, dC, dOp, dOpO, dBl, onB, dTru, truD, dAnd, dOr, dNot, dAndV, dOrV, dNotV, dIf, dIfO, dFr, frO, dNilA, dConsA, dTup, dLst, dgN, dgNil, dgCons, dgTup, dAsg, dPar, dAug, dFor, dForP, dLc, dLcP, dItL, dItT, dItS, onL, dRng1, dRng2, on1, on2, onI, onS, onT, onQ, dEnum, dZip, dRev, wAdd, wI, wSub, wMul, wMod, wDiv, wPow, dUn, wNeg, wEq, wNe, wCmpI, wLt, wLe, wGt, wGe, wIs, wIsNot, wIsN, wIn, wNotIn, dChain, wIx, dIxP, dPeek, dNoPart, dPart, dSlL, dSlS, dCl, dClO, wLen, dLenP, wAbs, wMax2, wMin2, wInt, wStr, wAll, wAny, wSum, wListO, wTuple, wRepr, dSm, dSmO, wJoin, wSplit, wPart, wFmt, dFmt, dJs, dJoined, dIsI, dIsI2, isT, isTg, tgD, dMut, dMl, wAppend, wPop, wPopAt, wReverse, wClear, wCat, wRepS, wExtend, wInsert, dgSub, dAugS, onSc, dLenS, dIxS, dSlSc, dLenSet, dBor, dBorT, dBorO, dListP, borE, isFlat, dCall, dCallO, dCallT, callQT, dNilB, dConsB, dRefB, dScB, dTmp, dTmpC, dTmpV, toFz, toOw, wipeE, backE, putR, dSetR, dRetR, dCallR, dIfR, List.map, List.map_cons, List.map_nil, List.set_cons_zero, List.set_cons_succ, List.getElem?_cons_succ, List.getElem?_cons_zero, List.getElem?_nil, List.cons_append, List.nil_append, List.length_cons, List.length_nil, List.replicate, List.getD_cons_zero, List.getD_cons_succ]
    refine ⟨⟨by omega, by omega⟩, x, left[x], six_nat hx, List.getElem?_eq_getElem hx, src', left.eraseIdx x, rfl, hv2, ?_, ?_, ?_⟩
    · refine List.Perm.trans ?_ hp
      rw [List.append_assoc]
      exact List.Perm.append_left _ (perm_out hx)
    · rw [List.length_eraseIdx_of_lt hx]
      omega
    · rw [List.length_append, ha]
      rfl
  · rintro acc e ⟨src, left, rfl, hv', hp, hi, ha⟩
    rw [rng_len] at hi hv' ha
    obtain ⟨es, v, rfl⟩ := drawn hp (pairs_nd s) (pairs_ok hs40) (by omega)
    exact hE _ _ _ ⟨es, v, rfl⟩ (hv'.mono (by omega)) rfl
end K95

namespace K95
open PySem PySem.Spec PyProof.Rows L2 PD
/-! ### rows by their items -/
def ItemOk (door : Nat) (d : D) : Prop := (door ≤ 1 ∧ ∃ z, okItem z ∧ d = .str z) ∨ (door = 1 ∧ d = .none) ∨ (door = 2 ∧ ∃ e, okEd e ∧ d = edD e) ∨ (door = 3 ∧ ∃ t, VTurn t ∧ d = turnD t)
def RR (door : Nat) (a b : D) : Prop := door = 3 ∨ a = .none ∨ a ≠ b
structure RowOk (door : Nat) (row : List D) : Prop where
  it : ∀ d ∈ row, ItemOk door d
  pw : row.Pairwise (RR door)
  lo : door = 2 ∨ 1 ≤ row.length
  hi : row.length ≤ mostOf door
theorem RR.symm {door : Nat} {a b : D} (h : RR door a b) : RR door b a := by
  rcases h with h | h | h
  · exact .inl h
  · by_cases e : b = .none
    · exact .inr (.inl e)
    · exact .inr (.inr fun z => e (by rw [z, h]))
  · exact .inr (.inr fun z => h z.symm)
theorem new_item {door : Nat} {d : D} (h : NewOk door d) : ItemOk door d := by
  rcases h with h | h | h
  · exact .inl h
  · exact .inr (.inr (.inl h))
  · exact .inr (.inr (.inr h))
theorem row_ok {door : Nat} {row : List D} {pg : Str} (h : VRow door row pg) : RowOk door row := by
  rcases h with ⟨rfl, ys, v, rfl, rfl⟩ | ⟨rfl, ss, v, rfl, rfl⟩ | ⟨rfl, es, v, rfl, rfl⟩ | ⟨rfl, ts, v, rfl, rfl⟩
  · refine ⟨fun d hd => ?_, List.pairwise_map.mpr (v.nd.imp fun hne => .inr (.inr fun e => hne (PyData.str.inj e))), .inr (by rw [List.length_map]; exact v.lo), by rw [List.length_map]; exact v.hi⟩
    obtain ⟨y, hy, rfl⟩ := List.mem_map.mp hd
    exact .inl ⟨by decide, y, v.ok y hy, rfl⟩
  · refine ⟨fun d hd => ?_, ?_, .inr (by rw [List.length_map]; exact v.lo), by rw [List.length_map]; exact v.hi⟩
    · obtain ⟨y, hy, rfl⟩ := List.mem_map.mp hd
      cases y with
      | none => exact .inr (.inl ⟨rfl, rfl⟩)
      | some z => exact .inl ⟨by decide, z, v.ok z hy, rfl⟩
    · refine List.pairwise_iff_getElem.mpr fun i j hi hj hij => ?_
      rw [List.length_map] at hi hj
      rw [List.getElem_map, List.getElem_map]
      cases h : ss[i] with
      | none => exact .inr (.inl rfl)
      | some z =>
        refine .inr (.inr fun e => ?_)
        have h2 : ss[j] = some z := by
          cases h3 : ss[j] with
          | none => rw [h3] at e; cases e
          | some y => rw [h3] at e; rw [PyData.str.inj e]
        have := v.nd i j z (by rw [List.getElem?_eq_getElem hi, h]) (by rw [List.getElem?_eq_getElem hj, h2])
        omega
  · refine ⟨fun d hd => ?_, List.pairwise_map.mpr (v.nd.imp fun hne => .inr (.inr fun e => hne ((edOf_edD _).symm.trans ((congrArg edOf e).trans (edOf_edD _))))), .inl rfl, by rw [List.length_map]; exact v.hi⟩
    obtain ⟨y, hy, rfl⟩ := List.mem_map.mp hd
    exact .inr (.inr (.inl ⟨rfl, y, v.ok y hy, rfl⟩))
  · refine ⟨fun d hd => ?_, List.pairwise_iff_getElem.mpr (fun _ _ _ _ _ => .inl rfl), .inr (by rw [List.length_map]; exact v.lo), by rw [List.length_map]; exact v.hi⟩
    obtain ⟨y, hy, rfl⟩ := List.mem_map.mp hd
    exact .inr (.inr (.inr ⟨rfl, y, v.ok y hy, rfl⟩))
def seenOf : D → Option Str
  | .str z => some z
  | _ => none
def turnOf : D → List Nat
  | .list xs => xs.map fun d => match d with | .int i => i.toNat | _ => 0
  | _ => []
theorem turnOf_turnD (t : List Nat) : turnOf (turnD t) = t := by
  show (t.map fun x => PyData.int (x : Nat)).map _ = t
  rw [List.map_map]
  exact List.map_id' t
theorem as_map {α : Type} {f : α → D} {g : D → α} {row : List D} (h : ∀ d ∈ row, f (g d) = d) : row = (row.map g).map f := by
  rw [List.map_map]
  exact (List.map_id' row).symm.trans (List.map_congr_left fun d hd => (h d hd).symm)
theorem row_of {door : Nat} (hd : door ≤ 3) {row : List D} (h : RowOk door row) : ∃ pg, VRow door row pg := by
  obtain ⟨it, pw, lo, hi⟩ := h
  match door, hd with
  | 0, _ =>
    have e : row = (row.map strOf).map .str := as_map fun d hd => by
      rcases it d hd with ⟨_, z, _, rfl⟩ | ⟨h, _⟩ | ⟨h, _⟩ | ⟨h, _⟩
      · rfl
      all_goals cases h
    refine ⟨_, .inl ⟨rfl, row.map strOf, ⟨fun y hy => ?_, ?_, ?_, by rw [List.length_map]; exact hi⟩, e, rfl⟩⟩
    · obtain ⟨d, hd, rfl⟩ := List.mem_map.mp hy
      rcases it d hd with ⟨_, z, hz, rfl⟩ | ⟨h, _⟩ | ⟨h, _⟩ | ⟨h, _⟩
      · exact hz
      all_goals cases h
    · rw [e] at pw
      exact (List.pairwise_map.mp pw).imp fun h e => by
        rcases h with h | h | h
        · cases h
        · cases h
        · exact h (by rw [e])
    · rw [List.length_map]
      rcases lo with h | h
      · cases h
      · exact h
  | 1, _ =>
    have e : row = (row.map seenOf).map seenD := as_map fun d hd => by
      rcases it d hd with ⟨_, z, _, rfl⟩ | ⟨_, rfl⟩ | ⟨h, _⟩ | ⟨h, _⟩
      · rfl
      · rfl
      all_goals cases h
    refine ⟨_, .inr (.inl ⟨rfl, row.map seenOf, ⟨fun y hy => ?_, fun i j y h1 h2 => ?_, ?_, by rw [List.length_map]; exact hi⟩, e, rfl⟩)⟩
    · obtain ⟨d, hd, e⟩ := List.mem_map.mp hy
      rcases it d hd with ⟨_, z, hz, rfl⟩ | ⟨_, rfl⟩ | ⟨h, _⟩ | ⟨h, _⟩
      · cases e; exact hz
      · cases e
      all_goals cases h
    · rw [List.getElem?_map] at h1 h2
      have key : ∀ k : Nat, (row[k]?).map seenOf = some (some y) → ∃ hk : k < row.length, row[k] = .str y := by
        intro k hk
        cases h : row[k]? with
        | none => rw [h] at hk; cases hk
        | some d =>
          rw [h] at hk
          obtain ⟨hk1, hk2⟩ := List.getElem?_eq_some_iff.mp h
          refine ⟨hk1, ?_⟩
          rw [hk2]
          cases d with
          | str z => cases hk; rfl
          | _ => cases hk
      obtain ⟨hi1, ei⟩ := key i h1
      obtain ⟨hj1, ej⟩ := key j h2
      have pg := List.pairwise_iff_getElem.mp pw
      have no : ∀ a b : Nat, ∀ (ha : a < row.length) (hb : b < row.length), row[a] = .str y → row[b] = .str y → ¬ a < b := fun a b ha hb e1 e2 lt => by
        rcases pg a b ha hb lt with h | h | h
        · cases h
        · rw [e1] at h; cases h
        · exact h (by rw [e1, e2])
      have n1 := no i j hi1 hj1 ei ej
      have n2 := no j i hj1 hi1 ej ei
      omega
    · rw [List.length_map]
      rcases lo with h | h
      · cases h
      · exact h
  | 2, _ =>
    have e : row = (row.map edOf).map edD := as_map fun d hd => by
      rcases it d hd with ⟨h, _⟩ | ⟨h, _⟩ | ⟨_, z, _, rfl⟩ | ⟨h, _⟩
      · exact absurd h (by decide)
      · cases h
      · rw [edOf_edD]
      · cases h
    refine ⟨_, .inr (.inr (.inl ⟨rfl, row.map edOf, ⟨fun y hy => ?_, ?_, by rw [List.length_map]; exact hi⟩, e, rfl⟩))⟩
    · obtain ⟨d, hd, rfl⟩ := List.mem_map.mp hy
      rcases it d hd with ⟨h, _⟩ | ⟨h, _⟩ | ⟨_, z, hz, rfl⟩ | ⟨h, _⟩
      · exact absurd h (by decide)
      · cases h
      · rw [edOf_edD]; exact hz
      · cases h
    · rw [e] at pw
      exact (List.pairwise_map.mp pw).imp fun h e => by
        rcases h with h | h | h
        · cases h
        · cases h
        · exact h (by rw [e])
  | 3, _ =>
    have e : row = (row.map turnOf).map turnD := as_map fun d hd => by
      rcases it d hd with ⟨h, _⟩ | ⟨h, _⟩ | ⟨h, _⟩ | ⟨_, z, _, rfl⟩
      · exact absurd h (by decide)
      · cases h
      · cases h
      · rw [turnOf_turnD]
    refine ⟨_, .inr (.inr (.inr ⟨rfl, row.map turnOf, ⟨fun y hy => ?_, ?_, by rw [List.length_map]; exact hi⟩, e, rfl⟩))⟩
    · obtain ⟨d, hd, rfl⟩ := List.mem_map.mp hy
      rcases it d hd with ⟨h, _⟩ | ⟨h, _⟩ | ⟨h, _⟩ | ⟨_, z, hz, rfl⟩
      · exact absurd h (by decide)
      · cases h
      · cases h
      · rw [turnOf_turnD]; exact hz
    · rw [List.length_map]
      rcases lo with h | h
      · cases h
      · exact h
/-! ### what a change leaves -/
theorem row_perm {door : Nat} {row row' : List D} (h : RowOk door row) (p : row'.Perm row) : RowOk door row' :=
  ⟨fun d hd => h.it d (p.mem_iff.mp hd), (p.pairwise_iff RR.symm).mpr h.pw, by rw [p.length_eq]; exact h.lo, by rw [p.length_eq]; exact h.hi⟩
theorem row_cons {door : Nat} {row : List D} {d : D} (h : RowOk door row) (hd : ItemOk door d) (hn : ∀ x ∈ row, RR door d x) (hl : row.length < mostOf door) : RowOk door (d :: row) :=
  ⟨fun x hx => by rcases List.mem_cons.mp hx with rfl | hx; exact hd; exact h.it x hx, List.pairwise_cons.mpr ⟨hn, h.pw⟩, .inr (by simp), by rw [List.length_cons]; exact hl⟩
theorem row_ins {door k : Nat} {row : List D} {d : D} (h : RowOk door row) (hd : ItemOk door d) (hn : ∀ x ∈ row, RR door d x) (hl : row.length < mostOf door) : RowOk door (row.take k ++ [d] ++ row.drop k) :=
  row_perm (row_cons h hd hn hl) (by
    rw [List.append_assoc]
    refine List.perm_middle.trans ?_
    show (d :: (row.take k ++ row.drop k)).Perm _
    rw [List.take_append_drop])
theorem row_del {door k : Nat} {row : List D} (h : RowOk door row) (hl : 1 < row.length) (hk : k < row.length) : RowOk door (row.eraseIdx k) :=
  ⟨fun d hd => h.it d ((List.eraseIdx_sublist _ _).subset hd), h.pw.sublist (List.eraseIdx_sublist _ _), .inr (by rw [List.length_eraseIdx_of_lt hk]; omega), by rw [List.length_eraseIdx_of_lt hk]; have := h.hi; omega⟩
theorem set_perm {row : List D} {k : Nat} {d : D} (hk : k < row.length) : (row.set k d).Perm (d :: row.eraseIdx k) := by
  rw [List.set_eq_take_append_cons_drop, if_pos hk, List.eraseIdx_eq_take_drop_succ]
  exact List.perm_middle
theorem row_set {door k : Nat} {row : List D} {d : D} (h : RowOk door row) (hd : ItemOk door d) (hn : ∀ x ∈ row, RR door d x) (hk : k < row.length) : RowOk door (row.set k d) := by
  refine ⟨fun x hx => ?_, ?_, by rw [List.length_set]; exact h.lo, by rw [List.length_set]; exact h.hi⟩
  · rcases List.mem_cons.mp ((set_perm hk).mem_iff.mp hx) with rfl | hx
    · exact hd
    · exact h.it x ((List.eraseIdx_sublist _ _).subset hx)
  · refine ((set_perm hk).pairwise_iff RR.symm).mpr (List.pairwise_cons.mpr ⟨fun x hx => hn x ((List.eraseIdx_sublist _ _).subset hx), h.pw.sublist (List.eraseIdx_sublist _ _)⟩)
theorem row_swap {door i j : Nat} {row : List D} (h : RowOk door row) (hi : i < row.length) (hj : j < row.length) : RowOk door ((row.set i row[j]).set j row[i]) :=
  row_perm h (List.set_set_perm hi hj)
theorem item_plain {door : Nat} {d : D} (h : ItemOk door d) : d.plain = true := by
  rcases h with ⟨_, z, _, rfl⟩ | ⟨_, rfl⟩ | ⟨_, e, _, rfl⟩ | ⟨_, t, _, rfl⟩
  · rfl
  · rfl
  · rfl
  · unfold turnD
    rw [PyData.plain]
    induction t with
    | nil => rfl
    | cons x t ih => rw [List.map_cons, PyData.plainAll, ih ⟨fun y hy => by rename_i v; exact v.ok y (by simp [hy]), by rename_i v; exact (List.nodup_cons.mp v.nd).2, by rename_i v; have := v.hi; rw [List.length_cons] at this; omega⟩]; rfl
theorem not_in {door : Nat} {row : List D} {d : D} (hd : ItemOk door d) (h : (row.any fun z => PyData.eqv z d) = false) : ∀ x ∈ row, RR door d x := fun x hx => .inr (.inr fun e => by
  subst e
  have := List.any_eq_false.mp h d hx
  rw [eqv_refl (item_plain hd)] at this
  exact this rfl)
theorem item_depth {door : Nat} {d : D} (h : ItemOk door d) : d.depth ≤ 1 := by
  rcases h with ⟨_, z, _, rfl⟩ | ⟨_, rfl⟩ | ⟨_, e, _, rfl⟩ | ⟨_, t, _, rfl⟩
  · rw [PyData.depth]; decide
  · rw [PyData.depth]; decide
  · rw [ed_depth]; decide
  · unfold turnD
    rw [PyData.depth]
    have : ∀ t : List Nat, PyData.depthAll (t.map fun x => PyData.int (x : Nat)) = 0 := by
      intro t
      induction t with
      | nil => rw [List.map_nil, PyData.depthAll]
      | cons x t ih => rw [List.map_cons, PyData.depthAll, ih, PyData.depth]; rfl
    rw [this]
    decide
theorem row_depth {door : Nat} {row : List D} (h : ∀ d ∈ row, ItemOk door d) : PyData.depthAll row ≤ 1 := by
  induction row with
  | nil => rw [PyData.depthAll]; decide
  | cons x t ih =>
    rw [PyData.depthAll]
    exact Nat.max_le.mpr ⟨item_depth (h x (by simp)), ih fun d hd => h d (by simp [hd])⟩
theorem row_plain {door : Nat} {row : List D} (h : ∀ d ∈ row, ItemOk door d) : (PyData.list row).plain = true := by
  rw [PyData.plain]
  induction row with
  | nil => rfl
  | cons x t ih =>
    rw [PyData.plainAll, item_plain (h x (by simp)), ih fun d hd => h d (by simp [hd])]
    rfl
end K95

namespace K95
open PySem PySem.Spec PyProof.Rows L2 PD
theorem ln__law_page : ∀ as W, post__law_page as W → as.length = 2 := ln_F fun ds d ⟨_, _, _, _, e1, _⟩ => by rw [e1]; rfl
theorem pu__law_page : ∀ as W, post__law_page as W → b__law_page { nx := exitW as W (.fz .none), rt := exitW as W } (as ++ List.replicate (7 - as.length) .no) := pu_F fun ds d ⟨door, xs, pg, v, e1, e2⟩ E hE => by
  subst e1 e2
  show b__law_page E [.fz _, .fz _, .no, .no, .no, .no, .no]
  rcases v with ⟨rfl, ys, v, rfl, rfl⟩ | ⟨rfl, ss, v, rfl, rfl⟩ | ⟨rfl, es, v, rfl, rfl⟩ | ⟨rfl, ts, v, rfl, rfl⟩
  · dsimp only [dSeq, dIfS, dSet, dSetO, dRet, dRetO, dRetN, dDrop, dNext, dNever, dBrk, dCnt, dVar, dVarO, dC, dOp, dOpO, dBl, onB, dTru, truD, dAnd, dOr, dNot, dAndV, dOrV, dNotV, dIf, dIfO, dFr, frO, dNilA, dConsA, dTup, dLst, dgN, dgNil, dgCons, dgTup, dAsg, dPar, dAug, dFor, dForP, dLc, dLcP, dItL, dItT, dItS, onL, dRng1, dRng2, on1, on2, onI, onS, onT, onQ, dEnum, dZip, dRev, wAdd, wI, wSub, wMul, wMod, wDiv, wPow, dUn, wNeg, wEq, wNe, wCmpI, wLt, wLe, wGt, wGe, wIs, wIsNot, wIsN, wIn, wNotIn, dChain, wIx, dIxP, dPeek, dNoPart, dPart, dSlL, dSlS, dCl, dClO, wLen, dLenP, wAbs, wMax2, wMin2, wInt, wStr, wAll, wAny, wSum, wListO, wTuple, wRepr, dSm, dSmO, wJoin, wSplit, wPart, wFmt, dFmt, dJs, dJoined, dIsI, dIsI2, isT, isTg, tgD, dMut, dMl, wAppend, wPop, wPopAt, wReverse, wClear, wCat, wRepS, wExtend, wInsert, dgSub, dAugS, onSc, dLenS, dIxS, dSlSc, dLenSet, dBor, dBorT, dBorO, dListP, borE, isFlat, dCall, dCallO, dCallT, callQT, dNilB, dConsB, dRefB, dScB, dTmp, dTmpC, dTmpV, toFz, toOw, wipeE, backE, putR, dSetR, dRetR, dCallR, dIfR, List.map, List.map_cons, List.map_nil, List.set_cons_zero, List.set_cons_succ, List.getElem?_cons_succ, List.getElem?_cons_zero, List.getElem?_nil, List.cons_append, List.nil_append, List.length_cons, List.length_nil, List.replicate, List.getD_cons_zero, List.getD_cons_succ, b__law_page]
    exact ⟨dp_i, iteT' (by rw [eqv_int]; rfl) ⟨ys, rfl, Nat.le_trans (jl (L := 8) (n := 40) len_BL (fun y hy => (v.ok y hy).hi) v.hi) (by decide), hE _⟩⟩
  · dsimp only [dSeq, dIfS, dSet, dSetO, dRet, dRetO, dRetN, dDrop, dNext, dNever, dBrk, dCnt, dVar, dVarO, dC, dOp, dOpO, dBl, onB, dTru, truD, dAnd, dOr, dNot, dAndV, dOrV, dNotV, dIf, dIfO, dFr, frO, dNilA, dConsA, dTup, dLst, dgN, dgNil, dgCons, dgTup, dAsg, dPar, dAug, dFor, dForP, dLc, dLcP, dItL, dItT, dItS, onL, dRng1, dRng2, on1, on2, onI, onS, onT, onQ, dEnum, dZip, dRev, wAdd, wI, wSub, wMul, wMod, wDiv, wPow, dUn, wNeg, wEq, wNe, wCmpI, wLt, wLe, wGt, wGe, wIs, wIsNot, wIsN, wIn, wNotIn, dChain, wIx, dIxP, dPeek, dNoPart, dPart, dSlL, dSlS, dCl, dClO, wLen, dLenP, wAbs, wMax2, wMin2, wInt, wStr, wAll, wAny, wSum, wListO, wTuple, wRepr, dSm, dSmO, wJoin, wSplit, wPart, wFmt, dFmt, dJs, dJoined, dIsI, dIsI2, isT, isTg, tgD, dMut, dMl, wAppend, wPop, wPopAt, wReverse, wClear, wCat, wRepS, wExtend, wInsert, dgSub, dAugS, onSc, dLenS, dIxS, dSlSc, dLenSet, dBor, dBorT, dBorO, dListP, borE, isFlat, dCall, dCallO, dCallT, callQT, dNilB, dConsB, dRefB, dScB, dTmp, dTmpC, dTmpV, toFz, toOw, wipeE, backE, putR, dSetR, dRetR, dCallR, dIfR, List.map, List.map_cons, List.map_nil, List.set_cons_zero, List.set_cons_succ, List.getElem?_cons_succ, List.getElem?_cons_zero, List.getElem?_nil, List.cons_append, List.nil_append, List.length_cons, List.length_nil, List.replicate, List.getD_cons_zero, List.getD_cons_succ, b__law_page, b__law_page_1, b__law_page_2, b__law_page_3]
    refine ⟨dp_i, iteF' (by rw [eqv_int]; rfl) ⟨dp_i, iteT' (by rw [eqv_int]; rfl) ?_⟩⟩
    refine lc_mapx (fun o => .str (seenT o)) (no1 fun _ _ h => nomatch h) (size_ok (by have := v.hi; omega)) (fun i o N ho hN => ?_) ?_
    · cases o with
      | none => exact hN _ rfl
      | some z => exact hN _ rfl
    · dsimp only [dSeq, dIfS, dSet, dSetO, dRet, dRetO, dRetN, dDrop, dNext, dNever, dBrk, dCnt, dVar, dVarO, dC, dOp, dOpO, dBl, onB, dTru, truD, dAnd, dOr, dNot, dAndV, dOrV, dNotV, dIf, dIfO, dFr, frO, dNilA, dConsA, dTup, dLst, dgN, dgNil, dgCons, dgTup, dAsg, dPar, dAug, dFor, dForP, dLc, dLcP, dItL, dItT, dItS, onL, dRng1, dRng2, on1, on2, onI, onS, onT, onQ, dEnum, dZip, dRev, wAdd, wI, wSub, wMul, wMod, wDiv, wPow, dUn, wNeg, wEq, wNe, wCmpI, wLt, wLe, wGt, wGe, wIs, wIsNot, wIsN, wIn, wNotIn, dChain, wIx, dIxP, dPeek, dNoPart, dPart, dSlL, dSlS, dCl, dClO, wLen, dLenP, wAbs, wMax2, wMin2, wInt, wStr, wAll, wAny, wSum, wListO, wTuple, wRepr, dSm, dSmO, wJoin, wSplit, wPart, wFmt, dFmt, dJs, dJoined, dIsI, dIsI2, isT, isTg, tgD, dMut, dMl, wAppend, wPop, wPopAt, wReverse, wClear, wCat, wRepS, wExtend, wInsert, dgSub, dAugS, onSc, dLenS, dIxS, dSlSc, dLenSet, dBor, dBorT, dBorO, dListP, borE, isFlat, dCall, dCallO, dCallT, callQT, dNilB, dConsB, dRefB, dScB, dTmp, dTmpC, dTmpV, toFz, toOw, wipeE, backE, putR, dSetR, dRetR, dCallR, dIfR, List.map, List.map_cons, List.map_nil, List.set_cons_zero, List.set_cons_succ, List.getElem?_cons_succ, List.getElem?_cons_zero, List.getElem?_nil, List.cons_append, List.nil_append, List.length_cons, List.length_nil, List.replicate, List.getD_cons_zero, List.getD_cons_succ]
      exact ⟨ss.map seenT, by rw [List.map_map]; rfl, Nat.le_trans (jl (L := 8) (n := 40) len_BL (seenT_len v) (by rw [List.length_map]; exact v.hi)) (by decide), hE _⟩
  · dsimp only [dSeq, dIfS, dSet, dSetO, dRet, dRetO, dRetN, dDrop, dNext, dNever, dBrk, dCnt, dVar, dVarO, dC, dOp, dOpO, dBl, onB, dTru, truD, dAnd, dOr, dNot, dAndV, dOrV, dNotV, dIf, dIfO, dFr, frO, dNilA, dConsA, dTup, dLst, dgN, dgNil, dgCons, dgTup, dAsg, dPar, dAug, dFor, dForP, dLc, dLcP, dItL, dItT, dItS, onL, dRng1, dRng2, on1, on2, onI, onS, onT, onQ, dEnum, dZip, dRev, wAdd, wI, wSub, wMul, wMod, wDiv, wPow, dUn, wNeg, wEq, wNe, wCmpI, wLt, wLe, wGt, wGe, wIs, wIsNot, wIsN, wIn, wNotIn, dChain, wIx, dIxP, dPeek, dNoPart, dPart, dSlL, dSlS, dCl, dClO, wLen, dLenP, wAbs, wMax2, wMin2, wInt, wStr, wAll, wAny, wSum, wListO, wTuple, wRepr, dSm, dSmO, wJoin, wSplit, wPart, wFmt, dFmt, dJs, dJoined, dIsI, dIsI2, isT, isTg, tgD, dMut, dMl, wAppend, wPop, wPopAt, wReverse, wClear, wCat, wRepS, wExtend, wInsert, dgSub, dAugS, onSc, dLenS, dIxS, dSlSc, dLenSet, dBor, dBorT, dBorO, dListP, borE, isFlat, dCall, dCallO, dCallT, callQT, dNilB, dConsB, dRefB, dScB, dTmp, dTmpC, dTmpV, toFz, toOw, wipeE, backE, putR, dSetR, dRetR, dCallR, dIfR, List.map, List.map_cons, List.map_nil, List.set_cons_zero, List.set_cons_succ, List.getElem?_cons_succ, List.getElem?_cons_zero, List.getElem?_nil, List.cons_append, List.nil_append, List.length_cons, List.length_nil, List.replicate, List.getD_cons_zero, List.getD_cons_succ, b__law_page, b__law_page_1, b__law_page_2, b__law_page_3]
    refine ⟨dp_i, iteF' (by rw [eqv_int]; rfl) ⟨dp_i, iteF' (by rw [eqv_int]; rfl) ⟨dp_i, iteT' (by rw [eqv_int]; rfl) ?_⟩⟩⟩
    refine iteB (fun h => ?_) fun h => ?_
    · have h' := of_decide_eq_true h
      rw [List.length_map] at h'
      have hne : es.isEmpty = false := by
        cases es with
        | nil => simp at h'
        | cons _ _ => rfl
      rw [edgesT_cons hne] at hE
      refine lc_mapx (fun e => .str (edT e)) (no2 (fun _ _ h => nomatch h) (fun _ _ h => nomatch h)) (size_ok (by have := v.hi; omega)) (fun i e N he hN => ?_) ?_
      · have ok := v.ok e (List.mem_of_getElem? he)
        have h1 := ok.1
        have h2 := ok.2
        have l1 := num_len (n := e.1) (by omega)
        have l2 := num_len (n := e.2) (by omega)
        have l3 : (num e.1 ++ DS').length ≤ 3 := by rw [app_len, len_DS]; omega
        unfold edD
        dsimp only [dSeq, dIfS, dSet, dSetO, dRet, dRetO, dRetN, dDrop, dNext, dNever, dBrk, dCnt, dVar, dVarO, dC, dOp, dOpO, dBl, onB, dTru, truD, dAnd, dOr, dNot, dAndV, dOrV, dNotV, dIf, dIfO, dFr, frO, dNilA, dConsA, dTup, dLst, dgN, dgNil, dgCons, dgTup, dAsg, dPar, dAug, dFor, dForP, dLc, dLcP, dItL, dItT, dItS, onL, dRng1, dRng2, on1, on2, onI, onS, onT, onQ, dEnum, dZip, dRev, wAdd, wI, wSub, wMul, wMod, wDiv, wPow, dUn, wNeg, wEq, wNe, wCmpI, wLt, wLe, wGt, wGe, wIs, wIsNot, wIsN, wIn, wNotIn, dChain, wIx, dIxP, dPeek, dNoPart, dPart, dSlL, dSlS, dCl, dClO, wLen, dLenP, wAbs, wMax2, wMin2, wInt, wStr, wAll, wAny, wSum, wListO, wTuple, wRepr, dSm, dSmO, wJoin, wSplit, wPart, wFmt, dFmt, dJs, dJoined, dIsI, dIsI2, isT, isTg, tgD, dMut, dMl, wAppend, wPop, wPopAt, wReverse, wClear, wCat, wRepS, wExtend, wInsert, dgSub, dAugS, onSc, dLenS, dIxS, dSlSc, dLenSet, dBor, dBorT, dBorO, dListP, borE, isFlat, dCall, dCallO, dCallT, callQT, dNilB, dConsB, dRefB, dScB, dTmp, dTmpC, dTmpV, toFz, toOw, wipeE, backE, putR, dSetR, dRetR, dCallR, dIfR, List.map, List.map_cons, List.map_nil, List.set_cons_zero, List.set_cons_succ, List.getElem?_cons_succ, List.getElem?_cons_zero, List.getElem?_nil, List.cons_append, List.nil_append, List.length_cons, List.length_nil, List.replicate, List.getD_cons_zero, List.getD_cons_succ]
        exact ⟨rfl, rfl, small (by omega), size_ok (by rw [len_DS]; show (num e.1).length + 1 ≤ _; omega), small (by omega), size_ok (by show (num e.1 ++ DS').length + (num e.2).length ≤ _; omega), hN _ rfl⟩
      · dsimp only [dSeq, dIfS, dSet, dSetO, dRet, dRetO, dRetN, dDrop, dNext, dNever, dBrk, dCnt, dVar, dVarO, dC, dOp, dOpO, dBl, onB, dTru, truD, dAnd, dOr, dNot, dAndV, dOrV, dNotV, dIf, dIfO, dFr, frO, dNilA, dConsA, dTup, dLst, dgN, dgNil, dgCons, dgTup, dAsg, dPar, dAug, dFor, dForP, dLc, dLcP, dItL, dItT, dItS, onL, dRng1, dRng2, on1, on2, onI, onS, onT, onQ, dEnum, dZip, dRev, wAdd, wI, wSub, wMul, wMod, wDiv, wPow, dUn, wNeg, wEq, wNe, wCmpI, wLt, wLe, wGt, wGe, wIs, wIsNot, wIsN, wIn, wNotIn, dChain, wIx, dIxP, dPeek, dNoPart, dPart, dSlL, dSlS, dCl, dClO, wLen, dLenP, wAbs, wMax2, wMin2, wInt, wStr, wAll, wAny, wSum, wListO, wTuple, wRepr, dSm, dSmO, wJoin, wSplit, wPart, wFmt, dFmt, dJs, dJoined, dIsI, dIsI2, isT, isTg, tgD, dMut, dMl, wAppend, wPop, wPopAt, wReverse, wClear, wCat, wRepS, wExtend, wInsert, dgSub, dAugS, onSc, dLenS, dIxS, dSlSc, dLenSet, dBor, dBorT, dBorO, dListP, borE, isFlat, dCall, dCallO, dCallT, callQT, dNilB, dConsB, dRefB, dScB, dTmp, dTmpC, dTmpV, toFz, toOw, wipeE, backE, putR, dSetR, dRetR, dCallR, dIfR, List.map, List.map_cons, List.map_nil, List.set_cons_zero, List.set_cons_succ, List.getElem?_cons_succ, List.getElem?_cons_zero, List.getElem?_nil, List.cons_append, List.nil_append, List.length_cons, List.length_nil, List.replicate, List.getD_cons_zero, List.getD_cons_succ]
        exact ⟨es.map edT, by rw [List.map_map]; rfl, Nat.le_trans (jl (L := 5) (n := 100) len_BL (edT_all v) (by rw [List.length_map]; exact v.hi)) (by decide), hE _⟩
    · have h' := of_decide_eq_false h
      rw [List.length_map] at h'
      have hne : es.isEmpty = true := by
        cases es with
        | nil => rfl
        | cons _ _ => simp at h'
      rw [edgesT_nil hne] at hE
      exact hE _
  · dsimp only [dSeq, dIfS, dSet, dSetO, dRet, dRetO, dRetN, dDrop, dNext, dNever, dBrk, dCnt, dVar, dVarO, dC, dOp, dOpO, dBl, onB, dTru, truD, dAnd, dOr, dNot, dAndV, dOrV, dNotV, dIf, dIfO, dFr, frO, dNilA, dConsA, dTup, dLst, dgN, dgNil, dgCons, dgTup, dAsg, dPar, dAug, dFor, dForP, dLc, dLcP, dItL, dItT, dItS, onL, dRng1, dRng2, on1, on2, onI, onS, onT, onQ, dEnum, dZip, dRev, wAdd, wI, wSub, wMul, wMod, wDiv, wPow, dUn, wNeg, wEq, wNe, wCmpI, wLt, wLe, wGt, wGe, wIs, wIsNot, wIsN, wIn, wNotIn, dChain, wIx, dIxP, dPeek, dNoPart, dPart, dSlL, dSlS, dCl, dClO, wLen, dLenP, wAbs, wMax2, wMin2, wInt, wStr, wAll, wAny, wSum, wListO, wTuple, wRepr, dSm, dSmO, wJoin, wSplit, wPart, wFmt, dFmt, dJs, dJoined, dIsI, dIsI2, isT, isTg, tgD, dMut, dMl, wAppend, wPop, wPopAt, wReverse, wClear, wCat, wRepS, wExtend, wInsert, dgSub, dAugS, onSc, dLenS, dIxS, dSlSc, dLenSet, dBor, dBorT, dBorO, dListP, borE, isFlat, dCall, dCallO, dCallT, callQT, dNilB, dConsB, dRefB, dScB, dTmp, dTmpC, dTmpV, toFz, toOw, wipeE, backE, putR, dSetR, dRetR, dCallR, dIfR, List.map, List.map_cons, List.map_nil, List.set_cons_zero, List.set_cons_succ, List.getElem?_cons_succ, List.getElem?_cons_zero, List.getElem?_nil, List.cons_append, List.nil_append, List.length_cons, List.length_nil, List.replicate, List.getD_cons_zero, List.getD_cons_succ, b__law_page, b__law_page_1, b__law_page_2, b__law_page_3]
    refine ⟨dp_i, iteF' (by rw [eqv_int]; rfl) ⟨dp_i, iteF' (by rw [eqv_int]; rfl) ⟨dp_i, iteF' (by rw [eqv_int]; rfl) ?_⟩⟩⟩
    refine lc_mapx (fun t => .str (turnT t)) (no1 fun _ _ h => nomatch h) (size_ok (by have := v.hi; omega)) (fun i t N ht hN => ?_) ?_
    · have vt := v.ok t (List.mem_of_getElem? ht)
      have et : turnD t = .list (t.map fun x => .int (x : Nat)) := rfl
      rw [et]
      dsimp only [dSeq, dIfS, dSet, dSetO, dRet, dRetO, dRetN, dDrop, dNext, dNever, dBrk, dCnt, dVar, dVarO, dC, dOp, dOpO, dBl, onB, dTru, truD, dAnd, dOr, dNot, dAndV, dOrV, dNotV, dIf, dIfO, dFr, frO, dNilA, dConsA, dTup, dLst, dgN, dgNil, dgCons, dgTup, dAsg, dPar, dAug, dFor, dForP, dLc, dLcP, dItL, dItT, dItS, onL, dRng1, dRng2, on1, on2, onI, onS, onT, onQ, dEnum, dZip, dRev, wAdd, wI, wSub, wMul, wMod, wDiv, wPow, dUn, wNeg, wEq, wNe, wCmpI, wLt, wLe, wGt, wGe, wIs, wIsNot, wIsN, wIn, wNotIn, dChain, wIx, dIxP, dPeek, dNoPart, dPart, dSlL, dSlS, dCl, dClO, wLen, dLenP, wAbs, wMax2, wMin2, wInt, wStr, wAll, wAny, wSum, wListO, wTuple, wRepr, dSm, dSmO, wJoin, wSplit, wPart, wFmt, dFmt, dJs, dJoined, dIsI, dIsI2, isT, isTg, tgD, dMut, dMl, wAppend, wPop, wPopAt, wReverse, wClear, wCat, wRepS, wExtend, wInsert, dgSub, dAugS, onSc, dLenS, dIxS, dSlSc, dLenSet, dBor, dBorT, dBorO, dListP, borE, isFlat, dCall, dCallO, dCallT, callQT, dNilB, dConsB, dRefB, dScB, dTmp, dTmpC, dTmpV, toFz, toOw, wipeE, backE, putR, dSetR, dRetR, dCallR, dIfR, List.map, List.map_cons, List.map_nil, List.set_cons_zero, List.set_cons_succ, List.getElem?_cons_succ, List.getElem?_cons_zero, List.getElem?_nil, List.cons_append, List.nil_append, List.length_cons, List.length_nil, List.replicate, List.getD_cons_zero, List.getD_cons_succ]
      rw [List.length_map, eqv_int]
      cases h : t.isEmpty with
      | true =>
        rw [turnT_nil h] at hN
        rw [List.isEmpty_iff.mp h]
        exact ⟨dp_i, iteT' rfl (hN _ rfl)⟩
      | false =>
        rw [turnT_cons h] at hN
        have hl : t.length ≠ 0 := fun e => by
          rw [List.length_eq_zero_iff] at e
          rw [e] at h
          cases h
        refine ⟨dp_i, iteF' (decide_eq_false (by omega)) ?_⟩
        refine lc_mapx (fun n => .str (num n)) (no1 fun _ _ h => nomatch h) (size_ok (by have := vt.hi; omega)) (fun j n N hn hN => ?_) ?_
        · have := vt.ok n (List.mem_of_getElem? hn)
          dsimp only [dSeq, dIfS, dSet, dSetO, dRet, dRetO, dRetN, dDrop, dNext, dNever, dBrk, dCnt, dVar, dVarO, dC, dOp, dOpO, dBl, onB, dTru, truD, dAnd, dOr, dNot, dAndV, dOrV, dNotV, dIf, dIfO, dFr, frO, dNilA, dConsA, dTup, dLst, dgN, dgNil, dgCons, dgTup, dAsg, dPar, dAug, dFor, dForP, dLc, dLcP, dItL, dItT, dItS, onL, dRng1, dRng2, on1, on2, onI, onS, onT, onQ, dEnum, dZip, dRev, wAdd, wI, wSub, wMul, wMod, wDiv, wPow, dUn, wNeg, wEq, wNe, wCmpI, wLt, wLe, wGt, wGe, wIs, wIsNot, wIsN, wIn, wNotIn, dChain, wIx, dIxP, dPeek, dNoPart, dPart, dSlL, dSlS, dCl, dClO, wLen, dLenP, wAbs, wMax2, wMin2, wInt, wStr, wAll, wAny, wSum, wListO, wTuple, wRepr, dSm, dSmO, wJoin, wSplit, wPart, wFmt, dFmt, dJs, dJoined, dIsI, dIsI2, isT, isTg, tgD, dMut, dMl, wAppend, wPop, wPopAt, wReverse, wClear, wCat, wRepS, wExtend, wInsert, dgSub, dAugS, onSc, dLenS, dIxS, dSlSc, dLenSet, dBor, dBorT, dBorO, dListP, borE, isFlat, dCall, dCallO, dCallT, callQT, dNilB, dConsB, dRefB, dScB, dTmp, dTmpC, dTmpV, toFz, toOw, wipeE, backE, putR, dSetR, dRetR, dCallR, dIfR, List.map, List.map_cons, List.map_nil, List.set_cons_zero, List.set_cons_succ, List.getElem?_cons_succ, List.getElem?_cons_zero, List.getElem?_nil, List.cons_append, List.nil_append, List.length_cons, List.length_nil, List.replicate, List.getD_cons_zero, List.getD_cons_succ]
          exact ⟨small (by omega), hN _ rfl⟩
        · dsimp only [dSeq, dIfS, dSet, dSetO, dRet, dRetO, dRetN, dDrop, dNext, dNever, dBrk, dCnt, dVar, dVarO, dC, dOp, dOpO, dBl, onB, dTru, truD, dAnd, dOr, dNot, dAndV, dOrV, dNotV, dIf, dIfO, dFr, frO, dNilA, dConsA, dTup, dLst, dgN, dgNil, dgCons, dgTup, dAsg, dPar, dAug, dFor, dForP, dLc, dLcP, dItL, dItT, dItS, onL, dRng1, dRng2, on1, on2, onI, onS, onT, onQ, dEnum, dZip, dRev, wAdd, wI, wSub, wMul, wMod, wDiv, wPow, dUn, wNeg, wEq, wNe, wCmpI, wLt, wLe, wGt, wGe, wIs, wIsNot, wIsN, wIn, wNotIn, dChain, wIx, dIxP, dPeek, dNoPart, dPart, dSlL, dSlS, dCl, dClO, wLen, dLenP, wAbs, wMax2, wMin2, wInt, wStr, wAll, wAny, wSum, wListO, wTuple, wRepr, dSm, dSmO, wJoin, wSplit, wPart, wFmt, dFmt, dJs, dJoined, dIsI, dIsI2, isT, isTg, tgD, dMut, dMl, wAppend, wPop, wPopAt, wReverse, wClear, wCat, wRepS, wExtend, wInsert, dgSub, dAugS, onSc, dLenS, dIxS, dSlSc, dLenSet, dBor, dBorT, dBorO, dListP, borE, isFlat, dCall, dCallO, dCallT, callQT, dNilB, dConsB, dRefB, dScB, dTmp, dTmpC, dTmpV, toFz, toOw, wipeE, backE, putR, dSetR, dRetR, dCallR, dIfR, List.map, List.map_cons, List.map_nil, List.set_cons_zero, List.set_cons_succ, List.getElem?_cons_succ, List.getElem?_cons_zero, List.getElem?_nil, List.cons_append, List.nil_append, List.length_cons, List.length_nil, List.replicate, List.getD_cons_zero, List.getD_cons_succ]
          exact ⟨t.map num, by rw [List.map_map]; rfl, Nat.le_trans (jl (L := 2) (n := 40) len_BL (num_all vt) (by rw [List.length_map]; exact vt.hi)) (by decide), hN _ rfl⟩
    · dsimp only [dSeq, dIfS, dSet, dSetO, dRet, dRetO, dRetN, dDrop, dNext, dNever, dBrk, dCnt, dVar, dVarO, dC, dOp, dOpO, dBl, onB, dTru, truD, dAnd, dOr, dNot, dAndV, dOrV, dNotV, dIf, dIfO, dFr, frO, dNilA, dConsA, dTup, dLst, dgN, dgNil, dgCons, dgTup, dAsg, dPar, dAug, dFor, dForP, dLc, dLcP, dItL, dItT, dItS, onL, dRng1, dRng2, on1, on2, onI, onS, onT, onQ, dEnum, dZip, dRev, wAdd, wI, wSub, wMul, wMod, wDiv, wPow, dUn, wNeg, wEq, wNe, wCmpI, wLt, wLe, wGt, wGe, wIs, wIsNot, wIsN, wIn, wNotIn, dChain, wIx, dIxP, dPeek, dNoPart, dPart, dSlL, dSlS, dCl, dClO, wLen, dLenP, wAbs, wMax2, wMin2, wInt, wStr, wAll, wAny, wSum, wListO, wTuple, wRepr, dSm, dSmO, wJoin, wSplit, wPart, wFmt, dFmt, dJs, dJoined, dIsI, dIsI2, isT, isTg, tgD, dMut, dMl, wAppend, wPop, wPopAt, wReverse, wClear, wCat, wRepS, wExtend, wInsert, dgSub, dAugS, onSc, dLenS, dIxS, dSlSc, dLenSet, dBor, dBorT, dBorO, dListP, borE, isFlat, dCall, dCallO, dCallT, callQT, dNilB, dConsB, dRefB, dScB, dTmp, dTmpC, dTmpV, toFz, toOw, wipeE, backE, putR, dSetR, dRetR, dCallR, dIfR, List.map, List.map_cons, List.map_nil, List.set_cons_zero, List.set_cons_succ, List.getElem?_cons_succ, List.getElem?_cons_zero, List.getElem?_nil, List.cons_append, List.nil_append, List.length_cons, List.length_nil, List.replicate, List.getD_cons_zero, List.getD_cons_succ]
      exact ⟨ts.map turnT, by rw [List.map_map]; rfl, Nat.le_trans (jl (L := 120) (n := 40) len_NL (turnT_all v) (by rw [List.length_map]; exact v.hi)) (by decide), hE _⟩
theorem ln__law_written : ∀ as W, post__law_written as W → as.length = 2 := ln_F fun ds d ⟨_, _, _, _, e1, _⟩ => by rw [e1]; rfl
theorem pu__law_written : ∀ as W, post__law_written as W → b__law_written { nx := exitW as W (.fz .none), rt := exitW as W } (as ++ List.replicate (2 - as.length) .no) := pu_F fun ds d ⟨door, xs, pg, v, e1, e2⟩ E hE => by
  subst e1 e2
  show b__law_written E [.fz _, .fz _]
  rcases v with ⟨rfl, ys, v, rfl, rfl⟩ | ⟨rfl, ss, v, rfl, rfl⟩ | ⟨rfl, es, v, rfl, rfl⟩ | ⟨rfl, ts, v, rfl, rfl⟩
  · dsimp only [dSeq, dIfS, dSet, dSetO, dRet, dRetO, dRetN, dDrop, dNext, dNever, dBrk, dCnt, dVar, dVarO, dC, dOp, dOpO, dBl, onB, dTru, truD, dAnd, dOr, dNot, dAndV, dOrV, dNotV, dIf, dIfO, dFr, frO, dNilA, dConsA, dTup, dLst, dgN, dgNil, dgCons, dgTup, dAsg, dPar, dAug, dFor, dForP, dLc, dLcP, dItL, dItT, dItS, onL, dRng1, dRng2, on1, on2, onI, onS, onT, onQ, dEnum, dZip, dRev, wAdd, wI, wSub, wMul, wMod, wDiv, wPow, dUn, wNeg, wEq, wNe, wCmpI, wLt, wLe, wGt, wGe, wIs, wIsNot, wIsN, wIn, wNotIn, dChain, wIx, dIxP, dPeek, dNoPart, dPart, dSlL, dSlS, dCl, dClO, wLen, dLenP, wAbs, wMax2, wMin2, wInt, wStr, wAll, wAny, wSum, wListO, wTuple, wRepr, dSm, dSmO, wJoin, wSplit, wPart, wFmt, dFmt, dJs, dJoined, dIsI, dIsI2, isT, isTg, tgD, dMut, dMl, wAppend, wPop, wPopAt, wReverse, wClear, wCat, wRepS, wExtend, wInsert, dgSub, dAugS, onSc, dLenS, dIxS, dSlSc, dLenSet, dBor, dBorT, dBorO, dListP, borE, isFlat, dCall, dCallO, dCallT, callQT, dNilB, dConsB, dRefB, dScB, dTmp, dTmpC, dTmpV, toFz, toOw, wipeE, backE, putR, dSetR, dRetR, dCallR, dIfR, List.map, List.map_cons, List.map_nil, List.set_cons_zero, List.set_cons_succ, List.getElem?_cons_succ, List.getElem?_cons_zero, List.getElem?_nil, List.cons_append, List.nil_append, List.length_cons, List.length_nil, List.replicate, List.getD_cons_zero, List.getD_cons_succ, b__law_written, b__law_written_1]
    exact iteT' rfl ⟨dp_i, iteT' (by rw [eqv_int]; rfl) (callF rfl ⟨ys, v, rfl, rfl⟩ (hE _))⟩
  · dsimp only [dSeq, dIfS, dSet, dSetO, dRet, dRetO, dRetN, dDrop, dNext, dNever, dBrk, dCnt, dVar, dVarO, dC, dOp, dOpO, dBl, onB, dTru, truD, dAnd, dOr, dNot, dAndV, dOrV, dNotV, dIf, dIfO, dFr, frO, dNilA, dConsA, dTup, dLst, dgN, dgNil, dgCons, dgTup, dAsg, dPar, dAug, dFor, dForP, dLc, dLcP, dItL, dItT, dItS, onL, dRng1, dRng2, on1, on2, onI, onS, onT, onQ, dEnum, dZip, dRev, wAdd, wI, wSub, wMul, wMod, wDiv, wPow, dUn, wNeg, wEq, wNe, wCmpI, wLt, wLe, wGt, wGe, wIs, wIsNot, wIsN, wIn, wNotIn, dChain, wIx, dIxP, dPeek, dNoPart, dPart, dSlL, dSlS, dCl, dClO, wLen, dLenP, wAbs, wMax2, wMin2, wInt, wStr, wAll, wAny, wSum, wListO, wTuple, wRepr, dSm, dSmO, wJoin, wSplit, wPart, wFmt, dFmt, dJs, dJoined, dIsI, dIsI2, isT, isTg, tgD, dMut, dMl, wAppend, wPop, wPopAt, wReverse, wClear, wCat, wRepS, wExtend, wInsert, dgSub, dAugS, onSc, dLenS, dIxS, dSlSc, dLenSet, dBor, dBorT, dBorO, dListP, borE, isFlat, dCall, dCallO, dCallT, callQT, dNilB, dConsB, dRefB, dScB, dTmp, dTmpC, dTmpV, toFz, toOw, wipeE, backE, putR, dSetR, dRetR, dCallR, dIfR, List.map, List.map_cons, List.map_nil, List.set_cons_zero, List.set_cons_succ, List.getElem?_cons_succ, List.getElem?_cons_zero, List.getElem?_nil, List.cons_append, List.nil_append, List.length_cons, List.length_nil, List.replicate, List.getD_cons_zero, List.getD_cons_succ, b__law_written, b__law_written_1]
    exact iteT' rfl ⟨dp_i, iteF' (by rw [eqv_int]; rfl) (callF rfl ⟨ss, v, rfl, rfl⟩ (hE _))⟩
  · dsimp only [dSeq, dIfS, dSet, dSetO, dRet, dRetO, dRetN, dDrop, dNext, dNever, dBrk, dCnt, dVar, dVarO, dC, dOp, dOpO, dBl, onB, dTru, truD, dAnd, dOr, dNot, dAndV, dOrV, dNotV, dIf, dIfO, dFr, frO, dNilA, dConsA, dTup, dLst, dgN, dgNil, dgCons, dgTup, dAsg, dPar, dAug, dFor, dForP, dLc, dLcP, dItL, dItT, dItS, onL, dRng1, dRng2, on1, on2, onI, onS, onT, onQ, dEnum, dZip, dRev, wAdd, wI, wSub, wMul, wMod, wDiv, wPow, dUn, wNeg, wEq, wNe, wCmpI, wLt, wLe, wGt, wGe, wIs, wIsNot, wIsN, wIn, wNotIn, dChain, wIx, dIxP, dPeek, dNoPart, dPart, dSlL, dSlS, dCl, dClO, wLen, dLenP, wAbs, wMax2, wMin2, wInt, wStr, wAll, wAny, wSum, wListO, wTuple, wRepr, dSm, dSmO, wJoin, wSplit, wPart, wFmt, dFmt, dJs, dJoined, dIsI, dIsI2, isT, isTg, tgD, dMut, dMl, wAppend, wPop, wPopAt, wReverse, wClear, wCat, wRepS, wExtend, wInsert, dgSub, dAugS, onSc, dLenS, dIxS, dSlSc, dLenSet, dBor, dBorT, dBorO, dListP, borE, isFlat, dCall, dCallO, dCallT, callQT, dNilB, dConsB, dRefB, dScB, dTmp, dTmpC, dTmpV, toFz, toOw, wipeE, backE, putR, dSetR, dRetR, dCallR, dIfR, List.map, List.map_cons, List.map_nil, List.set_cons_zero, List.set_cons_succ, List.getElem?_cons_succ, List.getElem?_cons_zero, List.getElem?_nil, List.cons_append, List.nil_append, List.length_cons, List.length_nil, List.replicate, List.getD_cons_zero, List.getD_cons_succ, b__law_written, b__law_written_1]
    exact iteF' rfl ⟨dp_i, iteT' (by rw [eqv_int]; rfl) (callF rfl ⟨es, v, rfl, rfl⟩ (hE _))⟩
  · dsimp only [dSeq, dIfS, dSet, dSetO, dRet, dRetO, dRetN, dDrop, dNext, dNever, dBrk, dCnt, dVar, dVarO, dC, dOp, dOpO, dBl, onB, dTru, truD, dAnd, dOr, dNot, dAndV, dOrV, dNotV, dIf, dIfO, dFr, frO, dNilA, dConsA, dTup, dLst, dgN, dgNil, dgCons, dgTup, dAsg, dPar, dAug, dFor, dForP, dLc, dLcP, dItL, dItT, dItS, onL, dRng1, dRng2, on1, on2, onI, onS, onT, onQ, dEnum, dZip, dRev, wAdd, wI, wSub, wMul, wMod, wDiv, wPow, dUn, wNeg, wEq, wNe, wCmpI, wLt, wLe, wGt, wGe, wIs, wIsNot, wIsN, wIn, wNotIn, dChain, wIx, dIxP, dPeek, dNoPart, dPart, dSlL, dSlS, dCl, dClO, wLen, dLenP, wAbs, wMax2, wMin2, wInt, wStr, wAll, wAny, wSum, wListO, wTuple, wRepr, dSm, dSmO, wJoin, wSplit, wPart, wFmt, dFmt, dJs, dJoined, dIsI, dIsI2, isT, isTg, tgD, dMut, dMl, wAppend, wPop, wPopAt, wReverse, wClear, wCat, wRepS, wExtend, wInsert, dgSub, dAugS, onSc, dLenS, dIxS, dSlSc, dLenSet, dBor, dBorT, dBorO, dListP, borE, isFlat, dCall, dCallO, dCallT, callQT, dNilB, dConsB, dRefB, dScB, dTmp, dTmpC, dTmpV, toFz, toOw, wipeE, backE, putR, dSetR, dRetR, dCallR, dIfR, List.map, List.map_cons, List.map_nil, List.set_cons_zero, List.set_cons_succ, List.getElem?_cons_succ, List.getElem?_cons_zero, List.getElem?_nil, List.cons_append, List.nil_append, List.length_cons, List.length_nil, List.replicate, List.getD_cons_zero, List.getD_cons_succ, b__law_written, b__law_written_1]
    exact iteF' rfl ⟨dp_i, iteF' (by rw [eqv_int]; rfl) (callF rfl ⟨ts, v, rfl, rfl⟩ (hE _))⟩
theorem ln__law_read : ∀ as W, post__law_read as W → as.length = 2 := ln_F fun ds d ⟨_, _, _, _, e1, _⟩ => by rw [e1]; rfl
theorem pu__law_read : ∀ as W, post__law_read as W → b__law_read { nx := exitW as W (.fz .none), rt := exitW as W } (as ++ List.replicate (2 - as.length) .no) := pu_F fun ds d ⟨door, xs, pg, v, e1, e2⟩ E hE => by
  subst e1 e2
  show b__law_read E [.fz _, .fz _]
  rcases v with ⟨rfl, ys, v, rfl, rfl⟩ | ⟨rfl, ss, v, rfl, rfl⟩ | ⟨rfl, es, v, rfl, rfl⟩ | ⟨rfl, ts, v, rfl, rfl⟩
  · dsimp only [dSeq, dIfS, dSet, dSetO, dRet, dRetO, dRetN, dDrop, dNext, dNever, dBrk, dCnt, dVar, dVarO, dC, dOp, dOpO, dBl, onB, dTru, truD, dAnd, dOr, dNot, dAndV, dOrV, dNotV, dIf, dIfO, dFr, frO, dNilA, dConsA, dTup, dLst, dgN, dgNil, dgCons, dgTup, dAsg, dPar, dAug, dFor, dForP, dLc, dLcP, dItL, dItT, dItS, onL, dRng1, dRng2, on1, on2, onI, onS, onT, onQ, dEnum, dZip, dRev, wAdd, wI, wSub, wMul, wMod, wDiv, wPow, dUn, wNeg, wEq, wNe, wCmpI, wLt, wLe, wGt, wGe, wIs, wIsNot, wIsN, wIn, wNotIn, dChain, wIx, dIxP, dPeek, dNoPart, dPart, dSlL, dSlS, dCl, dClO, wLen, dLenP, wAbs, wMax2, wMin2, wInt, wStr, wAll, wAny, wSum, wListO, wTuple, wRepr, dSm, dSmO, wJoin, wSplit, wPart, wFmt, dFmt, dJs, dJoined, dIsI, dIsI2, isT, isTg, tgD, dMut, dMl, wAppend, wPop, wPopAt, wReverse, wClear, wCat, wRepS, wExtend, wInsert, dgSub, dAugS, onSc, dLenS, dIxS, dSlSc, dLenSet, dBor, dBorT, dBorO, dListP, borE, isFlat, dCall, dCallO, dCallT, callQT, dNilB, dConsB, dRefB, dScB, dTmp, dTmpC, dTmpV, toFz, toOw, wipeE, backE, putR, dSetR, dRetR, dCallR, dIfR, List.map, List.map_cons, List.map_nil, List.set_cons_zero, List.set_cons_succ, List.getElem?_cons_succ, List.getElem?_cons_zero, List.getElem?_nil, List.cons_append, List.nil_append, List.length_cons, List.length_nil, List.replicate, List.getD_cons_zero, List.getD_cons_succ, b__law_read, b__law_read_1]
    exact iteT' rfl ⟨dp_i, iteT' (by rw [eqv_int]; rfl) (callF rfl ⟨ys, v, rfl, rfl⟩ (hE _))⟩
  · dsimp only [dSeq, dIfS, dSet, dSetO, dRet, dRetO, dRetN, dDrop, dNext, dNever, dBrk, dCnt, dVar, dVarO, dC, dOp, dOpO, dBl, onB, dTru, truD, dAnd, dOr, dNot, dAndV, dOrV, dNotV, dIf, dIfO, dFr, frO, dNilA, dConsA, dTup, dLst, dgN, dgNil, dgCons, dgTup, dAsg, dPar, dAug, dFor, dForP, dLc, dLcP, dItL, dItT, dItS, onL, dRng1, dRng2, on1, on2, onI, onS, onT, onQ, dEnum, dZip, dRev, wAdd, wI, wSub, wMul, wMod, wDiv, wPow, dUn, wNeg, wEq, wNe, wCmpI, wLt, wLe, wGt, wGe, wIs, wIsNot, wIsN, wIn, wNotIn, dChain, wIx, dIxP, dPeek, dNoPart, dPart, dSlL, dSlS, dCl, dClO, wLen, dLenP, wAbs, wMax2, wMin2, wInt, wStr, wAll, wAny, wSum, wListO, wTuple, wRepr, dSm, dSmO, wJoin, wSplit, wPart, wFmt, dFmt, dJs, dJoined, dIsI, dIsI2, isT, isTg, tgD, dMut, dMl, wAppend, wPop, wPopAt, wReverse, wClear, wCat, wRepS, wExtend, wInsert, dgSub, dAugS, onSc, dLenS, dIxS, dSlSc, dLenSet, dBor, dBorT, dBorO, dListP, borE, isFlat, dCall, dCallO, dCallT, callQT, dNilB, dConsB, dRefB, dScB, dTmp, dTmpC, dTmpV, toFz, toOw, wipeE, backE, putR, dSetR, dRetR, dCallR, dIfR, List.map, List.map_cons, List.map_nil, List.set_cons_zero, List.set_cons_succ, List.getElem?_cons_succ, List.getElem?_cons_zero, List.getElem?_nil, List.cons_append, List.nil_append, List.length_cons, List.length_nil, List.replicate, List.getD_cons_zero, List.getD_cons_succ, b__law_read, b__law_read_1]
    exact iteT' rfl ⟨dp_i, iteF' (by rw [eqv_int]; rfl) (callF rfl ⟨ss, v, rfl, rfl⟩ (hE _))⟩
  · dsimp only [dSeq, dIfS, dSet, dSetO, dRet, dRetO, dRetN, dDrop, dNext, dNever, dBrk, dCnt, dVar, dVarO, dC, dOp, dOpO, dBl, onB, dTru, truD, dAnd, dOr, dNot, dAndV, dOrV, dNotV, dIf, dIfO, dFr, frO, dNilA, dConsA, dTup, dLst, dgN, dgNil, dgCons, dgTup, dAsg, dPar, dAug, dFor, dForP, dLc, dLcP, dItL, dItT, dItS, onL, dRng1, dRng2, on1, on2, onI, onS, onT, onQ, dEnum, dZip, dRev, wAdd, wI, wSub, wMul, wMod, wDiv, wPow, dUn, wNeg, wEq, wNe, wCmpI, wLt, wLe, wGt, wGe, wIs, wIsNot, wIsN, wIn, wNotIn, dChain, wIx, dIxP, dPeek, dNoPart, dPart, dSlL, dSlS, dCl, dClO, wLen, dLenP, wAbs, wMax2, wMin2, wInt, wStr, wAll, wAny, wSum, wListO, wTuple, wRepr, dSm, dSmO, wJoin, wSplit, wPart, wFmt, dFmt, dJs, dJoined, dIsI, dIsI2, isT, isTg, tgD, dMut, dMl, wAppend, wPop, wPopAt, wReverse, wClear, wCat, wRepS, wExtend, wInsert, dgSub, dAugS, onSc, dLenS, dIxS, dSlSc, dLenSet, dBor, dBorT, dBorO, dListP, borE, isFlat, dCall, dCallO, dCallT, callQT, dNilB, dConsB, dRefB, dScB, dTmp, dTmpC, dTmpV, toFz, toOw, wipeE, backE, putR, dSetR, dRetR, dCallR, dIfR, List.map, List.map_cons, List.map_nil, List.set_cons_zero, List.set_cons_succ, List.getElem?_cons_succ, List.getElem?_cons_zero, List.getElem?_nil, List.cons_append, List.nil_append, List.length_cons, List.length_nil, List.replicate, List.getD_cons_zero, List.getD_cons_succ, b__law_read, b__law_read_1]
    exact iteF' rfl ⟨dp_i, iteT' (by rw [eqv_int]; rfl) (callF rfl ⟨es, v, rfl, rfl⟩ (hE _))⟩
  · dsimp only [dSeq, dIfS, dSet, dSetO, dRet, dRetO, dRetN, dDrop, dNext, dNever, dBrk, dCnt, dVar, dVarO, dC, dOp, dOpO, dBl, onB, dTru, truD, dAnd, dOr, dNot, dAndV, dOrV, dNotV, dIf, dIfO, dFr, frO, dNilA, dConsA, dTup, dLst, dgN, dgNil, dgCons, dgTup, dAsg, dPar, dAug, dFor, dForP, dLc, dLcP, dItL, dItT, dItS, onL, dRng1, dRng2, on1, on2, onI, onS, onT, onQ, dEnum, dZip, dRev, wAdd, wI, wSub, wMul, wMod, wDiv, wPow, dUn, wNeg, wEq, wNe, wCmpI, wLt, wLe, wGt, wGe, wIs, wIsNot, wIsN, wIn, wNotIn, dChain, wIx, dIxP, dPeek, dNoPart, dPart, dSlL, dSlS, dCl, dClO, wLen, dLenP, wAbs, wMax2, wMin2, wInt, wStr, wAll, wAny, wSum, wListO, wTuple, wRepr, dSm, dSmO, wJoin, wSplit, wPart, wFmt, dFmt, dJs, dJoined, dIsI, dIsI2, isT, isTg, tgD, dMut, dMl, wAppend, wPop, wPopAt, wReverse, wClear, wCat, wRepS, wExtend, wInsert, dgSub, dAugS, onSc, dLenS, dIxS, dSlSc, dLenSet, dBor, dBorT, dBorO, dListP, borE, isFlat, dCall, dCallO, dCallT, callQT, dNilB, dConsB, dRefB, dScB, dTmp, dTmpC, dTmpV, toFz, toOw, wipeE, backE, putR, dSetR, dRetR, dCallR, dIfR, List.map, List.map_cons, List.map_nil, List.set_cons_zero, List.set_cons_succ, List.getElem?_cons_succ, List.getElem?_cons_zero, List.getElem?_nil, List.cons_append, List.nil_append, List.length_cons, List.length_nil, List.replicate, List.getD_cons_zero, List.getD_cons_succ, b__law_read, b__law_read_1]
    exact iteF' rfl ⟨dp_i, iteF' (by rw [eqv_int]; rfl) (callF rfl ⟨ts, v, rfl, rfl⟩ (hE _))⟩
theorem VTurn.sub {t u : List Nat} (v : VTurn t) (h : u.Sublist t) : VTurn u :=
  ⟨fun x hx => v.ok x (h.subset hx), v.nd.sublist h, Nat.le_trans h.length_le v.hi⟩
theorem turn40 : VTurn (List.range 40) := ⟨fun x hx => List.mem_range.mp hx, List.nodup_range, by rw [List.length_range]; decide⟩
theorem ln__law_new : ∀ as W, post__law_new as W → as.length = 2 := ln_S fun ds G ⟨m, _, e, _⟩ => by rw [e]; rfl
theorem pu__law_new : ∀ as W, post__law_new as W → b__law_new { nx := exitW as W (.fz .none), rt := exitW as W } (as ++ List.replicate (8 - as.length) .no) := pu_S fun ds G n xs p ⟨door, hd, e1, e2⟩ hv hn E hE => by
  subst e1 e2
  show b__law_new E [.ow _ _, .fz _, .no, .no, .no, .no, .no, .no]
  have hL : LET.length ≤ sizeLine := by decide +kernel
  dsimp only [dSeq, dIfS, dSet, dSetO, dRet, dRetO, dRetN, dDrop, dNext, dNever, dBrk, dCnt, dVar, dVarO, dC, dOp, dOpO, dBl, onB, dTru, truD, dAnd, dOr, dNot, dAndV, dOrV, dNotV, dIf, dIfO, dFr, frO, dNilA, dConsA, dTup, dLst, dgN, dgNil, dgCons, dgTup, dAsg, dPar, dAug, dFor, dForP, dLc, dLcP, dItL, dItT, dItS, onL, dRng1, dRng2, on1, on2, onI, onS, onT, onQ, dEnum, dZip, dRev, wAdd, wI, wSub, wMul, wMod, wDiv, wPow, dUn, wNeg, wEq, wNe, wCmpI, wLt, wLe, wGt, wGe, wIs, wIsNot, wIsN, wIn, wNotIn, dChain, wIx, dIxP, dPeek, dNoPart, dPart, dSlL, dSlS, dCl, dClO, wLen, dLenP, wAbs, wMax2, wMin2, wInt, wStr, wAll, wAny, wSum, wListO, wTuple, wRepr, dSm, dSmO, wJoin, wSplit, wPart, wFmt, dFmt, dJs, dJoined, dIsI, dIsI2, isT, isTg, tgD, dMut, dMl, wAppend, wPop, wPopAt, wReverse, wClear, wCat, wRepS, wExtend, wInsert, dgSub, dAugS, onSc, dLenS, dIxS, dSlSc, dLenSet, dBor, dBorT, dBorO, dListP, borE, isFlat, dCall, dCallO, dCallT, callQT, dNilB, dConsB, dRefB, dScB, dTmp, dTmpC, dTmpV, toFz, toOw, wipeE, backE, putR, dSetR, dRetR, dCallR, dIfR, List.map, List.map_cons, List.map_nil, List.set_cons_zero, List.set_cons_succ, List.getElem?_cons_succ, List.getElem?_cons_zero, List.getElem?_nil, List.cons_append, List.nil_append, List.length_cons, List.length_nil, List.replicate, List.getD_cons_zero, List.getD_cons_succ, b__law_new, b__law_new_1, b__law_new_2, b__law_new_3, b__law_new_4, b__law_new_5]
  refine pick (m := 26) rfl hv (by omega) (by omega) (by omega) fun x src hx hv1 => ?_
  dsimp only [dSeq, dIfS, dSet, dSetO, dRet, dRetO, dRetN, dDrop, dNext, dNever, dBrk, dCnt, dVar, dVarO, dC, dOp, dOpO, dBl, onB, dTru, truD, dAnd, dOr, dNot, dAndV, dOrV, dNotV, dIf, dIfO, dFr, frO, dNilA, dConsA, dTup, dLst, dgN, dgNil, dgCons, dgTup, dAsg, dPar, dAug, dFor, dForP, dLc, dLcP, dItL, dItT, dItS, onL, dRng1, dRng2, on1, on2, onI, onS, onT, onQ, dEnum, dZip, dRev, wAdd, wI, wSub, wMul, wMod, wDiv, wPow, dUn, wNeg, wEq, wNe, wCmpI, wLt, wLe, wGt, wGe, wIs, wIsNot, wIsN, wIn, wNotIn, dChain, wIx, dIxP, dPeek, dNoPart, dPart, dSlL, dSlS, dCl, dClO, wLen, dLenP, wAbs, wMax2, wMin2, wInt, wStr, wAll, wAny, wSum, wListO, wTuple, wRepr, dSm, dSmO, wJoin, wSplit, wPart, wFmt, dFmt, dJs, dJoined, dIsI, dIsI2, isT, isTg, tgD, dMut, dMl, wAppend, wPop, wPopAt, wReverse, wClear, wCat, wRepS, wExtend, wInsert, dgSub, dAugS, onSc, dLenS, dIxS, dSlSc, dLenSet, dBor, dBorT, dBorO, dListP, borE, isFlat, dCall, dCallO, dCallT, callQT, dNilB, dConsB, dRefB, dScB, dTmp, dTmpC, dTmpV, toFz, toOw, wipeE, backE, putR, dSetR, dRetR, dCallR, dIfR, List.map, List.map_cons, List.map_nil, List.set_cons_zero, List.set_cons_succ, List.getElem?_cons_succ, List.getElem?_cons_zero, List.getElem?_nil, List.cons_append, List.nil_append, List.length_cons, List.length_nil, List.replicate, List.getD_cons_zero, List.getD_cons_succ]
  have hq : (PySem.Str.ofString "q").length = 1 := by decide +kernel
  have tq : TL.tl (PySem.Str.ofString "q") = [113] := by rw [TL.tl_ofString]; decide +kernel
  refine ⟨hL, 97 + x, letter hx, ?_⟩
  refine ⟨by rw [hq]; show 1 + 1 ≤ _; decide, ?_⟩
  refine pick (m := 26) rfl hv1 (by omega) (by omega) (by omega) fun y src hy hv2 => ?_
  dsimp only [dSeq, dIfS, dSet, dSetO, dRet, dRetO, dRetN, dDrop, dNext, dNever, dBrk, dCnt, dVar, dVarO, dC, dOp, dOpO, dBl, onB, dTru, truD, dAnd, dOr, dNot, dAndV, dOrV, dNotV, dIf, dIfO, dFr, frO, dNilA, dConsA, dTup, dLst, dgN, dgNil, dgCons, dgTup, dAsg, dPar, dAug, dFor, dForP, dLc, dLcP, dItL, dItT, dItS, onL, dRng1, dRng2, on1, on2, onI, onS, onT, onQ, dEnum, dZip, dRev, wAdd, wI, wSub, wMul, wMod, wDiv, wPow, dUn, wNeg, wEq, wNe, wCmpI, wLt, wLe, wGt, wGe, wIs, wIsNot, wIsN, wIn, wNotIn, dChain, wIx, dIxP, dPeek, dNoPart, dPart, dSlL, dSlS, dCl, dClO, wLen, dLenP, wAbs, wMax2, wMin2, wInt, wStr, wAll, wAny, wSum, wListO, wTuple, wRepr, dSm, dSmO, wJoin, wSplit, wPart, wFmt, dFmt, dJs, dJoined, dIsI, dIsI2, isT, isTg, tgD, dMut, dMl, wAppend, wPop, wPopAt, wReverse, wClear, wCat, wRepS, wExtend, wInsert, dgSub, dAugS, onSc, dLenS, dIxS, dSlSc, dLenSet, dBor, dBorT, dBorO, dListP, borE, isFlat, dCall, dCallO, dCallT, callQT, dNilB, dConsB, dRefB, dScB, dTmp, dTmpC, dTmpV, toFz, toOw, wipeE, backE, putR, dSetR, dRetR, dCallR, dIfR, List.map, List.map_cons, List.map_nil, List.set_cons_zero, List.set_cons_succ, List.getElem?_cons_succ, List.getElem?_cons_zero, List.getElem?_nil, List.cons_append, List.nil_append, List.length_cons, List.length_nil, List.replicate, List.getD_cons_zero, List.getD_cons_succ]
  refine ⟨hL, 97 + y, letter hy, ?_⟩
  refine ⟨by rw [app_len, hq]; show 1 + 1 + 1 ≤ _; decide, ?_⟩
  have okn : okItem ((⟨#[97 + x]⟩ : Str) ++ PySem.Str.ofString "q" ++ (⟨#[97 + y]⟩ : Str)) := by
    have e : TL.tl ((⟨#[97 + x]⟩ : Str) ++ PySem.Str.ofString "q" ++ (⟨#[97 + y]⟩ : Str)) = [97 + x, 113, 97 + y] := by
      rw [TL.tl_append, TL.tl_append, tq]
      rfl
    refine ⟨by rw [TL.len_tl, e]; show 1 ≤ 3; decide, by rw [TL.len_tl, e]; show 3 ≤ 8; decide, fun c hc => ?_⟩
    rw [e] at hc
    rcases (by simpa using hc : c = 97 + x ∨ c = 113 ∨ c = 97 + y) with rfl | rfl | rfl <;> omega
  generalize (⟨#[97 + x]⟩ : Str) ++ PySem.Str.ofString "q" ++ (⟨#[97 + y]⟩ : Str) = nm at okn
  refine pick (m := 39) rfl hv2 (by omega) (by omega) (by omega) fun a src ha hv3 => ?_
  dsimp only [dSeq, dIfS, dSet, dSetO, dRet, dRetO, dRetN, dDrop, dNext, dNever, dBrk, dCnt, dVar, dVarO, dC, dOp, dOpO, dBl, onB, dTru, truD, dAnd, dOr, dNot, dAndV, dOrV, dNotV, dIf, dIfO, dFr, frO, dNilA, dConsA, dTup, dLst, dgN, dgNil, dgCons, dgTup, dAsg, dPar, dAug, dFor, dForP, dLc, dLcP, dItL, dItT, dItS, onL, dRng1, dRng2, on1, on2, onI, onS, onT, onQ, dEnum, dZip, dRev, wAdd, wI, wSub, wMul, wMod, wDiv, wPow, dUn, wNeg, wEq, wNe, wCmpI, wLt, wLe, wGt, wGe, wIs, wIsNot, wIsN, wIn, wNotIn, dChain, wIx, dIxP, dPeek, dNoPart, dPart, dSlL, dSlS, dCl, dClO, wLen, dLenP, wAbs, wMax2, wMin2, wInt, wStr, wAll, wAny, wSum, wListO, wTuple, wRepr, dSm, dSmO, wJoin, wSplit, wPart, wFmt, dFmt, dJs, dJoined, dIsI, dIsI2, isT, isTg, tgD, dMut, dMl, wAppend, wPop, wPopAt, wReverse, wClear, wCat, wRepS, wExtend, wInsert, dgSub, dAugS, onSc, dLenS, dIxS, dSlSc, dLenSet, dBor, dBorT, dBorO, dListP, borE, isFlat, dCall, dCallO, dCallT, callQT, dNilB, dConsB, dRefB, dScB, dTmp, dTmpC, dTmpV, toFz, toOw, wipeE, backE, putR, dSetR, dRetR, dCallR, dIfR, List.map, List.map_cons, List.map_nil, List.set_cons_zero, List.set_cons_succ, List.getElem?_cons_succ, List.getElem?_cons_zero, List.getElem?_nil, List.cons_append, List.nil_append, List.length_cons, List.length_nil, List.replicate, List.getD_cons_zero, List.getD_cons_succ]
  rw [show (39 : Int) - (a : Nat) = ((39 - a : Nat) : Int) by omega]
  refine pick (m := 39 - a) rfl hv3 (by omega) (by omega) (by omega) fun b src hb hv4 => ?_
  dsimp only [dSeq, dIfS, dSet, dSetO, dRet, dRetO, dRetN, dDrop, dNext, dNever, dBrk, dCnt, dVar, dVarO, dC, dOp, dOpO, dBl, onB, dTru, truD, dAnd, dOr, dNot, dAndV, dOrV, dNotV, dIf, dIfO, dFr, frO, dNilA, dConsA, dTup, dLst, dgN, dgNil, dgCons, dgTup, dAsg, dPar, dAug, dFor, dForP, dLc, dLcP, dItL, dItT, dItS, onL, dRng1, dRng2, on1, on2, onI, onS, onT, onQ, dEnum, dZip, dRev, wAdd, wI, wSub, wMul, wMod, wDiv, wPow, dUn, wNeg, wEq, wNe, wCmpI, wLt, wLe, wGt, wGe, wIs, wIsNot, wIsN, wIn, wNotIn, dChain, wIx, dIxP, dPeek, dNoPart, dPart, dSlL, dSlS, dCl, dClO, wLen, dLenP, wAbs, wMax2, wMin2, wInt, wStr, wAll, wAny, wSum, wListO, wTuple, wRepr, dSm, dSmO, wJoin, wSplit, wPart, wFmt, dFmt, dJs, dJoined, dIsI, dIsI2, isT, isTg, tgD, dMut, dMl, wAppend, wPop, wPopAt, wReverse, wClear, wCat, wRepS, wExtend, wInsert, dgSub, dAugS, onSc, dLenS, dIxS, dSlSc, dLenSet, dBor, dBorT, dBorO, dListP, borE, isFlat, dCall, dCallO, dCallT, callQT, dNilB, dConsB, dRefB, dScB, dTmp, dTmpC, dTmpV, toFz, toOw, wipeE, backE, putR, dSetR, dRetR, dCallR, dIfR, List.map, List.map_cons, List.map_nil, List.set_cons_zero, List.set_cons_succ, List.getElem?_cons_succ, List.getElem?_cons_zero, List.getElem?_nil, List.cons_append, List.nil_append, List.length_cons, List.length_nil, List.replicate, List.getD_cons_zero, List.getD_cons_succ]
  refine ⟨by decide, by decide, ?_⟩
  rw [show (40 : Int).toNat = 40 from rfl]
  refine ⟨fun i acc e => ∃ src u, e = [.ow (some p) (.lst src), .fz (.int door), .fz (.str LET), .fz (.str nm), .fz (.int a), .fz (.tuple [.int a, .int ((a : Nat) + 1 + (b : Nat))]), .no, .no] ∧ VSrc (n + 4 + i) src ∧ u.Sublist (List.range i) ∧ acc = u.map (fun x : Nat => PyData.int (x : Nat)), ⟨src, [], rfl, hv4, List.Sublist.refl _, rfl⟩, ?_, size_ok (by rw [rng_len]; omega), ?_⟩
  · rintro i d acc e hd _ ⟨src, u, rfl, hv', hu, rfl⟩
    obtain ⟨hi2, rfl⟩ := rng0_at hd
    refine ⟨(no1 fun _ _ h => nomatch h), ?_⟩
    dsimp only [dSeq, dIfS, dSet, dSetO, dRet, dRetO, dRetN, dDrop, dNext, dNever, dBrk, dCnt, dVar, dVarO, dC, dOp, dOpO, dBl, onB, dTru, truD, dAnd, dOr, dNot, dAndV, dOrV, dNotV, dIf, dIfO, dFr, frO, dNilA, dConsA, dTup, dLst, dgN, dgNil, dgCons, dgTup, dAsg, dPar, dAug, dFor, dForP, dLc, dLcP, dItL, dItT, dItS, onL, dRng1, dRng2, on1, on2, onI, onS, onT, onQ, dEnum, dZip, dRev, wAdd, wI, wSub, wMul, wMod, wDiv, wPow, dUn, wNeg, wEq, wNe, wCmpI, wLt, wLe, wGt, wGe, wIs, wIsNot, wIsN, wIn, wNotIn, dChain, wIx, dIxP, dPeek, dNoPart, dPart, dSlL, dSlS, dCl, dClO, wLen, dLenP, wAbs, wMax2, wMin2, wInt, wStr, wAll, wAny, wSum, wListO, wTuple, wRepr, dSm, dSmO, wJoin, wSplit, wPart, wFmt, dFmt, dJs, dJoined, dIsI, dIsI2, isT, isTg, tgD, dMut, dMl, wAppend, wPop, wPopAt, wReverse, wClear, wCat, wRepS, wExtend, wInsert, dgSub, dAugS, onSc, dLenS, dIxS, dSlSc, dLenSet, dBor, dBorT, dBorO, dListP, borE, isFlat, dCall, dCallO, dCallT, callQT, dNilB, dConsB, dRefB, dScB, dTmp, dTmpC, dTmpV, toFz, toOw, wipeE, backE, putR, dSetR, dRetR, dCallR, dIfR, List.map, List.map_cons, List.map_nil, List.set_cons_zero, List.set_cons_succ, List.getElem?_cons_succ, List.getElem?_cons_zero, List.getElem?_nil, List.cons_append, List.nil_append, List.length_cons, List.length_nil, List.replicate, List.getD_cons_zero, List.getD_cons_succ]
    refine pick (m := 9) rfl hv' (by omega) (by omega) (by omega) fun x src' hx hv2 => ?_
    dsimp only [dSeq, dIfS, dSet, dSetO, dRet, dRetO, dRetN, dDrop, dNext, dNever, dBrk, dCnt, dVar, dVarO, dC, dOp, dOpO, dBl, onB, dTru, truD, dAnd, dOr, dNot, dAndV, dOrV, dNotV, dIf, dIfO, dFr, frO, dNilA, dConsA, dTup, dLst, dgN, dgNil, dgCons, dgTup, dAsg, dPar, dAug, dFor, dForP, dLc, dLcP, dItL, dItT, dItS, onL, dRng1, dRng2, on1, on2, onI, onS, onT, onQ, dEnum, dZip, dRev, wAdd, wI, wSub, wMul, wMod, wDiv, wPow, dUn, wNeg, wEq, wNe, wCmpI, wLt, wLe, wGt, wGe, wIs, wIsNot, wIsN, wIn, wNotIn, dChain, wIx, dIxP, dPeek, dNoPart, dPart, dSlL, dSlS, dCl, dClO, wLen, dLenP, wAbs, wMax2, wMin2, wInt, wStr, wAll, wAny, wSum, wListO, wTuple, wRepr, dSm, dSmO, wJoin, wSplit, wPart, wFmt, dFmt, dJs, dJoined, dIsI, dIsI2, isT, isTg, tgD, dMut, dMl, wAppend, wPop, wPopAt, wReverse, wClear, wCat, wRepS, wExtend, wInsert, dgSub, dAugS, onSc, dLenS, dIxS, dSlSc, dLenSet, dBor, dBorT, dBorO, dListP, borE, isFlat, dCall, dCallO, dCallT, callQT, dNilB, dConsB, dRefB, dScB, dTmp, dTmpC, dTmpV, toFz, toOw, wipeE, backE, putR, dSetR, dRetR, dCallR, dIfR, List.map, List.map_cons, List.map_nil, List.set_cons_zero, List.set_cons_succ, List.getElem?_cons_succ, List.getElem?_cons_zero, List.getElem?_nil, List.cons_append, List.nil_append, List.length_cons, List.length_nil, List.replicate, List.getD_cons_zero, List.getD_cons_succ]
    rw [eqv_int]
    refine ⟨dp_i, iteB (fun h => ?_) fun h => ?_⟩
    · refine ⟨src', u ++ [i], rfl, hv2, ?_, by rw [List.map_append]; rfl⟩
      rw [List.range_succ]
      exact hu.append (List.Sublist.refl _)
    · refine ⟨src', u, rfl, hv2, ?_, rfl⟩
      rw [List.range_succ]
      exact hu.trans (List.sublist_append_left _ _)
  · rintro acc e ⟨src, u, rfl, hv', hu, rfl⟩
    rw [rng_len] at hu hv'
    have vt := turn40.sub hu
    dsimp only [dSeq, dIfS, dSet, dSetO, dRet, dRetO, dRetN, dDrop, dNext, dNever, dBrk, dCnt, dVar, dVarO, dC, dOp, dOpO, dBl, onB, dTru, truD, dAnd, dOr, dNot, dAndV, dOrV, dNotV, dIf, dIfO, dFr, frO, dNilA, dConsA, dTup, dLst, dgN, dgNil, dgCons, dgTup, dAsg, dPar, dAug, dFor, dForP, dLc, dLcP, dItL, dItT, dItS, onL, dRng1, dRng2, on1, on2, onI, onS, onT, onQ, dEnum, dZip, dRev, wAdd, wI, wSub, wMul, wMod, wDiv, wPow, dUn, wNeg, wEq, wNe, wCmpI, wLt, wLe, wGt, wGe, wIs, wIsNot, wIsN, wIn, wNotIn, dChain, wIx, dIxP, dPeek, dNoPart, dPart, dSlL, dSlS, dCl, dClO, wLen, dLenP, wAbs, wMax2, wMin2, wInt, wStr, wAll, wAny, wSum, wListO, wTuple, wRepr, dSm, dSmO, wJoin, wSplit, wPart, wFmt, dFmt, dJs, dJoined, dIsI, dIsI2, isT, isTg, tgD, dMut, dMl, wAppend, wPop, wPopAt, wReverse, wClear, wCat, wRepS, wExtend, wInsert, dgSub, dAugS, onSc, dLenS, dIxS, dSlSc, dLenSet, dBor, dBorT, dBorO, dListP, borE, isFlat, dCall, dCallO, dCallT, callQT, dNilB, dConsB, dRefB, dScB, dTmp, dTmpC, dTmpV, toFz, toOw, wipeE, backE, putR, dSetR, dRetR, dCallR, dIfR, List.map, List.map_cons, List.map_nil, List.set_cons_zero, List.set_cons_succ, List.getElem?_cons_succ, List.getElem?_cons_zero, List.getElem?_nil, List.cons_append, List.nil_append, List.length_cons, List.length_nil, List.replicate, List.getD_cons_zero, List.getD_cons_succ]
    refine ⟨by decide, ?_⟩
    match door, hd with
    | 0, _ => exact ⟨_, rfl, hE _ _ _ ⟨_, .inl ⟨by decide, nm, okn, rfl⟩, rfl⟩ (hv'.mono (by omega)) rfl⟩
    | 1, _ => exact ⟨_, rfl, hE _ _ _ ⟨_, .inl ⟨by decide, nm, okn, rfl⟩, rfl⟩ (hv'.mono (by omega)) rfl⟩
    | 2, _ => exact ⟨_, rfl, hE _ _ _ ⟨_, .inr (.inl ⟨rfl, (a, a + 1 + b), ⟨by show a < a + 1 + b; omega, by show a + 1 + b < 40; omega⟩, rfl⟩), rfl⟩ (hv'.mono (by omega)) rfl⟩
    | 3, _ => exact ⟨_, rfl, hE _ _ _ ⟨_, .inr (.inr ⟨rfl, u, vt, rfl⟩), rfl⟩ (hv'.mono (by omega)) rfl⟩
/-! ### a row changed -/
theorem ln__law_change : ∀ as W, post__law_change as W → as.length = 4 := fun as W ⟨_, _, _, _, _, _, _, _, e, _⟩ => by rw [e]; rfl
theorem pu__law_change : ∀ as W, post__law_change as W → b__law_change { nx := exitW as W (.fz .none), rt := exitW as W } (as ++ List.replicate (9 - as.length) .no) := by
  rintro as W ⟨p, q, src, row, n, door, new, pg, rfl, hv, hn, vr, nk, hW⟩
  show b__law_change _ [.ow _ _, .ow _ _, .fz _, .fz _, .no, .no, .no, .no, .no]
  have hX : ∀ en src' row' pg', VSrc (n + 3) src' → VRow door row' pg' → en[0]? = some (Ent.ow (some p) (.lst src')) → en[1]? = some (Ent.ow (some q) (.lst row')) → exitW [.ow (some p) (.lst src), .ow (some q) (.lst row), .fz (.int (mostOf door : Nat)), .fz new] W (.fz .none) en := by
    intro en src' row' pg' h1 h2 h3 h4
    refine ⟨_, hW src' row' pg' h1 h2, rfl, fun i e he => ?_⟩
    match i, he with
    | 0, he => cases he; exact .inr ⟨p, _, _, rfl, rfl, h3⟩
    | 1, he => cases he; exact .inr ⟨q, _, _, rfl, rfl, h4⟩
    | 2, he => cases he; exact .inl rfl
    | 3, he => cases he; exact .inl rfl
    | i + 4, he => cases he
  have hd : door ≤ 3 := by
    rcases vr with ⟨rfl, _⟩ | ⟨rfl, _⟩ | ⟨rfl, _⟩ | ⟨rfl, _⟩ <;> decide
  have ro := row_ok vr
  have ni := new_item nk
  have hm : mostOf door ≤ 100 := by unfold mostOf; split <;> decide
  have hl := ro.hi
  have hdep : min (PyData.depthAll row) new.depth ≤ 64 := Nat.le_trans (Nat.min_le_left _ _) (Nat.le_trans (row_depth ro.it) (by decide))
  have hZ : ∀ en src' row', VSrc (n + 3) src' → RowOk door row' → en[0]? = some (Ent.ow (some p) (.lst src')) → en[1]? = some (Ent.ow (some q) (.lst row')) → exitW [.ow (some p) (.lst src), .ow (some q) (.lst row), .fz (.int (mostOf door : Nat)), .fz new] W (.fz .none) en := by
    intro en src' row' h1 h2 h3 h4
    obtain ⟨pg', v'⟩ := row_of hd h2
    exact hX en src' row' pg' h1 v' h3 h4
  dsimp only [dSeq, dIfS, dSet, dSetO, dRet, dRetO, dRetN, dDrop, dNext, dNever, dBrk, dCnt, dVar, dVarO, dC, dOp, dOpO, dBl, onB, dTru, truD, dAnd, dOr, dNot, dAndV, dOrV, dNotV, dIf, dIfO, dFr, frO, dNilA, dConsA, dTup, dLst, dgN, dgNil, dgCons, dgTup, dAsg, dPar, dAug, dFor, dForP, dLc, dLcP, dItL, dItT, dItS, onL, dRng1, dRng2, on1, on2, onI, onS, onT, onQ, dEnum, dZip, dRev, wAdd, wI, wSub, wMul, wMod, wDiv, wPow, dUn, wNeg, wEq, wNe, wCmpI, wLt, wLe, wGt, wGe, wIs, wIsNot, wIsN, wIn, wNotIn, dChain, wIx, dIxP, dPeek, dNoPart, dPart, dSlL, dSlS, dCl, dClO, wLen, dLenP, wAbs, wMax2, wMin2, wInt, wStr, wAll, wAny, wSum, wListO, wTuple, wRepr, dSm, dSmO, wJoin, wSplit, wPart, wFmt, dFmt, dJs, dJoined, dIsI, dIsI2, isT, isTg, tgD, dMut, dMl, wAppend, wPop, wPopAt, wReverse, wClear, wCat, wRepS, wExtend, wInsert, dgSub, dAugS, onSc, dLenS, dIxS, dSlSc, dLenSet, dBor, dBorT, dBorO, dListP, borE, isFlat, dCall, dCallO, dCallT, callQT, dNilB, dConsB, dRefB, dScB, dTmp, dTmpC, dTmpV, toFz, toOw, wipeE, backE, putR, dSetR, dRetR, dCallR, dIfR, List.map, List.map_cons, List.map_nil, List.set_cons_zero, List.set_cons_succ, List.getElem?_cons_succ, List.getElem?_cons_zero, List.getElem?_nil, List.cons_append, List.nil_append, List.length_cons, List.length_nil, List.replicate, List.getD_cons_zero, List.getD_cons_succ, b__law_change]
  rw [show ((row.length : Nat) : Int) + 1 = ((row.length + 1 : Nat) : Int) by omega]
  refine pick (m := row.length + 1) rfl hv (by omega) (by omega) (by omega) fun at_ src1 hat hv1 => ?_
  dsimp only [dSeq, dIfS, dSet, dSetO, dRet, dRetO, dRetN, dDrop, dNext, dNever, dBrk, dCnt, dVar, dVarO, dC, dOp, dOpO, dBl, onB, dTru, truD, dAnd, dOr, dNot, dAndV, dOrV, dNotV, dIf, dIfO, dFr, frO, dNilA, dConsA, dTup, dLst, dgN, dgNil, dgCons, dgTup, dAsg, dPar, dAug, dFor, dForP, dLc, dLcP, dItL, dItT, dItS, onL, dRng1, dRng2, on1, on2, onI, onS, onT, onQ, dEnum, dZip, dRev, wAdd, wI, wSub, wMul, wMod, wDiv, wPow, dUn, wNeg, wEq, wNe, wCmpI, wLt, wLe, wGt, wGe, wIs, wIsNot, wIsN, wIn, wNotIn, dChain, wIx, dIxP, dPeek, dNoPart, dPart, dSlL, dSlS, dCl, dClO, wLen, dLenP, wAbs, wMax2, wMin2, wInt, wStr, wAll, wAny, wSum, wListO, wTuple, wRepr, dSm, dSmO, wJoin, wSplit, wPart, wFmt, dFmt, dJs, dJoined, dIsI, dIsI2, isT, isTg, tgD, dMut, dMl, wAppend, wPop, wPopAt, wReverse, wClear, wCat, wRepS, wExtend, wInsert, dgSub, dAugS, onSc, dLenS, dIxS, dSlSc, dLenSet, dBor, dBorT, dBorO, dListP, borE, isFlat, dCall, dCallO, dCallT, callQT, dNilB, dConsB, dRefB, dScB, dTmp, dTmpC, dTmpV, toFz, toOw, wipeE, backE, putR, dSetR, dRetR, dCallR, dIfR, List.map, List.map_cons, List.map_nil, List.set_cons_zero, List.set_cons_succ, List.getElem?_cons_succ, List.getElem?_cons_zero, List.getElem?_nil, List.cons_append, List.nil_append, List.length_cons, List.length_nil, List.replicate, List.getD_cons_zero, List.getD_cons_succ]
  rw [show ((row.length : Nat) : Int) + 1 = ((row.length + 1 : Nat) : Int) by omega]
  refine pick (m := row.length + 1) rfl hv1 (by omega) (by omega) (by omega) fun to src2 hto hv2 => ?_
  dsimp only [dSeq, dIfS, dSet, dSetO, dRet, dRetO, dRetN, dDrop, dNext, dNever, dBrk, dCnt, dVar, dVarO, dC, dOp, dOpO, dBl, onB, dTru, truD, dAnd, dOr, dNot, dAndV, dOrV, dNotV, dIf, dIfO, dFr, frO, dNilA, dConsA, dTup, dLst, dgN, dgNil, dgCons, dgTup, dAsg, dPar, dAug, dFor, dForP, dLc, dLcP, dItL, dItT, dItS, onL, dRng1, dRng2, on1, on2, onI, onS, onT, onQ, dEnum, dZip, dRev, wAdd, wI, wSub, wMul, wMod, wDiv, wPow, dUn, wNeg, wEq, wNe, wCmpI, wLt, wLe, wGt, wGe, wIs, wIsNot, wIsN, wIn, wNotIn, dChain, wIx, dIxP, dPeek, dNoPart, dPart, dSlL, dSlS, dCl, dClO, wLen, dLenP, wAbs, wMax2, wMin2, wInt, wStr, wAll, wAny, wSum, wListO, wTuple, wRepr, dSm, dSmO, wJoin, wSplit, wPart, wFmt, dFmt, dJs, dJoined, dIsI, dIsI2, isT, isTg, tgD, dMut, dMl, wAppend, wPop, wPopAt, wReverse, wClear, wCat, wRepS, wExtend, wInsert, dgSub, dAugS, onSc, dLenS, dIxS, dSlSc, dLenSet, dBor, dBorT, dBorO, dListP, borE, isFlat, dCall, dCallO, dCallT, callQT, dNilB, dConsB, dRefB, dScB, dTmp, dTmpC, dTmpV, toFz, toOw, wipeE, backE, putR, dSetR, dRetR, dCallR, dIfR, List.map, List.map_cons, List.map_nil, List.set_cons_zero, List.set_cons_succ, List.getElem?_cons_succ, List.getElem?_cons_zero, List.getElem?_nil, List.cons_append, List.nil_append, List.length_cons, List.length_nil, List.replicate, List.getD_cons_zero, List.getD_cons_succ, b__law_change_3]
  refine pick (m := 4) rfl hv2 (by omega) (by omega) (by omega) fun way src3 hway hv3 => ?_
  -- the last place but one, or the one asked for
  have cut : ∀ x : Nat, 0 < row.length → (if (((row.length : Nat) : Int) - 1) < ((x : Nat) : Int) then (((row.length : Nat) : Int) - 1) else ((x : Nat) : Int)) = ((min x (row.length - 1) : Nat) : Int) := by
    intro x h0
    by_cases h : row.length - 1 < x
    · rw [if_pos (by omega), Nat.min_eq_right (by omega)]; omega
    · rw [if_neg (by omega), Nat.min_eq_left (by omega)]
  have tnin : TIs (dBorT (dBl (dOp wNotIn (dVar 3) (dVar 1)))) [.ow (some p) (.lst src3), .ow (some q) (.lst row), .fz (.int (mostOf door : Nat)), .fz new, .fz (.int way), .fz (.int at_), .fz (.int to), .no, .no] (!row.any fun z => PyData.eqv z new) := fun Q h => by
    dsimp only [dSeq, dIfS, dSet, dSetO, dRet, dRetO, dRetN, dDrop, dNext, dNever, dBrk, dCnt, dVar, dVarO, dC, dOp, dOpO, dBl, onB, dTru, truD, dAnd, dOr, dNot, dAndV, dOrV, dNotV, dIf, dIfO, dFr, frO, dNilA, dConsA, dTup, dLst, dgN, dgNil, dgCons, dgTup, dAsg, dPar, dAug, dFor, dForP, dLc, dLcP, dItL, dItT, dItS, onL, dRng1, dRng2, on1, on2, onI, onS, onT, onQ, dEnum, dZip, dRev, wAdd, wI, wSub, wMul, wMod, wDiv, wPow, dUn, wNeg, wEq, wNe, wCmpI, wLt, wLe, wGt, wGe, wIs, wIsNot, wIsN, wIn, wNotIn, dChain, wIx, dIxP, dPeek, dNoPart, dPart, dSlL, dSlS, dCl, dClO, wLen, dLenP, wAbs, wMax2, wMin2, wInt, wStr, wAll, wAny, wSum, wListO, wTuple, wRepr, dSm, dSmO, wJoin, wSplit, wPart, wFmt, dFmt, dJs, dJoined, dIsI, dIsI2, isT, isTg, tgD, dMut, dMl, wAppend, wPop, wPopAt, wReverse, wClear, wCat, wRepS, wExtend, wInsert, dgSub, dAugS, onSc, dLenS, dIxS, dSlSc, dLenSet, dBor, dBorT, dBorO, dListP, borE, isFlat, dCall, dCallO, dCallT, callQT, dNilB, dConsB, dRefB, dScB, dTmp, dTmpC, dTmpV, toFz, toOw, wipeE, backE, putR, dSetR, dRetR, dCallR, dIfR, List.map, List.map_cons, List.map_nil, List.set_cons_zero, List.set_cons_succ, List.getElem?_cons_succ, List.getElem?_cons_zero, List.getElem?_nil, List.cons_append, List.nil_append, List.length_cons, List.length_nil, List.replicate, List.getD_cons_zero, List.getD_cons_succ]
    exact ⟨hdep, h⟩
  have tlen : ∀ k : Nat, TIs (dBorT (dBl (dOp wGt (dCl wLen (dConsA (dVar 1) dNilA)) (dC (.int k))))) [.ow (some p) (.lst src3), .ow (some q) (.lst row), .fz (.int (mostOf door : Nat)), .fz new, .fz (.int way), .fz (.int at_), .fz (.int to), .no, .no] (decide (k < row.length)) := fun k Q h => by
    dsimp only [dSeq, dIfS, dSet, dSetO, dRet, dRetO, dRetN, dDrop, dNext, dNever, dBrk, dCnt, dVar, dVarO, dC, dOp, dOpO, dBl, onB, dTru, truD, dAnd, dOr, dNot, dAndV, dOrV, dNotV, dIf, dIfO, dFr, frO, dNilA, dConsA, dTup, dLst, dgN, dgNil, dgCons, dgTup, dAsg, dPar, dAug, dFor, dForP, dLc, dLcP, dItL, dItT, dItS, onL, dRng1, dRng2, on1, on2, onI, onS, onT, onQ, dEnum, dZip, dRev, wAdd, wI, wSub, wMul, wMod, wDiv, wPow, dUn, wNeg, wEq, wNe, wCmpI, wLt, wLe, wGt, wGe, wIs, wIsNot, wIsN, wIn, wNotIn, dChain, wIx, dIxP, dPeek, dNoPart, dPart, dSlL, dSlS, dCl, dClO, wLen, dLenP, wAbs, wMax2, wMin2, wInt, wStr, wAll, wAny, wSum, wListO, wTuple, wRepr, dSm, dSmO, wJoin, wSplit, wPart, wFmt, dFmt, dJs, dJoined, dIsI, dIsI2, isT, isTg, tgD, dMut, dMl, wAppend, wPop, wPopAt, wReverse, wClear, wCat, wRepS, wExtend, wInsert, dgSub, dAugS, onSc, dLenS, dIxS, dSlSc, dLenSet, dBor, dBorT, dBorO, dListP, borE, isFlat, dCall, dCallO, dCallT, callQT, dNilB, dConsB, dRefB, dScB, dTmp, dTmpC, dTmpV, toFz, toOw, wipeE, backE, putR, dSetR, dRetR, dCallR, dIfR, List.map, List.map_cons, List.map_nil, List.set_cons_zero, List.set_cons_succ, List.getElem?_cons_succ, List.getElem?_cons_zero, List.getElem?_nil, List.cons_append, List.nil_append, List.length_cons, List.length_nil, List.replicate, List.getD_cons_zero, List.getD_cons_succ]
    rw [show decide ((k : Int) < (row.length : Nat)) = decide (k < row.length) from decide_eq_decide.mpr (by omega)]
    exact h
  have tway : ∀ k : Nat, TIs (dBl (dOp wEq (dVar 4) (dC (.int k)))) [.ow (some p) (.lst src3), .ow (some q) (.lst row), .fz (.int (mostOf door : Nat)), .fz new, .fz (.int way), .fz (.int at_), .fz (.int to), .no, .no] (decide (way = k)) := fun k Q h => by
    dsimp only [dSeq, dIfS, dSet, dSetO, dRet, dRetO, dRetN, dDrop, dNext, dNever, dBrk, dCnt, dVar, dVarO, dC, dOp, dOpO, dBl, onB, dTru, truD, dAnd, dOr, dNot, dAndV, dOrV, dNotV, dIf, dIfO, dFr, frO, dNilA, dConsA, dTup, dLst, dgN, dgNil, dgCons, dgTup, dAsg, dPar, dAug, dFor, dForP, dLc, dLcP, dItL, dItT, dItS, onL, dRng1, dRng2, on1, on2, onI, onS, onT, onQ, dEnum, dZip, dRev, wAdd, wI, wSub, wMul, wMod, wDiv, wPow, dUn, wNeg, wEq, wNe, wCmpI, wLt, wLe, wGt, wGe, wIs, wIsNot, wIsN, wIn, wNotIn, dChain, wIx, dIxP, dPeek, dNoPart, dPart, dSlL, dSlS, dCl, dClO, wLen, dLenP, wAbs, wMax2, wMin2, wInt, wStr, wAll, wAny, wSum, wListO, wTuple, wRepr, dSm, dSmO, wJoin, wSplit, wPart, wFmt, dFmt, dJs, dJoined, dIsI, dIsI2, isT, isTg, tgD, dMut, dMl, wAppend, wPop, wPopAt, wReverse, wClear, wCat, wRepS, wExtend, wInsert, dgSub, dAugS, onSc, dLenS, dIxS, dSlSc, dLenSet, dBor, dBorT, dBorO, dListP, borE, isFlat, dCall, dCallO, dCallT, callQT, dNilB, dConsB, dRefB, dScB, dTmp, dTmpC, dTmpV, toFz, toOw, wipeE, backE, putR, dSetR, dRetR, dCallR, dIfR, List.map, List.map_cons, List.map_nil, List.set_cons_zero, List.set_cons_succ, List.getElem?_cons_succ, List.getElem?_cons_zero, List.getElem?_nil, List.cons_append, List.nil_append, List.length_cons, List.length_nil, List.replicate, List.getD_cons_zero, List.getD_cons_succ]
    rw [eqv_int, show decide ((way : Int) = (k : Nat)) = decide (way = k) from decide_eq_decide.mpr (by omega)]
    exact ⟨dp_i, h⟩
  unfold b__law_change_2
  refine ifS_of (c := decide (way = 0) && (decide (row.length < mostOf door) && !row.any fun z => PyData.eqv z new)) (and_of (tway 0) fun _ => and_of (fun Q h => ?_) fun _ => tnin) (fun h => ?_) fun _ => ?_
  · dsimp only [dSeq, dIfS, dSet, dSetO, dRet, dRetO, dRetN, dDrop, dNext, dNever, dBrk, dCnt, dVar, dVarO, dC, dOp, dOpO, dBl, onB, dTru, truD, dAnd, dOr, dNot, dAndV, dOrV, dNotV, dIf, dIfO, dFr, frO, dNilA, dConsA, dTup, dLst, dgN, dgNil, dgCons, dgTup, dAsg, dPar, dAug, dFor, dForP, dLc, dLcP, dItL, dItT, dItS, onL, dRng1, dRng2, on1, on2, onI, onS, onT, onQ, dEnum, dZip, dRev, wAdd, wI, wSub, wMul, wMod, wDiv, wPow, dUn, wNeg, wEq, wNe, wCmpI, wLt, wLe, wGt, wGe, wIs, wIsNot, wIsN, wIn, wNotIn, dChain, wIx, dIxP, dPeek, dNoPart, dPart, dSlL, dSlS, dCl, dClO, wLen, dLenP, wAbs, wMax2, wMin2, wInt, wStr, wAll, wAny, wSum, wListO, wTuple, wRepr, dSm, dSmO, wJoin, wSplit, wPart, wFmt, dFmt, dJs, dJoined, dIsI, dIsI2, isT, isTg, tgD, dMut, dMl, wAppend, wPop, wPopAt, wReverse, wClear, wCat, wRepS, wExtend, wInsert, dgSub, dAugS, onSc, dLenS, dIxS, dSlSc, dLenSet, dBor, dBorT, dBorO, dListP, borE, isFlat, dCall, dCallO, dCallT, callQT, dNilB, dConsB, dRefB, dScB, dTmp, dTmpC, dTmpV, toFz, toOw, wipeE, backE, putR, dSetR, dRetR, dCallR, dIfR, List.map, List.map_cons, List.map_nil, List.set_cons_zero, List.set_cons_succ, List.getElem?_cons_succ, List.getElem?_cons_zero, List.getElem?_nil, List.cons_append, List.nil_append, List.length_cons, List.length_nil, List.replicate, List.getD_cons_zero, List.getD_cons_succ]
    rw [show decide (((row.length : Nat) : Int) < (mostOf door : Nat)) = decide (row.length < mostOf door) from decide_eq_decide.mpr (by omega)]
    exact h
  · rw [Bool.and_eq_true, Bool.and_eq_true, decide_eq_true_eq, Bool.not_eq_true'] at h
    have hn := not_in ni h.2.2
    dsimp only [dSeq, dIfS, dSet, dSetO, dRet, dRetO, dRetN, dDrop, dNext, dNever, dBrk, dCnt, dVar, dVarO, dC, dOp, dOpO, dBl, onB, dTru, truD, dAnd, dOr, dNot, dAndV, dOrV, dNotV, dIf, dIfO, dFr, frO, dNilA, dConsA, dTup, dLst, dgN, dgNil, dgCons, dgTup, dAsg, dPar, dAug, dFor, dForP, dLc, dLcP, dItL, dItT, dItS, onL, dRng1, dRng2, on1, on2, onI, onS, onT, onQ, dEnum, dZip, dRev, wAdd, wI, wSub, wMul, wMod, wDiv, wPow, dUn, wNeg, wEq, wNe, wCmpI, wLt, wLe, wGt, wGe, wIs, wIsNot, wIsN, wIn, wNotIn, dChain, wIx, dIxP, dPeek, dNoPart, dPart, dSlL, dSlS, dCl, dClO, wLen, dLenP, wAbs, wMax2, wMin2, wInt, wStr, wAll, wAny, wSum, wListO, wTuple, wRepr, dSm, dSmO, wJoin, wSplit, wPart, wFmt, dFmt, dJs, dJoined, dIsI, dIsI2, isT, isTg, tgD, dMut, dMl, wAppend, wPop, wPopAt, wReverse, wClear, wCat, wRepS, wExtend, wInsert, dgSub, dAugS, onSc, dLenS, dIxS, dSlSc, dLenSet, dBor, dBorT, dBorO, dListP, borE, isFlat, dCall, dCallO, dCallT, callQT, dNilB, dConsB, dRefB, dScB, dTmp, dTmpC, dTmpV, toFz, toOw, wipeE, backE, putR, dSetR, dRetR, dCallR, dIfR, List.map, List.map_cons, List.map_nil, List.set_cons_zero, List.set_cons_succ, List.getElem?_cons_succ, List.getElem?_cons_zero, List.getElem?_nil, List.cons_append, List.nil_append, List.length_cons, List.length_nil, List.replicate, List.getD_cons_zero, List.getD_cons_succ]
    refine ⟨trivial, ⟨size_lt (by omega), by omega, by omega⟩, ?_⟩
    rw [Int.toNat_natCast]
    exact hZ _ _ _ hv3 (row_ins ro ni hn (of_decide_eq_true h.2.1)) rfl rfl
  refine ifS_of (c := decide (way = 1) && decide (1 < row.length)) (and_of (tway 1) fun _ => tlen 1) (fun h => ?_) fun _ => ?_
  · rw [Bool.and_eq_true, decide_eq_true_eq, decide_eq_true_eq] at h
    dsimp only [dSeq, dIfS, dSet, dSetO, dRet, dRetO, dRetN, dDrop, dNext, dNever, dBrk, dCnt, dVar, dVarO, dC, dOp, dOpO, dBl, onB, dTru, truD, dAnd, dOr, dNot, dAndV, dOrV, dNotV, dIf, dIfO, dFr, frO, dNilA, dConsA, dTup, dLst, dgN, dgNil, dgCons, dgTup, dAsg, dPar, dAug, dFor, dForP, dLc, dLcP, dItL, dItT, dItS, onL, dRng1, dRng2, on1, on2, onI, onS, onT, onQ, dEnum, dZip, dRev, wAdd, wI, wSub, wMul, wMod, wDiv, wPow, dUn, wNeg, wEq, wNe, wCmpI, wLt, wLe, wGt, wGe, wIs, wIsNot, wIsN, wIn, wNotIn, dChain, wIx, dIxP, dPeek, dNoPart, dPart, dSlL, dSlS, dCl, dClO, wLen, dLenP, wAbs, wMax2, wMin2, wInt, wStr, wAll, wAny, wSum, wListO, wTuple, wRepr, dSm, dSmO, wJoin, wSplit, wPart, wFmt, dFmt, dJs, dJoined, dIsI, dIsI2, isT, isTg, tgD, dMut, dMl, wAppend, wPop, wPopAt, wReverse, wClear, wCat, wRepS, wExtend, wInsert, dgSub, dAugS, onSc, dLenS, dIxS, dSlSc, dLenSet, dBor, dBorT, dBorO, dListP, borE, isFlat, dCall, dCallO, dCallT, callQT, dNilB, dConsB, dRefB, dScB, dTmp, dTmpC, dTmpV, toFz, toOw, wipeE, backE, putR, dSetR, dRetR, dCallR, dIfR, List.map, List.map_cons, List.map_nil, List.set_cons_zero, List.set_cons_succ, List.getElem?_cons_succ, List.getElem?_cons_zero, List.getElem?_nil, List.cons_append, List.nil_append, List.length_cons, List.length_nil, List.replicate, List.getD_cons_zero, List.getD_cons_succ]
    rw [cut at_ (by omega)]
    have hk : min at_ (row.length - 1) < row.length := by omega
    exact ⟨trivial, ⟨by omega, by omega⟩, _, row[min at_ (row.length - 1)], six_nat hk, List.getElem?_eq_getElem hk, hZ _ _ _ hv3 (row_del ro h.2 hk) rfl rfl⟩
  refine ifS_of (c := decide (way = 2) && (decide (0 < row.length) && !row.any fun z => PyData.eqv z new)) (and_of (tway 2) fun _ => and_of (tlen 0) fun _ => tnin) (fun h => ?_) fun _ => ?_
  · rw [Bool.and_eq_true, Bool.and_eq_true, decide_eq_true_eq, decide_eq_true_eq, Bool.not_eq_true'] at h
    have hn := not_in ni h.2.2
    have hk : min at_ (row.length - 1) < row.length := by omega
    dsimp only [dSeq, dIfS, dSet, dSetO, dRet, dRetO, dRetN, dDrop, dNext, dNever, dBrk, dCnt, dVar, dVarO, dC, dOp, dOpO, dBl, onB, dTru, truD, dAnd, dOr, dNot, dAndV, dOrV, dNotV, dIf, dIfO, dFr, frO, dNilA, dConsA, dTup, dLst, dgN, dgNil, dgCons, dgTup, dAsg, dPar, dAug, dFor, dForP, dLc, dLcP, dItL, dItT, dItS, onL, dRng1, dRng2, on1, on2, onI, onS, onT, onQ, dEnum, dZip, dRev, wAdd, wI, wSub, wMul, wMod, wDiv, wPow, dUn, wNeg, wEq, wNe, wCmpI, wLt, wLe, wGt, wGe, wIs, wIsNot, wIsN, wIn, wNotIn, dChain, wIx, dIxP, dPeek, dNoPart, dPart, dSlL, dSlS, dCl, dClO, wLen, dLenP, wAbs, wMax2, wMin2, wInt, wStr, wAll, wAny, wSum, wListO, wTuple, wRepr, dSm, dSmO, wJoin, wSplit, wPart, wFmt, dFmt, dJs, dJoined, dIsI, dIsI2, isT, isTg, tgD, dMut, dMl, wAppend, wPop, wPopAt, wReverse, wClear, wCat, wRepS, wExtend, wInsert, dgSub, dAugS, onSc, dLenS, dIxS, dSlSc, dLenSet, dBor, dBorT, dBorO, dListP, borE, isFlat, dCall, dCallO, dCallT, callQT, dNilB, dConsB, dRefB, dScB, dTmp, dTmpC, dTmpV, toFz, toOw, wipeE, backE, putR, dSetR, dRetR, dCallR, dIfR, List.map, List.map_cons, List.map_nil, List.set_cons_zero, List.set_cons_succ, List.getElem?_cons_succ, List.getElem?_cons_zero, List.getElem?_nil, List.cons_append, List.nil_append, List.length_cons, List.length_nil, List.replicate, List.getD_cons_zero, List.getD_cons_succ]
    rw [cut at_ (by omega)]
    exact ⟨trivial, _, ix_nat hk, hZ _ _ _ hv3 (row_set ro ni hn hk) rfl rfl⟩
  refine ifS_of (tlen 0) (fun h => ?_) fun _ => ?_
  · have h0 := of_decide_eq_true h
    have hk : min at_ (row.length - 1) < row.length := by omega
    have hk2 : min to (row.length - 1) < row.length := by omega
    dsimp only [dSeq, dIfS, dSet, dSetO, dRet, dRetO, dRetN, dDrop, dNext, dNever, dBrk, dCnt, dVar, dVarO, dC, dOp, dOpO, dBl, onB, dTru, truD, dAnd, dOr, dNot, dAndV, dOrV, dNotV, dIf, dIfO, dFr, frO, dNilA, dConsA, dTup, dLst, dgN, dgNil, dgCons, dgTup, dAsg, dPar, dAug, dFor, dForP, dLc, dLcP, dItL, dItT, dItS, onL, dRng1, dRng2, on1, on2, onI, onS, onT, onQ, dEnum, dZip, dRev, wAdd, wI, wSub, wMul, wMod, wDiv, wPow, dUn, wNeg, wEq, wNe, wCmpI, wLt, wLe, wGt, wGe, wIs, wIsNot, wIsN, wIn, wNotIn, dChain, wIx, dIxP, dPeek, dNoPart, dPart, dSlL, dSlS, dCl, dClO, wLen, dLenP, wAbs, wMax2, wMin2, wInt, wStr, wAll, wAny, wSum, wListO, wTuple, wRepr, dSm, dSmO, wJoin, wSplit, wPart, wFmt, dFmt, dJs, dJoined, dIsI, dIsI2, isT, isTg, tgD, dMut, dMl, wAppend, wPop, wPopAt, wReverse, wClear, wCat, wRepS, wExtend, wInsert, dgSub, dAugS, onSc, dLenS, dIxS, dSlSc, dLenSet, dBor, dBorT, dBorO, dListP, borE, isFlat, dCall, dCallO, dCallT, callQT, dNilB, dConsB, dRefB, dScB, dTmp, dTmpC, dTmpV, toFz, toOw, wipeE, backE, putR, dSetR, dRetR, dCallR, dIfR, List.map, List.map_cons, List.map_nil, List.set_cons_zero, List.set_cons_succ, List.getElem?_cons_succ, List.getElem?_cons_zero, List.getElem?_nil, List.cons_append, List.nil_append, List.length_cons, List.length_nil, List.replicate, List.getD_cons_zero, List.getD_cons_succ, b__law_change_1]
    rw [cut at_ h0, cut to h0]
    exact ⟨trivial, _, atI_nat (List.getElem?_eq_getElem hk2), trivial, _, atI_nat (List.getElem?_eq_getElem hk), by decide, rfl, trivial, _, ix_nat hk, trivial, _, ix_nat (by rw [List.length_set]; exact hk2), rfl, hZ _ _ _ hv3 (row_swap ro hk hk2) rfl rfl⟩
  · exact hZ _ _ _ hv3 ro rfl rfl
end K95

namespace K95
open PySem PySem.Spec PyProof.Rows L2 PD
def pastD (x : Str × List D) : D := .tuple [.str x.1, .list x.2, .str x.1, .list x.2]
theorem row_dp {door : Nat} {row : List D} (h : ∀ d ∈ row, ItemOk door d) {d : D} : min (PyData.list row).depth d.depth ≤ 64 := Nat.le_trans (Nat.min_le_left _ _) (by
  rw [PyData.depth]
  have := row_depth h
  omega)
theorem cut1 (xs : List D) : PD.cutD xs (some 1) none = xs.drop 1 := by
  unfold PD.cutD
  rw [show HT.sIx xs.length 0 (some 1) = min 1 xs.length from HT.sIx_nat xs.length 0 1, HT.sIx_none]
  cases xs with
  | nil => rfl
  | cons x r =>
    rw [show min 1 (x :: r).length = 1 by
      rw [List.length_cons]
      omega]
    show (List.take ((x :: r).length - 1) r) = r
    rw [List.length_cons, Nat.add_sub_cancel]
    exact List.take_length
theorem turn_drop {t : List Nat} (v : VTurn t) : VTurn (t.drop 1) := v.sub (List.drop_sublist _ _)
theorem right_1 {p q : Addr} {door n : Nat} {src row : List D} {pg : Str} {o : Ow} {u5 u6 u7 u8 u9 : Ent} (hd : door ≤ 3) (hv : VSrc n src) (hn : n + 1 ≤ 100000) (vr : VRow door row pg) (E : DEnds)
    (hE : ∀ src' row' pg', VSrc (n + 1) src' → VRow door row' pg' → E.nx [.ow (some p) (.lst src'), .fz (.int (door : Nat)), .ow (some q) (.lst row'), .fz (.int (mostOf door : Nat)), .ow none o, u5, u6, u7, u8, u9, .no, .no, .no, .no]) :
    b__law_right_1 E [.ow (some p) (.lst src), .fz (.int (door : Nat)), .ow (some q) (.lst row), .fz (.int (mostOf door : Nat)), .ow none o, u5, u6, u7, u8, u9, .no, .no, .no, .no] := by
  have ro := row_ok vr
  dsimp only [dSeq, dIfS, dSet, dSetO, dRet, dRetO, dRetN, dDrop, dNext, dNever, dBrk, dCnt, dVar, dVarO, dC, dOp, dOpO, dBl, onB, dTru, truD, dAnd, dOr, dNot, dAndV, dOrV, dNotV, dIf, dIfO, dFr, frO, dNilA, dConsA, dTup, dLst, dgN, dgNil, dgCons, dgTup, dAsg, dPar, dAug, dFor, dForP, dLc, dLcP, dItL, dItT, dItS, onL, dRng1, dRng2, on1, on2, onI, onS, onT, onQ, dEnum, dZip, dRev, wAdd, wI, wSub, wMul, wMod, wDiv, wPow, dUn, wNeg, wEq, wNe, wCmpI, wLt, wLe, wGt, wGe, wIs, wIsNot, wIsN, wIn, wNotIn, dChain, wIx, dIxP, dPeek, dNoPart, dPart, dSlL, dSlS, dCl, dClO, wLen, dLenP, wAbs, wMax2, wMin2, wInt, wStr, wAll, wAny, wSum, wListO, wTuple, wRepr, dSm, dSmO, wJoin, wSplit, wPart, wFmt, dFmt, dJs, dJoined, dIsI, dIsI2, isT, isTg, tgD, dMut, dMl, wAppend, wPop, wPopAt, wReverse, wClear, wCat, wRepS, wExtend, wInsert, dgSub, dAugS, onSc, dLenS, dIxS, dSlSc, dLenSet, dBor, dBorT, dBorO, dListP, borE, isFlat, dCall, dCallO, dCallT, callQT, dNilB, dConsB, dRefB, dScB, dTmp, dTmpC, dTmpV, toFz, toOw, wipeE, backE, putR, dSetR, dRetR, dCallR, dIfR, List.map, List.map_cons, List.map_nil, List.set_cons_zero, List.set_cons_succ, List.getElem?_cons_succ, List.getElem?_cons_zero, List.getElem?_nil, List.cons_append, List.nil_append, List.length_cons, List.length_nil, List.replicate, List.getD_cons_zero, List.getD_cons_succ, b__law_right_1]
  refine ⟨dp_i, ?_⟩
  rw [eqv_int]
  refine iteB (fun h => ?_) fun _ => hE _ _ _ (hv.mono (by omega)) vr
  have h3 : door = 3 := by have := of_decide_eq_true h; omega
  subst h3
  rcases vr with ⟨h, _⟩ | ⟨h, _⟩ | ⟨h, _⟩ | ⟨_, ts, v, rfl, rfl⟩
  · cases h
  · cases h
  · cases h
  obtain ⟨t, r, rfl⟩ : ∃ t r, ts = t :: r := by
    cases ts with
    | nil => have := v.lo; simp at this
    | cons t r => exact ⟨t, r, rfl⟩
  have h0 : atI ((t :: r).map turnD) 0 = some (turnD t) := atI_nat (j := 0) rfl
  have vt := v.ok t (by simp)
  refine ⟨_, h0, ?_⟩
  rw [show turnD t = .list (t.map fun x => .int (x : Nat)) from rfl]
  dsimp only [dSeq, dIfS, dSet, dSetO, dRet, dRetO, dRetN, dDrop, dNext, dNever, dBrk, dCnt, dVar, dVarO, dC, dOp, dOpO, dBl, onB, dTru, truD, dAnd, dOr, dNot, dAndV, dOrV, dNotV, dIf, dIfO, dFr, frO, dNilA, dConsA, dTup, dLst, dgN, dgNil, dgCons, dgTup, dAsg, dPar, dAug, dFor, dForP, dLc, dLcP, dItL, dItT, dItS, onL, dRng1, dRng2, on1, on2, onI, onS, onT, onQ, dEnum, dZip, dRev, wAdd, wI, wSub, wMul, wMod, wDiv, wPow, dUn, wNeg, wEq, wNe, wCmpI, wLt, wLe, wGt, wGe, wIs, wIsNot, wIsN, wIn, wNotIn, dChain, wIx, dIxP, dPeek, dNoPart, dPart, dSlL, dSlS, dCl, dClO, wLen, dLenP, wAbs, wMax2, wMin2, wInt, wStr, wAll, wAny, wSum, wListO, wTuple, wRepr, dSm, dSmO, wJoin, wSplit, wPart, wFmt, dFmt, dJs, dJoined, dIsI, dIsI2, isT, isTg, tgD, dMut, dMl, wAppend, wPop, wPopAt, wReverse, wClear, wCat, wRepS, wExtend, wInsert, dgSub, dAugS, onSc, dLenS, dIxS, dSlSc, dLenSet, dBor, dBorT, dBorO, dListP, borE, isFlat, dCall, dCallO, dCallT, callQT, dNilB, dConsB, dRefB, dScB, dTmp, dTmpC, dTmpV, toFz, toOw, wipeE, backE, putR, dSetR, dRetR, dCallR, dIfR, List.map, List.map_cons, List.map_nil, List.set_cons_zero, List.set_cons_succ, List.getElem?_cons_succ, List.getElem?_cons_zero, List.getElem?_nil, List.cons_append, List.nil_append, List.length_cons, List.length_nil, List.replicate, List.getD_cons_zero, List.getD_cons_succ]
  refine iteB (fun _ => ?_) fun _ => hE _ _ _ (hv.mono (by omega)) (.inr (.inr (.inr ⟨rfl, t :: r, v, rfl, rfl⟩)))
  refine pick (m := 2) rfl hv hn (by omega) (by omega) fun x src' hx hv2 => ?_
  dsimp only [dSeq, dIfS, dSet, dSetO, dRet, dRetO, dRetN, dDrop, dNext, dNever, dBrk, dCnt, dVar, dVarO, dC, dOp, dOpO, dBl, onB, dTru, truD, dAnd, dOr, dNot, dAndV, dOrV, dNotV, dIf, dIfO, dFr, frO, dNilA, dConsA, dTup, dLst, dgN, dgNil, dgCons, dgTup, dAsg, dPar, dAug, dFor, dForP, dLc, dLcP, dItL, dItT, dItS, onL, dRng1, dRng2, on1, on2, onI, onS, onT, onQ, dEnum, dZip, dRev, wAdd, wI, wSub, wMul, wMod, wDiv, wPow, dUn, wNeg, wEq, wNe, wCmpI, wLt, wLe, wGt, wGe, wIs, wIsNot, wIsN, wIn, wNotIn, dChain, wIx, dIxP, dPeek, dNoPart, dPart, dSlL, dSlS, dCl, dClO, wLen, dLenP, wAbs, wMax2, wMin2, wInt, wStr, wAll, wAny, wSum, wListO, wTuple, wRepr, dSm, dSmO, wJoin, wSplit, wPart, wFmt, dFmt, dJs, dJoined, dIsI, dIsI2, isT, isTg, tgD, dMut, dMl, wAppend, wPop, wPopAt, wReverse, wClear, wCat, wRepS, wExtend, wInsert, dgSub, dAugS, onSc, dLenS, dIxS, dSlSc, dLenSet, dBor, dBorT, dBorO, dListP, borE, isFlat, dCall, dCallO, dCallT, callQT, dNilB, dConsB, dRefB, dScB, dTmp, dTmpC, dTmpV, toFz, toOw, wipeE, backE, putR, dSetR, dRetR, dCallR, dIfR, List.map, List.map_cons, List.map_nil, List.set_cons_zero, List.set_cons_succ, List.getElem?_cons_succ, List.getElem?_cons_zero, List.getElem?_nil, List.cons_append, List.nil_append, List.length_cons, List.length_nil, List.replicate, List.getD_cons_zero, List.getD_cons_succ]
  refine ⟨dp_i, iteB (fun _ => ?_) fun _ => hE _ _ _ hv2 (.inr (.inr (.inr ⟨rfl, t :: r, v, rfl, rfl⟩)))⟩
  refine ⟨trivial, _, h0, ?_⟩
  rw [show turnD t = .list (t.map fun x => .int (x : Nat)) from rfl]
  dsimp only [dSeq, dIfS, dSet, dSetO, dRet, dRetO, dRetN, dDrop, dNext, dNever, dBrk, dCnt, dVar, dVarO, dC, dOp, dOpO, dBl, onB, dTru, truD, dAnd, dOr, dNot, dAndV, dOrV, dNotV, dIf, dIfO, dFr, frO, dNilA, dConsA, dTup, dLst, dgN, dgNil, dgCons, dgTup, dAsg, dPar, dAug, dFor, dForP, dLc, dLcP, dItL, dItT, dItS, onL, dRng1, dRng2, on1, on2, onI, onS, onT, onQ, dEnum, dZip, dRev, wAdd, wI, wSub, wMul, wMod, wDiv, wPow, dUn, wNeg, wEq, wNe, wCmpI, wLt, wLe, wGt, wGe, wIs, wIsNot, wIsN, wIn, wNotIn, dChain, wIx, dIxP, dPeek, dNoPart, dPart, dSlL, dSlS, dCl, dClO, wLen, dLenP, wAbs, wMax2, wMin2, wInt, wStr, wAll, wAny, wSum, wListO, wTuple, wRepr, dSm, dSmO, wJoin, wSplit, wPart, wFmt, dFmt, dJs, dJoined, dIsI, dIsI2, isT, isTg, tgD, dMut, dMl, wAppend, wPop, wPopAt, wReverse, wClear, wCat, wRepS, wExtend, wInsert, dgSub, dAugS, onSc, dLenS, dIxS, dSlSc, dLenSet, dBor, dBorT, dBorO, dListP, borE, isFlat, dCall, dCallO, dCallT, callQT, dNilB, dConsB, dRefB, dScB, dTmp, dTmpC, dTmpV, toFz, toOw, wipeE, backE, putR, dSetR, dRetR, dCallR, dIfR, List.map, List.map_cons, List.map_nil, List.set_cons_zero, List.set_cons_succ, List.getElem?_cons_succ, List.getElem?_cons_zero, List.getElem?_nil, List.cons_append, List.nil_append, List.length_cons, List.length_nil, List.replicate, List.getD_cons_zero, List.getD_cons_succ]
  rw [cut1, show ((t.map fun x => PyData.int (x : Nat)).drop 1) = (t.drop 1).map (fun x => PyData.int (x : Nat)) from (List.map_drop ..).symm]
  refine ⟨trivial, 0, ix_nat (j := 0) (by simp), ?_⟩
  obtain ⟨pg', v'⟩ := row_of hd (row_set (k := 0) ro (d := turnD (t.drop 1)) (.inr (.inr (.inr ⟨rfl, _, turn_drop vt, rfl⟩))) (fun _ _ => .inl rfl) (by simp))
  exact hE _ _ pg' hv2 v'
theorem right_2 {p q : Addr} {door n : Nat} {src row : List D} {pg : Str} {o : Ow} {u5 u6 u7 u8 u9 : Ent} (hd : door ≤ 3) (hv : VSrc n src) (hn : n + 3 ≤ 100000) (vr : VRow door row pg) (E : DEnds)
    (hE : ∀ src' row' pg', VSrc (n + 3) src' → VRow door row' pg' → E.nx [.ow (some p) (.lst src'), .fz (.int (door : Nat)), .ow (some q) (.lst row'), .fz (.int (mostOf door : Nat)), .ow none o, u5, u6, u7, u8, u9, .no, .no, .no, .no]) :
    b__law_right_2 E [.ow (some p) (.lst src), .fz (.int (door : Nat)), .ow (some q) (.lst row), .fz (.int (mostOf door : Nat)), .ow none o, u5, u6, u7, u8, u9, .no, .no, .no, .no] := by
  have ro := row_ok vr
  have fin : ∀ src' row' pg', VSrc (n + 2) src' → VRow door row' pg' → b__law_right_1 E [.ow (some p) (.lst src'), .fz (.int (door : Nat)), .ow (some q) (.lst row'), .fz (.int (mostOf door : Nat)), .ow none o, u5, u6, u7, u8, u9, .no, .no, .no, .no] := fun src' row' pg' h1 h2 => right_1 hd h1 (by omega) h2 E hE
  dsimp only [dSeq, dIfS, dSet, dSetO, dRet, dRetO, dRetN, dDrop, dNext, dNever, dBrk, dCnt, dVar, dVarO, dC, dOp, dOpO, dBl, onB, dTru, truD, dAnd, dOr, dNot, dAndV, dOrV, dNotV, dIf, dIfO, dFr, frO, dNilA, dConsA, dTup, dLst, dgN, dgNil, dgCons, dgTup, dAsg, dPar, dAug, dFor, dForP, dLc, dLcP, dItL, dItT, dItS, onL, dRng1, dRng2, on1, on2, onI, onS, onT, onQ, dEnum, dZip, dRev, wAdd, wI, wSub, wMul, wMod, wDiv, wPow, dUn, wNeg, wEq, wNe, wCmpI, wLt, wLe, wGt, wGe, wIs, wIsNot, wIsN, wIn, wNotIn, dChain, wIx, dIxP, dPeek, dNoPart, dPart, dSlL, dSlS, dCl, dClO, wLen, dLenP, wAbs, wMax2, wMin2, wInt, wStr, wAll, wAny, wSum, wListO, wTuple, wRepr, dSm, dSmO, wJoin, wSplit, wPart, wFmt, dFmt, dJs, dJoined, dIsI, dIsI2, isT, isTg, tgD, dMut, dMl, wAppend, wPop, wPopAt, wReverse, wClear, wCat, wRepS, wExtend, wInsert, dgSub, dAugS, onSc, dLenS, dIxS, dSlSc, dLenSet, dBor, dBorT, dBorO, dListP, borE, isFlat, dCall, dCallO, dCallT, callQT, dNilB, dConsB, dRefB, dScB, dTmp, dTmpC, dTmpV, toFz, toOw, wipeE, backE, putR, dSetR, dRetR, dCallR, dIfR, List.map, List.map_cons, List.map_nil, List.set_cons_zero, List.set_cons_succ, List.getElem?_cons_succ, List.getElem?_cons_zero, List.getElem?_nil, List.cons_append, List.nil_append, List.length_cons, List.length_nil, List.replicate, List.getD_cons_zero, List.getD_cons_succ, b__law_right_2]
  refine ⟨dp_i, ?_⟩
  rw [eqv_int]
  refine iteB (fun h => ?_) fun _ => fin _ _ _ (hv.mono (by omega)) vr
  have h1 : door = 1 := by have := of_decide_eq_true h; omega
  have hlo : 1 ≤ row.length := by
    rcases ro.lo with h | h
    · omega
    · exact h
  have hhi : row.length ≤ 40 := by have := ro.hi; rw [h1] at this; exact this
  refine pick (m := 2) rfl hv (by omega) (by omega) (by omega) fun x src' hx hv2 => ?_
  dsimp only [dSeq, dIfS, dSet, dSetO, dRet, dRetO, dRetN, dDrop, dNext, dNever, dBrk, dCnt, dVar, dVarO, dC, dOp, dOpO, dBl, onB, dTru, truD, dAnd, dOr, dNot, dAndV, dOrV, dNotV, dIf, dIfO, dFr, frO, dNilA, dConsA, dTup, dLst, dgN, dgNil, dgCons, dgTup, dAsg, dPar, dAug, dFor, dForP, dLc, dLcP, dItL, dItT, dItS, onL, dRng1, dRng2, on1, on2, onI, onS, onT, onQ, dEnum, dZip, dRev, wAdd, wI, wSub, wMul, wMod, wDiv, wPow, dUn, wNeg, wEq, wNe, wCmpI, wLt, wLe, wGt, wGe, wIs, wIsNot, wIsN, wIn, wNotIn, dChain, wIx, dIxP, dPeek, dNoPart, dPart, dSlL, dSlS, dCl, dClO, wLen, dLenP, wAbs, wMax2, wMin2, wInt, wStr, wAll, wAny, wSum, wListO, wTuple, wRepr, dSm, dSmO, wJoin, wSplit, wPart, wFmt, dFmt, dJs, dJoined, dIsI, dIsI2, isT, isTg, tgD, dMut, dMl, wAppend, wPop, wPopAt, wReverse, wClear, wCat, wRepS, wExtend, wInsert, dgSub, dAugS, onSc, dLenS, dIxS, dSlSc, dLenSet, dBor, dBorT, dBorO, dListP, borE, isFlat, dCall, dCallO, dCallT, callQT, dNilB, dConsB, dRefB, dScB, dTmp, dTmpC, dTmpV, toFz, toOw, wipeE, backE, putR, dSetR, dRetR, dCallR, dIfR, List.map, List.map_cons, List.map_nil, List.set_cons_zero, List.set_cons_succ, List.getElem?_cons_succ, List.getElem?_cons_zero, List.getElem?_nil, List.cons_append, List.nil_append, List.length_cons, List.length_nil, List.replicate, List.getD_cons_zero, List.getD_cons_succ]
  refine ⟨dp_i, iteB (fun _ => ?_) fun _ => fin _ _ _ (hv2.mono (by omega)) vr⟩
  refine ⟨trivial, pick (m := row.length) rfl hv2 (by omega) (by omega) (by omega) fun y src2 hy hv3 => ?_⟩
  dsimp only [dSeq, dIfS, dSet, dSetO, dRet, dRetO, dRetN, dDrop, dNext, dNever, dBrk, dCnt, dVar, dVarO, dC, dOp, dOpO, dBl, onB, dTru, truD, dAnd, dOr, dNot, dAndV, dOrV, dNotV, dIf, dIfO, dFr, frO, dNilA, dConsA, dTup, dLst, dgN, dgNil, dgCons, dgTup, dAsg, dPar, dAug, dFor, dForP, dLc, dLcP, dItL, dItT, dItS, onL, dRng1, dRng2, on1, on2, onI, onS, onT, onQ, dEnum, dZip, dRev, wAdd, wI, wSub, wMul, wMod, wDiv, wPow, dUn, wNeg, wEq, wNe, wCmpI, wLt, wLe, wGt, wGe, wIs, wIsNot, wIsN, wIn, wNotIn, dChain, wIx, dIxP, dPeek, dNoPart, dPart, dSlL, dSlS, dCl, dClO, wLen, dLenP, wAbs, wMax2, wMin2, wInt, wStr, wAll, wAny, wSum, wListO, wTuple, wRepr, dSm, dSmO, wJoin, wSplit, wPart, wFmt, dFmt, dJs, dJoined, dIsI, dIsI2, isT, isTg, tgD, dMut, dMl, wAppend, wPop, wPopAt, wReverse, wClear, wCat, wRepS, wExtend, wInsert, dgSub, dAugS, onSc, dLenS, dIxS, dSlSc, dLenSet, dBor, dBorT, dBorO, dListP, borE, isFlat, dCall, dCallO, dCallT, callQT, dNilB, dConsB, dRefB, dScB, dTmp, dTmpC, dTmpV, toFz, toOw, wipeE, backE, putR, dSetR, dRetR, dCallR, dIfR, List.map, List.map_cons, List.map_nil, List.set_cons_zero, List.set_cons_succ, List.getElem?_cons_succ, List.getElem?_cons_zero, List.getElem?_nil, List.cons_append, List.nil_append, List.length_cons, List.length_nil, List.replicate, List.getD_cons_zero, List.getD_cons_succ]
  obtain ⟨pg', v'⟩ := row_of hd (row_set (k := y) ro (d := .none) (.inr (.inl ⟨h1, rfl⟩)) (fun _ _ => .inr (.inl rfl)) hy)
  exact ⟨y, ix_nat hy, fin _ _ pg' hv3 v'⟩
theorem ln__law_right : ∀ as W, post__law_right as W → as.length = 4 := fun as W ⟨_, _, _, _, _, _, _, e, _⟩ => by rw [e]; rfl
theorem pu__law_right : ∀ as W, post__law_right as W → b__law_right { nx := exitW as W (.fz .none), rt := exitW as W } (as ++ List.replicate (14 - as.length) .no) := by
  rintro as W ⟨p, q, src, row, n, door, pg, rfl, hv, hn, vr, hW⟩
  show b__law_right _ [.ow _ _, .fz _, .ow _ _, .fz _, .no, .no, .no, .no, .no, .no, .no, .no, .no, .no]
  have hX : ∀ en src' row', VSrc (n + 2000) src' → en[0]? = some (Ent.ow (some p) (.lst src')) → en[2]? = some (Ent.ow (some q) (.lst row')) → exitW [.ow (some p) (.lst src), .fz (.int (door : Nat)), .ow (some q) (.lst row), .fz (.int (mostOf door : Nat))] W (.fz (.bool true)) en := by
    intro en src' row' h1 h3 h4
    refine ⟨_, hW src' row' h1, rfl, fun i e he => ?_⟩
    match i, he with
    | 0, he => cases he; exact .inr ⟨p, _, _, rfl, rfl, h3⟩
    | 1, he => cases he; exact .inl rfl
    | 2, he => cases he; exact .inr ⟨q, _, _, rfl, rfl, h4⟩
    | 3, he => cases he; exact .inl rfl
    | i + 4, he => cases he
  have hd : door ≤ 3 := by
    rcases vr with ⟨rfl, _⟩ | ⟨rfl, _⟩ | ⟨rfl, _⟩ | ⟨rfl, _⟩ <;> decide
  dsimp only [dSeq, dIfS, dSet, dSetO, dRet, dRetO, dRetN, dDrop, dNext, dNever, dBrk, dCnt, dVar, dVarO, dC, dOp, dOpO, dBl, onB, dTru, truD, dAnd, dOr, dNot, dAndV, dOrV, dNotV, dIf, dIfO, dFr, frO, dNilA, dConsA, dTup, dLst, dgN, dgNil, dgCons, dgTup, dAsg, dPar, dAug, dFor, dForP, dLc, dLcP, dItL, dItT, dItS, onL, dRng1, dRng2, on1, on2, onI, onS, onT, onQ, dEnum, dZip, dRev, wAdd, wI, wSub, wMul, wMod, wDiv, wPow, dUn, wNeg, wEq, wNe, wCmpI, wLt, wLe, wGt, wGe, wIs, wIsNot, wIsN, wIn, wNotIn, dChain, wIx, dIxP, dPeek, dNoPart, dPart, dSlL, dSlS, dCl, dClO, wLen, dLenP, wAbs, wMax2, wMin2, wInt, wStr, wAll, wAny, wSum, wListO, wTuple, wRepr, dSm, dSmO, wJoin, wSplit, wPart, wFmt, dFmt, dJs, dJoined, dIsI, dIsI2, isT, isTg, tgD, dMut, dMl, wAppend, wPop, wPopAt, wReverse, wClear, wCat, wRepS, wExtend, wInsert, dgSub, dAugS, onSc, dLenS, dIxS, dSlSc, dLenSet, dBor, dBorT, dBorO, dListP, borE, isFlat, dCall, dCallO, dCallT, callQT, dNilB, dConsB, dRefB, dScB, dTmp, dTmpC, dTmpV, toFz, toOw, wipeE, backE, putR, dSetR, dRetR, dCallR, dIfR, List.map, List.map_cons, List.map_nil, List.set_cons_zero, List.set_cons_succ, List.getElem?_cons_succ, List.getElem?_cons_zero, List.getElem?_nil, List.cons_append, List.nil_append, List.length_cons, List.length_nil, List.replicate, List.getD_cons_zero, List.getD_cons_succ, b__law_right]
  refine ⟨by decide, ?_⟩
  generalize hR : exitW [.ow (some p) (.lst src), .fz (.int (door : Nat)), .ow (some q) (.lst row), .fz (.int (mostOf door : Nat))] W = RT at hX
  dsimp only [dSeq, dIfS, dSet, dSetO, dRet, dRetO, dRetN, dDrop, dNext, dNever, dBrk, dCnt, dVar, dVarO, dC, dOp, dOpO, dBl, onB, dTru, truD, dAnd, dOr, dNot, dAndV, dOrV, dNotV, dIf, dIfO, dFr, frO, dNilA, dConsA, dTup, dLst, dgN, dgNil, dgCons, dgTup, dAsg, dPar, dAug, dFor, dForP, dLc, dLcP, dItL, dItT, dItS, onL, dRng1, dRng2, on1, on2, onI, onS, onT, onQ, dEnum, dZip, dRev, wAdd, wI, wSub, wMul, wMod, wDiv, wPow, dUn, wNeg, wEq, wNe, wCmpI, wLt, wLe, wGt, wGe, wIs, wIsNot, wIsN, wIn, wNotIn, dChain, wIx, dIxP, dPeek, dNoPart, dPart, dSlL, dSlS, dCl, dClO, wLen, dLenP, wAbs, wMax2, wMin2, wInt, wStr, wAll, wAny, wSum, wListO, wTuple, wRepr, dSm, dSmO, wJoin, wSplit, wPart, wFmt, dFmt, dJs, dJoined, dIsI, dIsI2, isT, isTg, tgD, dMut, dMl, wAppend, wPop, wPopAt, wReverse, wClear, wCat, wRepS, wExtend, wInsert, dgSub, dAugS, onSc, dLenS, dIxS, dSlSc, dLenSet, dBor, dBorT, dBorO, dListP, borE, isFlat, dCall, dCallO, dCallT, callQT, dNilB, dConsB, dRefB, dScB, dTmp, dTmpC, dTmpV, toFz, toOw, wipeE, backE, putR, dSetR, dRetR, dCallR, dIfR, List.map, List.map_cons, List.map_nil, List.set_cons_zero, List.set_cons_succ, List.getElem?_cons_succ, List.getElem?_cons_zero, List.getElem?_nil, List.cons_append, List.nil_append, List.length_cons, List.length_nil, List.replicate, List.getD_cons_zero, List.getD_cons_succ, b__law_right_11, b__law_right_10]
  refine ⟨by decide, ?_⟩
  rw [show (15 : Int).toNat = 15 from rfl]
  refine ⟨fun i e => ∃ src row pg ps u5 u6 u7 u8 u9, e = [.ow (some p) (.lst src), .fz (.int (door : Nat)), .ow (some q) (.lst row), .fz (.int (mostOf door : Nat)), .ow none (.lst (ps.map pastD)), u5, u6, u7, u8, u9, .no, .no, .no, .no] ∧
    VSrc (n + 120 * i) src ∧ VRow door row pg ∧ ps.length = i ∧ ∀ x ∈ ps, ∀ d ∈ x.2, ItemOk door d, ⟨src, row, pg, [], _, _, _, _, _, rfl, hv, vr, rfl, fun _ h => nomatch h⟩, ?_, ?_⟩
  rotate_left
  · rintro e ⟨src, row, pg, ps, u5, u6, u7, u8, u9, rfl, hv', _, _, _⟩
    rw [rng_len] at hv'
    exact hX _ _ _ (hv'.mono (by omega)) rfl rfl
  rintro i d e hdi ⟨src1, row1, pg1, ps, u5, u6, u7, u8, u9, rfl, hv1, vr1, hps, hit⟩
  obtain ⟨hi, rfl⟩ := rng0_at hdi
  have ro := row_ok vr1
  dsimp only [dSeq, dIfS, dSet, dSetO, dRet, dRetO, dRetN, dDrop, dNext, dNever, dBrk, dCnt, dVar, dVarO, dC, dOp, dOpO, dBl, onB, dTru, truD, dAnd, dOr, dNot, dAndV, dOrV, dNotV, dIf, dIfO, dFr, frO, dNilA, dConsA, dTup, dLst, dgN, dgNil, dgCons, dgTup, dAsg, dPar, dAug, dFor, dForP, dLc, dLcP, dItL, dItT, dItS, onL, dRng1, dRng2, on1, on2, onI, onS, onT, onQ, dEnum, dZip, dRev, wAdd, wI, wSub, wMul, wMod, wDiv, wPow, dUn, wNeg, wEq, wNe, wCmpI, wLt, wLe, wGt, wGe, wIs, wIsNot, wIsN, wIn, wNotIn, dChain, wIx, dIxP, dPeek, dNoPart, dPart, dSlL, dSlS, dCl, dClO, wLen, dLenP, wAbs, wMax2, wMin2, wInt, wStr, wAll, wAny, wSum, wListO, wTuple, wRepr, dSm, dSmO, wJoin, wSplit, wPart, wFmt, dFmt, dJs, dJoined, dIsI, dIsI2, isT, isTg, tgD, dMut, dMl, wAppend, wPop, wPopAt, wReverse, wClear, wCat, wRepS, wExtend, wInsert, dgSub, dAugS, onSc, dLenS, dIxS, dSlSc, dLenSet, dBor, dBorT, dBorO, dListP, borE, isFlat, dCall, dCallO, dCallT, callQT, dNilB, dConsB, dRefB, dScB, dTmp, dTmpC, dTmpV, toFz, toOw, wipeE, backE, putR, dSetR, dRetR, dCallR, dIfR, List.map, List.map_cons, List.map_nil, List.set_cons_zero, List.set_cons_succ, List.getElem?_cons_succ, List.getElem?_cons_zero, List.getElem?_nil, List.cons_append, List.nil_append, List.length_cons, List.length_nil, List.replicate, List.getD_cons_zero, List.getD_cons_succ]
  refine callF rfl ⟨door, row1, pg1, vr1, rfl, rfl⟩ ?_
  dsimp only [dSeq, dIfS, dSet, dSetO, dRet, dRetO, dRetN, dDrop, dNext, dNever, dBrk, dCnt, dVar, dVarO, dC, dOp, dOpO, dBl, onB, dTru, truD, dAnd, dOr, dNot, dAndV, dOrV, dNotV, dIf, dIfO, dFr, frO, dNilA, dConsA, dTup, dLst, dgN, dgNil, dgCons, dgTup, dAsg, dPar, dAug, dFor, dForP, dLc, dLcP, dItL, dItT, dItS, onL, dRng1, dRng2, on1, on2, onI, onS, onT, onQ, dEnum, dZip, dRev, wAdd, wI, wSub, wMul, wMod, wDiv, wPow, dUn, wNeg, wEq, wNe, wCmpI, wLt, wLe, wGt, wGe, wIs, wIsNot, wIsN, wIn, wNotIn, dChain, wIx, dIxP, dPeek, dNoPart, dPart, dSlL, dSlS, dCl, dClO, wLen, dLenP, wAbs, wMax2, wMin2, wInt, wStr, wAll, wAny, wSum, wListO, wTuple, wRepr, dSm, dSmO, wJoin, wSplit, wPart, wFmt, dFmt, dJs, dJoined, dIsI, dIsI2, isT, isTg, tgD, dMut, dMl, wAppend, wPop, wPopAt, wReverse, wClear, wCat, wRepS, wExtend, wInsert, dgSub, dAugS, onSc, dLenS, dIxS, dSlSc, dLenSet, dBor, dBorT, dBorO, dListP, borE, isFlat, dCall, dCallO, dCallT, callQT, dNilB, dConsB, dRefB, dScB, dTmp, dTmpC, dTmpV, toFz, toOw, wipeE, backE, putR, dSetR, dRetR, dCallR, dIfR, List.map, List.map_cons, List.map_nil, List.set_cons_zero, List.set_cons_succ, List.getElem?_cons_succ, List.getElem?_cons_zero, List.getElem?_nil, List.cons_append, List.nil_append, List.length_cons, List.length_nil, List.replicate, List.getD_cons_zero, List.getD_cons_succ, b__law_right_9]
  refine ⟨rfl, ?_⟩
  dsimp only [dSeq, dIfS, dSet, dSetO, dRet, dRetO, dRetN, dDrop, dNext, dNever, dBrk, dCnt, dVar, dVarO, dC, dOp, dOpO, dBl, onB, dTru, truD, dAnd, dOr, dNot, dAndV, dOrV, dNotV, dIf, dIfO, dFr, frO, dNilA, dConsA, dTup, dLst, dgN, dgNil, dgCons, dgTup, dAsg, dPar, dAug, dFor, dForP, dLc, dLcP, dItL, dItT, dItS, onL, dRng1, dRng2, on1, on2, onI, onS, onT, onQ, dEnum, dZip, dRev, wAdd, wI, wSub, wMul, wMod, wDiv, wPow, dUn, wNeg, wEq, wNe, wCmpI, wLt, wLe, wGt, wGe, wIs, wIsNot, wIsN, wIn, wNotIn, dChain, wIx, dIxP, dPeek, dNoPart, dPart, dSlL, dSlS, dCl, dClO, wLen, dLenP, wAbs, wMax2, wMin2, wInt, wStr, wAll, wAny, wSum, wListO, wTuple, wRepr, dSm, dSmO, wJoin, wSplit, wPart, wFmt, dFmt, dJs, dJoined, dIsI, dIsI2, isT, isTg, tgD, dMut, dMl, wAppend, wPop, wPopAt, wReverse, wClear, wCat, wRepS, wExtend, wInsert, dgSub, dAugS, onSc, dLenS, dIxS, dSlSc, dLenSet, dBor, dBorT, dBorO, dListP, borE, isFlat, dCall, dCallO, dCallT, callQT, dNilB, dConsB, dRefB, dScB, dTmp, dTmpC, dTmpV, toFz, toOw, wipeE, backE, putR, dSetR, dRetR, dCallR, dIfR, List.map, List.map_cons, List.map_nil, List.set_cons_zero, List.set_cons_succ, List.getElem?_cons_succ, List.getElem?_cons_zero, List.getElem?_nil, List.cons_append, List.nil_append, List.length_cons, List.length_nil, List.replicate, List.getD_cons_zero, List.getD_cons_succ, b__law_right_8]
  refine callF rfl ⟨door, row1, pg1, vr1, rfl, rfl⟩ ?_
  dsimp only [dSeq, dIfS, dSet, dSetO, dRet, dRetO, dRetN, dDrop, dNext, dNever, dBrk, dCnt, dVar, dVarO, dC, dOp, dOpO, dBl, onB, dTru, truD, dAnd, dOr, dNot, dAndV, dOrV, dNotV, dIf, dIfO, dFr, frO, dNilA, dConsA, dTup, dLst, dgN, dgNil, dgCons, dgTup, dAsg, dPar, dAug, dFor, dForP, dLc, dLcP, dItL, dItT, dItS, onL, dRng1, dRng2, on1, on2, onI, onS, onT, onQ, dEnum, dZip, dRev, wAdd, wI, wSub, wMul, wMod, wDiv, wPow, dUn, wNeg, wEq, wNe, wCmpI, wLt, wLe, wGt, wGe, wIs, wIsNot, wIsN, wIn, wNotIn, dChain, wIx, dIxP, dPeek, dNoPart, dPart, dSlL, dSlS, dCl, dClO, wLen, dLenP, wAbs, wMax2, wMin2, wInt, wStr, wAll, wAny, wSum, wListO, wTuple, wRepr, dSm, dSmO, wJoin, wSplit, wPart, wFmt, dFmt, dJs, dJoined, dIsI, dIsI2, isT, isTg, tgD, dMut, dMl, wAppend, wPop, wPopAt, wReverse, wClear, wCat, wRepS, wExtend, wInsert, dgSub, dAugS, onSc, dLenS, dIxS, dSlSc, dLenSet, dBor, dBorT, dBorO, dListP, borE, isFlat, dCall, dCallO, dCallT, callQT, dNilB, dConsB, dRefB, dScB, dTmp, dTmpC, dTmpV, toFz, toOw, wipeE, backE, putR, dSetR, dRetR, dCallR, dIfR, List.map, List.map_cons, List.map_nil, List.set_cons_zero, List.set_cons_succ, List.getElem?_cons_succ, List.getElem?_cons_zero, List.getElem?_nil, List.cons_append, List.nil_append, List.length_cons, List.length_nil, List.replicate, List.getD_cons_zero, List.getD_cons_succ, b__law_right_7]
  refine ⟨rfl, ?_⟩
  refine callF rfl ⟨door, row1, pg1, vr1, rfl, rfl⟩ ?_
  dsimp only [dSeq, dIfS, dSet, dSetO, dRet, dRetO, dRetN, dDrop, dNext, dNever, dBrk, dCnt, dVar, dVarO, dC, dOp, dOpO, dBl, onB, dTru, truD, dAnd, dOr, dNot, dAndV, dOrV, dNotV, dIf, dIfO, dFr, frO, dNilA, dConsA, dTup, dLst, dgN, dgNil, dgCons, dgTup, dAsg, dPar, dAug, dFor, dForP, dLc, dLcP, dItL, dItT, dItS, onL, dRng1, dRng2, on1, on2, onI, onS, onT, onQ, dEnum, dZip, dRev, wAdd, wI, wSub, wMul, wMod, wDiv, wPow, dUn, wNeg, wEq, wNe, wCmpI, wLt, wLe, wGt, wGe, wIs, wIsNot, wIsN, wIn, wNotIn, dChain, wIx, dIxP, dPeek, dNoPart, dPart, dSlL, dSlS, dCl, dClO, wLen, dLenP, wAbs, wMax2, wMin2, wInt, wStr, wAll, wAny, wSum, wListO, wTuple, wRepr, dSm, dSmO, wJoin, wSplit, wPart, wFmt, dFmt, dJs, dJoined, dIsI, dIsI2, isT, isTg, tgD, dMut, dMl, wAppend, wPop, wPopAt, wReverse, wClear, wCat, wRepS, wExtend, wInsert, dgSub, dAugS, onSc, dLenS, dIxS, dSlSc, dLenSet, dBor, dBorT, dBorO, dListP, borE, isFlat, dCall, dCallO, dCallT, callQT, dNilB, dConsB, dRefB, dScB, dTmp, dTmpC, dTmpV, toFz, toOw, wipeE, backE, putR, dSetR, dRetR, dCallR, dIfR, List.map, List.map_cons, List.map_nil, List.set_cons_zero, List.set_cons_succ, List.getElem?_cons_succ, List.getElem?_cons_zero, List.getElem?_nil, List.cons_append, List.nil_append, List.length_cons, List.length_nil, List.replicate, List.getD_cons_zero, List.getD_cons_succ, b__law_right_6]
  have same : PyData.eqv (.list row1) (.list row1) = true := eqv_refl (row_plain ro.it)
  rw [same, eqv_str]
  refine ⟨dp_s, iteF' (by rw [decide_eq_true rfl]; rfl) ⟨row_dp ro.it, iteF' rfl ⟨row_dp ro.it, iteF' rfl ?_⟩⟩⟩
  dsimp only [dSeq, dIfS, dSet, dSetO, dRet, dRetO, dRetN, dDrop, dNext, dNever, dBrk, dCnt, dVar, dVarO, dC, dOp, dOpO, dBl, onB, dTru, truD, dAnd, dOr, dNot, dAndV, dOrV, dNotV, dIf, dIfO, dFr, frO, dNilA, dConsA, dTup, dLst, dgN, dgNil, dgCons, dgTup, dAsg, dPar, dAug, dFor, dForP, dLc, dLcP, dItL, dItT, dItS, onL, dRng1, dRng2, on1, on2, onI, onS, onT, onQ, dEnum, dZip, dRev, wAdd, wI, wSub, wMul, wMod, wDiv, wPow, dUn, wNeg, wEq, wNe, wCmpI, wLt, wLe, wGt, wGe, wIs, wIsNot, wIsN, wIn, wNotIn, dChain, wIx, dIxP, dPeek, dNoPart, dPart, dSlL, dSlS, dCl, dClO, wLen, dLenP, wAbs, wMax2, wMin2, wInt, wStr, wAll, wAny, wSum, wListO, wTuple, wRepr, dSm, dSmO, wJoin, wSplit, wPart, wFmt, dFmt, dJs, dJoined, dIsI, dIsI2, isT, isTg, tgD, dMut, dMl, wAppend, wPop, wPopAt, wReverse, wClear, wCat, wRepS, wExtend, wInsert, dgSub, dAugS, onSc, dLenS, dIxS, dSlSc, dLenSet, dBor, dBorT, dBorO, dListP, borE, isFlat, dCall, dCallO, dCallT, callQT, dNilB, dConsB, dRefB, dScB, dTmp, dTmpC, dTmpV, toFz, toOw, wipeE, backE, putR, dSetR, dRetR, dCallR, dIfR, List.map, List.map_cons, List.map_nil, List.set_cons_zero, List.set_cons_succ, List.getElem?_cons_succ, List.getElem?_cons_zero, List.getElem?_nil, List.cons_append, List.nil_append, List.length_cons, List.length_nil, List.replicate, List.getD_cons_zero, List.getD_cons_succ, b__law_right_5]
  refine ⟨trivial, by decide, size_lt (by rw [List.length_map]; omega), ?_⟩
  have hit2 : ∀ x ∈ ps ++ [(pg1, row1)], ∀ d ∈ x.2, ItemOk door d := fun x hx => by
    rcases List.mem_append.mp hx with hx | hx
    · exact hit x hx
    · rw [List.mem_singleton.mp hx]
      exact ro.it
  rw [show ps.map pastD ++ [PyData.tuple [.str pg1, .list row1, .str pg1, .list row1]] = (ps ++ [(pg1, row1)]).map pastD by rw [List.map_append]; rfl]
  have hpl : (ps ++ [(pg1, row1)]).length = i + 1 := by rw [List.length_append, hps]; rfl
  generalize ps ++ [(pg1, row1)] = ps2 at hit2 hpl
  unfold b__law_right_4
  dsimp only [dSeq, dSet, dSetO, dRet, dRetO, dRetN, dDrop, dNext, dNever, dBrk, dCnt, dVar, dVarO, dC, dOp, dOpO, dBl, onB, dTru, truD, dAndV, dOrV, dNotV, dIf, dIfO, dFr, frO, dNilA, dConsA, dTup, dLst, dgN, dgNil, dgCons, dgTup, dAsg, dPar, dAug, dFor, dForP, dLc, dLcP, dItL, dItT, dItS, onL, dRng1, dRng2, on1, on2, onI, onS, onT, onQ, dEnum, dZip, dRev, wAdd, wI, wSub, wMul, wMod, wDiv, wPow, dUn, wNeg, wEq, wNe, wCmpI, wLt, wLe, wGt, wGe, wIs, wIsNot, wIsN, wIn, wNotIn, dChain, wIx, dIxP, dPeek, dNoPart, dPart, dSlL, dSlS, dCl, dClO, wLen, dLenP, wAbs, wMax2, wMin2, wInt, wStr, wAll, wAny, wSum, wListO, wTuple, wRepr, dSm, dSmO, wJoin, wSplit, wPart, wFmt, dFmt, dJs, dJoined, dIsI, dIsI2, isT, isTg, tgD, dMut, dMl, wAppend, wPop, wPopAt, wReverse, wClear, wCat, wRepS, wExtend, wInsert, dgSub, dAugS, onSc, dLenS, dIxS, dSlSc, dLenSet, dBor, dBorT, dBorO, dListP, borE, isFlat, dCall, dCallO, dCallT, callQT, dNilB, dConsB, dRefB, dScB, dTmp, dTmpC, dTmpV, toFz, toOw, wipeE, backE, putR, dSetR, dRetR, dCallR, dIfR, List.map, List.map_cons, List.map_nil, List.set_cons_zero, List.set_cons_succ, List.getElem?_cons_succ, List.getElem?_cons_zero, List.getElem?_nil, List.cons_append, List.nil_append, List.length_cons, List.length_nil, List.replicate, List.getD_cons_zero, List.getD_cons_succ]
  refine ifS_of (c := false) (fun Q h => ?_) (fun h => Bool.noConfusion h) fun _ => ?_
  · dsimp only [dSeq, dIfS, dSet, dSetO, dRet, dRetO, dRetN, dDrop, dNext, dNever, dBrk, dCnt, dVar, dVarO, dC, dOp, dOpO, dBl, onB, dTru, truD, dAnd, dOr, dNot, dAndV, dOrV, dNotV, dIf, dIfO, dFr, frO, dNilA, dConsA, dTup, dLst, dgN, dgNil, dgCons, dgTup, dAsg, dPar, dAug, dFor, dForP, dLc, dLcP, dItL, dItT, dItS, onL, dRng1, dRng2, on1, on2, onI, onS, onT, onQ, dEnum, dZip, dRev, wAdd, wI, wSub, wMul, wMod, wDiv, wPow, dUn, wNeg, wEq, wNe, wCmpI, wLt, wLe, wGt, wGe, wIs, wIsNot, wIsN, wIn, wNotIn, dChain, wIx, dIxP, dPeek, dNoPart, dPart, dSlL, dSlS, dCl, dClO, wLen, dLenP, wAbs, wMax2, wMin2, wInt, wStr, wAll, wAny, wSum, wListO, wTuple, wRepr, dSm, dSmO, wJoin, wSplit, wPart, wFmt, dFmt, dJs, dJoined, dIsI, dIsI2, isT, isTg, tgD, dMut, dMl, wAppend, wPop, wPopAt, wReverse, wClear, wCat, wRepS, wExtend, wInsert, dgSub, dAugS, onSc, dLenS, dIxS, dSlSc, dLenSet, dBor, dBorT, dBorO, dListP, borE, isFlat, dCall, dCallO, dCallT, callQT, dNilB, dConsB, dRefB, dScB, dTmp, dTmpC, dTmpV, toFz, toOw, wipeE, backE, putR, dSetR, dRetR, dCallR, dIfR, List.map, List.map_cons, List.map_nil, List.set_cons_zero, List.set_cons_succ, List.getElem?_cons_succ, List.getElem?_cons_zero, List.getElem?_nil, List.cons_append, List.nil_append, List.length_cons, List.length_nil, List.replicate, List.getD_cons_zero, List.getD_cons_succ]
    refine ⟨fun _ acc e => acc = [] ∧ e = [.fz (.list src1), .fz (.int (door : Nat)), .fz (.list row1), .fz (.int (mostOf door : Nat)), .fz (.list (ps2.map pastD)), .fz (.int (i : Nat)), .fz (.str pg1), .fz (.list row1), .fz (.str pg1), .fz (.list row1), .no, .no, .no, .no], ?_, ?_, ?_, ?_⟩
    · exact ⟨rfl, rfl⟩
    · rintro i2 d acc e hd2 _ ⟨rfl, rfl⟩
      obtain ⟨x, hx, rfl⟩ := map_at hd2
      have hxi := hit2 x (List.mem_of_getElem? hx)
      have e1 : PyData.eqv (.list x.2) (.list x.2) = true := eqv_refl (row_plain hxi)
      refine ⟨fun v hv p o => ?_, ?_⟩
      · rcases (by simpa using hv : v = 10 ∨ v = 11 ∨ v = 12 ∨ v = 13) with rfl | rfl | rfl | rfl <;> exact fun h => nomatch h
      · unfold pastD
        dsimp only [dSeq, dIfS, dSet, dSetO, dRet, dRetO, dRetN, dDrop, dNext, dNever, dBrk, dCnt, dVar, dVarO, dC, dOp, dOpO, dBl, onB, dTru, truD, dAnd, dOr, dNot, dAndV, dOrV, dNotV, dIf, dIfO, dFr, frO, dNilA, dConsA, dTup, dLst, dgN, dgNil, dgCons, dgTup, dAsg, dPar, dAug, dFor, dForP, dLc, dLcP, dItL, dItT, dItS, onL, dRng1, dRng2, on1, on2, onI, onS, onT, onQ, dEnum, dZip, dRev, wAdd, wI, wSub, wMul, wMod, wDiv, wPow, dUn, wNeg, wEq, wNe, wCmpI, wLt, wLe, wGt, wGe, wIs, wIsNot, wIsN, wIn, wNotIn, dChain, wIx, dIxP, dPeek, dNoPart, dPart, dSlL, dSlS, dCl, dClO, wLen, dLenP, wAbs, wMax2, wMin2, wInt, wStr, wAll, wAny, wSum, wListO, wTuple, wRepr, dSm, dSmO, wJoin, wSplit, wPart, wFmt, dFmt, dJs, dJoined, dIsI, dIsI2, isT, isTg, tgD, dMut, dMl, wAppend, wPop, wPopAt, wReverse, wClear, wCat, wRepS, wExtend, wInsert, dgSub, dAugS, onSc, dLenS, dIxS, dSlSc, dLenSet, dBor, dBorT, dBorO, dListP, borE, isFlat, dCall, dCallO, dCallT, callQT, dNilB, dConsB, dRefB, dScB, dTmp, dTmpC, dTmpV, toFz, toOw, wipeE, backE, putR, dSetR, dRetR, dCallR, dIfR, List.map, List.map_cons, List.map_nil, List.set_cons_zero, List.set_cons_succ, List.getElem?_cons_succ, List.getElem?_cons_zero, List.getElem?_nil, List.cons_append, List.nil_append, List.length_cons, List.length_nil, List.replicate, List.getD_cons_zero, List.getD_cons_succ]
        rw [eqv_str, e1]
        exact ⟨rfl, rfl, dp_s, iteF' (by rw [decide_eq_true rfl]; rfl) ⟨row_dp hxi, iteF' rfl ⟨rfl, rfl⟩⟩⟩
    · exact size_ok (by rw [List.length_map]; omega)
    · rintro acc e ⟨rfl, rfl⟩
      dsimp only [dSeq, dIfS, dSet, dSetO, dRet, dRetO, dRetN, dDrop, dNext, dNever, dBrk, dCnt, dVar, dVarO, dC, dOp, dOpO, dBl, onB, dTru, truD, dAnd, dOr, dNot, dAndV, dOrV, dNotV, dIf, dIfO, dFr, frO, dNilA, dConsA, dTup, dLst, dgN, dgNil, dgCons, dgTup, dAsg, dPar, dAug, dFor, dForP, dLc, dLcP, dItL, dItT, dItS, onL, dRng1, dRng2, on1, on2, onI, onS, onT, onQ, dEnum, dZip, dRev, wAdd, wI, wSub, wMul, wMod, wDiv, wPow, dUn, wNeg, wEq, wNe, wCmpI, wLt, wLe, wGt, wGe, wIs, wIsNot, wIsN, wIn, wNotIn, dChain, wIx, dIxP, dPeek, dNoPart, dPart, dSlL, dSlS, dCl, dClO, wLen, dLenP, wAbs, wMax2, wMin2, wInt, wStr, wAll, wAny, wSum, wListO, wTuple, wRepr, dSm, dSmO, wJoin, wSplit, wPart, wFmt, dFmt, dJs, dJoined, dIsI, dIsI2, isT, isTg, tgD, dMut, dMl, wAppend, wPop, wPopAt, wReverse, wClear, wCat, wRepS, wExtend, wInsert, dgSub, dAugS, onSc, dLenS, dIxS, dSlSc, dLenSet, dBor, dBorT, dBorO, dListP, borE, isFlat, dCall, dCallO, dCallT, callQT, dNilB, dConsB, dRefB, dScB, dTmp, dTmpC, dTmpV, toFz, toOw, wipeE, backE, putR, dSetR, dRetR, dCallR, dIfR, List.map, List.map_cons, List.map_nil, List.set_cons_zero, List.set_cons_succ, List.getElem?_cons_succ, List.getElem?_cons_zero, List.getElem?_nil, List.cons_append, List.nil_append, List.length_cons, List.length_nil, List.replicate, List.getD_cons_zero, List.getD_cons_succ]
      exact ⟨by decide, dp_e, h⟩
  dsimp only [dSeq, dIfS, dSet, dSetO, dRet, dRetO, dRetN, dDrop, dNext, dNever, dBrk, dCnt, dVar, dVarO, dC, dOp, dOpO, dBl, onB, dTru, truD, dAnd, dOr, dNot, dAndV, dOrV, dNotV, dIf, dIfO, dFr, frO, dNilA, dConsA, dTup, dLst, dgN, dgNil, dgCons, dgTup, dAsg, dPar, dAug, dFor, dForP, dLc, dLcP, dItL, dItT, dItS, onL, dRng1, dRng2, on1, on2, onI, onS, onT, onQ, dEnum, dZip, dRev, wAdd, wI, wSub, wMul, wMod, wDiv, wPow, dUn, wNeg, wEq, wNe, wCmpI, wLt, wLe, wGt, wGe, wIs, wIsNot, wIsN, wIn, wNotIn, dChain, wIx, dIxP, dPeek, dNoPart, dPart, dSlL, dSlS, dCl, dClO, wLen, dLenP, wAbs, wMax2, wMin2, wInt, wStr, wAll, wAny, wSum, wListO, wTuple, wRepr, dSm, dSmO, wJoin, wSplit, wPart, wFmt, dFmt, dJs, dJoined, dIsI, dIsI2, isT, isTg, tgD, dMut, dMl, wAppend, wPop, wPopAt, wReverse, wClear, wCat, wRepS, wExtend, wInsert, dgSub, dAugS, onSc, dLenS, dIxS, dSlSc, dLenSet, dBor, dBorT, dBorO, dListP, borE, isFlat, dCall, dCallO, dCallT, callQT, dNilB, dConsB, dRefB, dScB, dTmp, dTmpC, dTmpV, toFz, toOw, wipeE, backE, putR, dSetR, dRetR, dCallR, dIfR, List.map, List.map_cons, List.map_nil, List.set_cons_zero, List.set_cons_succ, List.getElem?_cons_succ, List.getElem?_cons_zero, List.getElem?_nil, List.cons_append, List.nil_append, List.length_cons, List.length_nil, List.replicate, List.getD_cons_zero, List.getD_cons_succ, b__law_right_3]
  refine callS rfl rfl ⟨door, hd, rfl, rfl⟩ hv1 (by omega) fun r src2 ⟨new, nk, e⟩ hv2 => ?_
  subst e
  dsimp only [dSeq, dIfS, dSet, dSetO, dRet, dRetO, dRetN, dDrop, dNext, dNever, dBrk, dCnt, dVar, dVarO, dC, dOp, dOpO, dBl, onB, dTru, truD, dAnd, dOr, dNot, dAndV, dOrV, dNotV, dIf, dIfO, dFr, frO, dNilA, dConsA, dTup, dLst, dgN, dgNil, dgCons, dgTup, dAsg, dPar, dAug, dFor, dForP, dLc, dLcP, dItL, dItT, dItS, onL, dRng1, dRng2, on1, on2, onI, onS, onT, onQ, dEnum, dZip, dRev, wAdd, wI, wSub, wMul, wMod, wDiv, wPow, dUn, wNeg, wEq, wNe, wCmpI, wLt, wLe, wGt, wGe, wIs, wIsNot, wIsN, wIn, wNotIn, dChain, wIx, dIxP, dPeek, dNoPart, dPart, dSlL, dSlS, dCl, dClO, wLen, dLenP, wAbs, wMax2, wMin2, wInt, wStr, wAll, wAny, wSum, wListO, wTuple, wRepr, dSm, dSmO, wJoin, wSplit, wPart, wFmt, dFmt, dJs, dJoined, dIsI, dIsI2, isT, isTg, tgD, dMut, dMl, wAppend, wPop, wPopAt, wReverse, wClear, wCat, wRepS, wExtend, wInsert, dgSub, dAugS, onSc, dLenS, dIxS, dSlSc, dLenSet, dBor, dBorT, dBorO, dListP, borE, isFlat, dCall, dCallO, dCallT, callQT, dNilB, dConsB, dRefB, dScB, dTmp, dTmpC, dTmpV, toFz, toOw, wipeE, backE, putR, dSetR, dRetR, dCallR, dIfR, List.map, List.map_cons, List.map_nil, List.set_cons_zero, List.set_cons_succ, List.getElem?_cons_succ, List.getElem?_cons_zero, List.getElem?_nil, List.cons_append, List.nil_append, List.length_cons, List.length_nil, List.replicate, List.getD_cons_zero, List.getD_cons_succ]
  refine call_two (i1 := 0) (i2 := 1) (j := 0) (k := 2) rfl rfl (by decide) (fun i m h => ?_) rfl rfl fun a b => ?_
  · match i, h with
    | 0, h => cases h; exact .inl ⟨rfl, rfl⟩
    | 1, h => cases h; exact .inr ⟨rfl, rfl⟩
    | 2, h => cases h
    | 3, h => cases h
    | i + 4, h => cases h
  refine ⟨a, b, src2, row1, n + 120 * i + 100, door, new, pg1, rfl, hv2, by omega, vr1, nk, fun src3 row3 pg3 hv3 vr3 => ⟨_, _, rfl, rfl, ?_⟩⟩
  dsimp only [dSeq, dIfS, dSet, dSetO, dRet, dRetO, dRetN, dDrop, dNext, dNever, dBrk, dCnt, dVar, dVarO, dC, dOp, dOpO, dBl, onB, dTru, truD, dAnd, dOr, dNot, dAndV, dOrV, dNotV, dIf, dIfO, dFr, frO, dNilA, dConsA, dTup, dLst, dgN, dgNil, dgCons, dgTup, dAsg, dPar, dAug, dFor, dForP, dLc, dLcP, dItL, dItT, dItS, onL, dRng1, dRng2, on1, on2, onI, onS, onT, onQ, dEnum, dZip, dRev, wAdd, wI, wSub, wMul, wMod, wDiv, wPow, dUn, wNeg, wEq, wNe, wCmpI, wLt, wLe, wGt, wGe, wIs, wIsNot, wIsN, wIn, wNotIn, dChain, wIx, dIxP, dPeek, dNoPart, dPart, dSlL, dSlS, dCl, dClO, wLen, dLenP, wAbs, wMax2, wMin2, wInt, wStr, wAll, wAny, wSum, wListO, wTuple, wRepr, dSm, dSmO, wJoin, wSplit, wPart, wFmt, dFmt, dJs, dJoined, dIsI, dIsI2, isT, isTg, tgD, dMut, dMl, wAppend, wPop, wPopAt, wReverse, wClear, wCat, wRepS, wExtend, wInsert, dgSub, dAugS, onSc, dLenS, dIxS, dSlSc, dLenSet, dBor, dBorT, dBorO, dListP, borE, isFlat, dCall, dCallO, dCallT, callQT, dNilB, dConsB, dRefB, dScB, dTmp, dTmpC, dTmpV, toFz, toOw, wipeE, backE, putR, dSetR, dRetR, dCallR, dIfR, List.map, List.map_cons, List.map_nil, List.set_cons_zero, List.set_cons_succ, List.getElem?_cons_succ, List.getElem?_cons_zero, List.getElem?_nil, List.cons_append, List.nil_append, List.length_cons, List.length_nil, List.replicate, List.getD_cons_zero, List.getD_cons_succ]
  refine right_2 hd hv3 (by omega) vr3 _ fun src4 row4 pg4 hv4 vr4 => ?_
  exact ⟨src4, row4, pg4, ps2, _, _, _, _, _, rfl, hv4.mono (by omega), vr4, hpl, hit2⟩
end K95

namespace K95
open PySem PySem.Spec PyProof.Rows L2 PD
theorem ln_law : ∀ as W, postLaw as W → as.length = 1 := fun as W ⟨ns, e, _⟩ => by rw [e]; rfl
theorem right_call {n door j k : Nat} {src row : List D} {pg : Str} {en : En} {p1 p2 : Option Addr} {Q : Res → En → Prop} (hjk : j ≠ k) (h1 : en[j]? = some (.ow p1 (.lst src))) (h2 : en[k]? = some (.ow p2 (.lst row))) (hv : VSrc n src) (hn : n + 2000 ≤ 100000) (vr : VRow door row pg)
    (hQ : ∀ src' row', VSrc (n + 2000) src' → Q (.fz (.bool true)) ((en.set j (.ow p1 (.lst src'))).set k (.ow p2 (.lst row')))) :
    callQ [.vr j, .fz (.int (door : Nat)), .vr k, .fz (.int (mostOf door : Nat))] en post__law_right Q := by
  refine call_two (i1 := 0) (i2 := 2) (j := j) (k := k) rfl rfl hjk (fun i m h => ?_) h1 h2 fun a b => ?_
  · match i, h with
    | 0, h => cases h; exact .inl ⟨rfl, rfl⟩
    | 1, h => cases h
    | 2, h => cases h; exact .inr ⟨rfl, rfl⟩
    | 3, h => cases h
    | i + 4, h => cases h
  refine ⟨a, b, src, row, n, door, pg, ?_, hv, hn, vr, fun src' row' hv' => ⟨_, _, rfl, rfl, hQ src' row' hv'⟩⟩
  show [ent2 j a _ b _ (.vr j), _, ent2 j a _ b _ (.vr k), _] = _
  dsimp only [ent2]
  rw [if_pos rfl, if_neg (Ne.symm hjk)]
theorem pu_law : ∀ as W, postLaw as W → b_law { nx := exitW as W (.fz .none), rt := exitW as W } (as ++ List.replicate (8 - as.length) .no) := by
  rintro as W ⟨ns, rfl, hl, hW⟩
  show b_law _ [.sc _, .no, .no, .no, .no, .no, .no, .no]
  have hX : ∀ en, exitW [.sc ns] W (.fz (.bool true)) en := fun en => ex_no hW
  generalize exitW [.sc ns] W = RT at hX
  dsimp only [dSeq, dIfS, dSet, dSetO, dRet, dRetO, dRetN, dDrop, dNext, dNever, dBrk, dCnt, dVar, dVarO, dC, dOp, dOpO, dBl, onB, dTru, truD, dAnd, dOr, dNot, dAndV, dOrV, dNotV, dIf, dIfO, dFr, frO, dNilA, dConsA, dTup, dLst, dgN, dgNil, dgCons, dgTup, dAsg, dPar, dAug, dFor, dForP, dLc, dLcP, dItL, dItT, dItS, onL, dRng1, dRng2, on1, on2, onI, onS, onT, onQ, dEnum, dZip, dRev, wAdd, wI, wSub, wMul, wMod, wDiv, wPow, dUn, wNeg, wEq, wNe, wCmpI, wLt, wLe, wGt, wGe, wIs, wIsNot, wIsN, wIn, wNotIn, dChain, wIx, dIxP, dPeek, dNoPart, dPart, dSlL, dSlS, dCl, dClO, wLen, dLenP, wAbs, wMax2, wMin2, wInt, wStr, wAll, wAny, wSum, wListO, wTuple, wRepr, dSm, dSmO, wJoin, wSplit, wPart, wFmt, dFmt, dJs, dJoined, dIsI, dIsI2, isT, isTg, tgD, dMut, dMl, wAppend, wPop, wPopAt, wReverse, wClear, wCat, wRepS, wExtend, wInsert, dgSub, dAugS, onSc, dLenS, dIxS, dSlSc, dLenSet, dBor, dBorT, dBorO, dListP, borE, isFlat, dCall, dCallO, dCallT, callQT, dNilB, dConsB, dRefB, dScB, dTmp, dTmpC, dTmpV, toFz, toOw, wipeE, backE, putR, dSetR, dRetR, dCallR, dIfR, List.map, List.map_cons, List.map_nil, List.set_cons_zero, List.set_cons_succ, List.getElem?_cons_succ, List.getElem?_cons_zero, List.getElem?_nil, List.cons_append, List.nil_append, List.length_cons, List.length_nil, List.replicate, List.getD_cons_zero, List.getD_cons_succ, b_law, b_law_7]
  obtain ⟨m, em, hm⟩ : ∃ m : Nat, (if (if ((ns.length : Nat) : Int) < 4 then ((ns.length : Nat) : Int) else 4) > 1 then (if ((ns.length : Nat) : Int) < 4 then ((ns.length : Nat) : Int) else 4) else 1) = (m : Nat) ∧ m ≤ 4 := by
    by_cases h : ns.length < 4
    · rw [if_pos (show ((ns.length : Nat) : Int) < 4 by omega)]
      by_cases h2 : ns.length > 1
      · exact ⟨ns.length, by rw [if_pos (show ((ns.length : Nat) : Int) > 1 by omega)], by omega⟩
      · exact ⟨1, by rw [if_neg (show ¬ ((ns.length : Nat) : Int) > 1 by omega)]; rfl, by omega⟩
    · rw [if_neg (show ¬ ((ns.length : Nat) : Int) < 4 by omega)]
      exact ⟨4, rfl, by omega⟩
  rw [em]
  refine ⟨by omega, ?_⟩
  rw [Int.toNat_natCast]
  refine ⟨fun i e => ∃ u1 u2 u3 u4 u5 u6, e = [.sc ns, u1, u2, u3, u4, u5, u6, .no], ⟨_, _, _, _, _, _, rfl⟩, ?_, ?_⟩
  rotate_left
  · rintro e ⟨u1, u2, u3, u4, u5, u6, rfl⟩
    exact hX _
  rintro i d e hdi ⟨u1, u2, u3, u4, u5, u6, rfl⟩
  obtain ⟨hi, rfl⟩ := rng0_at hdi
  dsimp only [dSeq, dIfS, dSet, dSetO, dRet, dRetO, dRetN, dDrop, dNext, dNever, dBrk, dCnt, dVar, dVarO, dC, dOp, dOpO, dBl, onB, dTru, truD, dAnd, dOr, dNot, dAndV, dOrV, dNotV, dIf, dIfO, dFr, frO, dNilA, dConsA, dTup, dLst, dgN, dgNil, dgCons, dgTup, dAsg, dPar, dAug, dFor, dForP, dLc, dLcP, dItL, dItT, dItS, onL, dRng1, dRng2, on1, on2, onI, onS, onT, onQ, dEnum, dZip, dRev, wAdd, wI, wSub, wMul, wMod, wDiv, wPow, dUn, wNeg, wEq, wNe, wCmpI, wLt, wLe, wGt, wGe, wIs, wIsNot, wIsN, wIn, wNotIn, dChain, wIx, dIxP, dPeek, dNoPart, dPart, dSlL, dSlS, dCl, dClO, wLen, dLenP, wAbs, wMax2, wMin2, wInt, wStr, wAll, wAny, wSum, wListO, wTuple, wRepr, dSm, dSmO, wJoin, wSplit, wPart, wFmt, dFmt, dJs, dJoined, dIsI, dIsI2, isT, isTg, tgD, dMut, dMl, wAppend, wPop, wPopAt, wReverse, wClear, wCat, wRepS, wExtend, wInsert, dgSub, dAugS, onSc, dLenS, dIxS, dSlSc, dLenSet, dBor, dBorT, dBorO, dListP, borE, isFlat, dCall, dCallO, dCallT, callQT, dNilB, dConsB, dRefB, dScB, dTmp, dTmpC, dTmpV, toFz, toOw, wipeE, backE, putR, dSetR, dRetR, dCallR, dIfR, List.map, List.map_cons, List.map_nil, List.set_cons_zero, List.set_cons_succ, List.getElem?_cons_succ, List.getElem?_cons_zero, List.getElem?_nil, List.cons_append, List.nil_append, List.length_cons, List.length_nil, List.replicate, List.getD_cons_zero, List.getD_cons_succ]
  refine call_sc rfl ⟨ns, i, rfl, by omega, fun src hv => ?_⟩
  dsimp only [dSeq, dIfS, dSet, dSetO, dRet, dRetO, dRetN, dDrop, dNext, dNever, dBrk, dCnt, dVar, dVarO, dC, dOp, dOpO, dBl, onB, dTru, truD, dAnd, dOr, dNot, dAndV, dOrV, dNotV, dIf, dIfO, dFr, frO, dNilA, dConsA, dTup, dLst, dgN, dgNil, dgCons, dgTup, dAsg, dPar, dAug, dFor, dForP, dLc, dLcP, dItL, dItT, dItS, onL, dRng1, dRng2, on1, on2, onI, onS, onT, onQ, dEnum, dZip, dRev, wAdd, wI, wSub, wMul, wMod, wDiv, wPow, dUn, wNeg, wEq, wNe, wCmpI, wLt, wLe, wGt, wGe, wIs, wIsNot, wIsN, wIn, wNotIn, dChain, wIx, dIxP, dPeek, dNoPart, dPart, dSlL, dSlS, dCl, dClO, wLen, dLenP, wAbs, wMax2, wMin2, wInt, wStr, wAll, wAny, wSum, wListO, wTuple, wRepr, dSm, dSmO, wJoin, wSplit, wPart, wFmt, dFmt, dJs, dJoined, dIsI, dIsI2, isT, isTg, tgD, dMut, dMl, wAppend, wPop, wPopAt, wReverse, wClear, wCat, wRepS, wExtend, wInsert, dgSub, dAugS, onSc, dLenS, dIxS, dSlSc, dLenSet, dBor, dBorT, dBorO, dListP, borE, isFlat, dCall, dCallO, dCallT, callQT, dNilB, dConsB, dRefB, dScB, dTmp, dTmpC, dTmpV, toFz, toOw, wipeE, backE, putR, dSetR, dRetR, dCallR, dIfR, List.map, List.map_cons, List.map_nil, List.set_cons_zero, List.set_cons_succ, List.getElem?_cons_succ, List.getElem?_cons_zero, List.getElem?_nil, List.cons_append, List.nil_append, List.length_cons, List.length_nil, List.replicate, List.getD_cons_zero, List.getD_cons_succ, b_law_6]
  refine pick (m := 5) rfl hv (by omega) (by omega) (by omega) fun a src hx hv1 => ?_
  dsimp only [dSeq, dIfS, dSet, dSetO, dRet, dRetO, dRetN, dDrop, dNext, dNever, dBrk, dCnt, dVar, dVarO, dC, dOp, dOpO, dBl, onB, dTru, truD, dAnd, dOr, dNot, dAndV, dOrV, dNotV, dIf, dIfO, dFr, frO, dNilA, dConsA, dTup, dLst, dgN, dgNil, dgCons, dgTup, dAsg, dPar, dAug, dFor, dForP, dLc, dLcP, dItL, dItT, dItS, onL, dRng1, dRng2, on1, on2, onI, onS, onT, onQ, dEnum, dZip, dRev, wAdd, wI, wSub, wMul, wMod, wDiv, wPow, dUn, wNeg, wEq, wNe, wCmpI, wLt, wLe, wGt, wGe, wIs, wIsNot, wIsN, wIn, wNotIn, dChain, wIx, dIxP, dPeek, dNoPart, dPart, dSlL, dSlS, dCl, dClO, wLen, dLenP, wAbs, wMax2, wMin2, wInt, wStr, wAll, wAny, wSum, wListO, wTuple, wRepr, dSm, dSmO, wJoin, wSplit, wPart, wFmt, dFmt, dJs, dJoined, dIsI, dIsI2, isT, isTg, tgD, dMut, dMl, wAppend, wPop, wPopAt, wReverse, wClear, wCat, wRepS, wExtend, wInsert, dgSub, dAugS, onSc, dLenS, dIxS, dSlSc, dLenSet, dBor, dBorT, dBorO, dListP, borE, isFlat, dCall, dCallO, dCallT, callQT, dNilB, dConsB, dRefB, dScB, dTmp, dTmpC, dTmpV, toFz, toOw, wipeE, backE, putR, dSetR, dRetR, dCallR, dIfR, List.map, List.map_cons, List.map_nil, List.set_cons_zero, List.set_cons_succ, List.getElem?_cons_succ, List.getElem?_cons_zero, List.getElem?_nil, List.cons_append, List.nil_append, List.length_cons, List.length_nil, List.replicate, List.getD_cons_zero, List.getD_cons_succ]
  refine pick (m := 40) rfl hv1 (by omega) (by omega) (by omega) fun b src hy hv2 => ?_
  dsimp only [dSeq, dIfS, dSet, dSetO, dRet, dRetO, dRetN, dDrop, dNext, dNever, dBrk, dCnt, dVar, dVarO, dC, dOp, dOpO, dBl, onB, dTru, truD, dAnd, dOr, dNot, dAndV, dOrV, dNotV, dIf, dIfO, dFr, frO, dNilA, dConsA, dTup, dLst, dgN, dgNil, dgCons, dgTup, dAsg, dPar, dAug, dFor, dForP, dLc, dLcP, dItL, dItT, dItS, onL, dRng1, dRng2, on1, on2, onI, onS, onT, onQ, dEnum, dZip, dRev, wAdd, wI, wSub, wMul, wMod, wDiv, wPow, dUn, wNeg, wEq, wNe, wCmpI, wLt, wLe, wGt, wGe, wIs, wIsNot, wIsN, wIn, wNotIn, dChain, wIx, dIxP, dPeek, dNoPart, dPart, dSlL, dSlS, dCl, dClO, wLen, dLenP, wAbs, wMax2, wMin2, wInt, wStr, wAll, wAny, wSum, wListO, wTuple, wRepr, dSm, dSmO, wJoin, wSplit, wPart, wFmt, dFmt, dJs, dJoined, dIsI, dIsI2, isT, isTg, tgD, dMut, dMl, wAppend, wPop, wPopAt, wReverse, wClear, wCat, wRepS, wExtend, wInsert, dgSub, dAugS, onSc, dLenS, dIxS, dSlSc, dLenSet, dBor, dBorT, dBorO, dListP, borE, isFlat, dCall, dCallO, dCallT, callQT, dNilB, dConsB, dRefB, dScB, dTmp, dTmpC, dTmpV, toFz, toOw, wipeE, backE, putR, dSetR, dRetR, dCallR, dIfR, List.map, List.map_cons, List.map_nil, List.set_cons_zero, List.set_cons_succ, List.getElem?_cons_succ, List.getElem?_cons_zero, List.getElem?_nil, List.cons_append, List.nil_append, List.length_cons, List.length_nil, List.replicate, List.getD_cons_zero, List.getD_cons_succ]
  refine ⟨by decide, pick (m := 3) rfl hv2 (by omega) (by omega) (by omega) fun c src hz hv3 => ?_⟩
  dsimp only [dSeq, dIfS, dSet, dSetO, dRet, dRetO, dRetN, dDrop, dNext, dNever, dBrk, dCnt, dVar, dVarO, dC, dOp, dOpO, dBl, onB, dTru, truD, dAnd, dOr, dNot, dAndV, dOrV, dNotV, dIf, dIfO, dFr, frO, dNilA, dConsA, dTup, dLst, dgN, dgNil, dgCons, dgTup, dAsg, dPar, dAug, dFor, dForP, dLc, dLcP, dItL, dItT, dItS, onL, dRng1, dRng2, on1, on2, onI, onS, onT, onQ, dEnum, dZip, dRev, wAdd, wI, wSub, wMul, wMod, wDiv, wPow, dUn, wNeg, wEq, wNe, wCmpI, wLt, wLe, wGt, wGe, wIs, wIsNot, wIsN, wIn, wNotIn, dChain, wIx, dIxP, dPeek, dNoPart, dPart, dSlL, dSlS, dCl, dClO, wLen, dLenP, wAbs, wMax2, wMin2, wInt, wStr, wAll, wAny, wSum, wListO, wTuple, wRepr, dSm, dSmO, wJoin, wSplit, wPart, wFmt, dFmt, dJs, dJoined, dIsI, dIsI2, isT, isTg, tgD, dMut, dMl, wAppend, wPop, wPopAt, wReverse, wClear, wCat, wRepS, wExtend, wInsert, dgSub, dAugS, onSc, dLenS, dIxS, dSlSc, dLenSet, dBor, dBorT, dBorO, dListP, borE, isFlat, dCall, dCallO, dCallT, callQT, dNilB, dConsB, dRefB, dScB, dTmp, dTmpC, dTmpV, toFz, toOw, wipeE, backE, putR, dSetR, dRetR, dCallR, dIfR, List.map, List.map_cons, List.map_nil, List.set_cons_zero, List.set_cons_succ, List.getElem?_cons_succ, List.getElem?_cons_zero, List.getElem?_nil, List.cons_append, List.nil_append, List.length_cons, List.length_nil, List.replicate, List.getD_cons_zero, List.getD_cons_succ]
  obtain ⟨sz, h1, h2, es⟩ : ∃ sz : Nat, 1 ≤ sz ∧ sz ≤ 40 ∧ atI [PyData.int (1 + (a : Nat)), .int (1 + (b : Nat)), .int 40] ((c : Nat) : Int) = some (.int sz) := by
    match c, hz with
    | 0, _ => exact ⟨1 + a, by omega, by omega, by rw [show ((1 + a : Nat) : Int) = 1 + (a : Nat) by omega]; rfl⟩
    | 1, _ => exact ⟨1 + b, by omega, by omega, by rw [show ((1 + b : Nat) : Int) = 1 + (b : Nat) by omega]; rfl⟩
    | 2, _ => exact ⟨40, by decide, by decide, rfl⟩
  refine ⟨_, es, ?_⟩
  dsimp only [dSeq, dIfS, dSet, dSetO, dRet, dRetO, dRetN, dDrop, dNext, dNever, dBrk, dCnt, dVar, dVarO, dC, dOp, dOpO, dBl, onB, dTru, truD, dAnd, dOr, dNot, dAndV, dOrV, dNotV, dIf, dIfO, dFr, frO, dNilA, dConsA, dTup, dLst, dgN, dgNil, dgCons, dgTup, dAsg, dPar, dAug, dFor, dForP, dLc, dLcP, dItL, dItT, dItS, onL, dRng1, dRng2, on1, on2, onI, onS, onT, onQ, dEnum, dZip, dRev, wAdd, wI, wSub, wMul, wMod, wDiv, wPow, dUn, wNeg, wEq, wNe, wCmpI, wLt, wLe, wGt, wGe, wIs, wIsNot, wIsN, wIn, wNotIn, dChain, wIx, dIxP, dPeek, dNoPart, dPart, dSlL, dSlS, dCl, dClO, wLen, dLenP, wAbs, wMax2, wMin2, wInt, wStr, wAll, wAny, wSum, wListO, wTuple, wRepr, dSm, dSmO, wJoin, wSplit, wPart, wFmt, dFmt, dJs, dJoined, dIsI, dIsI2, isT, isTg, tgD, dMut, dMl, wAppend, wPop, wPopAt, wReverse, wClear, wCat, wRepS, wExtend, wInsert, dgSub, dAugS, onSc, dLenS, dIxS, dSlSc, dLenSet, dBor, dBorT, dBorO, dListP, borE, isFlat, dCall, dCallO, dCallT, callQT, dNilB, dConsB, dRefB, dScB, dTmp, dTmpC, dTmpV, toFz, toOw, wipeE, backE, putR, dSetR, dRetR, dCallR, dIfR, List.map, List.map_cons, List.map_nil, List.set_cons_zero, List.set_cons_succ, List.getElem?_cons_succ, List.getElem?_cons_zero, List.getElem?_nil, List.cons_append, List.nil_append, List.length_cons, List.length_nil, List.replicate, List.getD_cons_zero, List.getD_cons_succ, b_law_5]
  refine callS rfl rfl ⟨sz, h1, h2, rfl, rfl⟩ hv3 (by omega) fun r src ⟨ys, vy, e⟩ hv4 => ?_
  subst e
  dsimp only [dSeq, dIfS, dSet, dSetO, dRet, dRetO, dRetN, dDrop, dNext, dNever, dBrk, dCnt, dVar, dVarO, dC, dOp, dOpO, dBl, onB, dTru, truD, dAnd, dOr, dNot, dAndV, dOrV, dNotV, dIf, dIfO, dFr, frO, dNilA, dConsA, dTup, dLst, dgN, dgNil, dgCons, dgTup, dAsg, dPar, dAug, dFor, dForP, dLc, dLcP, dItL, dItT, dItS, onL, dRng1, dRng2, on1, on2, onI, onS, onT, onQ, dEnum, dZip, dRev, wAdd, wI, wSub, wMul, wMod, wDiv, wPow, dUn, wNeg, wEq, wNe, wCmpI, wLt, wLe, wGt, wGe, wIs, wIsNot, wIsN, wIn, wNotIn, dChain, wIx, dIxP, dPeek, dNoPart, dPart, dSlL, dSlS, dCl, dClO, wLen, dLenP, wAbs, wMax2, wMin2, wInt, wStr, wAll, wAny, wSum, wListO, wTuple, wRepr, dSm, dSmO, wJoin, wSplit, wPart, wFmt, dFmt, dJs, dJoined, dIsI, dIsI2, isT, isTg, tgD, dMut, dMl, wAppend, wPop, wPopAt, wReverse, wClear, wCat, wRepS, wExtend, wInsert, dgSub, dAugS, onSc, dLenS, dIxS, dSlSc, dLenSet, dBor, dBorT, dBorO, dListP, borE, isFlat, dCall, dCallO, dCallT, callQT, dNilB, dConsB, dRefB, dScB, dTmp, dTmpC, dTmpV, toFz, toOw, wipeE, backE, putR, dSetR, dRetR, dCallR, dIfR, List.map, List.map_cons, List.map_nil, List.set_cons_zero, List.set_cons_succ, List.getElem?_cons_succ, List.getElem?_cons_zero, List.getElem?_nil, List.cons_append, List.nil_append, List.length_cons, List.length_nil, List.replicate, List.getD_cons_zero, List.getD_cons_succ, b_law_4]
  have hyl := vy.hi
  refine ⟨size_ok (by rw [List.length_map]; omega), fun ad => ⟨fun k acc e => ∃ src ss, e = [.sc ns, .fz (.int (i : Nat)), .ow none (.lst src), .fz (.int sz), .rw (.ref ad), u5, u6, .no] ∧ VSrc (300 + k) src ∧ acc = ss.map seenD ∧ ss.length = k ∧ ∀ (j : Nat) (y : Str), ss[j]? = some (some y) → ys[j]? = some y, ⟨src, [], rfl, hv4.mono (by omega), rfl, rfl, fun j y h => by simp at h⟩, ?_, ?_⟩⟩
  · rintro k d acc e hk _ ⟨src, ss, rfl, hv5, rfl, hsl, hss⟩
    obtain ⟨y, hy, rfl⟩ := map_at hk
    have hk2 : k < ys.length := (List.getElem?_eq_some_iff.mp hy).1
    refine ⟨(no1 fun _ _ h => nomatch h), ?_⟩
    dsimp only [dSeq, dIfS, dSet, dSetO, dRet, dRetO, dRetN, dDrop, dNext, dNever, dBrk, dCnt, dVar, dVarO, dC, dOp, dOpO, dBl, onB, dTru, truD, dAnd, dOr, dNot, dAndV, dOrV, dNotV, dIf, dIfO, dFr, frO, dNilA, dConsA, dTup, dLst, dgN, dgNil, dgCons, dgTup, dAsg, dPar, dAug, dFor, dForP, dLc, dLcP, dItL, dItT, dItS, onL, dRng1, dRng2, on1, on2, onI, onS, onT, onQ, dEnum, dZip, dRev, wAdd, wI, wSub, wMul, wMod, wDiv, wPow, dUn, wNeg, wEq, wNe, wCmpI, wLt, wLe, wGt, wGe, wIs, wIsNot, wIsN, wIn, wNotIn, dChain, wIx, dIxP, dPeek, dNoPart, dPart, dSlL, dSlS, dCl, dClO, wLen, dLenP, wAbs, wMax2, wMin2, wInt, wStr, wAll, wAny, wSum, wListO, wTuple, wRepr, dSm, dSmO, wJoin, wSplit, wPart, wFmt, dFmt, dJs, dJoined, dIsI, dIsI2, isT, isTg, tgD, dMut, dMl, wAppend, wPop, wPopAt, wReverse, wClear, wCat, wRepS, wExtend, wInsert, dgSub, dAugS, onSc, dLenS, dIxS, dSlSc, dLenSet, dBor, dBorT, dBorO, dListP, borE, isFlat, dCall, dCallO, dCallT, callQT, dNilB, dConsB, dRefB, dScB, dTmp, dTmpC, dTmpV, toFz, toOw, wipeE, backE, putR, dSetR, dRetR, dCallR, dIfR, List.map, List.map_cons, List.map_nil, List.set_cons_zero, List.set_cons_succ, List.getElem?_cons_succ, List.getElem?_cons_zero, List.getElem?_nil, List.cons_append, List.nil_append, List.length_cons, List.length_nil, List.replicate, List.getD_cons_zero, List.getD_cons_succ, dYes]
    refine iteT' rfl ?_
    refine pick (m := 2) rfl hv5 (by omega) (by omega) (by omega) fun x src2 hx hv6 => ?_
    dsimp only [dSeq, dIfS, dSet, dSetO, dRet, dRetO, dRetN, dDrop, dNext, dNever, dBrk, dCnt, dVar, dVarO, dC, dOp, dOpO, dBl, onB, dTru, truD, dAnd, dOr, dNot, dAndV, dOrV, dNotV, dIf, dIfO, dFr, frO, dNilA, dConsA, dTup, dLst, dgN, dgNil, dgCons, dgTup, dAsg, dPar, dAug, dFor, dForP, dLc, dLcP, dItL, dItT, dItS, onL, dRng1, dRng2, on1, on2, onI, onS, onT, onQ, dEnum, dZip, dRev, wAdd, wI, wSub, wMul, wMod, wDiv, wPow, dUn, wNeg, wEq, wNe, wCmpI, wLt, wLe, wGt, wGe, wIs, wIsNot, wIsN, wIn, wNotIn, dChain, wIx, dIxP, dPeek, dNoPart, dPart, dSlL, dSlS, dCl, dClO, wLen, dLenP, wAbs, wMax2, wMin2, wInt, wStr, wAll, wAny, wSum, wListO, wTuple, wRepr, dSm, dSmO, wJoin, wSplit, wPart, wFmt, dFmt, dJs, dJoined, dIsI, dIsI2, isT, isTg, tgD, dMut, dMl, wAppend, wPop, wPopAt, wReverse, wClear, wCat, wRepS, wExtend, wInsert, dgSub, dAugS, onSc, dLenS, dIxS, dSlSc, dLenSet, dBor, dBorT, dBorO, dListP, borE, isFlat, dCall, dCallO, dCallT, callQT, dNilB, dConsB, dRefB, dScB, dTmp, dTmpC, dTmpV, toFz, toOw, wipeE, backE, putR, dSetR, dRetR, dCallR, dIfR, List.map, List.map_cons, List.map_nil, List.set_cons_zero, List.set_cons_succ, List.getElem?_cons_succ, List.getElem?_cons_zero, List.getElem?_nil, List.cons_append, List.nil_append, List.length_cons, List.length_nil, List.replicate, List.getD_cons_zero, List.getD_cons_succ]
    have nx : ∀ o : Option Str, (∀ z, o = some z → z = y) → ∀ (j : Nat) (z : Str), (ss ++ [o])[j]? = some (some z) → ys[j]? = some z := fun o ho j z h => by
      by_cases hj : j < ss.length
      · rw [List.getElem?_append_left hj] at h
        exact hss j z h
      · have : j = ss.length := by
          have := (List.getElem?_eq_some_iff.mp h).1
          rw [List.length_append, List.length_singleton] at this
          omega
        subst this
        rw [List.getElem?_append_right (Nat.le_refl _), Nat.sub_self] at h
        have h' : o = some z := Option.some.inj h
        rw [ho z h', hsl]
        exact hy
    refine ⟨dp_i, iteB (fun _ => ?_) fun _ => ?_⟩
    · exact ⟨src2, ss ++ [none], rfl, hv6, by rw [List.map_append]; rfl, by rw [List.length_append, hsl]; rfl, nx none fun _ h => nomatch h⟩
    · exact ⟨src2, ss ++ [some y], rfl, hv6, by rw [List.map_append]; rfl, by rw [List.length_append, hsl]; rfl, nx (some y) fun _ h => (Option.some.inj h).symm⟩
  rintro acc e ⟨src, ss, rfl, hv5, rfl, hsl, hss⟩
  rw [List.length_map] at hv5 hsl
  refine ⟨rfl, fun po hpo => ?_⟩
  have vs : VSeen ss := by
    refine ⟨fun y hy => ?_, fun a b y h1 h2 => ?_, by rw [hsl]; exact vy.lo, by rw [hsl]; exact vy.hi⟩
    · obtain ⟨j, hj⟩ := List.mem_iff_getElem?.mp hy
      exact vy.ok y (List.mem_of_getElem? (hss j y hj))
    · have e1 := hss a y h1
      have e2 := hss b y h2
      exact (List.getElem?_inj (List.getElem?_eq_some_iff.mp e1).1 vy.nd).mp (e1.trans e2.symm)
  have epo : po = none := by
    have h' : (Ent.ow none (.lst (ys.map PyData.str)) : Ent) = .ow po (.lst (ys.map PyData.str)) := Option.some.inj hpo
    injection h' with h' _
    exact h'.symm
  subst epo
  dsimp only [dSeq, dIfS, dSet, dSetO, dRet, dRetO, dRetN, dDrop, dNext, dNever, dBrk, dCnt, dVar, dVarO, dC, dOp, dOpO, dBl, onB, dTru, truD, dAnd, dOr, dNot, dAndV, dOrV, dNotV, dIf, dIfO, dFr, frO, dNilA, dConsA, dTup, dLst, dgN, dgNil, dgCons, dgTup, dAsg, dPar, dAug, dFor, dForP, dLc, dLcP, dItL, dItT, dItS, onL, dRng1, dRng2, on1, on2, onI, onS, onT, onQ, dEnum, dZip, dRev, wAdd, wI, wSub, wMul, wMod, wDiv, wPow, dUn, wNeg, wEq, wNe, wCmpI, wLt, wLe, wGt, wGe, wIs, wIsNot, wIsN, wIn, wNotIn, dChain, wIx, dIxP, dPeek, dNoPart, dPart, dSlL, dSlS, dCl, dClO, wLen, dLenP, wAbs, wMax2, wMin2, wInt, wStr, wAll, wAny, wSum, wListO, wTuple, wRepr, dSm, dSmO, wJoin, wSplit, wPart, wFmt, dFmt, dJs, dJoined, dIsI, dIsI2, isT, isTg, tgD, dMut, dMl, wAppend, wPop, wPopAt, wReverse, wClear, wCat, wRepS, wExtend, wInsert, dgSub, dAugS, onSc, dLenS, dIxS, dSlSc, dLenSet, dBor, dBorT, dBorO, dListP, borE, isFlat, dCall, dCallO, dCallT, callQT, dNilB, dConsB, dRefB, dScB, dTmp, dTmpC, dTmpV, toFz, toOw, wipeE, backE, putR, dSetR, dRetR, dCallR, dIfR, List.map, List.map_cons, List.map_nil, List.set_cons_zero, List.set_cons_succ, List.getElem?_cons_succ, List.getElem?_cons_zero, List.getElem?_nil, List.cons_append, List.nil_append, List.length_cons, List.length_nil, List.replicate, List.getD_cons_zero, List.getD_cons_succ, b_law_3]
  refine ⟨by decide, by decide, by decide, by decide, ?_⟩
  dsimp only [dSeq, dIfS, dSet, dSetO, dRet, dRetO, dRetN, dDrop, dNext, dNever, dBrk, dCnt, dVar, dVarO, dC, dOp, dOpO, dBl, onB, dTru, truD, dAnd, dOr, dNot, dAndV, dOrV, dNotV, dIf, dIfO, dFr, frO, dNilA, dConsA, dTup, dLst, dgN, dgNil, dgCons, dgTup, dAsg, dPar, dAug, dFor, dForP, dLc, dLcP, dItL, dItT, dItS, onL, dRng1, dRng2, on1, on2, onI, onS, onT, onQ, dEnum, dZip, dRev, wAdd, wI, wSub, wMul, wMod, wDiv, wPow, dUn, wNeg, wEq, wNe, wCmpI, wLt, wLe, wGt, wGe, wIs, wIsNot, wIsN, wIn, wNotIn, dChain, wIx, dIxP, dPeek, dNoPart, dPart, dSlL, dSlS, dCl, dClO, wLen, dLenP, wAbs, wMax2, wMin2, wInt, wStr, wAll, wAny, wSum, wListO, wTuple, wRepr, dSm, dSmO, wJoin, wSplit, wPart, wFmt, dFmt, dJs, dJoined, dIsI, dIsI2, isT, isTg, tgD, dMut, dMl, wAppend, wPop, wPopAt, wReverse, wClear, wCat, wRepS, wExtend, wInsert, dgSub, dAugS, onSc, dLenS, dIxS, dSlSc, dLenSet, dBor, dBorT, dBorO, dListP, borE, isFlat, dCall, dCallO, dCallT, callQT, dNilB, dConsB, dRefB, dScB, dTmp, dTmpC, dTmpV, toFz, toOw, wipeE, backE, putR, dSetR, dRetR, dCallR, dIfR, List.map, List.map_cons, List.map_nil, List.set_cons_zero, List.set_cons_succ, List.getElem?_cons_succ, List.getElem?_cons_zero, List.getElem?_nil, List.cons_append, List.nil_append, List.length_cons, List.length_nil, List.replicate, List.getD_cons_zero, List.getD_cons_succ, b_law_2]
  refine right_call (door := 0) (by decide) rfl rfl (hv5.mono (n := 400) (by omega)) (by omega) (.inl ⟨rfl, ys, vy, rfl, rfl⟩) fun src6 row6 hv6 => ?_
  dsimp only [dSeq, dIfS, dSet, dSetO, dRet, dRetO, dRetN, dDrop, dNext, dNever, dBrk, dCnt, dVar, dVarO, dC, dOp, dOpO, dBl, onB, dTru, truD, dAnd, dOr, dNot, dAndV, dOrV, dNotV, dIf, dIfO, dFr, frO, dNilA, dConsA, dTup, dLst, dgN, dgNil, dgCons, dgTup, dAsg, dPar, dAug, dFor, dForP, dLc, dLcP, dItL, dItT, dItS, onL, dRng1, dRng2, on1, on2, onI, onS, onT, onQ, dEnum, dZip, dRev, wAdd, wI, wSub, wMul, wMod, wDiv, wPow, dUn, wNeg, wEq, wNe, wCmpI, wLt, wLe, wGt, wGe, wIs, wIsNot, wIsN, wIn, wNotIn, dChain, wIx, dIxP, dPeek, dNoPart, dPart, dSlL, dSlS, dCl, dClO, wLen, dLenP, wAbs, wMax2, wMin2, wInt, wStr, wAll, wAny, wSum, wListO, wTuple, wRepr, dSm, dSmO, wJoin, wSplit, wPart, wFmt, dFmt, dJs, dJoined, dIsI, dIsI2, isT, isTg, tgD, dMut, dMl, wAppend, wPop, wPopAt, wReverse, wClear, wCat, wRepS, wExtend, wInsert, dgSub, dAugS, onSc, dLenS, dIxS, dSlSc, dLenSet, dBor, dBorT, dBorO, dListP, borE, isFlat, dCall, dCallO, dCallT, callQT, dNilB, dConsB, dRefB, dScB, dTmp, dTmpC, dTmpV, toFz, toOw, wipeE, backE, putR, dSetR, dRetR, dCallR, dIfR, List.map, List.map_cons, List.map_nil, List.set_cons_zero, List.set_cons_succ, List.getElem?_cons_succ, List.getElem?_cons_zero, List.getElem?_nil, List.cons_append, List.nil_append, List.length_cons, List.length_nil, List.replicate, List.getD_cons_zero, List.getD_cons_succ]
  refine iteF' rfl ?_
  refine right_call (door := 1) (by decide) rfl rfl hv6 (by omega) (.inr (.inl ⟨rfl, ss, vs, rfl, rfl⟩)) fun src7 row7 hv7 => ?_
  dsimp only [dSeq, dIfS, dSet, dSetO, dRet, dRetO, dRetN, dDrop, dNext, dNever, dBrk, dCnt, dVar, dVarO, dC, dOp, dOpO, dBl, onB, dTru, truD, dAnd, dOr, dNot, dAndV, dOrV, dNotV, dIf, dIfO, dFr, frO, dNilA, dConsA, dTup, dLst, dgN, dgNil, dgCons, dgTup, dAsg, dPar, dAug, dFor, dForP, dLc, dLcP, dItL, dItT, dItS, onL, dRng1, dRng2, on1, on2, onI, onS, onT, onQ, dEnum, dZip, dRev, wAdd, wI, wSub, wMul, wMod, wDiv, wPow, dUn, wNeg, wEq, wNe, wCmpI, wLt, wLe, wGt, wGe, wIs, wIsNot, wIsN, wIn, wNotIn, dChain, wIx, dIxP, dPeek, dNoPart, dPart, dSlL, dSlS, dCl, dClO, wLen, dLenP, wAbs, wMax2, wMin2, wInt, wStr, wAll, wAny, wSum, wListO, wTuple, wRepr, dSm, dSmO, wJoin, wSplit, wPart, wFmt, dFmt, dJs, dJoined, dIsI, dIsI2, isT, isTg, tgD, dMut, dMl, wAppend, wPop, wPopAt, wReverse, wClear, wCat, wRepS, wExtend, wInsert, dgSub, dAugS, onSc, dLenS, dIxS, dSlSc, dLenSet, dBor, dBorT, dBorO, dListP, borE, isFlat, dCall, dCallO, dCallT, callQT, dNilB, dConsB, dRefB, dScB, dTmp, dTmpC, dTmpV, toFz, toOw, wipeE, backE, putR, dSetR, dRetR, dCallR, dIfR, List.map, List.map_cons, List.map_nil, List.set_cons_zero, List.set_cons_succ, List.getElem?_cons_succ, List.getElem?_cons_zero, List.getElem?_nil, List.cons_append, List.nil_append, List.length_cons, List.length_nil, List.replicate, List.getD_cons_zero, List.getD_cons_succ, b_law_1]
  refine iteF' rfl ?_
  refine callS rfl rfl ⟨rfl, rfl⟩ hv7 (by omega) fun r src8 ⟨es8, ve, e⟩ hv8 => ?_
  subst e
  dsimp only [dSeq, dIfS, dSet, dSetO, dRet, dRetO, dRetN, dDrop, dNext, dNever, dBrk, dCnt, dVar, dVarO, dC, dOp, dOpO, dBl, onB, dTru, truD, dAnd, dOr, dNot, dAndV, dOrV, dNotV, dIf, dIfO, dFr, frO, dNilA, dConsA, dTup, dLst, dgN, dgNil, dgCons, dgTup, dAsg, dPar, dAug, dFor, dForP, dLc, dLcP, dItL, dItT, dItS, onL, dRng1, dRng2, on1, on2, onI, onS, onT, onQ, dEnum, dZip, dRev, wAdd, wI, wSub, wMul, wMod, wDiv, wPow, dUn, wNeg, wEq, wNe, wCmpI, wLt, wLe, wGt, wGe, wIs, wIsNot, wIsN, wIn, wNotIn, dChain, wIx, dIxP, dPeek, dNoPart, dPart, dSlL, dSlS, dCl, dClO, wLen, dLenP, wAbs, wMax2, wMin2, wInt, wStr, wAll, wAny, wSum, wListO, wTuple, wRepr, dSm, dSmO, wJoin, wSplit, wPart, wFmt, dFmt, dJs, dJoined, dIsI, dIsI2, isT, isTg, tgD, dMut, dMl, wAppend, wPop, wPopAt, wReverse, wClear, wCat, wRepS, wExtend, wInsert, dgSub, dAugS, onSc, dLenS, dIxS, dSlSc, dLenSet, dBor, dBorT, dBorO, dListP, borE, isFlat, dCall, dCallO, dCallT, callQT, dNilB, dConsB, dRefB, dScB, dTmp, dTmpC, dTmpV, toFz, toOw, wipeE, backE, putR, dSetR, dRetR, dCallR, dIfR, List.map, List.map_cons, List.map_nil, List.set_cons_zero, List.set_cons_succ, List.getElem?_cons_succ, List.getElem?_cons_zero, List.getElem?_nil, List.cons_append, List.nil_append, List.length_cons, List.length_nil, List.replicate, List.getD_cons_zero, List.getD_cons_succ]
  refine ⟨⟨_, rfl⟩, ?_⟩
  refine right_call (door := 2) (j := 2) (k := 8) (by decide) rfl rfl hv8 (by omega) (.inr (.inr (.inl ⟨rfl, es8, ve, rfl, rfl⟩))) fun src9 row9 hv9 => ?_
  refine ⟨[.sc ns, .fz (.int (i : Nat)), .ow none (.lst src9), .fz (.int sz), .ow none (.lst row6), .ow none (.lst row7), .ow none (.lst [PyData.list [], .list [.int 0], .list [.int 39, .int 0]]), .no], .ow none (.lst row9), rfl, rfl, ?_⟩
  dsimp only [dSeq, dIfS, dSet, dSetO, dRet, dRetO, dRetN, dDrop, dNext, dNever, dBrk, dCnt, dVar, dVarO, dC, dOp, dOpO, dBl, onB, dTru, truD, dAnd, dOr, dNot, dAndV, dOrV, dNotV, dIf, dIfO, dFr, frO, dNilA, dConsA, dTup, dLst, dgN, dgNil, dgCons, dgTup, dAsg, dPar, dAug, dFor, dForP, dLc, dLcP, dItL, dItT, dItS, onL, dRng1, dRng2, on1, on2, onI, onS, onT, onQ, dEnum, dZip, dRev, wAdd, wI, wSub, wMul, wMod, wDiv, wPow, dUn, wNeg, wEq, wNe, wCmpI, wLt, wLe, wGt, wGe, wIs, wIsNot, wIsN, wIn, wNotIn, dChain, wIx, dIxP, dPeek, dNoPart, dPart, dSlL, dSlS, dCl, dClO, wLen, dLenP, wAbs, wMax2, wMin2, wInt, wStr, wAll, wAny, wSum, wListO, wTuple, wRepr, dSm, dSmO, wJoin, wSplit, wPart, wFmt, dFmt, dJs, dJoined, dIsI, dIsI2, isT, isTg, tgD, dMut, dMl, wAppend, wPop, wPopAt, wReverse, wClear, wCat, wRepS, wExtend, wInsert, dgSub, dAugS, onSc, dLenS, dIxS, dSlSc, dLenSet, dBor, dBorT, dBorO, dListP, borE, isFlat, dCall, dCallO, dCallT, callQT, dNilB, dConsB, dRefB, dScB, dTmp, dTmpC, dTmpV, toFz, toOw, wipeE, backE, putR, dSetR, dRetR, dCallR, dIfR, List.map, List.map_cons, List.map_nil, List.set_cons_zero, List.set_cons_succ, List.getElem?_cons_succ, List.getElem?_cons_zero, List.getElem?_nil, List.cons_append, List.nil_append, List.length_cons, List.length_nil, List.replicate, List.getD_cons_zero, List.getD_cons_succ]
  refine iteF' rfl ?_
  have vt : VTurns [[], [0], [39, 0]] := by
    refine ⟨fun t ht => ?_, by decide, by decide⟩
    rcases (by simpa using ht : t = [] ∨ t = [0] ∨ t = [39, 0]) with rfl | rfl | rfl
    · exact ⟨by decide, by decide, by decide⟩
    · exact ⟨by decide, by decide, by decide⟩
    · exact ⟨by decide, by decide, by decide⟩
  refine right_call (door := 3) (by decide) rfl rfl hv9 (by omega) (.inr (.inr (.inr ⟨rfl, _, vt, rfl, rfl⟩))) fun src10 row10 hv10 => ?_
  dsimp only [dSeq, dIfS, dSet, dSetO, dRet, dRetO, dRetN, dDrop, dNext, dNever, dBrk, dCnt, dVar, dVarO, dC, dOp, dOpO, dBl, onB, dTru, truD, dAnd, dOr, dNot, dAndV, dOrV, dNotV, dIf, dIfO, dFr, frO, dNilA, dConsA, dTup, dLst, dgN, dgNil, dgCons, dgTup, dAsg, dPar, dAug, dFor, dForP, dLc, dLcP, dItL, dItT, dItS, onL, dRng1, dRng2, on1, on2, onI, onS, onT, onQ, dEnum, dZip, dRev, wAdd, wI, wSub, wMul, wMod, wDiv, wPow, dUn, wNeg, wEq, wNe, wCmpI, wLt, wLe, wGt, wGe, wIs, wIsNot, wIsN, wIn, wNotIn, dChain, wIx, dIxP, dPeek, dNoPart, dPart, dSlL, dSlS, dCl, dClO, wLen, dLenP, wAbs, wMax2, wMin2, wInt, wStr, wAll, wAny, wSum, wListO, wTuple, wRepr, dSm, dSmO, wJoin, wSplit, wPart, wFmt, dFmt, dJs, dJoined, dIsI, dIsI2, isT, isTg, tgD, dMut, dMl, wAppend, wPop, wPopAt, wReverse, wClear, wCat, wRepS, wExtend, wInsert, dgSub, dAugS, onSc, dLenS, dIxS, dSlSc, dLenSet, dBor, dBorT, dBorO, dListP, borE, isFlat, dCall, dCallO, dCallT, callQT, dNilB, dConsB, dRefB, dScB, dTmp, dTmpC, dTmpV, toFz, toOw, wipeE, backE, putR, dSetR, dRetR, dCallR, dIfR, List.map, List.map_cons, List.map_nil, List.set_cons_zero, List.set_cons_succ, List.getElem?_cons_succ, List.getElem?_cons_zero, List.getElem?_nil, List.cons_append, List.nil_append, List.length_cons, List.length_nil, List.replicate, List.getD_cons_zero, List.getD_cons_succ]
  exact iteF' rfl ⟨_, _, _, _, _, _, rfl⟩
end K95

namespace K95
open PySem PySem.Spec PyProof.Rows L2 PD
def topS (i : Nat) : Stmt := PySem.Challenge.pw_onceswapped_k95_lists_changed_in_place.main.body.getD i (.Pass ⟨0, 0, 0, 0⟩)
structure Txt (K : PySem.W.Frag) (mg : Str → Option Value) : Prop where
  z_BLANK : ∃ t, mg "BLANK" = some (.str (PySem.Str.ofString " ") t)
  z_DIGITS : ∃ t, mg "DIGITS" = some (.str (PySem.Str.ofString "0123456789") t)
  z_EMPTY : ∃ t, mg "EMPTY" = some (.str (PySem.Str.ofString "-") t)
  z_JOINT : ∃ t, mg "JOINT" = some (.str (PySem.Str.ofString "-") t)
  z_LETTERS : ∃ t, mg "LETTERS" = some (.str (PySem.Str.ofString "abcdefghijklmnopqrstuvwxyz") t)
  z_MOST_EDGES : ∃ t, mg "MOST_EDGES" = some (.int 100 t)
  z_MOST_LETTERS : ∃ t, mg "MOST_LETTERS" = some (.int 8 t)
  z_MOST_POSITIONS : ∃ t, mg "MOST_POSITIONS" = some (.int 40 t)
  z_NEWLINE : ∃ t, mg "NEWLINE" = some (.str (PySem.Str.ofString "\n") t)
  z_UNKNOWN : ∃ t, mg "UNKNOWN" = some (.str (PySem.Str.ofString "?") t)
  z_abs : mg "abs" = none
  z_all : mg "all" = none
  z_bool : mg "bool" = none
  z_enumerate : mg "enumerate" = none
  z_int : mg "int" = none
  z_isinstance : mg "isinstance" = none
  z_len : mg "len" = none
  z_list : mg "list" = none
  z_max : mg "max" = none
  z_min : mg "min" = none
  z_range : mg "range" = none
  z_set : mg "set" = none
  z_str : mg "str" = none
  z_tuple : mg "tuple" = none
  f_is_integer : ∃ f fd, Fun K "is_integer" "is_integer" (topS 5) f fd ∧ mg "is_integer" = some (.ref f) ∧ Binds K fd ["thing", "least", "most"] []
  f_is_edge : ∃ f fd, Fun K "is_edge" "is_edge" (topS 6) f fd ∧ mg "is_edge" = some (.ref f) ∧ Binds K fd ["thing", "size"] []
  f_is_item : ∃ f fd, Fun K "is_item" "is_item" (topS 10) f fd ∧ mg "is_item" = some (.ref f) ∧ Binds K fd ["thing"] []
  f_write_items : ∃ f fd, Fun K "write_items" "write_items" (topS 19) f fd ∧ mg "write_items" = some (.ref f) ∧ Binds K fd ["items"] []
  f_write_seen : ∃ f fd, Fun K "write_seen" "write_seen" (topS 20) f fd ∧ mg "write_seen" = some (.ref f) ∧ Binds K fd ["seen"] []
  f_write_edges : ∃ f fd, Fun K "write_edges" "write_edges" (topS 21) f fd ∧ mg "write_edges" = some (.ref f) ∧ Binds K fd ["edges"] []
  f_write_turns : ∃ f fd, Fun K "write_turns" "write_turns" (topS 22) f fd ∧ mg "write_turns" = some (.ref f) ∧ Binds K fd ["turns"] []
  f_position_in : ∃ f fd, Fun K "position_in" "position_in" (topS 23) f fd ∧ mg "position_in" = some (.ref f) ∧ Binds K fd ["word"] []
  f_edge_in : ∃ f fd, Fun K "edge_in" "edge_in" (topS 24) f fd ∧ mg "edge_in" = some (.ref f) ∧ Binds K fd ["word"] []
  f_turn_in : ∃ f fd, Fun K "turn_in" "turn_in" (topS 25) f fd ∧ mg "turn_in" = some (.ref f) ∧ Binds K fd ["line"] []
  f_read_items : ∃ f fd, Fun K "read_items" "read_items" (topS 26) f fd ∧ mg "read_items" = some (.ref f) ∧ Binds K fd ["text"] []
  f_read_seen : ∃ f fd, Fun K "read_seen" "read_seen" (topS 27) f fd ∧ mg "read_seen" = some (.ref f) ∧ Binds K fd ["text"] []
  f_read_edges : ∃ f fd, Fun K "read_edges" "read_edges" (topS 28) f fd ∧ mg "read_edges" = some (.ref f) ∧ Binds K fd ["text"] []
  f_read_turns : ∃ f fd, Fun K "read_turns" "read_turns" (topS 29) f fd ∧ mg "read_turns" = some (.ref f) ∧ Binds K fd ["text"] []
  f__law_source : ∃ f fd, Fun K "_law_source" "_law_source" (topS 31) f fd ∧ mg "_law_source" = some (.ref f) ∧ Binds K fd ["script", "k"] []
  f__law_pick : ∃ f fd, Fun K "_law_pick" "_law_pick" (topS 32) f fd ∧ mg "_law_pick" = some (.ref f) ∧ Binds K fd ["source", "count"] []
  f__law_shuffled : ∃ f fd, Fun K "_law_shuffled" "_law_shuffled" (topS 33) f fd ∧ mg "_law_shuffled" = some (.ref f) ∧ Binds K fd ["source", "row"] []
  f__law_names : ∃ f fd, Fun K "_law_names" "_law_names" (topS 34) f fd ∧ mg "_law_names" = some (.ref f) ∧ Binds K fd ["source", "size"] []
  f__law_all_pairs : ∃ f fd, Fun K "_law_all_pairs" "_law_all_pairs" (topS 35) f fd ∧ mg "_law_all_pairs" = some (.ref f) ∧ Binds K fd ["span"] []
  f__law_pairs : ∃ f fd, Fun K "_law_pairs" "_law_pairs" (topS 36) f fd ∧ mg "_law_pairs" = some (.ref f) ∧ Binds K fd ["source", "most"] []
  f__law_change : ∃ f fd, Fun K "_law_change" "_law_change" (topS 37) f fd ∧ mg "_law_change" = some (.ref f) ∧ Binds K fd ["source", "row", "most", "new"] []
  f__law_page : ∃ f fd, Fun K "_law_page" "_law_page" (topS 38) f fd ∧ mg "_law_page" = some (.ref f) ∧ Binds K fd ["door", "row"] []
  f__law_written : ∃ f fd, Fun K "_law_written" "_law_written" (topS 39) f fd ∧ mg "_law_written" = some (.ref f) ∧ Binds K fd ["door", "row"] []
  f__law_read : ∃ f fd, Fun K "_law_read" "_law_read" (topS 40) f fd ∧ mg "_law_read" = some (.ref f) ∧ Binds K fd ["door", "page"] []
  f__law_new : ∃ f fd, Fun K "_law_new" "_law_new" (topS 41) f fd ∧ mg "_law_new" = some (.ref f) ∧ Binds K fd ["source", "door"] []
  f__law_right : ∃ f fd, Fun K "_law_right" "_law_right" (topS 42) f fd ∧ mg "_law_right" = some (.ref f) ∧ Binds K fd ["source", "door", "row", "most"] []
  f_law : ∃ f fd, Fun K "law" "law" (topS 43) f fd ∧ mg "law" = some (.ref f) ∧ Binds K fd ["script"] []
section
variable {P : Program} {w : World} {K : PySem.W.Frag} {mg : Str → Option Value} {base : Heap}
abbrev s_is_integer : Stmt := topS 5
theorem sc_is_integer : FnScope ["thing", "least", "most"] ["thing", "least", "most"] (defScope s_is_integer) := ⟨rfl, rfl, rfl, by decide +kernel, rfl, by decide +kernel, by decide +kernel⟩
theorem wk_is_integer (T : Txt K mg)  (cod : Value) (A : Around) (outer : List Env) (s : Shared) (H : Hp) (E : XK) {f : Addr} (hr : RoomG 0 (A.deeper (envOfC "is_integer" (defScope s_is_integer) s.heap.objs.size f cod))) :
    PSs (cxOf CX0 P w K mg base ["thing", "least", "most"] "is_integer" (defScope s_is_integer) f cod A outer s H E).nox (defBody s_is_integer) (tDS K b_is_integer) :=
    (dss1 (dret (dAnd_ (disi .int rfl (by rfl) T.z_isinstance (by rfl) T.z_int (by decide +kernel) (dn 0)) (dAnd_ (dNot_ (disi .bool rfl (by rfl) T.z_isinstance (by rfl) T.z_bool (by decide +kernel) (dn 0))) (do1 (dchain oLe oLe (dn 1) (dn 0) (dn 2)))))))
theorem ok_is_integer (T : Txt K mg) : CalD P w K mg base 1 "is_integer" ["thing", "least", "most"] post_is_integer := by
  obtain ⟨f, fd, Fu, hm, hb⟩ := T.f_is_integer
  exact ⟨f, fd, fnD Fu sc_is_integer ln_is_integer (fun cod A outer s H E hr => wk_is_integer T  cod A outer s H E hr) pu_is_integer, hm, Fu.kp, hb⟩
abbrev s_is_edge : Stmt := topS 6
theorem sc_is_edge : FnScope ["thing", "size", "one"] ["thing", "size"] (defScope s_is_edge) := ⟨rfl, rfl, rfl, by decide +kernel, rfl, by decide +kernel, by decide +kernel⟩
theorem wk_is_edge (T : Txt K mg) (c_is_integer : CalD P w K mg base 1 "is_integer" ["thing", "least", "most"] post_is_integer) (cod : Value) (A : Around) (outer : List Env) (s : Shared) (H : Hp) (E : XK) {f : Addr} (hr : RoomG 1 (A.deeper (envOfC "is_edge" (defScope s_is_edge) s.heap.objs.size f cod))) :
    PSs (cxOf CX0 P w K mg base ["thing", "size", "one"] "is_edge" (defScope s_is_edge) f cod A outer s H E).nox (defBody s_is_edge) (tDS K b_is_edge) :=
    (dssc (difs (PW.pt (dwOr (dtNot (dtTru rfl (disi .tuple rfl (by rfl) T.z_isinstance (by rfl) T.z_tuple (by decide +kernel) (dn 0)))) (dwOr (dtCmp (oNe rfl hr.hu) (dcb (cLen rfl) (by rfl) T.z_len (by decide +kernel) (dac (dn 0) dan)) di (nomark _)) (dwo1 (dtNot (dtTru rfl (dcb (cAll rfl rfl) (by rfl) T.z_all (by decide +kernel) (dac (dfr (dlc (bn := [("one", 2)]) rfl sc_is_edge.nd (dit rfl (dn 0)) (blkOk_by (by rfl)) (fun _ _ _ _ _ => (dgn (ws := [2]) (by decide) sc_is_edge.nd rfl (by first | exact .inl rfl | exact .inr rfl))) (fun _ _ _ _ _ => dty) (fun _ _ _ _ _ => (dcl c_is_integer (hr.mono (by decide)) (dbc (dn 2) (dbc di (dbc (dop oSub (dn 1) di) dbn))) (hK := rfl))))) dan))))))))
      (dss1 (dret db))
      dssn)
      (dss1 (dret (dcmp oLt (dix rfl (dn 0) di (fun _ _ => rfl)) (dix rfl (dn 0) di (fun _ _ => rfl)) (nomark _)))))
theorem ok_is_edge (T : Txt K mg) : CalD P w K mg base 2 "is_edge" ["thing", "size"] post_is_edge := by
  obtain ⟨f, fd, Fu, hm, hb⟩ := T.f_is_edge
  exact ⟨f, fd, fnD Fu sc_is_edge ln_is_edge (fun cod A outer s H E hr => wk_is_edge T (ok_is_integer T) cod A outer s H E hr) pu_is_edge, hm, Fu.kp, hb⟩
abbrev s_is_item : Stmt := topS 10
theorem sc_is_item : FnScope ["thing", "letter"] ["thing"] (defScope s_is_item) := ⟨rfl, rfl, rfl, by decide +kernel, rfl, by decide +kernel, by decide +kernel⟩
theorem wk_is_item (T : Txt K mg)  (cod : Value) (A : Around) (outer : List Env) (s : Shared) (H : Hp) (E : XK) {f : Addr} (hr : RoomG 0 (A.deeper (envOfC "is_item" (defScope s_is_item) s.heap.objs.size f cod))) :
    PSs (cxOf CX0 P w K mg base ["thing", "letter"] "is_item" (defScope s_is_item) f cod A outer s H E).nox (defBody s_is_item) (tDS K b_is_item) :=
    (dssc (difs (PW.pt (dwOr (dtNot (dtTru rfl (disi .str rfl (by rfl) T.z_isinstance (by rfl) T.z_str (by decide +kernel) (dn 0)))) (dwo1 (dtNot (dtChain oLe oLe di (dcb (cLen rfl) (by rfl) T.z_len (by decide +kernel) (dac (dn 0) dan)) (dgI (by rfl) T.z_MOST_LETTERS.choose_spec))))))
      (dss1 (dret db))
      dssn)
      (dss1 (dret (dcb (cAll rfl rfl) (by rfl) T.z_all (by decide +kernel) (dac (dfr (dlc (bn := [("letter", 1)]) rfl sc_is_item.nd (dis_ (dn 0)) (blkOk_by (by rfl)) (fun _ _ _ _ _ => (dgn (ws := [1]) (by decide) sc_is_item.nd rfl (by first | exact .inl rfl | exact .inr rfl))) (fun _ _ _ _ _ => dty) (fun _ _ _ _ _ => (dcmp (oIn rfl hr.hu5) (dn 1) (dgS (by rfl) T.z_LETTERS.choose_spec) (by rfl))))) dan)))))
theorem ok_is_item (T : Txt K mg) : CalD P w K mg base 1 "is_item" ["thing"] post_is_item := by
  obtain ⟨f, fd, Fu, hm, hb⟩ := T.f_is_item
  exact ⟨f, fd, fnD Fu sc_is_item ln_is_item (fun cod A outer s H E hr => wk_is_item T  cod A outer s H E hr) pu_is_item, hm, Fu.kp, hb⟩
abbrev s_write_items : Stmt := topS 19
theorem sc_write_items : FnScope ["items"] ["items"] (defScope s_write_items) := ⟨rfl, rfl, rfl, by decide +kernel, rfl, by decide +kernel, by decide +kernel⟩
theorem wk_write_items (T : Txt K mg)  (cod : Value) (A : Around) (outer : List Env) (s : Shared) (H : Hp) (E : XK) {f : Addr} (hr : RoomG 0 (A.deeper (envOfC "write_items" (defScope s_write_items) s.heap.objs.size f cod))) :
    PSs (cxOf CX0 P w K mg base ["items"] "write_items" (defScope s_write_items) f cod A outer s H E).nox (defBody s_write_items) (tDS K b_write_items) :=
    (dss1 (dret (djoin rfl (dgS (by rfl) T.z_BLANK.choose_spec) (dn 0))))
theorem ok_write_items (T : Txt K mg) : CalD P w K mg base 1 "write_items" ["items"] post_write_items := by
  obtain ⟨f, fd, Fu, hm, hb⟩ := T.f_write_items
  exact ⟨f, fd, fnD Fu sc_write_items ln_write_items (fun cod A outer s H E hr => wk_write_items T  cod A outer s H E hr) pu_write_items, hm, Fu.kp, hb⟩
abbrev s_write_seen : Stmt := topS 20
theorem sc_write_seen : FnScope ["seen", "item"] ["seen"] (defScope s_write_seen) := ⟨rfl, rfl, rfl, by decide +kernel, rfl, by decide +kernel, by decide +kernel⟩
theorem wk_write_seen (T : Txt K mg)  (cod : Value) (A : Around) (outer : List Env) (s : Shared) (H : Hp) (E : XK) {f : Addr} (hr : RoomG 0 (A.deeper (envOfC "write_seen" (defScope s_write_seen) s.heap.objs.size f cod))) :
    PSs (cxOf CX0 P w K mg base ["seen", "item"] "write_seen" (defScope s_write_seen) f cod A outer s H E).nox (defBody s_write_seen) (tDS K b_write_seen) :=
    (dss1 (dret (djoin rfl (dgS (by rfl) T.z_BLANK.choose_spec) (dfr (dlc (bn := [("item", 1)]) rfl sc_write_seen.nd (dil rfl (dn 0)) (blkOk_by (by rfl)) (fun _ _ _ _ _ => (dgn (ws := [1]) (by decide) sc_write_seen.nd rfl (by first | exact .inl rfl | exact .inr rfl))) (fun _ _ _ _ _ => dty) (fun _ _ _ _ _ => (dif (dtCmp oIs (dn 1) dnone (nomark _)) (dgS (by rfl) T.z_UNKNOWN.choose_spec) (dn 1))))))))
theorem ok_write_seen (T : Txt K mg) : CalD P w K mg base 1 "write_seen" ["seen"] post_write_seen := by
  obtain ⟨f, fd, Fu, hm, hb⟩ := T.f_write_seen
  exact ⟨f, fd, fnD Fu sc_write_seen ln_write_seen (fun cod A outer s H E hr => wk_write_seen T  cod A outer s H E hr) pu_write_seen, hm, Fu.kp, hb⟩
abbrev s_write_edges : Stmt := topS 21
theorem sc_write_edges : FnScope ["edges", "first", "second"] ["edges"] (defScope s_write_edges) := ⟨rfl, rfl, rfl, by decide +kernel, rfl, by decide +kernel, by decide +kernel⟩
theorem wk_write_edges (T : Txt K mg)  (cod : Value) (A : Around) (outer : List Env) (s : Shared) (H : Hp) (E : XK) {f : Addr} (hr : RoomG 0 (A.deeper (envOfC "write_edges" (defScope s_write_edges) s.heap.objs.size f cod))) :
    PSs (cxOf CX0 P w K mg base ["edges", "first", "second"] "write_edges" (defScope s_write_edges) f cod A outer s H E).nox (defBody s_write_edges) (tDS K b_write_edges) :=
    (dss1 (dret (dif (dtCmp (oNe rfl hr.hu) (dn 0) (dfr (dlst dan)) (nomark _)) (djoin rfl (dgS (by rfl) T.z_BLANK.choose_spec) (dfr (dlc (bn := [("first", 1), ("second", 2)]) rfl sc_write_edges.nd (dil rfl (dn 0)) (blkOk_by (by rfl)) (fun _ _ _ _ _ => (dgt rfl rfl (dgsc (dgn (ws := [1, 2]) (by decide) sc_write_edges.nd rfl (by first | exact .inl rfl | exact .inr rfl)) (dgsc (dgn (ws := [1, 2]) (by decide) sc_write_edges.nd rfl (by first | exact .inl rfl | exact .inr rfl)) (dgsn (ws := [1, 2])))))) (fun _ _ _ _ _ => dty) (fun _ _ _ _ _ => (djoined (.cons (dfmt (dn 1)) (.cons (dfmt (dgS (by rfl) T.z_JOINT.choose_spec)) (.cons (dfmt (dn 2)) .nil)))))))) (dgS (by rfl) T.z_EMPTY.choose_spec))))
theorem ok_write_edges (T : Txt K mg) : CalD P w K mg base 1 "write_edges" ["edges"] post_write_edges := by
  obtain ⟨f, fd, Fu, hm, hb⟩ := T.f_write_edges
  exact ⟨f, fd, fnD Fu sc_write_edges ln_write_edges (fun cod A outer s H E hr => wk_write_edges T  cod A outer s H E hr) pu_write_edges, hm, Fu.kp, hb⟩
abbrev s_write_turns : Stmt := topS 22
theorem sc_write_turns : FnScope ["turns", "lines", "turn", "position"] ["turns"] (defScope s_write_turns) := ⟨rfl, rfl, rfl, by decide +kernel, rfl, by decide +kernel, by decide +kernel⟩
theorem wk_write_turns (T : Txt K mg)  (cod : Value) (A : Around) (outer : List Env) (s : Shared) (H : Hp) (E : XK) {f : Addr} (hr : RoomG 0 (A.deeper (envOfC "write_turns" (defScope s_write_turns) s.heap.objs.size f cod))) :
    PSs (cxOf CX0 P w K mg base ["turns", "lines", "turn", "position"] "write_turns" (defScope s_write_turns) f cod A outer s H E).nox (defBody s_write_turns) (tDS K b_write_turns) :=
    (dssc (dsetO (i := 1) sc_write_turns.nd rfl (by first | exact .inl rfl | exact .inr rfl) (dlst dan))
      (dssc (dfor PassesOwn.never rfl (dil rfl (dn 0)) (dgn (ws := [2]) (by decide) sc_write_turns.nd rfl (by first | exact .inl rfl | exact .inr rfl))
      (dss1 (dexpr (dappend rfl (pv 1) (dac (dif (dtCmp (oNe rfl hr.hu) (dn 2) (dfr (dlst dan)) (nomark _)) (djoin rfl (dgS (by rfl) T.z_BLANK.choose_spec) (dfr (dlc (bn := [("position", 3)]) rfl sc_write_turns.nd (dil rfl (dn 2)) (blkOk_by (by rfl)) (fun _ _ _ _ _ => (dgn (ws := [3]) (by decide) sc_write_turns.nd rfl (by first | exact .inl rfl | exact .inr rfl))) (fun _ _ _ _ _ => dty) (fun _ _ _ _ _ => (dct cStr (by rfl) T.z_str (by decide +kernel) (dac (dn 3) dan)))))) (dgS (by rfl) T.z_EMPTY.choose_spec)) dan)))))
      (dss1 (dret (djoin rfl (dgS (by rfl) T.z_NEWLINE.choose_spec) (dn 1))))))
theorem ok_write_turns (T : Txt K mg) : CalD P w K mg base 1 "write_turns" ["turns"] post_write_turns := by
  obtain ⟨f, fd, Fu, hm, hb⟩ := T.f_write_turns
  exact ⟨f, fd, fnD Fu sc_write_turns ln_write_turns (fun cod A outer s H E hr => wk_write_turns T  cod A outer s H E hr) pu_write_turns, hm, Fu.kp, hb⟩
abbrev s_position_in : Stmt := topS 23
theorem sc_position_in : FnScope ["word", "sign"] ["word"] (defScope s_position_in) := ⟨rfl, rfl, rfl, by decide +kernel, rfl, by decide +kernel, by decide +kernel⟩
theorem wk_position_in (T : Txt K mg)  (cod : Value) (A : Around) (outer : List Env) (s : Shared) (H : Hp) (E : XK) {f : Addr} (hr : RoomG 0 (A.deeper (envOfC "position_in" (defScope s_position_in) s.heap.objs.size f cod))) :
    PSs (cxOf CX0 P w K mg base ["word", "sign"] "position_in" (defScope s_position_in) f cod A outer s H E).nox (defBody s_position_in) (tDS K b_position_in) :=
    (dssc (difs (PW.pt (dwOr (dtCmp (oEq rfl hr.hu) (dn 0) dstr (nomark _)) (dwOr (dtCmp oGt (dcb (cLen rfl) (by rfl) T.z_len (by decide +kernel) (dac (dn 0) dan)) (dcb (cLen rfl) (by rfl) T.z_len (by decide +kernel) (dac (dct cStr (by rfl) T.z_str (by decide +kernel) (dac (dgI (by rfl) T.z_MOST_POSITIONS.choose_spec) dan)) dan)) (nomark _)) (dwo1 (dtNot (dtTru rfl (dcb (cAll rfl rfl) (by rfl) T.z_all (by decide +kernel) (dac (dfr (dlc (bn := [("sign", 1)]) rfl sc_position_in.nd (dis_ (dn 0)) (blkOk_by (by rfl)) (fun _ _ _ _ _ => (dgn (ws := [1]) (by decide) sc_position_in.nd rfl (by first | exact .inl rfl | exact .inr rfl))) (fun _ _ _ _ _ => dty) (fun _ _ _ _ _ => (dcmp (oIn rfl hr.hu5) (dn 1) (dgS (by rfl) T.z_DIGITS.choose_spec) (by rfl))))) dan))))))))
      (dss1 (dret dnone))
      dssn)
      (dss1 (dret (dif (PW.pt (dwAnd (dtCmp (oEq rfl hr.hu) (dn 0) (dct cStr (by rfl) T.z_str (by decide +kernel) (dac (dct cInt (by rfl) T.z_int (by decide +kernel) (dac (dn 0) dan)) dan)) (nomark _)) (dw1 (dtCmp oLt (dct cInt (by rfl) T.z_int (by decide +kernel) (dac (dn 0) dan)) (dgI (by rfl) T.z_MOST_POSITIONS.choose_spec) (nomark _))))) (dct cInt (by rfl) T.z_int (by decide +kernel) (dac (dn 0) dan)) dnone))))
theorem ok_position_in (T : Txt K mg) : CalD P w K mg base 1 "position_in" ["word"] post_position_in := by
  obtain ⟨f, fd, Fu, hm, hb⟩ := T.f_position_in
  exact ⟨f, fd, fnD Fu sc_position_in ln_position_in (fun cod A outer s H E hr => wk_position_in T  cod A outer s H E hr) pu_position_in, hm, Fu.kp, hb⟩
abbrev s_edge_in : Stmt := topS 24
theorem sc_edge_in : FnScope ["word", "edge", "first", "joint", "second"] ["word"] (defScope s_edge_in) := ⟨rfl, rfl, rfl, by decide +kernel, rfl, by decide +kernel, by decide +kernel⟩
theorem wk_edge_in (T : Txt K mg) (c_position_in : CalD P w K mg base 1 "position_in" ["word"] post_position_in) (c_is_edge : CalD P w K mg base 2 "is_edge" ["thing", "size"] post_is_edge) (cod : Value) (A : Around) (outer : List Env) (s : Shared) (H : Hp) (E : XK) {f : Addr} (hr : RoomG 2 (A.deeper (envOfC "edge_in" (defScope s_edge_in) s.heap.objs.size f cod))) :
    PSs (cxOf CX0 P w K mg base ["word", "edge", "first", "joint", "second"] "edge_in" (defScope s_edge_in) f cod A outer s H E).nox (defBody s_edge_in) (tDS K b_edge_in) :=
    (dssc (dasg (dpart (dn 0) (dgS (by rfl) T.z_JOINT.choose_spec)) (dgt rfl rfl (dgsc (dgn (ws := [2, 3, 4]) (by decide) sc_edge_in.nd rfl (by first | exact .inl rfl | exact .inr rfl)) (dgsc (dgn (ws := [2, 3, 4]) (by decide) sc_edge_in.nd rfl (by first | exact .inl rfl | exact .inr rfl)) (dgsc (dgn (ws := [2, 3, 4]) (by decide) sc_edge_in.nd rfl (by first | exact .inl rfl | exact .inr rfl)) (dgsn (ws := [2, 3, 4])))))))
      (dssc (dset (i := 1) sc_edge_in.nd rfl (by first | exact .inl rfl | exact .inr rfl) (dtup (dac (dcl c_position_in (hr.mono (by decide)) (dbc (dn 2) dbn) (hK := rfl)) (dac (dcl c_position_in (hr.mono (by decide)) (dbc (dn 4) dbn) (hK := rfl)) dan))))
      (dss1 (dret (dif (dtTru rfl (dcl c_is_edge (hr.mono (by decide)) (dbc (dn 1) (dbc (dgI (by rfl) T.z_MOST_POSITIONS.choose_spec) dbn)) (hK := rfl))) (dn 1) dnone)))))
theorem ok_edge_in (T : Txt K mg) : CalD P w K mg base 3 "edge_in" ["word"] post_edge_in := by
  obtain ⟨f, fd, Fu, hm, hb⟩ := T.f_edge_in
  exact ⟨f, fd, fnD Fu sc_edge_in ln_edge_in (fun cod A outer s H E hr => wk_edge_in T (ok_position_in T) (ok_is_edge T) cod A outer s H E hr) pu_edge_in, hm, Fu.kp, hb⟩
abbrev s_turn_in : Stmt := topS 25
theorem sc_turn_in : FnScope ["line", "found", "word"] ["line"] (defScope s_turn_in) := ⟨rfl, rfl, rfl, by decide +kernel, rfl, by decide +kernel, by decide +kernel⟩
theorem wk_turn_in (T : Txt K mg) (c_position_in : CalD P w K mg base 1 "position_in" ["word"] post_position_in) (cod : Value) (A : Around) (outer : List Env) (s : Shared) (H : Hp) (E : XK) {f : Addr} (hr : RoomG 1 (A.deeper (envOfC "turn_in" (defScope s_turn_in) s.heap.objs.size f cod))) :
    PSs (cxOf CX0 P w K mg base ["line", "found", "word"] "turn_in" (defScope s_turn_in) f cod A outer s H E).nox (defBody s_turn_in) (tDS K b_turn_in) :=
    (dssc (difs (dtCmp (oEq rfl hr.hu) (dn 0) (dgS (by rfl) T.z_EMPTY.choose_spec) (nomark _))
      (dss1 (dret (dfr (dlst dan))))
      dssn)
      (dssc (by first | exact (dset (i := 1) sc_turn_in.nd rfl (by first | exact .inl rfl | exact .inr rfl) (dfr (dlc (bn := [("word", 2)]) rfl sc_turn_in.nd (dil rfl (dfr (dsplit (dn 0) (dgS (by rfl) T.z_BLANK.choose_spec)))) (blkOk_by (by rfl)) (fun _ _ _ _ _ => (dgn (ws := [2]) (by decide) sc_turn_in.nd rfl (by first | exact .inl rfl | exact .inr rfl))) (fun _ _ _ _ _ => dty) (fun _ _ _ _ _ => (dcl c_position_in (hr.mono (by decide)) (dbc (dn 2) dbn) (hK := rfl)))))) | exact (dsetLc (i := 1) (bn := [("word", 2)]) rfl sc_turn_in.nd rfl rfl (by rfl) (dil rfl (dfr (dsplit (dn 0) (dgS (by rfl) T.z_BLANK.choose_spec)))) (blkOk_by (by rfl)) (fun _ _ _ _ _ => (dgn (ws := [2]) (by decide) sc_turn_in.nd rfl (by first | exact .inl rfl | exact .inr rfl))) (fun _ _ _ _ _ => dty) (fun _ _ _ _ _ => (dcl c_position_in (hr.mono (by decide)) (dbc (dn 2) dbn) (hK := rfl)))))
      (dss1 (dret (dif (PW.pt (dwAnd (dtCmp (oNotIn rfl hr.hu5) dnone (dn 1) (by rfl)) (dw1 (dtCmp (oEq rfl hr.hu) (dlenset rfl (by rfl) T.z_len (by rfl) T.z_set (dn 1)) (dcb (cLen rfl) (by rfl) T.z_len (by decide +kernel) (dac (dn 1) dan)) (nomark _))))) (dn 1) dnone)))))
theorem ok_turn_in (T : Txt K mg) : CalD P w K mg base 2 "turn_in" ["line"] post_turn_in := by
  obtain ⟨f, fd, Fu, hm, hb⟩ := T.f_turn_in
  exact ⟨f, fd, fnD Fu sc_turn_in ln_turn_in (fun cod A outer s H E hr => wk_turn_in T (ok_position_in T) cod A outer s H E hr) pu_turn_in, hm, Fu.kp, hb⟩
abbrev s_read_items : Stmt := topS 26
theorem sc_read_items : FnScope ["text", "found", "number", "word"] ["text"] (defScope s_read_items) := ⟨rfl, rfl, rfl, by decide +kernel, rfl, by decide +kernel, by decide +kernel⟩
theorem wk_read_items (T : Txt K mg) (c_is_item : CalD P w K mg base 1 "is_item" ["thing"] post_is_item) (cod : Value) (A : Around) (outer : List Env) (s : Shared) (H : Hp) (E : XK) {f : Addr} (hr : RoomG 1 (A.deeper (envOfC "read_items" (defScope s_read_items) s.heap.objs.size f cod))) :
    PSs (cxOf CX0 P w K mg base ["text", "found", "number", "word"] "read_items" (defScope s_read_items) f cod A outer s H E).nox (defBody s_read_items) (tDS K b_read_items) :=
    (dssc (dsetO (i := 1) sc_read_items.nd rfl (by first | exact .inl rfl | exact .inr rfl) (dlst dan))
      (dssc (dfor PassesOwn.never rfl (dien rfl (by rfl) T.z_enumerate (dac (dfr (dsplit (dn 0) (dgS (by rfl) T.z_BLANK.choose_spec))) dan)) (dgt rfl rfl (dgsc (dgn (ws := [2, 3]) (by decide) sc_read_items.nd rfl (by first | exact .inl rfl | exact .inr rfl)) (dgsc (dgn (ws := [2, 3]) (by decide) sc_read_items.nd rfl (by first | exact .inl rfl | exact .inr rfl)) (dgsn (ws := [2, 3])))))
      (dssc (difs (PW.pt (dwOr (dtCmp (oEq rfl hr.hu) (dn 2) (dgI (by rfl) T.z_MOST_POSITIONS.choose_spec) (nomark _)) (dwOr (dtNot (dtTru rfl (dcl c_is_item (hr.mono (by decide)) (dbc (dn 3) dbn) (hK := rfl)))) (dwo1 (dborrowT (dtCmp (oIn rfl hr.hu5) (dn 3) (dn 1) (by rfl)))))))
      (dss1 dnever)
      dssn)
      (dss1 (dexpr (dappend rfl (pv 1) (dac (dn 3) dan))))))
      (dss1 (dret (dn 1)))))
theorem ok_read_items (T : Txt K mg) : CalD P w K mg base 2 "read_items" ["text"] post_read_items := by
  obtain ⟨f, fd, Fu, hm, hb⟩ := T.f_read_items
  exact ⟨f, fd, fnD Fu sc_read_items ln_read_items (fun cod A outer s H E hr => wk_read_items T (ok_is_item T) cod A outer s H E hr) pu_read_items, hm, Fu.kp, hb⟩
abbrev s_read_seen : Stmt := topS 27
theorem sc_read_seen : FnScope ["text", "found", "number", "word"] ["text"] (defScope s_read_seen) := ⟨rfl, rfl, rfl, by decide +kernel, rfl, by decide +kernel, by decide +kernel⟩
theorem wk_read_seen (T : Txt K mg) (c_is_item : CalD P w K mg base 1 "is_item" ["thing"] post_is_item) (cod : Value) (A : Around) (outer : List Env) (s : Shared) (H : Hp) (E : XK) {f : Addr} (hr : RoomG 1 (A.deeper (envOfC "read_seen" (defScope s_read_seen) s.heap.objs.size f cod))) :
    PSs (cxOf CX0 P w K mg base ["text", "found", "number", "word"] "read_seen" (defScope s_read_seen) f cod A outer s H E).nox (defBody s_read_seen) (tDS K b_read_seen) :=
    (dssc (dsetO (i := 1) sc_read_seen.nd rfl (by first | exact .inl rfl | exact .inr rfl) (dlst dan))
      (dssc (dfor PassesOwn.never rfl (dien rfl (by rfl) T.z_enumerate (dac (dfr (dsplit (dn 0) (dgS (by rfl) T.z_BLANK.choose_spec))) dan)) (dgt rfl rfl (dgsc (dgn (ws := [2, 3]) (by decide) sc_read_seen.nd rfl (by first | exact .inl rfl | exact .inr rfl)) (dgsc (dgn (ws := [2, 3]) (by decide) sc_read_seen.nd rfl (by first | exact .inl rfl | exact .inr rfl)) (dgsn (ws := [2, 3])))))
      (dssc (difs (PW.pt (dwOr (dtCmp (oEq rfl hr.hu) (dn 2) (dgI (by rfl) T.z_MOST_POSITIONS.choose_spec) (nomark _)) (dwo1 (PW.pt (dwAnd (dtCmp (oNe rfl hr.hu) (dn 3) (dgS (by rfl) T.z_UNKNOWN.choose_spec) (nomark _)) (dw1 (PW.pt (dwOr (dtNot (dtTru rfl (dcl c_is_item (hr.mono (by decide)) (dbc (dn 3) dbn) (hK := rfl)))) (dwo1 (dborrowT (dtCmp (oIn rfl hr.hu5) (dn 3) (dn 1) (by rfl))))))))))))
      (dss1 dnever)
      dssn)
      (dss1 (dexpr (dappend rfl (pv 1) (dac (dif (dtCmp (oEq rfl hr.hu) (dn 3) (dgS (by rfl) T.z_UNKNOWN.choose_spec) (nomark _)) dnone (dn 3)) dan))))))
      (dss1 (dret (dn 1)))))
theorem ok_read_seen (T : Txt K mg) : CalD P w K mg base 2 "read_seen" ["text"] post_read_seen := by
  obtain ⟨f, fd, Fu, hm, hb⟩ := T.f_read_seen
  exact ⟨f, fd, fnD Fu sc_read_seen ln_read_seen (fun cod A outer s H E hr => wk_read_seen T (ok_is_item T) cod A outer s H E hr) pu_read_seen, hm, Fu.kp, hb⟩
abbrev s_read_edges : Stmt := topS 28
theorem sc_read_edges : FnScope ["text", "words", "found", "number", "word", "edge"] ["text"] (defScope s_read_edges) := ⟨rfl, rfl, rfl, by decide +kernel, rfl, by decide +kernel, by decide +kernel⟩
theorem wk_read_edges (T : Txt K mg) (c_edge_in : CalD P w K mg base 3 "edge_in" ["word"] post_edge_in) (cod : Value) (A : Around) (outer : List Env) (s : Shared) (H : Hp) (E : XK) {f : Addr} (hr : RoomG 3 (A.deeper (envOfC "read_edges" (defScope s_read_edges) s.heap.objs.size f cod))) :
    PSs (cxOf CX0 P w K mg base ["text", "words", "found", "number", "word", "edge"] "read_edges" (defScope s_read_edges) f cod A outer s H E).nox (defBody s_read_edges) (tDS K b_read_edges) :=
    (dssc (dset (i := 1) sc_read_edges.nd rfl (by first | exact .inl rfl | exact .inr rfl) (dfr (dsplit (dn 0) (dgS (by rfl) T.z_BLANK.choose_spec))))
      (dssc (difs (dtCmp (oEq rfl hr.hu) (dix rfl (dn 1) di (fun _ _ => rfl)) (dgS (by rfl) T.z_EMPTY.choose_spec) (nomark _))
      (dssc (difs (dtCmp oGt (dcb (cLen rfl) (by rfl) T.z_len (by decide +kernel) (dac (dn 1) dan)) di (nomark _))
      (dss1 dnever)
      dssn)
      (dss1 (dret (dfr (dlst dan)))))
      dssn)
      (dssc (dsetO (i := 2) sc_read_edges.nd rfl (by first | exact .inl rfl | exact .inr rfl) (dlst dan))
      (dssc (dfor PassesOwn.never rfl (dien rfl (by rfl) T.z_enumerate (dac (dn 1) dan)) (dgt rfl rfl (dgsc (dgn (ws := [3, 4]) (by decide) sc_read_edges.nd rfl (by first | exact .inl rfl | exact .inr rfl)) (dgsc (dgn (ws := [3, 4]) (by decide) sc_read_edges.nd rfl (by first | exact .inl rfl | exact .inr rfl)) (dgsn (ws := [3, 4])))))
      (dssc (dset (i := 5) sc_read_edges.nd rfl (by first | exact .inl rfl | exact .inr rfl) (dcl c_edge_in (hr.mono (by decide)) (dbc (dn 4) dbn) (hK := rfl)))
      (dssc (difs (PW.pt (dwOr (dtCmp (oEq rfl hr.hu) (dn 3) (dgI (by rfl) T.z_MOST_EDGES.choose_spec) (nomark _)) (dwOr (dtCmp oIs (dn 5) dnone (nomark _)) (dwo1 (dborrowT (dtCmp (oIn rfl hr.hu5) (dn 5) (dn 2) (by rfl)))))))
      (dss1 dnever)
      dssn)
      (dss1 (dexpr (dappend rfl (pv 2) (dac (dn 5) dan)))))))
      (dss1 (dret (dn 2)))))))
theorem ok_read_edges (T : Txt K mg) : CalD P w K mg base 4 "read_edges" ["text"] post_read_edges := by
  obtain ⟨f, fd, Fu, hm, hb⟩ := T.f_read_edges
  exact ⟨f, fd, fnD Fu sc_read_edges ln_read_edges (fun cod A outer s H E hr => wk_read_edges T (ok_edge_in T) cod A outer s H E hr) pu_read_edges, hm, Fu.kp, hb⟩
abbrev s_read_turns : Stmt := topS 29
theorem sc_read_turns : FnScope ["text", "found", "number", "line", "turn"] ["text"] (defScope s_read_turns) := ⟨rfl, rfl, rfl, by decide +kernel, rfl, by decide +kernel, by decide +kernel⟩
theorem wk_read_turns (T : Txt K mg) (c_turn_in : CalD P w K mg base 2 "turn_in" ["line"] post_turn_in) (cod : Value) (A : Around) (outer : List Env) (s : Shared) (H : Hp) (E : XK) {f : Addr} (hr : RoomG 2 (A.deeper (envOfC "read_turns" (defScope s_read_turns) s.heap.objs.size f cod))) :
    PSs (cxOf CX0 P w K mg base ["text", "found", "number", "line", "turn"] "read_turns" (defScope s_read_turns) f cod A outer s H E).nox (defBody s_read_turns) (tDS K b_read_turns) :=
    (dssc (dsetO (i := 1) sc_read_turns.nd rfl (by first | exact .inl rfl | exact .inr rfl) (dlst dan))
      (dssc (dfor PassesOwn.never rfl (dien rfl (by rfl) T.z_enumerate (dac (dfr (dsplit (dn 0) (dgS (by rfl) T.z_NEWLINE.choose_spec))) dan)) (dgt rfl rfl (dgsc (dgn (ws := [2, 3]) (by decide) sc_read_turns.nd rfl (by first | exact .inl rfl | exact .inr rfl)) (dgsc (dgn (ws := [2, 3]) (by decide) sc_read_turns.nd rfl (by first | exact .inl rfl | exact .inr rfl)) (dgsn (ws := [2, 3])))))
      (dssc (dset (i := 4) sc_read_turns.nd rfl (by first | exact .inl rfl | exact .inr rfl) (dcl c_turn_in (hr.mono (by decide)) (dbc (dn 3) dbn) (hK := rfl)))
      (dssc (difs (PW.pt (dwOr (dtCmp (oEq rfl hr.hu) (dn 2) (dgI (by rfl) T.z_MOST_POSITIONS.choose_spec) (nomark _)) (dwo1 (dtCmp oIs (dn 4) dnone (nomark _)))))
      (dss1 dnever)
      dssn)
      (dss1 (dexpr (dappend rfl (pv 1) (dac (dn 4) dan)))))))
      (dss1 (dret (dn 1)))))
theorem ok_read_turns (T : Txt K mg) : CalD P w K mg base 3 "read_turns" ["text"] post_read_turns := by
  obtain ⟨f, fd, Fu, hm, hb⟩ := T.f_read_turns
  exact ⟨f, fd, fnD Fu sc_read_turns ln_read_turns (fun cod A outer s H E hr => wk_read_turns T (ok_turn_in T) cod A outer s H E hr) pu_read_turns, hm, Fu.kp, hb⟩
abbrev s__law_source : Stmt := topS 31
theorem sc__law_source : FnScope ["script", "k", "cell"] ["script", "k"] (defScope s__law_source) := ⟨rfl, rfl, rfl, by decide +kernel, rfl, by decide +kernel, by decide +kernel⟩
theorem wk__law_source (T : Txt K mg)  (cod : Value) (A : Around) (outer : List Env) (s : Shared) (H : Hp) (E : XK) {f : Addr} (hr : RoomG 0 (A.deeper (envOfC "_law_source" (defScope s__law_source) s.heap.objs.size f cod))) :
    PSs (cxOf CX0 P w K mg base ["script", "k", "cell"] "_law_source" (defScope s__law_source) f cod A outer s H E).nox (defBody s__law_source) (tDS K b__law_source) :=
    (dssc (dset (i := 2) sc__law_source.nd rfl (by first | exact .inl rfl | exact .inr rfl) (dif (dtCmp oLt (dn 1) (dlens rfl (by rfl) T.z_len (pv 0)) (nomark _)) (dixs rfl (pv 0) (dn 1) (fun _ _ => rfl)) di))
      (dss1 (dretO (dlst (dac (dcb (cMax2 rfl) (by rfl) T.z_max (by decide +kernel) (dac di (dac (dop oSub (dcb cAbs (by rfl) T.z_abs (by decide +kernel) (dac (dn 2) dan)) (dop oPow di di)) dan))) (dac (dop oAdd (dop oAdd (dop oMul (dop oMod (dcb cAbs (by rfl) T.z_abs (by decide +kernel) (dac (dn 2) dan)) (dop oAdd (dop oPow di di) di)) di) (dn 1)) di) (dac di dan)))))))
theorem ok__law_source (T : Txt K mg) : CalD P w K mg base 1 "_law_source" ["script", "k"] post__law_source := by
  obtain ⟨f, fd, Fu, hm, hb⟩ := T.f__law_source
  exact ⟨f, fd, fnD Fu sc__law_source ln__law_source (fun cod A outer s H E hr => wk__law_source T  cod A outer s H E hr) pu__law_source, hm, Fu.kp, hb⟩
abbrev s__law_pick : Stmt := topS 32
theorem sc__law_pick : FnScope ["source", "count", "mixed", "found"] ["source", "count"] (defScope s__law_pick) := ⟨rfl, rfl, rfl, by decide +kernel, rfl, by decide +kernel, by decide +kernel⟩
theorem wk__law_pick (T : Txt K mg)  (cod : Value) (A : Around) (outer : List Env) (s : Shared) (H : Hp) (E : XK) {f : Addr} (hr : RoomG 0 (A.deeper (envOfC "_law_pick" (defScope s__law_pick) s.heap.objs.size f cod))) :
    PSs (cxOf CX0 P w K mg base ["source", "count", "mixed", "found"] "_law_pick" (defScope s__law_pick) f cod A outer s H E).nox (defBody s__law_pick) (tDS K b__law_pick) :=
    (dssc (difs (dborrowT (dtCmp oGt (dix rfl (dn 0) di (fun _ _ => rfl)) di (nomark _)))
      (dssc (dset (i := 3) sc__law_pick.nd rfl (by first | exact .inl rfl | exact .inr rfl) (dop oMod (dixp rfl (pv 0) di (fun _ _ => rfl)) (dn 1)))
      (dssc (dasg (dop oDiv (dixp rfl (pv 0) di (fun _ _ => rfl)) (dn 1)) (dgsub (ws := []) (pv 0) di (fun _ => rfl)))
      (dss1 (dret (dn 3)))))
      dssn)
      (dssc (dasg (dop oAdd (dixp rfl (pv 0) di (fun _ _ => rfl)) di) (dgsub (ws := []) (pv 0) di (fun _ => rfl)))
      (dssc (dset (i := 2) sc__law_pick.nd rfl (by first | exact .inl rfl | exact .inr rfl) (dop oMod (dop oPow (dop oAdd (dixp rfl (pv 0) di (fun _ _ => rfl)) (dop oMul di (dixp rfl (pv 0) di (fun _ _ => rfl)))) di) (dop oAdd (dop oPow di di) di)))
      (dssc (dset (i := 2) sc__law_pick.nd rfl (by first | exact .inl rfl | exact .inr rfl) (dop oMod (dop oPow (dop oAdd (dn 2) (dop oMul di (dixp rfl (pv 0) di (fun _ _ => rfl)))) di) (dop oAdd (dop oPow di di) di)))
      (dss1 (dret (dop oMod (dop oDiv (dn 2) di) (dn 1))))))))
theorem ok__law_pick (T : Txt K mg) : CalD P w K mg base 1 "_law_pick" ["source", "count"] post__law_pick := by
  obtain ⟨f, fd, Fu, hm, hb⟩ := T.f__law_pick
  exact ⟨f, fd, fnD Fu sc__law_pick ln__law_pick (fun cod A outer s H E hr => wk__law_pick T  cod A outer s H E hr) pu__law_pick, hm, Fu.kp, hb⟩
abbrev s__law_shuffled : Stmt := topS 33
theorem sc__law_shuffled : FnScope ["source", "row", "left", "k"] ["source", "row"] (defScope s__law_shuffled) := ⟨rfl, rfl, rfl, by decide +kernel, rfl, by decide +kernel, by decide +kernel⟩
theorem wk__law_shuffled (T : Txt K mg) (c__law_pick : CalD P w K mg base 1 "_law_pick" ["source", "count"] post__law_pick) (cod : Value) (A : Around) (outer : List Env) (s : Shared) (H : Hp) (E : XK) {f : Addr} (hr : RoomG 1 (A.deeper (envOfC "_law_shuffled" (defScope s__law_shuffled) s.heap.objs.size f cod))) :
    PSs (cxOf CX0 P w K mg base ["source", "row", "left", "k"] "_law_shuffled" (defScope s__law_shuffled) f cod A outer s H E).nox (defBody s__law_shuffled) (tDS K b__law_shuffled) :=
    (dssc (dsetO (i := 2) sc__law_shuffled.nd rfl (by first | exact .inl rfl | exact .inr rfl) (dctO (cListO rfl) (by rfl) T.z_list (by decide +kernel) (dac (dn 1) dan)))
      (dss1 (dretO (dlc (bn := [("k", 3)]) rfl sc__law_shuffled.nd (dir1 (by rfl) T.z_range (dac (dcb (cLen rfl) (by rfl) T.z_len (by decide +kernel) (dac (dn 1) dan)) dan)) (blkOk_by (by rfl)) (fun _ _ _ _ _ => (dgn (ws := [3]) (by decide) sc__law_shuffled.nd rfl (by first | exact .inl rfl | exact .inr rfl))) (fun _ _ _ _ _ => dty) (fun _ _ _ _ _ => (dml mPopAt rfl PySem.F.slot_list_pop PySem.F.type_list_pop (pv 2) (dac (dcl c__law_pick (hr.mono (by decide)) (dbv (pv 0) (dbc (dlenp rfl (by rfl) T.z_len (pv 2)) dbn)) (hK := rfl)) dan)))))))
theorem ok__law_shuffled (T : Txt K mg) : CalD P w K mg base 2 "_law_shuffled" ["source", "row"] post__law_shuffled := by
  obtain ⟨f, fd, Fu, hm, hb⟩ := T.f__law_shuffled
  exact ⟨f, fd, fnD Fu sc__law_shuffled ln__law_shuffled (fun cod A outer s H E hr => wk__law_shuffled T (ok__law_pick T) cod A outer s H E hr) pu__law_shuffled, hm, Fu.kp, hb⟩
abbrev s__law_names : Stmt := topS 34
theorem sc__law_names : FnScope ["source", "size", "letters", "style", "found", "k", "tail"] ["source", "size"] (defScope s__law_names) := ⟨rfl, rfl, rfl, by decide +kernel, rfl, by decide +kernel, by decide +kernel⟩
theorem wk__law_names (T : Txt K mg) (c__law_pick : CalD P w K mg base 1 "_law_pick" ["source", "count"] post__law_pick) (c__law_shuffled : CalD P w K mg base 2 "_law_shuffled" ["source", "row"] post__law_shuffled) (cod : Value) (A : Around) (outer : List Env) (s : Shared) (H : Hp) (E : XK) {f : Addr} (hr : RoomG 2 (A.deeper (envOfC "_law_names" (defScope s__law_names) s.heap.objs.size f cod))) :
    PSs (cxOf CX0 P w K mg base ["source", "size", "letters", "style", "found", "k", "tail"] "_law_names" (defScope s__law_names) f cod A outer s H E).nox (defBody s__law_names) (tDS K b__law_names) :=
    (dssc (dset (i := 2) sc__law_names.nd rfl (by first | exact .inl rfl | exact .inr rfl) dstr)
      (dssc (dset (i := 3) sc__law_names.nd rfl (by first | exact .inl rfl | exact .inr rfl) (dcl c__law_pick (hr.mono (by decide)) (dbv (pv 0) (dbc di dbn)) (hK := rfl)))
      (dssc (dsetO (i := 4) sc__law_names.nd rfl (by first | exact .inl rfl | exact .inr rfl) (dlst dan))
      (dssc (dfor PassesOwn.never rfl (dir1 (by rfl) T.z_range (dac (dn 1) dan)) (dgn (ws := [5]) (by decide) sc__law_names.nd rfl (by first | exact .inl rfl | exact .inr rfl))
      (dssc (dset (i := 6) sc__law_names.nd rfl (by first | exact .inl rfl | exact .inr rfl) (dop oAdd (dix rfl (dn 2) (dop oDiv (dn 5) di) (fun _ _ => rfl)) (dix rfl (dn 2) (dop oMod (dn 5) di) (fun _ _ => rfl))))
      (dss1 (dexpr (dappend rfl (pv 4) (dac (dix rfl (dfr (dlst (dac (dn 6) (dac (dop oAdd dstr (dn 6)) (dac (dop oRepS (dix rfl (dn 2) (dop oMod (dn 5) di) (fun _ _ => rfl)) (dop oAdd di (dop oDiv (dn 5) di))) dan))))) (dn 3) (fun _ _ => rfl)) dan))))))
      (dss1 (dretO (dclO c__law_shuffled (hr.mono (by decide)) (dbv (pv 0) (dbc (dn 4) dbn)) (hK := rfl))))))))
theorem ok__law_names (T : Txt K mg) : CalD P w K mg base 3 "_law_names" ["source", "size"] post__law_names := by
  obtain ⟨f, fd, Fu, hm, hb⟩ := T.f__law_names
  exact ⟨f, fd, fnD Fu sc__law_names ln__law_names (fun cod A outer s H E hr => wk__law_names T (ok__law_pick T) (ok__law_shuffled T) cod A outer s H E hr) pu__law_names, hm, Fu.kp, hb⟩
abbrev s__law_all_pairs : Stmt := topS 35
theorem sc__law_all_pairs : FnScope ["span", "found", "p", "q"] ["span"] (defScope s__law_all_pairs) := ⟨rfl, rfl, rfl, by decide +kernel, rfl, by decide +kernel, by decide +kernel⟩
theorem wk__law_all_pairs (T : Txt K mg)  (cod : Value) (A : Around) (outer : List Env) (s : Shared) (H : Hp) (E : XK) {f : Addr} (hr : RoomG 0 (A.deeper (envOfC "_law_all_pairs" (defScope s__law_all_pairs) s.heap.objs.size f cod))) :
    PSs (cxOf CX0 P w K mg base ["span", "found", "p", "q"] "_law_all_pairs" (defScope s__law_all_pairs) f cod A outer s H E).nox (defBody s__law_all_pairs) (tDS K b__law_all_pairs) :=
    (dssc (dsetO (i := 1) sc__law_all_pairs.nd rfl (by first | exact .inl rfl | exact .inr rfl) (dlst dan))
      (dssc (dfor PassesOwn.never rfl (dir1 (by rfl) T.z_range (dac (dn 0) dan)) (dgn (ws := [2]) (by decide) sc__law_all_pairs.nd rfl (by first | exact .inl rfl | exact .inr rfl))
      (dss1 (dexpr (dml mExtend rfl PySem.F.slot_list_extend PySem.F.type_list_extend (pv 1) (dac (dfr (dlc (bn := [("q", 3)]) rfl sc__law_all_pairs.nd (dir2 (by rfl) T.z_range (dac (dop oAdd (dn 2) di) (dac (dn 0) dan))) (blkOk_by (by rfl)) (fun _ _ _ _ _ => (dgn (ws := [3]) (by decide) sc__law_all_pairs.nd rfl (by first | exact .inl rfl | exact .inr rfl))) (fun _ _ _ _ _ => dty) (fun _ _ _ _ _ => (dtup (dac (dn 2) (dac (dn 3) dan)))))) dan)))))
      (dss1 (dretO (dno 1)))))
theorem ok__law_all_pairs (T : Txt K mg) : CalD P w K mg base 1 "_law_all_pairs" ["span"] post__law_all_pairs := by
  obtain ⟨f, fd, Fu, hm, hb⟩ := T.f__law_all_pairs
  exact ⟨f, fd, fnD Fu sc__law_all_pairs ln__law_all_pairs (fun cod A outer s H E hr => wk__law_all_pairs T  cod A outer s H E hr) pu__law_all_pairs, hm, Fu.kp, hb⟩
abbrev s__law_pairs : Stmt := topS 36
theorem sc__law_pairs : FnScope ["source", "most", "span", "left", "count", "k"] ["source", "most"] (defScope s__law_pairs) := ⟨rfl, rfl, rfl, by decide +kernel, rfl, by decide +kernel, by decide +kernel⟩
theorem wk__law_pairs (T : Txt K mg) (c__law_all_pairs : CalD P w K mg base 1 "_law_all_pairs" ["span"] post__law_all_pairs) (c__law_pick : CalD P w K mg base 1 "_law_pick" ["source", "count"] post__law_pick) (cod : Value) (A : Around) (outer : List Env) (s : Shared) (H : Hp) (E : XK) {f : Addr} (hr : RoomG 1 (A.deeper (envOfC "_law_pairs" (defScope s__law_pairs) s.heap.objs.size f cod))) :
    PSs (cxOf CX0 P w K mg base ["source", "most", "span", "left", "count", "k"] "_law_pairs" (defScope s__law_pairs) f cod A outer s H E).nox (defBody s__law_pairs) (tDS K b__law_pairs) :=
    (dssc (dset (i := 2) sc__law_pairs.nd rfl (by first | exact .inl rfl | exact .inr rfl) (dix rfl (dfr (dlst (dac di (dac di (dac di dan))))) (dcl c__law_pick (hr.mono (by decide)) (dbv (pv 0) (dbc di dbn)) (hK := rfl)) (fun _ _ => rfl)))
      (dssc (dsetO (i := 3) sc__law_pairs.nd rfl (by first | exact .inl rfl | exact .inr rfl) (dclO c__law_all_pairs (hr.mono (by decide)) (dbc (dn 2) dbn) (hK := rfl)))
      (dssc (dset (i := 4) sc__law_pairs.nd rfl (by first | exact .inl rfl | exact .inr rfl) (dcb (cMin2 rfl) (by rfl) T.z_min (by decide +kernel) (dac (dlenp rfl (by rfl) T.z_len (pv 3)) (dac (dix rfl (dfr (dlst (dac di (dac di (dac (dcl c__law_pick (hr.mono (by decide)) (dbv (pv 0) (dbc di dbn)) (hK := rfl)) (dac (dcl c__law_pick (hr.mono (by decide)) (dbv (pv 0) (dbc (dop oAdd (dn 1) di) dbn)) (hK := rfl)) (dac (dn 1) dan))))))) (dcl c__law_pick (hr.mono (by decide)) (dbv (pv 0) (dbc di dbn)) (hK := rfl)) (fun _ _ => rfl)) dan))))
      (dss1 (dretO (dlc (bn := [("k", 5)]) rfl sc__law_pairs.nd (dir1 (by rfl) T.z_range (dac (dn 4) dan)) (blkOk_by (by rfl)) (fun _ _ _ _ _ => (dgn (ws := [5]) (by decide) sc__law_pairs.nd rfl (by first | exact .inl rfl | exact .inr rfl))) (fun _ _ _ _ _ => dty) (fun _ _ _ _ _ => (dml mPopAt rfl PySem.F.slot_list_pop PySem.F.type_list_pop (pv 3) (dac (dcl c__law_pick (hr.mono (by decide)) (dbv (pv 0) (dbc (dlenp rfl (by rfl) T.z_len (pv 3)) dbn)) (hK := rfl)) dan)))))))))
theorem ok__law_pairs (T : Txt K mg) : CalD P w K mg base 2 "_law_pairs" ["source", "most"] post__law_pairs := by
  obtain ⟨f, fd, Fu, hm, hb⟩ := T.f__law_pairs
  exact ⟨f, fd, fnD Fu sc__law_pairs ln__law_pairs (fun cod A outer s H E hr => wk__law_pairs T (ok__law_all_pairs T) (ok__law_pick T) cod A outer s H E hr) pu__law_pairs, hm, Fu.kp, hb⟩
abbrev s__law_change : Stmt := topS 37
theorem sc__law_change : FnScope ["source", "row", "most", "new", "way", "at", "to", "one", "two"] ["source", "row", "most", "new"] (defScope s__law_change) := ⟨rfl, rfl, rfl, by decide +kernel, rfl, by decide +kernel, by decide +kernel⟩
theorem wk__law_change (T : Txt K mg) (c__law_pick : CalD P w K mg base 1 "_law_pick" ["source", "count"] post__law_pick) (cod : Value) (A : Around) (outer : List Env) (s : Shared) (H : Hp) (E : XK) {f : Addr} (hr : RoomG 1 (A.deeper (envOfC "_law_change" (defScope s__law_change) s.heap.objs.size f cod))) :
    PSs (cxOf CX0 P w K mg base ["source", "row", "most", "new", "way", "at", "to", "one", "two"] "_law_change" (defScope s__law_change) f cod A outer s H E).nox (defBody s__law_change) (tDS K b__law_change) :=
    (dssc (dpar rfl sc__law_change.nd (i := 5) (j := 6) rfl rfl (by decide) rfl rfl (dac (dcl c__law_pick (hr.mono (by decide)) (dbv (pv 0) (dbc (dop oAdd (dlenp rfl (by rfl) T.z_len (pv 1)) di) dbn)) (hK := rfl)) (dac (dcl c__law_pick (hr.mono (by decide)) (dbv (pv 0) (dbc (dop oAdd (dlenp rfl (by rfl) T.z_len (pv 1)) di) dbn)) (hK := rfl)) dan)) rfl)
      (dssc (dset (i := 4) sc__law_change.nd rfl (by first | exact .inl rfl | exact .inr rfl) (dcl c__law_pick (hr.mono (by decide)) (dbv (pv 0) (dbc di dbn)) (hK := rfl)))
      (dss1 (difs (PW.pt (dwAnd (dtCmp (oEq rfl hr.hu) (dn 4) di (nomark _)) (dwAnd (dborrowT (dtCmp oLt (dcb (cLen rfl) (by rfl) T.z_len (by decide +kernel) (dac (dn 1) dan)) (dn 2) (nomark _))) (dw1 (dborrowT (dtCmp (oNotIn rfl hr.hu5) (dn 3) (dn 1) (by rfl)))))))
      (dss1 (dexpr (dml mInsert rfl PySem.F.slot_list_insert PySem.F.type_list_insert (pv 1) (dac (dn 5) (dac (dn 3) dan)))))
      (dss1 (difs (PW.pt (dwAnd (dtCmp (oEq rfl hr.hu) (dn 4) di (nomark _)) (dw1 (dborrowT (dtCmp oGt (dcb (cLen rfl) (by rfl) T.z_len (by decide +kernel) (dac (dn 1) dan)) di (nomark _))))))
      (dss1 (dexpr (dml mPopAt rfl PySem.F.slot_list_pop PySem.F.type_list_pop (pv 1) (dac (dcb (cMin2 rfl) (by rfl) T.z_min (by decide +kernel) (dac (dn 5) (dac (dop oSub (dlenp rfl (by rfl) T.z_len (pv 1)) di) dan))) dan))))
      (dss1 (difs (PW.pt (dwAnd (dtCmp (oEq rfl hr.hu) (dn 4) di (nomark _)) (dwAnd (dborrowT (dtCmp oGt (dcb (cLen rfl) (by rfl) T.z_len (by decide +kernel) (dac (dn 1) dan)) di (nomark _))) (dw1 (dborrowT (dtCmp (oNotIn rfl hr.hu5) (dn 3) (dn 1) (by rfl)))))))
      (dss1 (dasg (dn 3) (dgsub (ws := []) (pv 1) (dcb (cMin2 rfl) (by rfl) T.z_min (by decide +kernel) (dac (dn 5) (dac (dop oSub (dlenp rfl (by rfl) T.z_len (pv 1)) di) dan))) (fun _ => rfl))))
      (dss1 (difs (dborrowT (dtCmp oGt (dcb (cLen rfl) (by rfl) T.z_len (by decide +kernel) (dac (dn 1) dan)) di (nomark _)))
      (dssc (dpar rfl sc__law_change.nd (i := 7) (j := 8) rfl rfl (by decide) rfl rfl (dac (dcb (cMin2 rfl) (by rfl) T.z_min (by decide +kernel) (dac (dn 5) (dac (dop oSub (dlenp rfl (by rfl) T.z_len (pv 1)) di) dan))) (dac (dcb (cMin2 rfl) (by rfl) T.z_min (by decide +kernel) (dac (dn 6) (dac (dop oSub (dlenp rfl (by rfl) T.z_len (pv 1)) di) dan))) dan)) rfl)
      (dss1 (dasg (dtup (dac (dixp rfl (pv 1) (dn 8) (fun _ _ => rfl)) (dac (dixp rfl (pv 1) (dn 7) (fun _ _ => rfl)) dan))) (dgt rfl rfl (dgsc (dgsub (ws := []) (pv 1) (dn 7) (fun _ => rfl)) (dgsc (dgsub (ws := []) (pv 1) (dn 8) (fun _ => rfl)) (dgsn (ws := []))))))))
      dssn))))))))))
theorem ok__law_change (T : Txt K mg) : CalD P w K mg base 2 "_law_change" ["source", "row", "most", "new"] post__law_change := by
  obtain ⟨f, fd, Fu, hm, hb⟩ := T.f__law_change
  exact ⟨f, fd, fnD Fu sc__law_change ln__law_change (fun cod A outer s H E hr => wk__law_change T (ok__law_pick T) cod A outer s H E hr) pu__law_change, hm, Fu.kp, hb⟩
abbrev s__law_page : Stmt := topS 38
theorem sc__law_page : FnScope ["door", "row", "part", "name", "one", "two", "spot"] ["door", "row"] (defScope s__law_page) := ⟨rfl, rfl, rfl, by decide +kernel, rfl, by decide +kernel, by decide +kernel⟩
theorem wk__law_page (T : Txt K mg)  (cod : Value) (A : Around) (outer : List Env) (s : Shared) (H : Hp) (E : XK) {f : Addr} (hr : RoomG 0 (A.deeper (envOfC "_law_page" (defScope s__law_page) s.heap.objs.size f cod))) :
    PSs (cxOf CX0 P w K mg base ["door", "row", "part", "name", "one", "two", "spot"] "_law_page" (defScope s__law_page) f cod A outer s H E).nox (defBody s__law_page) (tDS K b__law_page) :=
    (dssc (difs (dtCmp (oEq rfl hr.hu) (dn 0) di (nomark _))
      (dss1 (dret (djoin rfl dstr (dn 1))))
      dssn)
      (dssc (difs (dtCmp (oEq rfl hr.hu) (dn 0) di (nomark _))
      (dss1 (dret (djoin rfl dstr (dfr (dlc (bn := [("name", 3)]) rfl sc__law_page.nd (dil rfl (dn 1)) (blkOk_by (by rfl)) (fun _ _ _ _ _ => (dgn (ws := [3]) (by decide) sc__law_page.nd rfl (by first | exact .inl rfl | exact .inr rfl))) (fun _ _ _ _ _ => dty) (fun _ _ _ _ _ => (dif (dtCmp oIs (dn 3) dnone (nomark _)) dstr (dn 3))))))))
      dssn)
      (dssc (difs (dtCmp (oEq rfl hr.hu) (dn 0) di (nomark _))
      (dss1 (dret (dif (dtCmp oGt (dcb (cLen rfl) (by rfl) T.z_len (by decide +kernel) (dac (dn 1) dan)) di (nomark _)) (djoin rfl dstr (dfr (dlc (bn := [("one", 4), ("two", 5)]) rfl sc__law_page.nd (dil rfl (dn 1)) (blkOk_by (by rfl)) (fun _ _ _ _ _ => (dgt rfl rfl (dgsc (dgn (ws := [4, 5]) (by decide) sc__law_page.nd rfl (by first | exact .inl rfl | exact .inr rfl)) (dgsc (dgn (ws := [4, 5]) (by decide) sc__law_page.nd rfl (by first | exact .inl rfl | exact .inr rfl)) (dgsn (ws := [4, 5])))))) (fun _ _ _ _ _ => dty) (fun _ _ _ _ _ => (dop oAdd (dop oAdd (dct cStr (by rfl) T.z_str (by decide +kernel) (dac (dn 4) dan)) dstr) (dct cStr (by rfl) T.z_str (by decide +kernel) (dac (dn 5) dan))))))) dstr)))
      dssn)
      (dss1 (dret (djoin rfl dstr (dfr (dlc (bn := [("part", 2)]) rfl sc__law_page.nd (dil rfl (dn 1)) (blkOk_by (by rfl)) (fun _ _ _ _ _ => (dgn (ws := [2]) (by decide) sc__law_page.nd rfl (by first | exact .inl rfl | exact .inr rfl))) (fun _ _ _ _ _ => dty) (fun _ _ _ _ _ => (dif (dtCmp (oEq rfl hr.hu) (dcb (cLen rfl) (by rfl) T.z_len (by decide +kernel) (dac (dn 2) dan)) di (nomark _)) dstr (djoin rfl dstr (dfr (dlc (bn := [("spot", 6)]) rfl sc__law_page.nd (dil rfl (dn 2)) (blkOk_by (by rfl)) (fun _ _ _ _ _ => (dgn (ws := [6]) (by decide) sc__law_page.nd rfl (by first | exact .inl rfl | exact .inr rfl))) (fun _ _ _ _ _ => dty) (fun _ _ _ _ _ => (dct cStr (by rfl) T.z_str (by decide +kernel) (dac (dn 6) dan))))))))))))))))
theorem ok__law_page (T : Txt K mg) : CalD P w K mg base 1 "_law_page" ["door", "row"] post__law_page := by
  obtain ⟨f, fd, Fu, hm, hb⟩ := T.f__law_page
  exact ⟨f, fd, fnD Fu sc__law_page ln__law_page (fun cod A outer s H E hr => wk__law_page T  cod A outer s H E hr) pu__law_page, hm, Fu.kp, hb⟩
abbrev s__law_written : Stmt := topS 39
theorem sc__law_written : FnScope ["door", "row"] ["door", "row"] (defScope s__law_written) := ⟨rfl, rfl, rfl, by decide +kernel, rfl, by decide +kernel, by decide +kernel⟩
theorem wk__law_written (T : Txt K mg) (c_write_edges : CalD P w K mg base 1 "write_edges" ["edges"] post_write_edges) (c_write_turns : CalD P w K mg base 1 "write_turns" ["turns"] post_write_turns) (c_write_items : CalD P w K mg base 1 "write_items" ["items"] post_write_items) (c_write_seen : CalD P w K mg base 1 "write_seen" ["seen"] post_write_seen) (cod : Value) (A : Around) (outer : List Env) (s : Shared) (H : Hp) (E : XK) {f : Addr} (hr : RoomG 1 (A.deeper (envOfC "_law_written" (defScope s__law_written) s.heap.objs.size f cod))) :
    PSs (cxOf CX0 P w K mg base ["door", "row"] "_law_written" (defScope s__law_written) f cod A outer s H E).nox (defBody s__law_written) (tDS K b__law_written) :=
    (dssc (difs (dtCmp oLt (dn 0) di (nomark _))
      (dss1 (dret (dif (dtCmp (oEq rfl hr.hu) (dn 0) di (nomark _)) (dcl c_write_items (hr.mono (by decide)) (dbc (dn 1) dbn) (hK := rfl)) (dcl c_write_seen (hr.mono (by decide)) (dbc (dn 1) dbn) (hK := rfl)))))
      dssn)
      (dss1 (dret (dif (dtCmp (oEq rfl hr.hu) (dn 0) di (nomark _)) (dcl c_write_edges (hr.mono (by decide)) (dbc (dn 1) dbn) (hK := rfl)) (dcl c_write_turns (hr.mono (by decide)) (dbc (dn 1) dbn) (hK := rfl))))))
theorem ok__law_written (T : Txt K mg) : CalD P w K mg base 2 "_law_written" ["door", "row"] post__law_written := by
  obtain ⟨f, fd, Fu, hm, hb⟩ := T.f__law_written
  exact ⟨f, fd, fnD Fu sc__law_written ln__law_written (fun cod A outer s H E hr => wk__law_written T (ok_write_edges T) (ok_write_turns T) (ok_write_items T) (ok_write_seen T) cod A outer s H E hr) pu__law_written, hm, Fu.kp, hb⟩
abbrev s__law_read : Stmt := topS 40
theorem sc__law_read : FnScope ["door", "page"] ["door", "page"] (defScope s__law_read) := ⟨rfl, rfl, rfl, by decide +kernel, rfl, by decide +kernel, by decide +kernel⟩
theorem wk__law_read (T : Txt K mg) (c_read_edges : CalD P w K mg base 4 "read_edges" ["text"] post_read_edges) (c_read_turns : CalD P w K mg base 3 "read_turns" ["text"] post_read_turns) (c_read_items : CalD P w K mg base 2 "read_items" ["text"] post_read_items) (c_read_seen : CalD P w K mg base 2 "read_seen" ["text"] post_read_seen) (cod : Value) (A : Around) (outer : List Env) (s : Shared) (H : Hp) (E : XK) {f : Addr} (hr : RoomG 4 (A.deeper (envOfC "_law_read" (defScope s__law_read) s.heap.objs.size f cod))) :
    PSs (cxOf CX0 P w K mg base ["door", "page"] "_law_read" (defScope s__law_read) f cod A outer s H E).nox (defBody s__law_read) (tDS K b__law_read) :=
    (dssc (difs (dtCmp oLt (dn 0) di (nomark _))
      (dss1 (dret (dif (dtCmp (oEq rfl hr.hu) (dn 0) di (nomark _)) (dcl c_read_items (hr.mono (by decide)) (dbc (dn 1) dbn) (hK := rfl)) (dcl c_read_seen (hr.mono (by decide)) (dbc (dn 1) dbn) (hK := rfl)))))
      dssn)
      (dss1 (dret (dif (dtCmp (oEq rfl hr.hu) (dn 0) di (nomark _)) (dcl c_read_edges (hr.mono (by decide)) (dbc (dn 1) dbn) (hK := rfl)) (dcl c_read_turns (hr.mono (by decide)) (dbc (dn 1) dbn) (hK := rfl))))))
theorem ok__law_read (T : Txt K mg) : CalD P w K mg base 5 "_law_read" ["door", "page"] post__law_read := by
  obtain ⟨f, fd, Fu, hm, hb⟩ := T.f__law_read
  exact ⟨f, fd, fnD Fu sc__law_read ln__law_read (fun cod A outer s H E hr => wk__law_read T (ok_read_edges T) (ok_read_turns T) (ok_read_items T) (ok_read_seen T) cod A outer s H E hr) pu__law_read, hm, Fu.kp, hb⟩
abbrev s__law_new : Stmt := topS 41
theorem sc__law_new : FnScope ["source", "door", "letters", "name", "one", "pair", "part", "spot"] ["source", "door"] (defScope s__law_new) := ⟨rfl, rfl, rfl, by decide +kernel, rfl, by decide +kernel, by decide +kernel⟩
theorem wk__law_new (T : Txt K mg) (c__law_pick : CalD P w K mg base 1 "_law_pick" ["source", "count"] post__law_pick) (cod : Value) (A : Around) (outer : List Env) (s : Shared) (H : Hp) (E : XK) {f : Addr} (hr : RoomG 1 (A.deeper (envOfC "_law_new" (defScope s__law_new) s.heap.objs.size f cod))) :
    PSs (cxOf CX0 P w K mg base ["source", "door", "letters", "name", "one", "pair", "part", "spot"] "_law_new" (defScope s__law_new) f cod A outer s H E).nox (defBody s__law_new) (tDS K b__law_new) :=
    (dssc (dset (i := 2) sc__law_new.nd rfl (by first | exact .inl rfl | exact .inr rfl) dstr)
      (dssc (dset (i := 3) sc__law_new.nd rfl (by first | exact .inl rfl | exact .inr rfl) (dop oAdd (dop oAdd (dix rfl (dn 2) (dcl c__law_pick (hr.mono (by decide)) (dbv (pv 0) (dbc di dbn)) (hK := rfl)) (fun _ _ => rfl)) dstr) (dix rfl (dn 2) (dcl c__law_pick (hr.mono (by decide)) (dbv (pv 0) (dbc di dbn)) (hK := rfl)) (fun _ _ => rfl))))
      (dssc (dset (i := 4) sc__law_new.nd rfl (by first | exact .inl rfl | exact .inr rfl) (dcl c__law_pick (hr.mono (by decide)) (dbv (pv 0) (dbc di dbn)) (hK := rfl)))
      (dssc (dset (i := 5) sc__law_new.nd rfl (by first | exact .inl rfl | exact .inr rfl) (dtup (dac (dn 4) (dac (dop oAdd (dop oAdd (dn 4) di) (dcl c__law_pick (hr.mono (by decide)) (dbv (pv 0) (dbc (dop oSub di (dn 4)) dbn)) (hK := rfl))) dan))))
      (dssc (by first | exact (dset (i := 6) sc__law_new.nd rfl (by first | exact .inl rfl | exact .inr rfl) (dfr (dlc (bn := [("spot", 7)]) rfl sc__law_new.nd (dir1 (by rfl) T.z_range (dac di dan)) (blkOk_by (by rfl)) (fun _ _ _ _ _ => (dgn (ws := [7]) (by decide) sc__law_new.nd rfl (by first | exact .inl rfl | exact .inr rfl))) (fun _ _ _ _ _ => (dt1 (dtCmp (oEq rfl hr.hu) (dcl c__law_pick (hr.mono (by decide)) (dbv (pv 0) (dbc di dbn)) (hK := rfl)) di (nomark _)))) (fun _ _ _ _ _ => (dn 7))))) | exact (dsetLc (i := 6) (bn := [("spot", 7)]) rfl sc__law_new.nd rfl rfl (by rfl) (dir1 (by rfl) T.z_range (dac di dan)) (blkOk_by (by rfl)) (fun _ _ _ _ _ => (dgn (ws := [7]) (by decide) sc__law_new.nd rfl (by first | exact .inl rfl | exact .inr rfl))) (fun _ _ _ _ _ => (dt1 (dtCmp (oEq rfl hr.hu) (dcl c__law_pick (hr.mono (by decide)) (dbv (pv 0) (dbc di dbn)) (hK := rfl)) di (nomark _)))) (fun _ _ _ _ _ => (dn 7))))
      (dss1 (dret (dix rfl (dfr (dlst (dac (dn 3) (dac (dn 3) (dac (dn 5) (dac (dn 6) dan)))))) (dn 1) (fun _ _ => rfl)))))))))
theorem ok__law_new (T : Txt K mg) : CalD P w K mg base 2 "_law_new" ["source", "door"] post__law_new := by
  obtain ⟨f, fd, Fu, hm, hb⟩ := T.f__law_new
  exact ⟨f, fd, fnD Fu sc__law_new ln__law_new (fun cod A outer s H E hr => wk__law_new T (ok__law_pick T) cod A outer s H E hr) pu__law_new, hm, Fu.kp, hb⟩
abbrev s__law_right : Stmt := topS 42
theorem sc__law_right : FnScope ["source", "door", "row", "most", "past", "spin", "due", "kept", "page", "found", "text", "value", "then", "copy"] ["source", "door", "row", "most"] (defScope s__law_right) := ⟨rfl, rfl, rfl, by decide +kernel, rfl, by decide +kernel, by decide +kernel⟩
theorem wk__law_right (T : Txt K mg) (c__law_page : CalD P w K mg base 1 "_law_page" ["door", "row"] post__law_page) (c__law_written : CalD P w K mg base 2 "_law_written" ["door", "row"] post__law_written) (c__law_read : CalD P w K mg base 5 "_law_read" ["door", "page"] post__law_read) (c__law_change : CalD P w K mg base 2 "_law_change" ["source", "row", "most", "new"] post__law_change) (c__law_new : CalD P w K mg base 2 "_law_new" ["source", "door"] post__law_new) (c__law_pick : CalD P w K mg base 1 "_law_pick" ["source", "count"] post__law_pick) (cod : Value) (A : Around) (outer : List Env) (s : Shared) (H : Hp) (E : XK) {f : Addr} (hr : RoomG 5 (A.deeper (envOfC "_law_right" (defScope s__law_right) s.heap.objs.size f cod))) :
    PSs (cxOf CX0 P w K mg base ["source", "door", "row", "most", "past", "spin", "due", "kept", "page", "found", "text", "value", "then", "copy"] "_law_right" (defScope s__law_right) f cod A outer s H E).nox (defBody s__law_right) (tDS K b__law_right) :=
    (dssc (dsetO (i := 4) sc__law_right.nd rfl (by first | exact .inl rfl | exact .inr rfl) (dlst dan))
      (dssc (dfor PassesOwn.never rfl (dir1 (by rfl) T.z_range (dac di dan)) (dgn (ws := [5]) (by decide) sc__law_right.nd rfl (by first | exact .inl rfl | exact .inr rfl))
      (dssc (dset (i := 6) sc__law_right.nd rfl (by first | exact .inl rfl | exact .inr rfl) (dborrow (dcl c__law_page (hr.mono (by decide)) (dbc (dn 1) (dbc (dn 2) dbn)) (hK := rfl))))
      (dssc (dset (i := 7) sc__law_right.nd rfl (by first | exact .inl rfl | exact .inr rfl) (dfr (dlistp (by rfl) T.z_list (pv 2))))
      (dssc (dset (i := 8) sc__law_right.nd rfl (by first | exact .inl rfl | exact .inr rfl) (dborrow (dcl c__law_written (hr.mono (by decide)) (dbc (dn 1) (dbc (dn 2) dbn)) (hK := rfl))))
      (dssc (dset (i := 9) sc__law_right.nd rfl (by first | exact .inl rfl | exact .inr rfl) (dcl c__law_read (hr.mono (by decide)) (dbc (dn 1) (dbc (dn 8) dbn)) (hK := rfl)))
      (dssc (difs (PW.pt (dwOr (dtCmp (oNe rfl hr.hu) (dn 8) (dn 6) (nomark _)) (dwOr (dborrowT (dtCmp (oNe rfl hr.hu) (dn 9) (dn 2) (nomark _))) (dwo1 (dborrowT (dtCmp (oNe rfl hr.hu) (dn 2) (dn 7) (nomark _)))))))
      (dss1 (dret db))
      dssn)
      (dssc (dexpr (dappend rfl (pv 4) (dac (dtup (dac (dn 8) (dac (dn 9) (dac (dn 6) (dac (dn 7) dan))))) dan)))
      (dssc (difs (dborrowT (dtCmp (oNe rfl hr.hu) (dfr (dlc (bn := [("text", 10), ("value", 11), ("then", 12), ("copy", 13)]) rfl sc__law_right.nd (dil rfl (dn 4)) (blkOk_by (by rfl)) (fun _ _ _ _ _ => (dgt rfl rfl (dgsc (dgn (ws := [10, 11, 12, 13]) (by decide) sc__law_right.nd rfl (by first | exact .inl rfl | exact .inr rfl)) (dgsc (dgn (ws := [10, 11, 12, 13]) (by decide) sc__law_right.nd rfl (by first | exact .inl rfl | exact .inr rfl)) (dgsc (dgn (ws := [10, 11, 12, 13]) (by decide) sc__law_right.nd rfl (by first | exact .inl rfl | exact .inr rfl)) (dgsc (dgn (ws := [10, 11, 12, 13]) (by decide) sc__law_right.nd rfl (by first | exact .inl rfl | exact .inr rfl)) (dgsn (ws := [10, 11, 12, 13])))))))) (fun _ _ _ _ _ => (dt1 (PW.pt (dwOr (dtCmp (oNe rfl hr.hu) (dn 10) (dn 12) (nomark _)) (dwo1 (dtCmp (oNe rfl hr.hu) (dn 11) (dn 13) (nomark _))))))) (fun _ _ _ _ _ => di))) (dfr (dlst dan)) (nomark _)))
      (dss1 (dret db))
      dssn)
      (dssc (dexpr (dcl c__law_change (hr.mono (by decide)) (dbv (pv 0) (dbv (pv 2) (dbc (dn 3) (dbc (dcl c__law_new (hr.mono (by decide)) (dbv (pv 0) (dbc (dn 1) dbn)) (hK := rfl)) dbn)))) (hK := rfl)))
      (dssc (difs (PW.pt (dwAnd (dtCmp (oEq rfl hr.hu) (dn 1) di (nomark _)) (dw1 (dtCmp (oEq rfl hr.hu) (dcl c__law_pick (hr.mono (by decide)) (dbv (pv 0) (dbc di dbn)) (hK := rfl)) di (nomark _)))))
      (dss1 (dasg dnone (dgsub (ws := []) (pv 2) (dcl c__law_pick (hr.mono (by decide)) (dbv (pv 0) (dbc (dlenp rfl (by rfl) T.z_len (pv 2)) dbn)) (hK := rfl)) (fun _ => rfl))))
      dssn)
      (dss1 (difs (PW.pt (dwAnd (dtCmp (oEq rfl hr.hu) (dn 1) di (nomark _)) (dwAnd (dborrowT (dtCmp oGt (dcb (cLen rfl) (by rfl) T.z_len (by decide +kernel) (dac (dix rfl (dn 2) di (fun _ _ => rfl)) dan)) di (nomark _))) (dw1 (dtCmp (oEq rfl hr.hu) (dcl c__law_pick (hr.mono (by decide)) (dbv (pv 0) (dbc di dbn)) (hK := rfl)) di (nomark _))))))
      (dss1 (dasg (dfr (dsl rfl (dixp rfl (pv 2) di (fun _ _ => rfl)) (dps di) dpn)) (dgsub (ws := []) (pv 2) di (fun _ => rfl))))
      dssn))))))))))))
      (dss1 (dret db))))
theorem ok__law_right (T : Txt K mg) : CalD P w K mg base 6 "_law_right" ["source", "door", "row", "most"] post__law_right := by
  obtain ⟨f, fd, Fu, hm, hb⟩ := T.f__law_right
  exact ⟨f, fd, fnD Fu sc__law_right ln__law_right (fun cod A outer s H E hr => wk__law_right T (ok__law_page T) (ok__law_written T) (ok__law_read T) (ok__law_change T) (ok__law_new T) (ok__law_pick T) cod A outer s H E hr) pu__law_right, hm, Fu.kp, hb⟩
abbrev s_law : Stmt := topS 43
theorem sc_law : FnScope ["script", "k", "source", "size", "row", "hidden", "parts", "name"] ["script"] (defScope s_law) := ⟨rfl, rfl, rfl, by decide +kernel, rfl, by decide +kernel, by decide +kernel⟩
theorem wk_law (T : Txt K mg) (c__law_source : CalD P w K mg base 1 "_law_source" ["script", "k"] post__law_source) (c__law_names : CalD P w K mg base 3 "_law_names" ["source", "size"] post__law_names) (c__law_pick : CalD P w K mg base 1 "_law_pick" ["source", "count"] post__law_pick) (c__law_right : CalD P w K mg base 6 "_law_right" ["source", "door", "row", "most"] post__law_right) (c__law_pairs : CalD P w K mg base 2 "_law_pairs" ["source", "most"] post__law_pairs) (cod : Value) (A : Around) (outer : List Env) (s : Shared) (H : Hp) (E : XK) {f : Addr} (hr : RoomG 6 (A.deeper (envOfC "law" (defScope s_law) s.heap.objs.size f cod))) :
    PSs (cxOf CX0 P w K mg base ["script", "k", "source", "size", "row", "hidden", "parts", "name"] "law" (defScope s_law) f cod A outer s H E).nox (defBody s_law) (tDS K b_law) :=
    (dssc (dfor PassesOwn.never rfl (dir1 (by rfl) T.z_range (dac (dcb (cMax2 rfl) (by rfl) T.z_max (by decide +kernel) (dac di (dac (dcb (cMin2 rfl) (by rfl) T.z_min (by decide +kernel) (dac di (dac (dlens rfl (by rfl) T.z_len (pv 0)) dan))) dan))) dan)) (dgn (ws := [1]) (by decide) sc_law.nd rfl (by first | exact .inl rfl | exact .inr rfl))
      (dssc (dsetO (i := 2) sc_law.nd rfl (by first | exact .inl rfl | exact .inr rfl) (dclO c__law_source (hr.mono (by decide)) (dbs (pv 0) (dbc (dn 1) dbn)) (hK := rfl)))
      (dssc (dset (i := 3) sc_law.nd rfl (by first | exact .inl rfl | exact .inr rfl) (dix rfl (dfr (dlst (dac (dop oAdd di (dcl c__law_pick (hr.mono (by decide)) (dbv (pv 2) (dbc di dbn)) (hK := rfl))) (dac (dop oAdd di (dcl c__law_pick (hr.mono (by decide)) (dbv (pv 2) (dbc di dbn)) (hK := rfl))) (dac di dan))))) (dcl c__law_pick (hr.mono (by decide)) (dbv (pv 2) (dbc di dbn)) (hK := rfl)) (fun _ _ => rfl)))
      (dssc (dsetO (i := 4) sc_law.nd rfl (by first | exact .inl rfl | exact .inr rfl) (dclO c__law_names (hr.mono (by decide)) (dbv (pv 2) (dbc (dn 3) dbn)) (hK := rfl)))
      (dssc (by first | exact (dsetO (i := 5) sc_law.nd rfl (by first | exact .inl rfl | exact .inr rfl) (dlcp (hK := rfl) (bn := [("name", 7)]) rfl sc_law.nd (pv 4) (blkOk_by (by rfl)) (fun _ _ _ _ _ => (dgn (ws := [7]) (by decide) sc_law.nd rfl (by first | exact .inl rfl | exact .inr rfl))) (fun _ _ _ _ _ => dty) (fun _ _ _ _ _ => (dif (dtCmp (oEq rfl hr.hu) (dcl c__law_pick (hr.mono (by decide)) (dbv (pv 2) (dbc di dbn)) (hK := rfl)) di (nomark _)) dnone (dn 7))))) | exact (dsetLcPO (i := 5) (hK := rfl) (bn := [("name", 7)]) rfl sc_law.nd rfl rfl (by rfl) (pv 4) (blkOk_by (by rfl)) (fun _ _ _ _ _ => (dgn (ws := [7]) (by decide) sc_law.nd rfl (by first | exact .inl rfl | exact .inr rfl))) (fun _ _ _ _ _ => dty) (fun _ _ _ _ _ => (dif (dtCmp (oEq rfl hr.hu) (dcl c__law_pick (hr.mono (by decide)) (dbv (pv 2) (dbc di dbn)) (hK := rfl)) di (nomark _)) dnone (dn 7)))))
      (dssc (dsetO (i := 6) sc_law.nd rfl (by first | exact .inl rfl | exact .inr rfl) (dlst (dac (dfr (dlst dan)) (dac (dfr (dlst (dac di dan))) (dac (dfr (dlst (dac di (dac di dan)))) dan)))))
      (dssc (difs (PW.pt (dwOr (dtNot (dtTru rfl (dcl c__law_right (hr.mono (by decide)) (dbv (pv 2) (dbc di (dbv (pv 4) (dbc di dbn)))) (hK := rfl)))) (dwo1 (dtNot (dtTru rfl (dcl c__law_right (hr.mono (by decide)) (dbv (pv 2) (dbc di (dbv (pv 5) (dbc di dbn)))) (hK := rfl)))))))
      (dss1 (dret db))
      dssn)
      (dss1 (difs (PW.pt (dwOr (dtNot (dtTru rfl (dclT c__law_right (hr.mono (by decide)) (dtmpv (pv 2) (dtmpc di (dtmp (dclO c__law_pairs (hr.mono (by decide)) (dbv (pv 2) (dbc di dbn)) (hK := rfl)) (dbc di dbn)))) (hK := rfl)))) (dwo1 (dtNot (dtTru rfl (dcl c__law_right (hr.mono (by decide)) (dbv (pv 2) (dbc di (dbv (pv 6) (dbc di dbn)))) (hK := rfl)))))))
      (dss1 (dret db))
      dssn)))))))))
      (dss1 (dret db)))
theorem ok_law (T : Txt K mg) : CalD P w K mg base 7 "law" ["script"] post_law := by
  obtain ⟨f, fd, Fu, hm, hb⟩ := T.f_law
  exact ⟨f, fd, fnD Fu sc_law ln_law (fun cod A outer s H E hr => wk_law T (ok__law_source T) (ok__law_names T) (ok__law_pick T) (ok__law_right T) (ok__law_pairs T) cod A outer s H E hr) pu_law, hm, Fu.kp, hb⟩
theorem txt_mk {K : PySem.W.Frag} {h : Heap} {mg : Str → Option Value} (X : K.In h) (G : h.Ns mainGlobals mg) {t_BLANK : Tok} {t_DIGITS : Tok} {t_EMPTY : Tok} {t_JOINT : Tok} {t_LETTERS : Tok} {t_MOST_EDGES : Tok} {t_MOST_LETTERS : Tok} {t_MOST_POSITIONS : Tok} {t_NEWLINE : Tok} {t_UNKNOWN : Tok} {od5 an5 : Option Addr} {sl5 : Array (Option Value)} {oc5 kV5 dc5 pm5 cd5 ct5 : Value} {q5 : Addr} {od6 an6 : Option Addr} {sl6 : Array (Option Value)} {oc6 kV6 dc6 pm6 cd6 ct6 : Value} {q6 : Addr} {od10 an10 : Option Addr} {sl10 : Array (Option Value)} {oc10 kV10 dc10 pm10 cd10 ct10 : Value} {q10 : Addr} {od19 an19 : Option Addr} {sl19 : Array (Option Value)} {oc19 kV19 dc19 pm19 cd19 ct19 : Value} {q19 : Addr} {od20 an20 : Option Addr} {sl20 : Array (Option Value)} {oc20 kV20 dc20 pm20 cd20 ct20 : Value} {q20 : Addr} {od21 an21 : Option Addr} {sl21 : Array (Option Value)} {oc21 kV21 dc21 pm21 cd21 ct21 : Value} {q21 : Addr} {od22 an22 : Option Addr} {sl22 : Array (Option Value)} {oc22 kV22 dc22 pm22 cd22 ct22 : Value} {q22 : Addr} {od23 an23 : Option Addr} {sl23 : Array (Option Value)} {oc23 kV23 dc23 pm23 cd23 ct23 : Value} {q23 : Addr} {od24 an24 : Option Addr} {sl24 : Array (Option Value)} {oc24 kV24 dc24 pm24 cd24 ct24 : Value} {q24 : Addr} {od25 an25 : Option Addr} {sl25 : Array (Option Value)} {oc25 kV25 dc25 pm25 cd25 ct25 : Value} {q25 : Addr} {od26 an26 : Option Addr} {sl26 : Array (Option Value)} {oc26 kV26 dc26 pm26 cd26 ct26 : Value} {q26 : Addr} {od27 an27 : Option Addr} {sl27 : Array (Option Value)} {oc27 kV27 dc27 pm27 cd27 ct27 : Value} {q27 : Addr} {od28 an28 : Option Addr} {sl28 : Array (Option Value)} {oc28 kV28 dc28 pm28 cd28 ct28 : Value} {q28 : Addr} {od29 an29 : Option Addr} {sl29 : Array (Option Value)} {oc29 kV29 dc29 pm29 cd29 ct29 : Value} {q29 : Addr} {od31 an31 : Option Addr} {sl31 : Array (Option Value)} {oc31 kV31 dc31 pm31 cd31 ct31 : Value} {q31 : Addr} {od32 an32 : Option Addr} {sl32 : Array (Option Value)} {oc32 kV32 dc32 pm32 cd32 ct32 : Value} {q32 : Addr} {od33 an33 : Option Addr} {sl33 : Array (Option Value)} {oc33 kV33 dc33 pm33 cd33 ct33 : Value} {q33 : Addr} {od34 an34 : Option Addr} {sl34 : Array (Option Value)} {oc34 kV34 dc34 pm34 cd34 ct34 : Value} {q34 : Addr} {od35 an35 : Option Addr} {sl35 : Array (Option Value)} {oc35 kV35 dc35 pm35 cd35 ct35 : Value} {q35 : Addr} {od36 an36 : Option Addr} {sl36 : Array (Option Value)} {oc36 kV36 dc36 pm36 cd36 ct36 : Value} {q36 : Addr} {od37 an37 : Option Addr} {sl37 : Array (Option Value)} {oc37 kV37 dc37 pm37 cd37 ct37 : Value} {q37 : Addr} {od38 an38 : Option Addr} {sl38 : Array (Option Value)} {oc38 kV38 dc38 pm38 cd38 ct38 : Value} {q38 : Addr} {od39 an39 : Option Addr} {sl39 : Array (Option Value)} {oc39 kV39 dc39 pm39 cd39 ct39 : Value} {q39 : Addr} {od40 an40 : Option Addr} {sl40 : Array (Option Value)} {oc40 kV40 dc40 pm40 cd40 ct40 : Value} {q40 : Addr} {od41 an41 : Option Addr} {sl41 : Array (Option Value)} {oc41 kV41 dc41 pm41 cd41 ct41 : Value} {q41 : Addr} {od42 an42 : Option Addr} {sl42 : Array (Option Value)} {oc42 kV42 dc42 pm42 cd42 ct42 : Value} {q42 : Addr} {od43 an43 : Option Addr} {sl43 : Array (Option Value)} {oc43 kV43 dc43 pm43 cd43 ct43 : Value} {q43 : Addr}
    (h_BLANK : PySem.W.nsIn K mainGlobals "BLANK" = some (some (.str (PySem.Str.ofString " ") t_BLANK)))
    (h_DIGITS : PySem.W.nsIn K mainGlobals "DIGITS" = some (some (.str (PySem.Str.ofString "0123456789") t_DIGITS)))
    (h_EMPTY : PySem.W.nsIn K mainGlobals "EMPTY" = some (some (.str (PySem.Str.ofString "-") t_EMPTY)))
    (h_JOINT : PySem.W.nsIn K mainGlobals "JOINT" = some (some (.str (PySem.Str.ofString "-") t_JOINT)))
    (h_LETTERS : PySem.W.nsIn K mainGlobals "LETTERS" = some (some (.str (PySem.Str.ofString "abcdefghijklmnopqrstuvwxyz") t_LETTERS)))
    (h_MOST_EDGES : PySem.W.nsIn K mainGlobals "MOST_EDGES" = some (some (.int 100 t_MOST_EDGES)))
    (h_MOST_LETTERS : PySem.W.nsIn K mainGlobals "MOST_LETTERS" = some (some (.int 8 t_MOST_LETTERS)))
    (h_MOST_POSITIONS : PySem.W.nsIn K mainGlobals "MOST_POSITIONS" = some (some (.int 40 t_MOST_POSITIONS)))
    (h_NEWLINE : PySem.W.nsIn K mainGlobals "NEWLINE" = some (some (.str (PySem.Str.ofString "\n") t_NEWLINE)))
    (h_UNKNOWN : PySem.W.nsIn K mainGlobals "UNKNOWN" = some (some (.str (PySem.Str.ofString "?") t_UNKNOWN)))
    (h_abs : PySem.W.nsIn K mainGlobals "abs" = some none)
    (h_all : PySem.W.nsIn K mainGlobals "all" = some none)
    (h_bool : PySem.W.nsIn K mainGlobals "bool" = some none)
    (h_enumerate : PySem.W.nsIn K mainGlobals "enumerate" = some none)
    (h_int : PySem.W.nsIn K mainGlobals "int" = some none)
    (h_isinstance : PySem.W.nsIn K mainGlobals "isinstance" = some none)
    (h_len : PySem.W.nsIn K mainGlobals "len" = some none)
    (h_list : PySem.W.nsIn K mainGlobals "list" = some none)
    (h_max : PySem.W.nsIn K mainGlobals "max" = some none)
    (h_min : PySem.W.nsIn K mainGlobals "min" = some none)
    (h_range : PySem.W.nsIn K mainGlobals "range" = some none)
    (h_set : PySem.W.nsIn K mainGlobals "set" = some none)
    (h_str : PySem.W.nsIn K mainGlobals "str" = some none)
    (h_tuple : PySem.W.nsIn K mainGlobals "tuple" = some none)
    (a5 : PySem.W.nsIn K mainGlobals "is_integer" = some (some (.ref q5))) (l5 : K.lookup q5 = some ⟨oc5, od5, .func (PySem.W.fnOf "is_integer" "is_integer" (defArgs s_is_integer) (defBody s_is_integer) (defScope s_is_integer) .none kV5 dc5 pm5 an5 cd5 ct5), sl5⟩) (c5 : PySem.W.codeIn K cd5 "is_integer" = true) (k5 : PySem.W.keepIn K (.ref q5) = true)
    (a6 : PySem.W.nsIn K mainGlobals "is_edge" = some (some (.ref q6))) (l6 : K.lookup q6 = some ⟨oc6, od6, .func (PySem.W.fnOf "is_edge" "is_edge" (defArgs s_is_edge) (defBody s_is_edge) (defScope s_is_edge) .none kV6 dc6 pm6 an6 cd6 ct6), sl6⟩) (c6 : PySem.W.codeIn K cd6 "is_edge" = true) (k6 : PySem.W.keepIn K (.ref q6) = true)
    (a10 : PySem.W.nsIn K mainGlobals "is_item" = some (some (.ref q10))) (l10 : K.lookup q10 = some ⟨oc10, od10, .func (PySem.W.fnOf "is_item" "is_item" (defArgs s_is_item) (defBody s_is_item) (defScope s_is_item) .none kV10 dc10 pm10 an10 cd10 ct10), sl10⟩) (c10 : PySem.W.codeIn K cd10 "is_item" = true) (k10 : PySem.W.keepIn K (.ref q10) = true)
    (a19 : PySem.W.nsIn K mainGlobals "write_items" = some (some (.ref q19))) (l19 : K.lookup q19 = some ⟨oc19, od19, .func (PySem.W.fnOf "write_items" "write_items" (defArgs s_write_items) (defBody s_write_items) (defScope s_write_items) .none kV19 dc19 pm19 an19 cd19 ct19), sl19⟩) (c19 : PySem.W.codeIn K cd19 "write_items" = true) (k19 : PySem.W.keepIn K (.ref q19) = true)
    (a20 : PySem.W.nsIn K mainGlobals "write_seen" = some (some (.ref q20))) (l20 : K.lookup q20 = some ⟨oc20, od20, .func (PySem.W.fnOf "write_seen" "write_seen" (defArgs s_write_seen) (defBody s_write_seen) (defScope s_write_seen) .none kV20 dc20 pm20 an20 cd20 ct20), sl20⟩) (c20 : PySem.W.codeIn K cd20 "write_seen" = true) (k20 : PySem.W.keepIn K (.ref q20) = true)
    (a21 : PySem.W.nsIn K mainGlobals "write_edges" = some (some (.ref q21))) (l21 : K.lookup q21 = some ⟨oc21, od21, .func (PySem.W.fnOf "write_edges" "write_edges" (defArgs s_write_edges) (defBody s_write_edges) (defScope s_write_edges) .none kV21 dc21 pm21 an21 cd21 ct21), sl21⟩) (c21 : PySem.W.codeIn K cd21 "write_edges" = true) (k21 : PySem.W.keepIn K (.ref q21) = true)
    (a22 : PySem.W.nsIn K mainGlobals "write_turns" = some (some (.ref q22))) (l22 : K.lookup q22 = some ⟨oc22, od22, .func (PySem.W.fnOf "write_turns" "write_turns" (defArgs s_write_turns) (defBody s_write_turns) (defScope s_write_turns) .none kV22 dc22 pm22 an22 cd22 ct22), sl22⟩) (c22 : PySem.W.codeIn K cd22 "write_turns" = true) (k22 : PySem.W.keepIn K (.ref q22) = true)
    (a23 : PySem.W.nsIn K mainGlobals "position_in" = some (some (.ref q23))) (l23 : K.lookup q23 = some ⟨oc23, od23, .func (PySem.W.fnOf "position_in" "position_in" (defArgs s_position_in) (defBody s_position_in) (defScope s_position_in) .none kV23 dc23 pm23 an23 cd23 ct23), sl23⟩) (c23 : PySem.W.codeIn K cd23 "position_in" = true) (k23 : PySem.W.keepIn K (.ref q23) = true)
    (a24 : PySem.W.nsIn K mainGlobals "edge_in" = some (some (.ref q24))) (l24 : K.lookup q24 = some ⟨oc24, od24, .func (PySem.W.fnOf "edge_in" "edge_in" (defArgs s_edge_in) (defBody s_edge_in) (defScope s_edge_in) .none kV24 dc24 pm24 an24 cd24 ct24), sl24⟩) (c24 : PySem.W.codeIn K cd24 "edge_in" = true) (k24 : PySem.W.keepIn K (.ref q24) = true)
    (a25 : PySem.W.nsIn K mainGlobals "turn_in" = some (some (.ref q25))) (l25 : K.lookup q25 = some ⟨oc25, od25, .func (PySem.W.fnOf "turn_in" "turn_in" (defArgs s_turn_in) (defBody s_turn_in) (defScope s_turn_in) .none kV25 dc25 pm25 an25 cd25 ct25), sl25⟩) (c25 : PySem.W.codeIn K cd25 "turn_in" = true) (k25 : PySem.W.keepIn K (.ref q25) = true)
    (a26 : PySem.W.nsIn K mainGlobals "read_items" = some (some (.ref q26))) (l26 : K.lookup q26 = some ⟨oc26, od26, .func (PySem.W.fnOf "read_items" "read_items" (defArgs s_read_items) (defBody s_read_items) (defScope s_read_items) .none kV26 dc26 pm26 an26 cd26 ct26), sl26⟩) (c26 : PySem.W.codeIn K cd26 "read_items" = true) (k26 : PySem.W.keepIn K (.ref q26) = true)
    (a27 : PySem.W.nsIn K mainGlobals "read_seen" = some (some (.ref q27))) (l27 : K.lookup q27 = some ⟨oc27, od27, .func (PySem.W.fnOf "read_seen" "read_seen" (defArgs s_read_seen) (defBody s_read_seen) (defScope s_read_seen) .none kV27 dc27 pm27 an27 cd27 ct27), sl27⟩) (c27 : PySem.W.codeIn K cd27 "read_seen" = true) (k27 : PySem.W.keepIn K (.ref q27) = true)
    (a28 : PySem.W.nsIn K mainGlobals "read_edges" = some (some (.ref q28))) (l28 : K.lookup q28 = some ⟨oc28, od28, .func (PySem.W.fnOf "read_edges" "read_edges" (defArgs s_read_edges) (defBody s_read_edges) (defScope s_read_edges) .none kV28 dc28 pm28 an28 cd28 ct28), sl28⟩) (c28 : PySem.W.codeIn K cd28 "read_edges" = true) (k28 : PySem.W.keepIn K (.ref q28) = true)
    (a29 : PySem.W.nsIn K mainGlobals "read_turns" = some (some (.ref q29))) (l29 : K.lookup q29 = some ⟨oc29, od29, .func (PySem.W.fnOf "read_turns" "read_turns" (defArgs s_read_turns) (defBody s_read_turns) (defScope s_read_turns) .none kV29 dc29 pm29 an29 cd29 ct29), sl29⟩) (c29 : PySem.W.codeIn K cd29 "read_turns" = true) (k29 : PySem.W.keepIn K (.ref q29) = true)
    (a31 : PySem.W.nsIn K mainGlobals "_law_source" = some (some (.ref q31))) (l31 : K.lookup q31 = some ⟨oc31, od31, .func (PySem.W.fnOf "_law_source" "_law_source" (defArgs s__law_source) (defBody s__law_source) (defScope s__law_source) .none kV31 dc31 pm31 an31 cd31 ct31), sl31⟩) (c31 : PySem.W.codeIn K cd31 "_law_source" = true) (k31 : PySem.W.keepIn K (.ref q31) = true)
    (a32 : PySem.W.nsIn K mainGlobals "_law_pick" = some (some (.ref q32))) (l32 : K.lookup q32 = some ⟨oc32, od32, .func (PySem.W.fnOf "_law_pick" "_law_pick" (defArgs s__law_pick) (defBody s__law_pick) (defScope s__law_pick) .none kV32 dc32 pm32 an32 cd32 ct32), sl32⟩) (c32 : PySem.W.codeIn K cd32 "_law_pick" = true) (k32 : PySem.W.keepIn K (.ref q32) = true)
    (a33 : PySem.W.nsIn K mainGlobals "_law_shuffled" = some (some (.ref q33))) (l33 : K.lookup q33 = some ⟨oc33, od33, .func (PySem.W.fnOf "_law_shuffled" "_law_shuffled" (defArgs s__law_shuffled) (defBody s__law_shuffled) (defScope s__law_shuffled) .none kV33 dc33 pm33 an33 cd33 ct33), sl33⟩) (c33 : PySem.W.codeIn K cd33 "_law_shuffled" = true) (k33 : PySem.W.keepIn K (.ref q33) = true)
    (a34 : PySem.W.nsIn K mainGlobals "_law_names" = some (some (.ref q34))) (l34 : K.lookup q34 = some ⟨oc34, od34, .func (PySem.W.fnOf "_law_names" "_law_names" (defArgs s__law_names) (defBody s__law_names) (defScope s__law_names) .none kV34 dc34 pm34 an34 cd34 ct34), sl34⟩) (c34 : PySem.W.codeIn K cd34 "_law_names" = true) (k34 : PySem.W.keepIn K (.ref q34) = true)
    (a35 : PySem.W.nsIn K mainGlobals "_law_all_pairs" = some (some (.ref q35))) (l35 : K.lookup q35 = some ⟨oc35, od35, .func (PySem.W.fnOf "_law_all_pairs" "_law_all_pairs" (defArgs s__law_all_pairs) (defBody s__law_all_pairs) (defScope s__law_all_pairs) .none kV35 dc35 pm35 an35 cd35 ct35), sl35⟩) (c35 : PySem.W.codeIn K cd35 "_law_all_pairs" = true) (k35 : PySem.W.keepIn K (.ref q35) = true)
    (a36 : PySem.W.nsIn K mainGlobals "_law_pairs" = some (some (.ref q36))) (l36 : K.lookup q36 = some ⟨oc36, od36, .func (PySem.W.fnOf "_law_pairs" "_law_pairs" (defArgs s__law_pairs) (defBody s__law_pairs) (defScope s__law_pairs) .none kV36 dc36 pm36 an36 cd36 ct36), sl36⟩) (c36 : PySem.W.codeIn K cd36 "_law_pairs" = true) (k36 : PySem.W.keepIn K (.ref q36) = true)
    (a37 : PySem.W.nsIn K mainGlobals "_law_change" = some (some (.ref q37))) (l37 : K.lookup q37 = some ⟨oc37, od37, .func (PySem.W.fnOf "_law_change" "_law_change" (defArgs s__law_change) (defBody s__law_change) (defScope s__law_change) .none kV37 dc37 pm37 an37 cd37 ct37), sl37⟩) (c37 : PySem.W.codeIn K cd37 "_law_change" = true) (k37 : PySem.W.keepIn K (.ref q37) = true)
    (a38 : PySem.W.nsIn K mainGlobals "_law_page" = some (some (.ref q38))) (l38 : K.lookup q38 = some ⟨oc38, od38, .func (PySem.W.fnOf "_law_page" "_law_page" (defArgs s__law_page) (defBody s__law_page) (defScope s__law_page) .none kV38 dc38 pm38 an38 cd38 ct38), sl38⟩) (c38 : PySem.W.codeIn K cd38 "_law_page" = true) (k38 : PySem.W.keepIn K (.ref q38) = true)
    (a39 : PySem.W.nsIn K mainGlobals "_law_written" = some (some (.ref q39))) (l39 : K.lookup q39 = some ⟨oc39, od39, .func (PySem.W.fnOf "_law_written" "_law_written" (defArgs s__law_written) (defBody s__law_written) (defScope s__law_written) .none kV39 dc39 pm39 an39 cd39 ct39), sl39⟩) (c39 : PySem.W.codeIn K cd39 "_law_written" = true) (k39 : PySem.W.keepIn K (.ref q39) = true)
    (a40 : PySem.W.nsIn K mainGlobals "_law_read" = some (some (.ref q40))) (l40 : K.lookup q40 = some ⟨oc40, od40, .func (PySem.W.fnOf "_law_read" "_law_read" (defArgs s__law_read) (defBody s__law_read) (defScope s__law_read) .none kV40 dc40 pm40 an40 cd40 ct40), sl40⟩) (c40 : PySem.W.codeIn K cd40 "_law_read" = true) (k40 : PySem.W.keepIn K (.ref q40) = true)
    (a41 : PySem.W.nsIn K mainGlobals "_law_new" = some (some (.ref q41))) (l41 : K.lookup q41 = some ⟨oc41, od41, .func (PySem.W.fnOf "_law_new" "_law_new" (defArgs s__law_new) (defBody s__law_new) (defScope s__law_new) .none kV41 dc41 pm41 an41 cd41 ct41), sl41⟩) (c41 : PySem.W.codeIn K cd41 "_law_new" = true) (k41 : PySem.W.keepIn K (.ref q41) = true)
    (a42 : PySem.W.nsIn K mainGlobals "_law_right" = some (some (.ref q42))) (l42 : K.lookup q42 = some ⟨oc42, od42, .func (PySem.W.fnOf "_law_right" "_law_right" (defArgs s__law_right) (defBody s__law_right) (defScope s__law_right) .none kV42 dc42 pm42 an42 cd42 ct42), sl42⟩) (c42 : PySem.W.codeIn K cd42 "_law_right" = true) (k42 : PySem.W.keepIn K (.ref q42) = true)
    (a43 : PySem.W.nsIn K mainGlobals "law" = some (some (.ref q43))) (l43 : K.lookup q43 = some ⟨oc43, od43, .func (PySem.W.fnOf "law" "law" (defArgs s_law) (defBody s_law) (defScope s_law) .none kV43 dc43 pm43 an43 cd43 ct43), sl43⟩) (c43 : PySem.W.codeIn K cd43 "law" = true) (k43 : PySem.W.keepIn K (.ref q43) = true) : Txt K mg where
  z_BLANK := ⟨_, PySem.W.mg_of X G h_BLANK⟩
  z_DIGITS := ⟨_, PySem.W.mg_of X G h_DIGITS⟩
  z_EMPTY := ⟨_, PySem.W.mg_of X G h_EMPTY⟩
  z_JOINT := ⟨_, PySem.W.mg_of X G h_JOINT⟩
  z_LETTERS := ⟨_, PySem.W.mg_of X G h_LETTERS⟩
  z_MOST_EDGES := ⟨_, PySem.W.mg_of X G h_MOST_EDGES⟩
  z_MOST_LETTERS := ⟨_, PySem.W.mg_of X G h_MOST_LETTERS⟩
  z_MOST_POSITIONS := ⟨_, PySem.W.mg_of X G h_MOST_POSITIONS⟩
  z_NEWLINE := ⟨_, PySem.W.mg_of X G h_NEWLINE⟩
  z_UNKNOWN := ⟨_, PySem.W.mg_of X G h_UNKNOWN⟩
  z_abs := PySem.W.mg_none_of X G h_abs
  z_all := PySem.W.mg_none_of X G h_all
  z_bool := PySem.W.mg_none_of X G h_bool
  z_enumerate := PySem.W.mg_none_of X G h_enumerate
  z_int := PySem.W.mg_none_of X G h_int
  z_isinstance := PySem.W.mg_none_of X G h_isinstance
  z_len := PySem.W.mg_none_of X G h_len
  z_list := PySem.W.mg_none_of X G h_list
  z_max := PySem.W.mg_none_of X G h_max
  z_min := PySem.W.mg_none_of X G h_min
  z_range := PySem.W.mg_none_of X G h_range
  z_set := PySem.W.mg_none_of X G h_set
  z_str := PySem.W.mg_none_of X G h_str
  z_tuple := PySem.W.mg_none_of X G h_tuple
  f_is_integer := ⟨q5, _, fun_mk (st := s_is_integer) l5 c5 k5, PySem.W.mg_of X G a5, (fun_mk (st := s_is_integer) l5 c5 k5).binds (ps := ["thing", "least", "most"]) fun _ _ _ _ _ _ us hl => match us, hl with | [_, _, _], _ => rfl⟩
  f_is_edge := ⟨q6, _, fun_mk (st := s_is_edge) l6 c6 k6, PySem.W.mg_of X G a6, (fun_mk (st := s_is_edge) l6 c6 k6).binds (ps := ["thing", "size"]) fun _ _ _ _ _ _ us hl => match us, hl with | [_, _], _ => rfl⟩
  f_is_item := ⟨q10, _, fun_mk (st := s_is_item) l10 c10 k10, PySem.W.mg_of X G a10, (fun_mk (st := s_is_item) l10 c10 k10).binds (ps := ["thing"]) fun _ _ _ _ _ _ us hl => match us, hl with | [_], _ => rfl⟩
  f_write_items := ⟨q19, _, fun_mk (st := s_write_items) l19 c19 k19, PySem.W.mg_of X G a19, (fun_mk (st := s_write_items) l19 c19 k19).binds (ps := ["items"]) fun _ _ _ _ _ _ us hl => match us, hl with | [_], _ => rfl⟩
  f_write_seen := ⟨q20, _, fun_mk (st := s_write_seen) l20 c20 k20, PySem.W.mg_of X G a20, (fun_mk (st := s_write_seen) l20 c20 k20).binds (ps := ["seen"]) fun _ _ _ _ _ _ us hl => match us, hl with | [_], _ => rfl⟩
  f_write_edges := ⟨q21, _, fun_mk (st := s_write_edges) l21 c21 k21, PySem.W.mg_of X G a21, (fun_mk (st := s_write_edges) l21 c21 k21).binds (ps := ["edges"]) fun _ _ _ _ _ _ us hl => match us, hl with | [_], _ => rfl⟩
  f_write_turns := ⟨q22, _, fun_mk (st := s_write_turns) l22 c22 k22, PySem.W.mg_of X G a22, (fun_mk (st := s_write_turns) l22 c22 k22).binds (ps := ["turns"]) fun _ _ _ _ _ _ us hl => match us, hl with | [_], _ => rfl⟩
  f_position_in := ⟨q23, _, fun_mk (st := s_position_in) l23 c23 k23, PySem.W.mg_of X G a23, (fun_mk (st := s_position_in) l23 c23 k23).binds (ps := ["word"]) fun _ _ _ _ _ _ us hl => match us, hl with | [_], _ => rfl⟩
  f_edge_in := ⟨q24, _, fun_mk (st := s_edge_in) l24 c24 k24, PySem.W.mg_of X G a24, (fun_mk (st := s_edge_in) l24 c24 k24).binds (ps := ["word"]) fun _ _ _ _ _ _ us hl => match us, hl with | [_], _ => rfl⟩
  f_turn_in := ⟨q25, _, fun_mk (st := s_turn_in) l25 c25 k25, PySem.W.mg_of X G a25, (fun_mk (st := s_turn_in) l25 c25 k25).binds (ps := ["line"]) fun _ _ _ _ _ _ us hl => match us, hl with | [_], _ => rfl⟩
  f_read_items := ⟨q26, _, fun_mk (st := s_read_items) l26 c26 k26, PySem.W.mg_of X G a26, (fun_mk (st := s_read_items) l26 c26 k26).binds (ps := ["text"]) fun _ _ _ _ _ _ us hl => match us, hl with | [_], _ => rfl⟩
  f_read_seen := ⟨q27, _, fun_mk (st := s_read_seen) l27 c27 k27, PySem.W.mg_of X G a27, (fun_mk (st := s_read_seen) l27 c27 k27).binds (ps := ["text"]) fun _ _ _ _ _ _ us hl => match us, hl with | [_], _ => rfl⟩
  f_read_edges := ⟨q28, _, fun_mk (st := s_read_edges) l28 c28 k28, PySem.W.mg_of X G a28, (fun_mk (st := s_read_edges) l28 c28 k28).binds (ps := ["text"]) fun _ _ _ _ _ _ us hl => match us, hl with | [_], _ => rfl⟩
  f_read_turns := ⟨q29, _, fun_mk (st := s_read_turns) l29 c29 k29, PySem.W.mg_of X G a29, (fun_mk (st := s_read_turns) l29 c29 k29).binds (ps := ["text"]) fun _ _ _ _ _ _ us hl => match us, hl with | [_], _ => rfl⟩
  f__law_source := ⟨q31, _, fun_mk (st := s__law_source) l31 c31 k31, PySem.W.mg_of X G a31, (fun_mk (st := s__law_source) l31 c31 k31).binds (ps := ["script", "k"]) fun _ _ _ _ _ _ us hl => match us, hl with | [_, _], _ => rfl⟩
  f__law_pick := ⟨q32, _, fun_mk (st := s__law_pick) l32 c32 k32, PySem.W.mg_of X G a32, (fun_mk (st := s__law_pick) l32 c32 k32).binds (ps := ["source", "count"]) fun _ _ _ _ _ _ us hl => match us, hl with | [_, _], _ => rfl⟩
  f__law_shuffled := ⟨q33, _, fun_mk (st := s__law_shuffled) l33 c33 k33, PySem.W.mg_of X G a33, (fun_mk (st := s__law_shuffled) l33 c33 k33).binds (ps := ["source", "row"]) fun _ _ _ _ _ _ us hl => match us, hl with | [_, _], _ => rfl⟩
  f__law_names := ⟨q34, _, fun_mk (st := s__law_names) l34 c34 k34, PySem.W.mg_of X G a34, (fun_mk (st := s__law_names) l34 c34 k34).binds (ps := ["source", "size"]) fun _ _ _ _ _ _ us hl => match us, hl with | [_, _], _ => rfl⟩
  f__law_all_pairs := ⟨q35, _, fun_mk (st := s__law_all_pairs) l35 c35 k35, PySem.W.mg_of X G a35, (fun_mk (st := s__law_all_pairs) l35 c35 k35).binds (ps := ["span"]) fun _ _ _ _ _ _ us hl => match us, hl with | [_], _ => rfl⟩
  f__law_pairs := ⟨q36, _, fun_mk (st := s__law_pairs) l36 c36 k36, PySem.W.mg_of X G a36, (fun_mk (st := s__law_pairs) l36 c36 k36).binds (ps := ["source", "most"]) fun _ _ _ _ _ _ us hl => match us, hl with | [_, _], _ => rfl⟩
  f__law_change := ⟨q37, _, fun_mk (st := s__law_change) l37 c37 k37, PySem.W.mg_of X G a37, (fun_mk (st := s__law_change) l37 c37 k37).binds (ps := ["source", "row", "most", "new"]) fun _ _ _ _ _ _ us hl => match us, hl with | [_, _, _, _], _ => rfl⟩
  f__law_page := ⟨q38, _, fun_mk (st := s__law_page) l38 c38 k38, PySem.W.mg_of X G a38, (fun_mk (st := s__law_page) l38 c38 k38).binds (ps := ["door", "row"]) fun _ _ _ _ _ _ us hl => match us, hl with | [_, _], _ => rfl⟩
  f__law_written := ⟨q39, _, fun_mk (st := s__law_written) l39 c39 k39, PySem.W.mg_of X G a39, (fun_mk (st := s__law_written) l39 c39 k39).binds (ps := ["door", "row"]) fun _ _ _ _ _ _ us hl => match us, hl with | [_, _], _ => rfl⟩
  f__law_read := ⟨q40, _, fun_mk (st := s__law_read) l40 c40 k40, PySem.W.mg_of X G a40, (fun_mk (st := s__law_read) l40 c40 k40).binds (ps := ["door", "page"]) fun _ _ _ _ _ _ us hl => match us, hl with | [_, _], _ => rfl⟩
  f__law_new := ⟨q41, _, fun_mk (st := s__law_new) l41 c41 k41, PySem.W.mg_of X G a41, (fun_mk (st := s__law_new) l41 c41 k41).binds (ps := ["source", "door"]) fun _ _ _ _ _ _ us hl => match us, hl with | [_, _], _ => rfl⟩
  f__law_right := ⟨q42, _, fun_mk (st := s__law_right) l42 c42 k42, PySem.W.mg_of X G a42, (fun_mk (st := s__law_right) l42 c42 k42).binds (ps := ["source", "door", "row", "most"]) fun _ _ _ _ _ _ us hl => match us, hl with | [_, _, _, _], _ => rfl⟩
  f_law := ⟨q43, _, fun_mk (st := s_law) l43 c43 k43, PySem.W.mg_of X G a43, (fun_mk (st := s_law) l43 c43 k43).binds (ps := ["script"]) fun _ _ _ _ _ _ us hl => match us, hl with | [_], _ => rfl⟩
theorem all_mk {P : Program} {w : World} {K : PySem.W.Frag} {h : Heap} {mg : Str → Option Value} {fa : Addr} (T : Txt K mg) (X : K.In h) (G : h.Ns mainGlobals mg) (hfa : mg "law" = some (.ref fa))
    {od an : Option Addr} {sl : Array (Option Value)} {oc kV dc pm cd ct : Value} {q : Addr} (a : PySem.W.nsIn K mainGlobals "law" = some (some (.ref q))) (l : K.lookup q = some ⟨oc, od, .func (PySem.W.fnOf "law" "law" (defArgs s_law) (defBody s_law) (defScope s_law) .none kV dc pm an cd ct), sl⟩) (c : PySem.W.codeIn K cd "law" = true) (k : PySem.W.keepIn K (.ref q) = true) :
    ∃ fd : FuncData, (∀ (s : Shared) (u : Value), BindsTo s fd ⟨[u], []⟩ [("script", u)]) ∧ ∀ base : Heap, K.In base → base.Ns mainGlobals mg → FnG P w K mg base CX0 7 fa fd ["script"] (SpD K postLaw) := by
  have e := hfa.symm.trans (PySem.W.mg_of X G a)
  cases e
  have Fu := fun_mk (st := s_law) l c k
  exact ⟨_, fun s v => .of_eq rfl, fun base _ _ => fnD Fu sc_law ln_law (fun cod A outer s H E hr => wk_law T (ok__law_source T) (ok__law_names T) (ok__law_pick T) (ok__law_right T) (ok__law_pairs T) cod A outer s H E hr) pu_law⟩
end
end K95
open PySem PySem.W PyProof.Rows
set_option maxHeartbeats 0 in
theorem PySem.Challenge.cw_onceswapped_k95_lists_changed_in_place_holds : PySem.Challenge.rw_onceswapped_k95_lists_changed_in_place.Holds := by
  w_on; o_law; k_head; (case hw => w_witness2)
  k_fill
  refine PD.walkG (l := PySem.Challenge.rw_onceswapped_k95_lists_changed_in_place) (k := 7) (x := "script") rfl rfl ⟨⟨rfl, by decide, by decide⟩, rfl⟩ (fun w h Y => PySem.W.kIn_of Y) ?F
  intro w mg fa h KX G hmg
  refine' K95.all_mk (K95.txt_mk KX G ?h_BLANK ?h_DIGITS ?h_EMPTY ?h_JOINT ?h_LETTERS ?h_MOST_EDGES ?h_MOST_LETTERS ?h_MOST_POSITIONS ?h_NEWLINE ?h_UNKNOWN ?h_abs ?h_all ?h_bool ?h_enumerate ?h_int ?h_isinstance ?h_len ?h_list ?h_max ?h_min ?h_range ?h_set ?h_str ?h_tuple ?a5 ?l5 ?c5 ?k5 ?a6 ?l6 ?c6 ?k6 ?a10 ?l10 ?c10 ?k10 ?a19 ?l19 ?c19 ?k19 ?a20 ?l20 ?c20 ?k20 ?a21 ?l21 ?c21 ?k21 ?a22 ?l22 ?c22 ?k22 ?a23 ?l23 ?c23 ?k23 ?a24 ?l24 ?c24 ?k24 ?a25 ?l25 ?c25 ?k25 ?a26 ?l26 ?c26 ?k26 ?a27 ?l27 ?c27 ?k27 ?a28 ?l28 ?c28 ?k28 ?a29 ?l29 ?c29 ?k29 ?a31 ?l31 ?c31 ?k31 ?a32 ?l32 ?c32 ?k32 ?a33 ?l33 ?c33 ?k33 ?a34 ?l34 ?c34 ?k34 ?a35 ?l35 ?c35 ?k35 ?a36 ?l36 ?c36 ?k36 ?a37 ?l37 ?c37 ?k37 ?a38 ?l38 ?c38 ?k38 ?a39 ?l39 ?c39 ?k39 ?a40 ?l40 ?c40 ?k40 ?a41 ?l41 ?c41 ?k41 ?a42 ?l42 ?c42 ?k42 ?a43 ?l43 ?c43 ?k43) KX G hmg ?xa ?xl ?xc ?xk
  (case h_BLANK => k_is)
  (case h_DIGITS => k_is)
  (case h_EMPTY => k_is)
  (case h_JOINT => k_is)
  (case h_LETTERS => k_is)
  (case h_MOST_EDGES => k_is)
  (case h_MOST_LETTERS => k_is)
  (case h_MOST_POSITIONS => k_is)
  (case h_NEWLINE => k_is)
  (case h_UNKNOWN => k_is)
  (case h_abs => k_is)
  (case h_all => k_is)
  (case h_bool => k_is)
  (case h_enumerate => k_is)
  (case h_int => k_is)
  (case h_isinstance => k_is)
  (case h_len => k_is)
  (case h_list => k_is)
  (case h_max => k_is)
  (case h_min => k_is)
  (case h_range => k_is)
  (case h_set => k_is)
  (case h_str => k_is)
  (case h_tuple => k_is)
  (case a5 => k_is)
  (case l5 => k_is)
  (case c5 => k_is)
  (case k5 => k_is)
  (case a6 => k_is)
  (case l6 => k_is)
  (case c6 => k_is)
  (case k6 => k_is)
  (case a10 => k_is)
  (case l10 => k_is)
  (case c10 => k_is)
  (case k10 => k_is)
  (case a19 => k_is)
  (case l19 => k_is)
  (case c19 => k_is)
  (case k19 => k_is)
  (case a20 => k_is)
  (case l20 => k_is)
  (case c20 => k_is)
  (case k20 => k_is)
  (case a21 => k_is)
  (case l21 => k_is)
  (case c21 => k_is)
  (case k21 => k_is)
  (case a22 => k_is)
  (case l22 => k_is)
  (case c22 => k_is)
  (case k22 => k_is)
  (case a23 => k_is)
  (case l23 => k_is)
  (case c23 => k_is)
  (case k23 => k_is)
  (case a24 => k_is)
  (case l24 => k_is)
  (case c24 => k_is)
  (case k24 => k_is)
  (case a25 => k_is)
  (case l25 => k_is)
  (case c25 => k_is)
  (case k25 => k_is)
  (case a26 => k_is)
  (case l26 => k_is)
  (case c26 => k_is)
  (case k26 => k_is)
  (case a27 => k_is)
  (case l27 => k_is)
  (case c27 => k_is)
  (case k27 => k_is)
  (case a28 => k_is)
  (case l28 => k_is)
  (case c28 => k_is)
  (case k28 => k_is)
  (case a29 => k_is)
  (case l29 => k_is)
  (case c29 => k_is)
  (case k29 => k_is)
  (case a31 => k_is)
  (case l31 => k_is)
  (case c31 => k_is)
  (case k31 => k_is)
  (case a32 => k_is)
  (case l32 => k_is)
  (case c32 => k_is)
  (case k32 => k_is)
  (case a33 => k_is)
  (case l33 => k_is)
  (case c33 => k_is)
  (case k33 => k_is)
  (case a34 => k_is)
  (case l34 => k_is)
  (case c34 => k_is)
  (case k34 => k_is)
  (case a35 => k_is)
  (case l35 => k_is)
  (case c35 => k_is)
  (case k35 => k_is)
  (case a36 => k_is)
  (case l36 => k_is)
  (case c36 => k_is)
  (case k36 => k_is)
  (case a37 => k_is)
  (case l37 => k_is)
  (case c37 => k_is)
  (case k37 => k_is)
  (case a38 => k_is)
  (case l38 => k_is)
  (case c38 => k_is)
  (case k38 => k_is)
  (case a39 => k_is)
  (case l39 => k_is)
  (case c39 => k_is)
  (case k39 => k_is)
  (case a40 => k_is)
  (case l40 => k_is)
  (case c40 => k_is)
  (case k40 => k_is)
  (case a41 => k_is)
  (case l41 => k_is)
  (case c41 => k_is)
  (case k41 => k_is)
  (case a42 => k_is)
  (case l42 => k_is)
  (case c42 => k_is)
  (case k42 => k_is)
  (case a43 => k_is)
  (case l43 => k_is)
  (case c43 => k_is)
  (case k43 => k_is)
  (case xa => k_is)
  (case xl => k_is)
  (case xc => k_is)
  (case xk => k_is)
