import PyProof.Rows.All
import Wide.All
import OpenK.AllK
import Wide.FinOn
import HandS.ForMost
import HandS.ForExc
import HandS.IsInst
import HandS.Walk
import HandS.Star
import HandS.TryMany
import HandS.Flow
import HandS.Deep
import KE.DataEq
import HandS.TupAny
import HandS.StrMore
import HandS.WordsDict
import HandS.Style
import HandS.Defaults
import HandS.CallSlots
import HandS.Zip
import HandS.Conv
import HandS.Strs
import HandS.Text
import PySem.Challenge.RW_plainsure_k03_fresh_things
set_option Elab.async false
set_option linter.all false
set_option maxRecDepth 100000
set_option maxHeartbeats 4000000
/-! PD: readings over plain data, no heap in sight. Part a: data, what represents it, the state. -/
namespace PD
open PySem PySem.Spec PyProof.Rows L2

/-! ### plain data -/
inductive D where
  | non | bl (b : Bool) | int (i : Int) | str (s : Str) | ty (n : String) | ref (a : Addr)
  | tup (xs : List D) | lst (xs : List D)
  | dic (kvs : List (Key × D))
  | obj (C : Addr) (fs : List (Str × D))

def Ex (H H' : Hp) : Prop := ∀ a o, H a = some o → H' a = some o
theorem Ex.refl (H : Hp) : Ex H H := fun _ _ h => h
theorem Ex.trans {H H1 H2 : Hp} (a : Ex H H1) (b : Ex H1 H2) : Ex H H2 := fun x o h => b x o (a x o h)
theorem Ex.new {H : Hp} {p : Addr} {o : HO} (h : H p = none) : Ex H (upd H p o) := fun a u e => by
  rw [upd_ne (ne_of_none e h)]
  exact e
theorem Ex.rd {H H' : Hp} {a : Addr} {u : HO} (e : Ex H H') (h : Rd H a u) : Rd H' a u := by
  rcases h with h | ⟨o, h⟩
  · exact Or.inl (e a _ h)
  · exact Or.inr ⟨o, e a _ h⟩
theorem Ex.l {K : PySem.W.Frag} {H H' : Hp} {a : Addr} {xs : List V} (e : Ex H H') (h : SqL K H a xs) : SqL K H' a xs := by
  rcases h with h | h
  · exact Or.inl (e.rd h)
  · exact Or.inr h
theorem Ex.t {K : PySem.W.Frag} {H H' : Hp} {a : Addr} {xs : List V} (e : Ex H H') (h : SqT K H a xs) : SqT K H' a xs := by
  rcases h with h | h
  · exact Or.inl (e.rd h)
  · exact Or.inr h
theorem Ex.free {H H' : Hp} {a : Addr} (e : Ex H H') (h : H' a = Option.none) : H a = Option.none := by
  cases q : H a with
  | none => rfl
  | some o =>
    rw [e a o q] at h
    cases h

/-- v stands for the datum in the heap H -/
inductive Rep (K : PySem.W.Frag) (H : Hp) : D → V → Prop where
  | non : Rep K H .non .non
  | bl (b : Bool) : Rep K H (.bl b) (.bl b)
  | int (i : Int) : Rep K H (.int i) (.int i)
  | str (s : Str) : Rep K H (.str s) (.str s)
  | ty (n : String) : Rep K H (.ty n) (.ty n)
  | ref (a : Addr) : Rep K H (.ref a) (.ref a)
  | tup {a : Addr} {xs : List V} {ds : List D} (h : SqT K H a xs) (hl : xs.length = ds.length) (r : ∀ (i : Nat) (d : D) (v : V), ds[i]? = some d → xs[i]? = some v → Rep K H d v) : Rep K H (.tup ds) (.ref a)
  | lst {a : Addr} {xs : List V} {ds : List D} (h : H a = some (.lst xs)) (hl : xs.length = ds.length) (r : ∀ (i : Nat) (d : D) (v : V), ds[i]? = some d → xs[i]? = some v → Rep K H d v) : Rep K H (.lst ds) (.ref a)
  | dic {a : Addr} {es : List (Key × V)} {kvs : List (Key × D)} (h : H a = some (.dK es)) (hl : es.map (·.1) = kvs.map (·.1)) (r : ∀ (i : Nat) (k : Key) (d : D) (j : Key) (v : V), kvs[i]? = some (k, d) → es[i]? = some (j, v) → Rep K H d v) : Rep K H (.dic kvs) (.ref a)
  | obj {a C dx : Addr} {gs : List (Str × V)} {fs : List (Str × D)} (h : H a = some (.ins C dx gs)) (hl : gs.map (·.1) = fs.map (·.1)) (r : ∀ (i : Nat) (k : Str) (d : D) (j : Str) (v : V), fs[i]? = some (k, d) → gs[i]? = some (j, v) → Rep K H d v) : Rep K H (.obj C fs) (.ref a)

section
variable {K : PySem.W.Frag} {H H' : Hp}
theorem Rep.mono {d : D} {v : V} (r : Rep K H d v) (e : Ex H H') : Rep K H' d v := by
  induction r with
  | non => exact .non
  | bl b => exact .bl b
  | int i => exact .int i
  | str s => exact .str s
  | ty n => exact .ty n
  | ref a => exact .ref a
  | tup h hl _ ih => exact .tup (e.t h) hl ih
  | lst h hl _ ih => exact .lst (e _ _ h) hl ih
  | dic h hl _ ih => exact .dic (e _ _ h) hl ih
  | obj h hl _ ih => exact .obj (e _ _ h) hl ih

/-- item by item -/
def Reps (K : PySem.W.Frag) (H : Hp) (ds : List D) (xs : List V) : Prop := xs.length = ds.length ∧ ∀ (i : Nat) (d : D) (v : V), ds[i]? = some d → xs[i]? = some v → Rep K H d v
def RepK (K : PySem.W.Frag) (H : Hp) (kvs : List (Key × D)) (es : List (Key × V)) : Prop := es.map (·.1) = kvs.map (·.1) ∧ ∀ (i : Nat) (k : Key) (d : D) (j : Key) (v : V), kvs[i]? = some (k, d) → es[i]? = some (j, v) → Rep K H d v
def RepF (K : PySem.W.Frag) (H : Hp) (fs : List (Str × D)) (gs : List (Str × V)) : Prop := gs.map (·.1) = fs.map (·.1) ∧ ∀ (i : Nat) (k : Str) (d : D) (j : Str) (v : V), fs[i]? = some (k, d) → gs[i]? = some (j, v) → Rep K H d v
theorem Reps.mono {ds : List D} {xs : List V} (r : Reps K H ds xs) (e : Ex H H') : Reps K H' ds xs := ⟨r.1, fun i d v a b => (r.2 i d v a b).mono e⟩
theorem RepK.mono {ds : List (Key × D)} {xs : List (Key × V)} (r : RepK K H ds xs) (e : Ex H H') : RepK K H' ds xs := ⟨r.1, fun i k d j v a b => (r.2 i k d j v a b).mono e⟩
theorem RepF.mono {ds : List (Str × D)} {xs : List (Str × V)} (r : RepF K H ds xs) (e : Ex H H') : RepF K H' ds xs := ⟨r.1, fun i k d j v a b => (r.2 i k d j v a b).mono e⟩
theorem Reps.nil : Reps K H [] [] := ⟨rfl, fun i d v a => by simp at a⟩
theorem Reps.cons {d : D} {v : V} {ds : List D} {xs : List V} (a : Rep K H d v) (r : Reps K H ds xs) : Reps K H (d :: ds) (v :: xs) := by
  refine ⟨by simp [r.1], fun i e w h1 h2 => ?_⟩
  cases i with
  | zero =>
    simp at h1 h2
    rw [← h1, ← h2]
    exact a
  | succ i => exact r.2 i e w (by simpa using h1) (by simpa using h2)
theorem Reps.head {d : D} {v : V} {ds : List D} {xs : List V} (r : Reps K H (d :: ds) (v :: xs)) : Rep K H d v := r.2 0 d v rfl rfl
theorem Reps.tail {d : D} {v : V} {ds : List D} {xs : List V} (r : Reps K H (d :: ds) (v :: xs)) : Reps K H ds xs :=
  ⟨by simpa using r.1, fun i e w h1 h2 => r.2 (i + 1) e w (by simpa using h1) (by simpa using h2)⟩
theorem Reps.inv_nil {xs : List V} (r : Reps K H [] xs) : xs = [] := by
  cases xs with
  | nil => rfl
  | cons x y => exact absurd r.1 (by simp)
theorem Reps.inv_cons {d : D} {ds : List D} {xs : List V} (r : Reps K H (d :: ds) xs) : ∃ v ys, xs = v :: ys ∧ Rep K H d v ∧ Reps K H ds ys := by
  cases xs with
  | nil => exact absurd r.1 (by simp)
  | cons v ys => exact ⟨v, ys, rfl, r.head, r.tail⟩
theorem Reps.append : ∀ {ds es : List D} {xs ys : List V}, Reps K H ds xs → Reps K H es ys → Reps K H (ds ++ es) (xs ++ ys)
  | [], es, xs, ys, r, q => by
    rw [r.inv_nil]
    exact q
  | d :: ds, es, xs, ys, r, q => by
    obtain ⟨v, zs, rfl, a, b⟩ := r.inv_cons
    exact (Reps.append b q).cons a
theorem Reps.one {d : D} {v : V} (a : Rep K H d v) : Reps K H [d] [v] := Reps.nil.cons a
theorem Reps.take {ds : List D} {xs : List V} (n : Nat) (r : Reps K H ds xs) : Reps K H (ds.take n) (xs.take n) := by
  refine ⟨by simp [r.1], fun i d v h1 h2 => ?_⟩
  rw [List.getElem?_take] at h1 h2
  split at h1
  · rename_i hi
    rw [if_pos hi] at h2
    exact r.2 i d v h1 h2
  · cases h1
theorem Reps.drop {ds : List D} {xs : List V} (n : Nat) (r : Reps K H ds xs) : Reps K H (ds.drop n) (xs.drop n) := by
  refine ⟨by simp [r.1], fun i d v h1 h2 => ?_⟩
  rw [List.getElem?_drop] at h1 h2
  exact r.2 _ d v h1 h2
theorem Reps.get {ds : List D} {xs : List V} (r : Reps K H ds xs) {i : Nat} {d : D} (h : ds[i]? = some d) : ∃ v, xs[i]? = some v ∧ Rep K H d v := by
  have hi : i < xs.length := by
    rw [r.1]
    exact (List.getElem?_eq_some_iff.mp h).1
  exact ⟨xs[i], List.getElem?_eq_getElem hi, r.2 i d _ h (List.getElem?_eq_getElem hi)⟩
theorem Reps.getV {ds : List D} {xs : List V} (r : Reps K H ds xs) {i : Nat} {v : V} (h : xs[i]? = some v) : ∃ d, ds[i]? = some d ∧ Rep K H d v := by
  have hi : i < ds.length := by
    rw [← r.1]
    exact (List.getElem?_eq_some_iff.mp h).1
  exact ⟨ds[i], List.getElem?_eq_getElem hi, r.2 i _ v (List.getElem?_eq_getElem hi) h⟩
theorem Reps.ints (ns : List Int) : Reps K H (ns.map D.int) (ns.map V.int) := by
  refine ⟨by simp, fun i d v h1 h2 => ?_⟩
  rw [List.getElem?_map] at h1 h2
  cases e : ns[i]? with
  | none =>
    rw [e] at h1
    cases h1
  | some n =>
    rw [e] at h1 h2
    cases h1
    cases h2
    exact .int n
theorem Reps.nth {ds : List D} {xs : List V} (hl : xs.length = ds.length) (h : ∀ (i : Nat) (d : D), ds[i]? = some d → ∃ v, xs[i]? = some v ∧ Rep K H d v) : Reps K H ds xs :=
  ⟨hl, fun i d v a b => by
    obtain ⟨w, hw, r⟩ := h i d a
    rw [hw] at b
    cases b
    exact r⟩

/-- a list in a name may be read where it stands: the list is in H, its items stand in S -/
def Pk (K : PySem.W.Frag) (S H : Hp) (d : D) (v : V) : Prop :=
  Rep K S d v ∨ (∃ ds a xs, d = .lst ds ∧ v = .ref a ∧ H a = some (.lst xs) ∧ Reps K S ds xs) ∨ ∃ kvs a es, d = .dic kvs ∧ v = .ref a ∧ H a = some (.dK es) ∧ RepK K S kvs es
theorem Pk.l {S : Hp} {ds : List D} {v : V} (p : Pk K S H (.lst ds) v) (e : Ex S H) : ∃ a xs, v = .ref a ∧ H a = some (.lst xs) ∧ Reps K S ds xs := by
  rcases p with r | ⟨_, a, xs, q, rfl, h, r⟩ | ⟨_, _, _, q, _⟩
  · cases r with
    | lst h hl r => exact ⟨_, _, rfl, e _ _ h, hl, r⟩
  · cases q
    exact ⟨a, xs, rfl, h, r⟩
  · cases q
theorem Pk.t {S : Hp} {ds : List D} {v : V} (p : Pk K S H (.tup ds) v) (e : Ex S H) : ∃ a xs, v = .ref a ∧ SqT K H a xs ∧ Reps K S ds xs := by
  rcases p with r | ⟨_, a, xs, q, rfl, h, r⟩ | ⟨_, _, _, q, _⟩
  · cases r with
    | tup h hl r => exact ⟨_, _, rfl, e.t h, hl, r⟩
  · cases q
  · cases q
theorem Pk.k {S : Hp} {kvs : List (Key × D)} {v : V} (p : Pk K S H (.dic kvs) v) (e : Ex S H) : ∃ a es, v = .ref a ∧ H a = some (.dK es) ∧ RepK K S kvs es := by
  rcases p with r | ⟨_, a, xs, q, rfl, h, r⟩ | ⟨_, a, es, q, rfl, h, r⟩
  · cases r with
    | dic h hl r => exact ⟨_, _, rfl, e _ _ h, hl, r⟩
  · cases q
  · cases q
    exact ⟨a, es, rfl, h, r⟩
theorem Pk.str {S : Hp} {s : Str} {v : V} (p : Pk K S H (.str s) v) : v = .str s := by
  rcases p with r | ⟨_, a, xs, q, rfl, h, r⟩ | ⟨_, a, es, q, rfl, h, r⟩
  · cases r
    rfl
  · cases q
  · cases q
end

/-! ### the state of a def at work -/
/-- what a name holds: a datum that never changes any more, or a list, a dict of the def's own that may still change -/
inductive SV where
  | val (d : D) | own (xs : List D) | ownK (kvs : List (Key × D))
abbrev DSt := List (Option SV)
def SV.d : SV → D
  | .val d => d
  | .own xs => .lst xs
  | .ownK kvs => .dic kvs

/-- the caller's heap, what of it never changes, the place of a bag (a list of a law's own that draws change) -/
structure Fm where
  H0 : Hp
  S0 : Hp
  bag : Option Addr

/-- a law's bag: cells, how many are taken, a rest, a seed, a count -/
def BagAt (S H : Hp) (b : Addr) : Prop := S b = none ∧ ∃ (c : Addr) (cells : List Int) (i1 i2 i3 i4 : Int), H b = some (.lst [.ref c, .int i1, .int i2, .int i3, .int i4]) ∧ S c = some (.lst (cells.map V.int)) ∧
  cells.length ≤ 63 ∧ 0 ≤ i1 ∧ i1 ≤ cells.length ∧ 0 ≤ i3 ∧ i3 < 2147483648

/-- the heap H holds all that it must, S all that never changes -/
structure R0 (F : Fm) (S H : Hp) : Prop where
  fz : Ex S H
  s0 : Ex F.S0 S
  keep : ∀ a o, F.H0 a = some o → F.bag ≠ some a → H a = some o
  new : ∀ a o, S a = some o → F.S0 a = some o ∨ F.H0 a = none
  bag : ∀ b, F.bag = some b → BagAt S H b ∧ F.H0 b ≠ none

def SlotR (K : PySem.W.Frag) (F : Fm) (S H : Hp) (x : Option (Option SV)) (o : Option (Option V)) : Prop :=
  match x with
  | some (some (.val d)) => ∃ v, o = some (some v) ∧ Rep K S d v
  | some (some (.own ds)) => ∃ a xs, o = some (some (.ref a)) ∧ F.H0 a = none ∧ S a = none ∧ H a = some (.lst xs) ∧ Reps K S ds xs
  | some (some (.ownK kvs)) => ∃ a es, o = some (some (.ref a)) ∧ F.H0 a = none ∧ S a = none ∧ H a = some (.dK es) ∧ RepK K S kvs es
  | _ => True
/-- the i-th name holds a list of its own, at a -/
def OwnAt (ρ : DSt) (σ : L2.St) (i : Nat) (a : Addr) : Prop := ((∃ ds, ρ[i]? = some (some (.own ds))) ∨ ∃ kvs, ρ[i]? = some (some (.ownK kvs))) ∧ σ[i]? = some (some (.ref a))
structure R (K : PySem.W.Frag) (F : Fm) (S : Hp) (ρ : DSt) (σ : L2.St) (H : Hp) : Prop extends R0 F S H where
  len : σ.length = ρ.length
  slot : ∀ i : Nat, SlotR K F S H ρ[i]? σ[i]?
  apart : ∀ (i j : Nat) (a : Addr), OwnAt ρ σ i a → OwnAt ρ σ j a → i = j

section
variable {K : PySem.W.Frag} {F : Fm} {S S' H H' : Hp} {ρ : DSt} {σ : L2.St}
theorem R.own {i : Nat} {ds : List D} (r : R K F S ρ σ H) (h : ρ[i]? = some (some (.own ds))) : ∃ a xs, σ[i]? = some (some (.ref a)) ∧ F.H0 a = none ∧ S a = none ∧ H a = some (.lst xs) ∧ Reps K S ds xs := by
  have q := r.slot i
  rw [h] at q
  exact q
theorem R.ownK {i : Nat} {kvs : List (Key × D)} (r : R K F S ρ σ H) (h : ρ[i]? = some (some (.ownK kvs))) : ∃ a es, σ[i]? = some (some (.ref a)) ∧ F.H0 a = none ∧ S a = none ∧ H a = some (.dK es) ∧ RepK K S kvs es := by
  have q := r.slot i
  rw [h] at q
  exact q
theorem R.val {i : Nat} {d : D} (r : R K F S ρ σ H) (h : ρ[i]? = some (some (.val d))) : ∃ v, σ[i]? = some (some v) ∧ Rep K S d v := by
  have q := r.slot i
  rw [h] at q
  exact q
theorem R.ownAt {i : Nat} {a : Addr} (r : R K F S ρ σ H) (h : OwnAt ρ σ i a) : F.H0 a = none ∧ S a = none ∧ ∃ o, H a = some o := by
  rcases h with ⟨⟨ds, h⟩ | ⟨ds, h⟩, h2⟩
  · obtain ⟨b, xs, e, p1, p2, p3, _⟩ := r.own h
    rw [h2] at e
    cases e
    exact ⟨p1, p2, _, p3⟩
  · obtain ⟨b, xs, e, p1, p2, p3, _⟩ := r.ownK h
    rw [h2] at e
    cases e
    exact ⟨p1, p2, _, p3⟩
theorem R.peek {i : Nat} {y : SV} (r : R K F S ρ σ H) (h : ρ[i]? = some (some y)) : ∃ v, σ[i]? = some (some v) ∧ Pk K S H y.d v := by
  cases y with
  | val d =>
    obtain ⟨v, h1, h2⟩ := r.val h
    exact ⟨v, h1, .inl h2⟩
  | own ds =>
    obtain ⟨a, xs, h1, h2, h3, h4, h5⟩ := r.own h
    exact ⟨.ref a, h1, .inr (.inl ⟨ds, a, xs, rfl, rfl, h4, h5⟩)⟩
  | ownK kvs =>
    obtain ⟨a, xs, h1, h2, h3, h4, h5⟩ := r.ownK h
    exact ⟨.ref a, h1, .inr (.inr ⟨kvs, a, xs, rfl, rfl, h4, h5⟩)⟩
/-- the heap grows, what never changes grows with it; own lists stay as they are -/
theorem R.grow (r : R K F S ρ σ H) (q : R0 F S' H') (eS : Ex S S') (hk : ∀ (i : Nat) (a : Addr), OwnAt ρ σ i a → S' a = none ∧ H' a = H a) : R K F S' ρ σ H' := by
  refine ⟨q, r.len, fun i => ?_, r.apart⟩
  have p := r.slot i
  unfold SlotR at p ⊢
  split
  · rename_i d h
    rw [h] at p
    obtain ⟨v, h1, h2⟩ := p
    exact ⟨v, h1, h2.mono eS⟩
  · rename_i ds h
    rw [h] at p
    obtain ⟨a, xs, h1, h2, h3, h4, h5⟩ := p
    obtain ⟨k1, k2⟩ := hk i a ⟨.inl ⟨_, h⟩, h1⟩
    exact ⟨a, xs, h1, h2, k1, by rw [k2]; exact h4, h5.mono eS⟩
  · rename_i ds h
    rw [h] at p
    obtain ⟨a, xs, h1, h2, h3, h4, h5⟩ := p
    obtain ⟨k1, k2⟩ := hk i a ⟨.inr ⟨_, h⟩, h1⟩
    exact ⟨a, xs, h1, h2, k1, by rw [k2]; exact h4, h5.mono eS⟩
  · trivial
theorem BagAt.mono {b : Addr} (x : BagAt S H b) (eS : Ex S S') (hb : S' b = none) (hH : H' b = H b) : BagAt S' H' b := by
  obtain ⟨h1, c, cells, i1, i2, i3, i4, h2, h3, h4⟩ := x
  exact ⟨hb, c, cells, i1, i2, i3, i4, by rw [hH]; exact h2, eS _ _ h3, h4⟩
theorem R0.bagNe (r : R0 F S H) {a : Addr} {b : Addr} (hb : F.bag = some b) (h : F.H0 a = none ∨ H a = none) : a ≠ b := by
  intro e
  subst e
  obtain ⟨⟨_, _, _, _, _, _, _, h2, _⟩, h3⟩ := r.bag a hb
  rcases h with h | h
  · exact h3 h
  · rw [h] at h2
    cases h2
/-- a new object that never changes -/
theorem R0.laid {p : Addr} {o : HO} (r : R0 F S H) (hp : H p = none) : R0 F (upd S p o) (upd H p o) := by
  have sp : S p = none := r.fz.free hp
  refine ⟨fun a u e => ?_, r.s0.trans (Ex.new sp), fun a u e n => ?_, fun a u e => ?_, fun b hb => ⟨?_, (r.bag b hb).2⟩⟩
  · by_cases h : a = p
    · subst h
      rw [upd_same] at e ⊢
      exact e
    · rw [upd_ne h] at e ⊢
      exact r.fz a u e
  · have q := r.keep a u e n
    rw [upd_ne (ne_of_none q hp)]
    exact q
  · by_cases h : a = p
    · subst h
      right
      cases z : F.H0 a with
      | none => rfl
      | some x =>
        have : F.bag ≠ some a := fun hb => (r.bagNe hb (.inr hp)) rfl
        rw [r.keep a x z this] at hp
        cases hp
    · rw [upd_ne h] at e
      exact r.new a u e
  · have nb : p ≠ b := r.bagNe hb (.inr hp)
    exact (r.bag b hb).1.mono (Ex.new sp) (by rw [upd_ne nb.symm]; exact (r.bag b hb).1.1) (by rw [upd_ne nb.symm])
theorem R.laid {p : Addr} {o : HO} (r : R K F S ρ σ H) (hp : H p = none) : R K F (upd S p o) ρ σ (upd H p o) :=
  r.grow (r.toR0.laid hp) (Ex.new (r.fz.free hp)) fun i a h => by
    obtain ⟨_, h2, _, h3⟩ := r.ownAt h
    have n : a ≠ p := ne_of_none h3 hp
    exact ⟨by rw [upd_ne n]; exact h2, upd_ne n⟩
/-- a new object that may still change: nothing is said of it -/
theorem R0.temp {p : Addr} {o : HO} (r : R0 F S H) (hp : H p = none) : R0 F S (upd H p o) := by
  refine ⟨r.fz.trans (Ex.new hp), r.s0, fun a u e n => ?_, r.new, fun b hb => ⟨?_, (r.bag b hb).2⟩⟩
  · have q := r.keep a u e n
    rw [upd_ne (ne_of_none q hp)]
    exact q
  · have nb : p ≠ b := r.bagNe hb (.inr hp)
    exact (r.bag b hb).1.mono (Ex.refl S) (r.bag b hb).1.1 (by rw [upd_ne nb.symm])
theorem R.temp {p : Addr} {o : HO} (r : R K F S ρ σ H) (hp : H p = none) : R K F S ρ σ (upd H p o) :=
  r.grow (r.toR0.temp hp) (Ex.refl S) fun i a h => by
    obtain ⟨_, h2, _, h3⟩ := r.ownAt h
    exact ⟨h2, upd_ne (ne_of_none h3 hp)⟩
/-- a loose object: new since the def began, held by no name, not among what never changes -/
structure Loose (F : Fm) (S : Hp) (ρ : DSt) (σ : L2.St) (p : Addr) : Prop where
  h0 : F.H0 p = none
  s : S p = none
  ap : ∀ i : Nat, ¬ OwnAt ρ σ i p
theorem R.h0_none {p : Addr} (r : R0 F S H) (hp : H p = none) : F.H0 p = none := by
  cases z : F.H0 p with
  | none => rfl
  | some x =>
    have : F.bag ≠ some p := fun hb => (r.bagNe hb (.inr hp)) rfl
    rw [r.keep p x z this] at hp
    cases hp
theorem R.loose {p : Addr} (r : R K F S ρ σ H) (hp : H p = none) : Loose F S ρ σ p :=
  ⟨R.h0_none r.toR0 hp, r.fz.free hp, fun i h => by
    obtain ⟨_, _, _, h3⟩ := r.ownAt h
    rw [hp] at h3
    cases h3⟩
/-- a loose object changes -/
theorem R0.chg {p : Addr} {o : HO} (r : R0 F S H) (h0 : F.H0 p = none) (hs : S p = none) : R0 F S (upd H p o) := by
  refine ⟨fun a u e => ?_, r.s0, fun a u e n => ?_, r.new, fun b hb => ⟨?_, (r.bag b hb).2⟩⟩
  · rw [upd_ne (ne_of_none e hs)]
    exact r.fz a u e
  · rw [upd_ne (ne_of_none e h0)]
    exact r.keep a u e n
  · have nb : p ≠ b := r.bagNe hb (.inl h0)
    exact (r.bag b hb).1.mono (Ex.refl S) (r.bag b hb).1.1 (by rw [upd_ne nb.symm])
theorem R.chg {p : Addr} {o : HO} (r : R K F S ρ σ H) (l : Loose F S ρ σ p) : R K F S ρ σ (upd H p o) :=
  r.grow (r.toR0.chg l.h0 l.s) (Ex.refl S) fun i a h => ⟨(r.ownAt h).2.1, upd_ne (fun e : a = p => l.ap i (e ▸ h))⟩
/-- a loose object comes to rest -/
theorem R0.rest {p : Addr} {o : HO} (r : R0 F S H) (h0 : F.H0 p = none) (hp : H p = some o) (hs : S p = none) : R0 F (upd S p o) H := by
  refine ⟨fun a u e => ?_, r.s0.trans (Ex.new hs), r.keep, fun a u e => ?_, fun b hb => ⟨?_, (r.bag b hb).2⟩⟩
  · by_cases h : a = p
    · subst h
      rw [upd_same] at e
      rw [hp]
      exact e
    · rw [upd_ne h] at e
      exact r.fz a u e
  · by_cases h : a = p
    · subst h
      exact .inr h0
    · rw [upd_ne h] at e
      exact r.new a u e
  · have nb : p ≠ b := r.bagNe hb (.inl h0)
    exact (r.bag b hb).1.mono (Ex.new hs) (by rw [upd_ne nb.symm]; exact (r.bag b hb).1.1) rfl
theorem R.rest {p : Addr} {o : HO} (r : R K F S ρ σ H) (l : Loose F S ρ σ p) (hp : H p = some o) : R K F (upd S p o) ρ σ H :=
  r.grow (r.toR0.rest l.h0 hp l.s) (Ex.new l.s) fun i a h => ⟨by rw [upd_ne (fun e : a = p => l.ap i (e ▸ h))]; exact (r.ownAt h).2.1, rfl⟩
theorem OwnAt.set_ne {i j : Nat} {a : Addr} {x : Option SV} {v : Option V} (h : OwnAt (ρ.set j x) (σ.set j v) i a) (n : i ≠ j) : OwnAt ρ σ i a := by
  unfold OwnAt at h ⊢
  rw [List.getElem?_set_ne n.symm, List.getElem?_set_ne n.symm] at h
  exact h
theorem slot_set {j : Nat} {x : SV} {v : V} (r : R K F S ρ σ H) (hx : SlotR K F S H (some (some x)) (some (some v))) : ∀ i : Nat, SlotR K F S H (ρ.set j (some x))[i]? (σ.set j (some v))[i]? := fun i => by
  by_cases h : j = i
  · subst h
    by_cases hl : j < ρ.length
    · rw [List.getElem?_set_self hl, List.getElem?_set_self (by rw [r.len]; exact hl)]
      exact hx
    · rw [List.getElem?_eq_none (by rw [List.length_set]; omega)]
      trivial
  · rw [List.getElem?_set_ne h, List.getElem?_set_ne h]
    exact r.slot i
/-- a name gets a datum -/
theorem R.setV {j : Nat} {d : D} {v : V} (r : R K F S ρ σ H) (h : Rep K S d v) : R K F S (ρ.set j (some (.val d))) (σ.set j (some v)) H := by
  refine ⟨r.toR0, by rw [List.length_set, List.length_set]; exact r.len, slot_set r ⟨v, rfl, h⟩, fun i k a h1 h2 => ?_⟩
  have ne : ∀ i, OwnAt (ρ.set j (some (.val d))) (σ.set j (some v)) i a → i ≠ j := fun i h e => by
    subst e
    obtain ⟨⟨ds, h⟩ | ⟨ds, h⟩, _⟩ := h
    · rw [List.getElem?_set] at h
      split at h
      · split at h <;> cases h
      · rename_i c
        exact c rfl
    · rw [List.getElem?_set] at h
      split at h
      · split at h <;> cases h
      · rename_i c
        exact c rfl
  exact r.apart i k a (h1.set_ne (ne i h1)) (h2.set_ne (ne k h2))
/-- a name gets a loose list -/
theorem R.setL {j : Nat} {ds : List D} {xs : List V} {p : Addr} (r : R K F S ρ σ H) (l : Loose F S ρ σ p) (hp : H p = some (.lst xs)) (h : Reps K S ds xs) : R K F S (ρ.set j (some (.own ds))) (σ.set j (some (.ref p))) H := by
  refine ⟨r.toR0, by rw [List.length_set, List.length_set]; exact r.len, slot_set r ⟨p, xs, rfl, l.h0, l.s, hp, h⟩, fun i k a h1 h2 => ?_⟩
  have at_ : ∀ i, OwnAt (ρ.set j (some (.own ds))) (σ.set j (some (.ref p))) i a → (i = j ∧ a = p) ∨ (i ≠ j ∧ OwnAt ρ σ i a) := fun i h => by
    by_cases e : i = j
    · subst e
      left
      have q := h.2
      rw [List.getElem?_set] at q
      split at q
      · split at q
        · cases q
          exact ⟨rfl, rfl⟩
        · cases q
      · rename_i c
        exact absurd rfl c
    · exact .inr ⟨e, h.set_ne e⟩
  rcases at_ i h1 with ⟨e1, e2⟩ | ⟨e1, e2⟩ <;> rcases at_ k h2 with ⟨f1, f2⟩ | ⟨f1, f2⟩
  · rw [e1, f1]
  · exact absurd (e2 ▸ f2) (l.ap k)
  · exact absurd (f2 ▸ e2) (l.ap i)
  · exact r.apart i k a e2 f2
theorem R.setK {j : Nat} {kvs : List (Key × D)} {es : List (Key × V)} {p : Addr} (r : R K F S ρ σ H) (l : Loose F S ρ σ p) (hp : H p = some (.dK es)) (h : RepK K S kvs es) : R K F S (ρ.set j (some (.ownK kvs))) (σ.set j (some (.ref p))) H := by
  refine ⟨r.toR0, by rw [List.length_set, List.length_set]; exact r.len, slot_set r ⟨p, es, rfl, l.h0, l.s, hp, h⟩, fun i k a h1 h2 => ?_⟩
  have at_ : ∀ i, OwnAt (ρ.set j (some (.ownK kvs))) (σ.set j (some (.ref p))) i a → (i = j ∧ a = p) ∨ (i ≠ j ∧ OwnAt ρ σ i a) := fun i h => by
    by_cases e : i = j
    · subst e
      left
      have q := h.2
      rw [List.getElem?_set] at q
      split at q
      · split at q
        · cases q
          exact ⟨rfl, rfl⟩
        · cases q
      · rename_i c
        exact absurd rfl c
    · exact .inr ⟨e, h.set_ne e⟩
  rcases at_ i h1 with ⟨e1, e2⟩ | ⟨e1, e2⟩ <;> rcases at_ k h2 with ⟨f1, f2⟩ | ⟨f1, f2⟩
  · rw [e1, f1]
  · exact absurd (e2 ▸ f2) (l.ap k)
  · exact absurd (f2 ▸ e2) (l.ap i)
  · exact r.apart i k a e2 f2
/-- the list that a name holds changes, or comes to rest -/
theorem R.chgOwn {j : Nat} {ds es : List D} {a : Addr} {ys : List V} (r : R K F S ρ σ H) (h : ρ[j]? = some (some (.own ds))) (ha : σ[j]? = some (some (.ref a))) (hr : Reps K S es ys) : R K F S (ρ.set j (some (.own es))) σ (upd H a (.lst ys)) := by
  have hA : OwnAt ρ σ j a := ⟨.inl ⟨_, h⟩, ha⟩
  obtain ⟨p1, p2, o, p3⟩ := r.ownAt hA
  have hj : j < ρ.length := (List.getElem?_eq_some_iff.mp h).1
  refine ⟨r.toR0.chg p1 p2, by rw [List.length_set]; exact r.len, fun i => ?_, fun i k b h1 h2 => ?_⟩
  · by_cases e : j = i
    · subst e
      rw [List.getElem?_set_self hj]
      exact ⟨a, ys, ha, p1, p2, upd_same, hr⟩
    · rw [List.getElem?_set_ne e]
      have q := r.slot i
      unfold SlotR at q ⊢
      split
      · rename_i d g
        rw [g] at q
        exact q
      · rename_i d g
        rw [g] at q
        obtain ⟨b, xs, g1, g2, g3, g4, g5⟩ := q
        have nb : b ≠ a := fun z => e (r.apart j i a hA ⟨.inl ⟨_, g⟩, z ▸ g1⟩)
        exact ⟨b, xs, g1, g2, g3, by rw [upd_ne nb]; exact g4, g5⟩
      · rename_i d g
        rw [g] at q
        obtain ⟨b, xs, g1, g2, g3, g4, g5⟩ := q
        have nb : b ≠ a := fun z => e (r.apart j i a hA ⟨.inr ⟨_, g⟩, z ▸ g1⟩)
        exact ⟨b, xs, g1, g2, g3, by rw [upd_ne nb]; exact g4, g5⟩
      · trivial
  · have up : ∀ i, OwnAt (ρ.set j (some (.own es))) σ i b → OwnAt ρ σ i b := fun i q => by
      by_cases e : j = i
      · subst e
        exact ⟨.inl ⟨_, h⟩, q.2⟩
      · obtain ⟨q1, q2⟩ := q
        rw [List.getElem?_set_ne e] at q1
        exact ⟨q1, q2⟩
    exact r.apart i k b (up i h1) (up k h2)
theorem R.restOwn {j : Nat} {ds : List D} {a : Addr} {ys : List V} (r : R K F S ρ σ H) (h : ρ[j]? = some (some (.own ds))) (ha : σ[j]? = some (some (.ref a))) (hH : H a = some (.lst ys)) : R K F (upd S a (.lst ys)) (ρ.set j (some (.val (.lst ds)))) σ H := by
  have hA : OwnAt ρ σ j a := ⟨.inl ⟨_, h⟩, ha⟩
  obtain ⟨p1, p2, o, p3⟩ := r.ownAt hA
  obtain ⟨a', xs', g1, _, _, g4, g5⟩ := r.own h
  rw [ha] at g1
  cases g1
  rw [hH] at g4
  cases g4
  have hj : j < ρ.length := (List.getElem?_eq_some_iff.mp h).1
  have eS : Ex S (upd S a (.lst ys)) := Ex.new p2
  refine ⟨r.toR0.rest p1 hH p2, by rw [List.length_set]; exact r.len, fun i => ?_, fun i k b h1 h2 => ?_⟩
  · by_cases e : j = i
    · subst e
      rw [List.getElem?_set_self hj]
      exact ⟨.ref a, ha, .lst upd_same (g5.mono eS).1 (g5.mono eS).2⟩
    · rw [List.getElem?_set_ne e]
      have q := r.slot i
      unfold SlotR at q ⊢
      split
      · rename_i d g
        rw [g] at q
        obtain ⟨v, g1, g2⟩ := q
        exact ⟨v, g1, g2.mono eS⟩
      · rename_i d g
        rw [g] at q
        obtain ⟨b, xs, g1, g2, g3, g4, g5⟩ := q
        have nb : b ≠ a := fun z => e (r.apart j i a hA ⟨.inl ⟨_, g⟩, z ▸ g1⟩)
        exact ⟨b, xs, g1, g2, by rw [upd_ne nb]; exact g3, g4, g5.mono eS⟩
      · rename_i d g
        rw [g] at q
        obtain ⟨b, xs, g1, g2, g3, g4, g5⟩ := q
        have nb : b ≠ a := fun z => e (r.apart j i a hA ⟨.inr ⟨_, g⟩, z ▸ g1⟩)
        exact ⟨b, xs, g1, g2, by rw [upd_ne nb]; exact g3, g4, g5.mono eS⟩
      · trivial
  · have up : ∀ i, OwnAt (ρ.set j (some (.val (.lst ds)))) σ i b → OwnAt ρ σ i b := fun i q => by
      by_cases e : j = i
      · subst e
        obtain ⟨⟨ds, q1⟩ | ⟨ds, q1⟩, _⟩ := q
        · rw [List.getElem?_set_self hj] at q1
          cases q1
        · rw [List.getElem?_set_self hj] at q1
          cases q1
      · obtain ⟨q1, q2⟩ := q
        rw [List.getElem?_set_ne e] at q1
        exact ⟨q1, q2⟩
    exact r.apart i k b (up i h1) (up k h2)
theorem ownAt_set {i j : Nat} {a : Addr} {x : Option SV} (h : OwnAt (ρ.set j x) σ i a) (n : j ≠ i) : OwnAt ρ σ i a := by
  obtain ⟨q1, q2⟩ := h
  rw [List.getElem?_set_ne n] at q1
  exact ⟨q1, q2⟩
end

/-! ### from state to state while an expression is worked out -/
structure Go (K : PySem.W.Frag) (F : Fm) (σ : L2.St) (S : Hp) (ρ : DSt) (H : Hp) (S' : Hp) (ρ' : DSt) (H' : Hp) : Prop where
  ex : Ex S S'
  r : R K F S' ρ' σ H'
  kp : ∀ p o, Loose F S ρ σ p → H p = some o → Loose F S' ρ' σ p ∧ H' p = some o
  up : ∀ p, H' p = none → H p = none
theorem upd_none {H : Hp} {p q : Addr} {o : HO} (h : upd H p o q = none) : H q = none := by
  by_cases e : q = p
  · subst e
    rw [upd_same] at h
    cases h
  · rw [upd_ne e] at h
    exact h
section
variable {K : PySem.W.Frag} {F : Fm} {S S' H H' : Hp} {ρ ρ' : DSt} {σ : L2.St}
theorem Go.refl (r : R K F S ρ σ H) : Go K F σ S ρ H S ρ H := ⟨Ex.refl S, r, fun _ _ a b => ⟨a, b⟩, fun _ h => h⟩
theorem Go.trans {S2 H2 : Hp} {ρ2 : DSt} (a : Go K F σ S ρ H S' ρ' H') (b : Go K F σ S' ρ' H' S2 ρ2 H2) : Go K F σ S ρ H S2 ρ2 H2 :=
  ⟨a.ex.trans b.ex, b.r, fun p o h1 h2 => by
    obtain ⟨h3, h4⟩ := a.kp p o h1 h2
    exact b.kp p o h3 h4, fun p h => a.up p (b.up p h)⟩
theorem Go.laid {p : Addr} {o : HO} (r : R K F S ρ σ H) (hp : H p = none) : Go K F σ S ρ H (upd S p o) ρ (upd H p o) :=
  ⟨Ex.new (r.fz.free hp), r.laid hp, fun q u l h => by
    have n : q ≠ p := ne_of_none h hp
    exact ⟨⟨l.h0, by rw [upd_ne n]; exact l.s, l.ap⟩, by rw [upd_ne n]; exact h⟩, fun _ h => upd_none h⟩
theorem Go.temp {p : Addr} {o : HO} (r : R K F S ρ σ H) (hp : H p = none) : Go K F σ S ρ H S ρ (upd H p o) :=
  ⟨Ex.refl S, r.temp hp, fun q u l h => by
    have n : q ≠ p := ne_of_none h hp
    exact ⟨l, by rw [upd_ne n]; exact h⟩, fun _ h => upd_none h⟩
/-- a loose object that was not there at the start comes to rest -/
theorem Go.rest {p : Addr} {o : HO} (g : Go K F σ S ρ H S' ρ' H') (l : Loose F S' ρ' σ p) (hp : H' p = some o) (hn : H p = none) : Go K F σ S ρ H (upd S' p o) ρ' H' :=
  ⟨g.ex.trans (Ex.new l.s), g.r.rest l hp, fun q u l2 h => by
    have n : q ≠ p := ne_of_none h hn
    obtain ⟨l3, h3⟩ := g.kp q u l2 h
    exact ⟨⟨l3.h0, by rw [upd_ne n]; exact l3.s, l3.ap⟩, h3⟩, g.up⟩
theorem Go.chg {p : Addr} {o : HO} (g : Go K F σ S ρ H S' ρ' H') (l : Loose F S' ρ' σ p) (hn : H p = none) : Go K F σ S ρ H S' ρ' (upd H' p o) :=
  ⟨g.ex, g.r.chg l, fun q u l2 h => by
    have n : q ≠ p := ne_of_none h hn
    obtain ⟨l3, h3⟩ := g.kp q u l2 h
    exact ⟨l3, by rw [upd_ne n]; exact h3⟩, fun q h => g.up q (upd_none h)⟩
theorem Go.restOwn {j : Nat} {ds : List D} {a : Addr} {ys : List V} (r : R K F S ρ σ H) (h : ρ[j]? = some (some (.own ds))) (ha : σ[j]? = some (some (.ref a))) (hH : H a = some (.lst ys)) :
    Go K F σ S ρ H (upd S a (.lst ys)) (ρ.set j (some (.val (.lst ds)))) H := by
  have hA : OwnAt ρ σ j a := ⟨.inl ⟨_, h⟩, ha⟩
  obtain ⟨p1, p2, o, p3⟩ := r.ownAt hA
  refine ⟨Ex.new p2, r.restOwn h ha hH, fun q u l hq => ⟨⟨l.h0, ?_, fun i z => ?_⟩, hq⟩, fun _ h => h⟩
  · rw [upd_ne (fun e : q = a => l.ap j (e ▸ hA))]
    exact l.s
  · by_cases e : j = i
    · subst e
      obtain ⟨⟨ds, q1⟩ | ⟨ds, q1⟩, _⟩ := z
      · rw [List.getElem?_set_self (List.getElem?_eq_some_iff.mp h).1] at q1
        cases q1
      · rw [List.getElem?_set_self (List.getElem?_eq_some_iff.mp h).1] at q1
        cases q1
    · exact l.ap i (ownAt_set z e)
theorem Go.chgOwn {j : Nat} {ds es : List D} {a : Addr} {ys : List V} (r : R K F S ρ σ H) (h : ρ[j]? = some (some (.own ds))) (ha : σ[j]? = some (some (.ref a))) (hr : Reps K S es ys) :
    Go K F σ S ρ H S (ρ.set j (some (.own es))) (upd H a (.lst ys)) := by
  have hA : OwnAt ρ σ j a := ⟨.inl ⟨_, h⟩, ha⟩
  refine ⟨Ex.refl S, r.chgOwn h ha hr, fun q u l hq => ⟨⟨l.h0, l.s, fun i z => ?_⟩, ?_⟩, fun _ h => upd_none h⟩
  · by_cases e : j = i
    · subst e
      exact l.ap j ⟨.inl ⟨_, h⟩, z.2⟩
    · exact l.ap i (ownAt_set z e)
  · rw [upd_ne (fun e : q = a => l.ap j (e ▸ hA))]
    exact hq
end
end PD

/-! PD, part b: judgements over plain data; expressions. -/
namespace PD
open PySem PySem.Spec PyProof.Rows L2

/-- an exception as data: its class, its fields -/
structure DX where
  cls : Addr
  fs : List (Str × D)
abbrev KX := DX → DSt → Prop
abbrev WE := DSt → (D → DSt → Prop) → KX → Prop
abbrev WT := DSt → (Bool → DSt → Prop) → KX → Prop
abbrev WA := DSt → (List D → DSt → Prop) → KX → Prop
abbrev WP2 := DSt → (D → D → DSt → Prop) → KX → Prop

def RepX (K : PySem.W.Frag) (S : Hp) (dx : DX) (cls : Value) (od : Option Addr) : Prop := ∃ d gs, cls = .ref dx.cls ∧ od = some d ∧ S d = some (.xd gs) ∧ RepF K S dx.fs gs
/-- the wish at an exception is met -/
def XL (K : PySem.W.Frag) (F : Fm) (W : WX) (σ : L2.St) (S : Hp) (kx : KX) : Prop := ∀ dx ρ S' H' cls od, Ex S S' → R K F S' ρ σ H' → RepX K S' dx cls od → kx dx ρ → W cls od σ H'
theorem XL.mono {K : PySem.W.Frag} {F : Fm} {W : WX} {σ : L2.St} {S S' : Hp} {kx : KX} (h : XL K F W σ S kx) (e : Ex S S') : XL K F W σ S' kx := fun dx ρ S2 H' cls od e2 => h dx ρ S2 H' cls od (e.trans e2)

def RunE (K : PySem.W.Frag) (F : Fm) (W : WX) (t : TE) (w : WE) : Prop := ∀ S ρ σ H (Q : VK) (kq : D → DSt → Prop) (kx : KX), R K F S ρ σ H → w ρ kq kx →
  (∀ S' ρ' H' d v, Go K F σ S ρ H S' ρ' H' → Rep K S' d v → kq d ρ' → Q v H') → XL K F W σ S kx → t σ H Q
def RunP (K : PySem.W.Frag) (F : Fm) (W : WX) (t : TE) (w : WE) : Prop := ∀ S ρ σ H (Q : VK) (kq : D → DSt → Prop) (kx : KX), R K F S ρ σ H → w ρ kq kx →
  (∀ S' ρ' H' d v, Go K F σ S ρ H S' ρ' H' → Pk K S' H' d v → kq d ρ' → Q v H') → XL K F W σ S kx → t σ H Q
def RunL (K : PySem.W.Frag) (F : Fm) (W : WX) (t : TE) (w : WA) : Prop := ∀ S ρ σ H (Q : VK) (kq : List D → DSt → Prop) (kx : KX), R K F S ρ σ H → w ρ kq kx →
  (∀ S' ρ' H' ds p xs, Go K F σ S ρ H S' ρ' H' → H p = none → Loose F S' ρ' σ p → H' p = some (.lst xs) → Reps K S' ds xs → kq ds ρ' → Q (.ref p) H') → XL K F W σ S kx → t σ H Q
def RunT (K : PySem.W.Frag) (F : Fm) (W : WX) (t : TT) (w : WT) : Prop := ∀ S ρ σ H (Q : Bool → Hp → Prop) (kq : Bool → DSt → Prop) (kx : KX), R K F S ρ σ H → w ρ kq kx →
  (∀ S' ρ' H' b, Go K F σ S ρ H S' ρ' H' → kq b ρ' → Q b H') → XL K F W σ S kx → t σ H Q
def RunA (K : PySem.W.Frag) (F : Fm) (W : WX) (t : TA) (w : WA) : Prop := ∀ S ρ σ H (Q : List V → Hp → Prop) (kq : List D → DSt → Prop) (kx : KX), R K F S ρ σ H → w ρ kq kx →
  (∀ S' ρ' H' ds vs, Go K F σ S ρ H S' ρ' H' → Reps K S' ds vs → kq ds ρ' → Q vs H') → XL K F W σ S kx → t σ H Q
/-- two operands, both readable behind the second -/
def RunQ (K : PySem.W.Frag) (F : Fm) (W : WX) (ta tb : TE) (w : WP2) : Prop := ∀ S ρ σ H (Q : V → V → Hp → Prop) (kq : D → D → DSt → Prop) (kx : KX), R K F S ρ σ H → w ρ kq kx →
  (∀ S' ρ' H' d v e u, Go K F σ S ρ H S' ρ' H' → Pk K S' H' d v → Pk K S' H' e u → kq d e ρ' → Q v u H') → XL K F W σ S kx → ta σ H fun x H1 => tb σ H1 fun y H2 => Q x y H2

structure DE (X : Cx) (F : Fm) (W : WX) (e : Expr) (w : WE) : Prop where
  ex : ∃ t, PE X e t ∧ RunE X.K F W t w
/-- read where it stands -/
structure DP (X : Cx) (F : Fm) (W : WX) (e : Expr) (w : WE) : Prop where
  ex : ∃ t, PE X e t ∧ RunP X.K F W t w
/-- a new list -/
structure DL (X : Cx) (F : Fm) (W : WX) (e : Expr) (w : WA) : Prop where
  ex : ∃ t, PE X e t ∧ RunL X.K F W t w
structure DT (X : Cx) (F : Fm) (W : WX) (e : Expr) (w : WT) : Prop where
  ex : ∃ t, PT X e t ∧ RunT X.K F W t w
structure DW (X : Cx) (F : Fm) (W : WX) (e : Expr) (w : WT) : Prop where
  ex : ∃ t, PW X e t ∧ RunT X.K F W t w
structure DA (X : Cx) (F : Fm) (W : WX) (es : List Expr) (w : WA) : Prop where
  ex : ∃ t, PA X es t ∧ RunA X.K F W t w
structure DQ (X : Cx) (F : Fm) (W : WX) (a b : Expr) (w : WP2) : Prop where
  ex : ∃ ta tb, PE X a ta ∧ PE X b tb ∧ RunQ X.K F W ta tb w

/-! ### from one to the other -/
section
variable {X : Cx} {F : Fm} {W : WX} {e a b : Expr} {w wa wb : WE}
theorem dp (h : DE X F W e w) : DP X F W e w := by
  obtain ⟨t, p, q⟩ := h.ex
  exact ⟨t, p, fun S ρ σ H Q kq kx r hw hk hx => q S ρ σ H Q kq kx r hw (fun S' ρ' H' d v g rp => hk S' ρ' H' d v g (.inl rp)) hx⟩
/-- a list comes to rest -/
def wLE (w : WA) : WE := fun ρ kq kx => w ρ (fun ds ρ' => kq (.lst ds) ρ') kx
theorem dl_e {w : WA} (h : DL X F W e w) : DE X F W e (wLE w) := by
  obtain ⟨t, p, q⟩ := h.ex
  refine ⟨t, p, fun S ρ σ H Q kq kx r hw hk hx => q S ρ σ H Q _ kx r hw (fun S' ρ' H' ds a xs g hn l ha rp k => ?_) hx⟩
  have eS : Ex S' (upd S' a (.lst xs)) := Ex.new l.s
  exact hk _ ρ' H' (.lst ds) (.ref a) (g.rest l ha hn) (.lst upd_same (rp.mono eS).1 (rp.mono eS).2) k
theorem dl_p {w : WA} (h : DL X F W e w) : DP X F W e (wLE w) := by
  obtain ⟨t, p, q⟩ := h.ex
  exact ⟨t, p, fun S ρ σ H Q kq kx r hw hk hx => q S ρ σ H Q _ kx r hw (fun S' ρ' H' ds a xs g hn l ha rp k => hk _ ρ' H' (.lst ds) (.ref a) g (.inr (.inl ⟨ds, a, xs, rfl, rfl, ha, rp⟩)) k) hx⟩

/-! ### names, constants -/
/-- a list of a name's own comes to rest when the name is read as a value -/
def wVar (i : Nat) : WE := fun ρ kq _ => match ρ[i]? with
  | some (some (.val d)) => kq d ρ
  | some (some (.own ds)) => kq (.lst ds) (ρ.set i (some (.val (.lst ds))))
  | _ => False
def wPeek (i : Nat) : WE := fun ρ kq _ => match ρ[i]? with
  | some (some y) => kq y.d ρ
  | _ => False
def wC (d : D) : WE := fun ρ kq _ => kq d ρ
theorem run_var (K : PySem.W.Frag) (F : Fm) (W : WX) (i : Nat) : RunE K F W (tVar i) (wVar i) := fun S ρ σ H Q kq kx r hw hk hx => by
  unfold wVar at hw
  split at hw
  · rename_i d h
    obtain ⟨v, h1, h2⟩ := r.val h
    exact ⟨v, h1, hk S ρ H d v (Go.refl r) h2 hw⟩
  · rename_i ds h
    obtain ⟨a, xs, h1, h2, h3, h4, h5⟩ := r.own h
    have eS : Ex S (upd S a (.lst xs)) := Ex.new h3
    exact ⟨.ref a, h1, hk _ _ H (.lst ds) (.ref a) (Go.restOwn r h h1 h4) (.lst upd_same (h5.mono eS).1 (h5.mono eS).2) hw⟩
  · exact hw.elim
theorem run_peek (K : PySem.W.Frag) (F : Fm) (W : WX) (i : Nat) : RunP K F W (tVar i) (wPeek i) := fun S ρ σ H Q kq kx r hw hk hx => by
  unfold wPeek at hw
  split at hw
  · rename_i y h
    obtain ⟨v, h1, h2⟩ := r.peek h
    exact ⟨v, h1, hk S ρ H _ v (Go.refl r) h2 hw⟩
  · exact hw.elim
theorem dv (i : Nat) {x : Str} {pos : Pos} (hN : X.N[i]? = some x := by rfl) (hv : Vis X.env.scope x := by first | exact Or.inl rfl | exact Or.inr (Or.inl rfl) | exact Or.inr (Or.inr rfl)) (hd : (x == ("__debug__" : Str)) = false := by decide)
    (hcd : (x == ("__classdict__" : Str)) = false := by decide) : DE X F W (.Name x pos) (wVar i) := ⟨tVar i, pe_var hN hv hd hcd, run_var _ _ _ i⟩
theorem dvp (i : Nat) {x : Str} {pos : Pos} (hN : X.N[i]? = some x := by rfl) (hv : Vis X.env.scope x := by first | exact Or.inl rfl | exact Or.inr (Or.inl rfl) | exact Or.inr (Or.inr rfl)) (hd : (x == ("__debug__" : Str)) = false := by decide)
    (hcd : (x == ("__classdict__" : Str)) = false := by decide) : DP X F W (.Name x pos) (wPeek i) := ⟨tVar i, pe_var hN hv hd hcd, run_peek _ _ _ i⟩
theorem run_c (K : PySem.W.Frag) (F : Fm) (W : WX) {d : D} {v : V} (h : ∀ H, Rep K H d v) : RunE K F W (tC v) (wC d) := fun S ρ σ H Q kq kx r hw hk hx => hk S ρ H d v (Go.refl r) (h S) hw
theorem d_int {i j pos} : DE X F W (.Constant (.int i) j pos) (wC (.int i)) := ⟨_, pe_int, run_c _ _ _ fun _ => .int i⟩
theorem d_bl {x j pos} : DE X F W (.Constant (.bool x) j pos) (wC (.bl x)) := ⟨_, pe_bl, run_c _ _ _ fun _ => .bl x⟩
theorem d_non {j pos} : DE X F W (.Constant .none j pos) (wC .non) := ⟨_, pe_non, run_c _ _ _ fun _ => .non⟩
theorem d_str {x j pos} : DE X F W (.Constant (.str x) j pos) (wC (.str x)) := ⟨_, pe_str, run_c _ _ _ fun _ => .str x⟩
/-- a module's constant: a number, a text -/
theorem d_globI {x : Str} {i : Int} {t : Tok} {pos : Pos} (hm : X.mg x = some (.int i t)) (hg : Gl X x := by rfl) (hd : (x == ("__debug__" : Str)) = false := by decide) : DE X F W (.Name x pos) (wC (.int i)) := ⟨_, pe_glob hg hm (v := .int i) ⟨t, rfl⟩ hd, run_c _ _ _ fun _ => .int i⟩
theorem d_globS {x : Str} {i : Str} {t : Tok} {pos : Pos} (hm : X.mg x = some (.str i t)) (hg : Gl X x := by rfl) (hd : (x == ("__debug__" : Str)) = false := by decide) : DE X F W (.Name x pos) (wC (.str i)) := ⟨_, pe_glob hg hm (v := .str i) ⟨t, rfl⟩ hd, run_c _ _ _ fun _ => .str i⟩
theorem d_globR {x : Str} {a : Addr} {pos : Pos} (hm : X.mg x = some (.ref a)) (hg : Gl X x := by rfl) (hd : (x == ("__debug__" : Str)) = false := by decide) : DE X F W (.Name x pos) (wC (.ref a)) := ⟨_, pe_glob hg hm (v := .ref a) rfl hd, run_c _ _ _ fun _ => .ref a⟩
/-- .. a tuple that stands in the written part -/
theorem d_globT {x : Str} {a : Addr} {ds : List D} {pos : Pos} (hm : X.mg x = some (.ref a)) (hr : ∀ H, Rep X.K H (.tup ds) (.ref a)) (hg : Gl X x := by rfl) (hd : (x == ("__debug__" : Str)) = false := by decide) : DE X F W (.Name x pos) (wC (.tup ds)) := ⟨_, pe_glob hg hm (v := .ref a) rfl hd, run_c _ _ _ hr⟩
/-- a built-in class as a value -/
theorem d_ty {x : Str} {n : String} {pos : Pos} (hm : X.mg x = none) (hv : bootBuiltins x = some (.type n)) (hg : Gl X x := by rfl) (hn : x ≠ "__name__" := by decide) (hd : (x == ("__debug__" : Str)) = false := by decide) : DE X F W (.Name x pos) (wC (.ty n)) :=
  ⟨_, pe_bltn hg hm hv (v := .ty n) rfl hn hd, run_c _ _ _ fun _ => .ty n⟩

/-! ### two operands -/
def w2 (wa wb : WE) : WP2 := fun ρ kq kx => wa ρ (fun d ρ1 => wb ρ1 (fun e ρ2 => kq d e ρ2) kx) kx
theorem dq (ha : DE X F W a wa) (hb : DP X F W b wb) : DQ X F W a b (w2 wa wb) := by
  obtain ⟨ta, pa, qa⟩ := ha.ex
  obtain ⟨tb, pb, qb⟩ := hb.ex
  refine ⟨ta, tb, pa, pb, fun S ρ σ H Q kq kx r hw hk hx => qa S ρ σ H _ _ kx r hw (fun S1 ρ1 H1 d v g1 p1 k1 => ?_) hx⟩
  refine qb S1 ρ1 σ H1 _ _ kx g1.r k1 (fun S2 ρ2 H2 e u g2 p2 k2 => ?_) (hx.mono g1.ex)
  exact hk S2 ρ2 H2 d v e u (g1.trans g2) (.inl (p1.mono g2.ex)) p2 k2
/-- the first a name, read behind the second -/
def w2n (i : Nat) (wb : WE) : WP2 := fun ρ kq kx => match ρ[i]? with
  | some (some _) => wb ρ (fun e ρ2 => match ρ2[i]? with
    | some (some z) => kq z.d e ρ2
    | _ => False) kx
  | _ => False
theorem dqn (i : Nat) {x : Str} {pos : Pos} (hb : DP X F W b wb) (hN : X.N[i]? = some x := by rfl) (hv : Vis X.env.scope x := by first | exact Or.inl rfl | exact Or.inr (Or.inl rfl) | exact Or.inr (Or.inr rfl)) (hd : (x == ("__debug__" : Str)) = false := by decide)
    (hcd : (x == ("__classdict__" : Str)) = false := by decide) : DQ X F W (.Name x pos) b (w2n i wb) := by
  obtain ⟨tb, pb, qb⟩ := hb.ex
  refine ⟨tVar i, tb, pe_var hN hv hd hcd, pb, fun S ρ σ H Q kq kx r hw hk hx => ?_⟩
  unfold w2n at hw
  split at hw
  · rename_i y hy
    obtain ⟨v, hv, _⟩ := r.peek hy
    refine ⟨v, hv, qb S ρ σ H _ _ kx r hw (fun S1 ρ1 H1 e u g1 p1 k1 => ?_) hx⟩
    split at k1
    · rename_i z hz
      obtain ⟨v', hv', p2⟩ := g1.r.peek hz
      rw [hv] at hv'
      cases hv'
      exact hk S1 ρ1 H1 _ v e u g1 p2 p1 k1
    · exact k1.elim
  · exact hw.elim
end
end PD

/-! PD, part c: operators, tests, calls of built-ins. -/
namespace PD
open PySem PySem.Spec PyProof.Rows L2

/-! ### operations on two data -/
abbrev O2 := D → D → (D → Prop) → Prop
abbrev O1 := D → (D → Prop) → Prop
abbrev O2L := D → D → (List D → Prop) → Prop
abbrev O1L := D → (List D → Prop) → Prop
def Op2 (K : PySem.W.Frag) (r : R2) (o : O2) : Prop := ∀ (F : Fm) S ρ σ H d v e u (Q : VK) (k : D → Prop), R K F S ρ σ H → Pk K S H d v → Pk K S H e u → o d e k →
  (∀ S' H' c w, Go K F σ S ρ H S' ρ H' → Rep K S' c w → k c → Q w H') → r v u H Q
def Op2L (K : PySem.W.Frag) (r : R2) (o : O2L) : Prop := ∀ (F : Fm) S ρ σ H d v e u (Q : VK) (k : List D → Prop), R K F S ρ σ H → Pk K S H d v → Pk K S H e u → o d e k →
  (∀ S' H' ds p xs, Go K F σ S ρ H S' ρ H' → H p = none → Loose F S' ρ σ p → H' p = some (.lst xs) → Reps K S' ds xs → k ds → Q (.ref p) H') → r v u H Q
def Op1 (K : PySem.W.Frag) (r : V → Hp → VK → Prop) (o : O1) : Prop := ∀ (F : Fm) S ρ σ H d v (Q : VK) (k : D → Prop), R K F S ρ σ H → Pk K S H d v → o d k →
  (∀ S' H' c w, Go K F σ S ρ H S' ρ H' → Rep K S' c w → k c → Q w H') → r v H Q
def Op1L (K : PySem.W.Frag) (r : V → Hp → VK → Prop) (o : O1L) : Prop := ∀ (F : Fm) S ρ σ H d v (Q : VK) (k : List D → Prop), R K F S ρ σ H → Pk K S H d v → o d k →
  (∀ S' H' ds p xs, Go K F σ S ρ H S' ρ H' → H p = none → Loose F S' ρ σ p → H' p = some (.lst xs) → Reps K S' ds xs → k ds → Q (.ref p) H') → r v H Q
def wOp (o : O2) (w : WP2) : WE := fun ρ kq kx => w ρ (fun d e ρ' => o d e fun c => kq c ρ') kx
def wOpL (o : O2L) (w : WP2) : WA := fun ρ kq kx => w ρ (fun d e ρ' => o d e fun c => kq c ρ') kx
def wOpT (o : O2) (w : WP2) : WT := fun ρ kq kx => w ρ (fun d e ρ' => o d e fun c => match c with | .bl b => kq b ρ' | _ => False) kx
def w1 (o : O1) (w : WE) : WE := fun ρ kq kx => w ρ (fun d ρ' => o d fun c => kq c ρ') kx
def w1L (o : O1L) (w : WE) : WA := fun ρ kq kx => w ρ (fun d ρ' => o d fun c => kq c ρ') kx

/-- what is new behind was new before -/
theorem free_of {K : PySem.W.Frag} {F : Fm} {σ : L2.St} {S S' H H' : Hp} {ρ ρ' : DSt} {p : Addr} (g : Go K F σ S ρ H S' ρ' H') (hn : H' p = none) : H p = none := g.up _ hn
section
variable {X : Cx} {F : Fm} {W : WX} {e a b c : Expr} {w wa wb wc : WE} {pos : Pos}
theorem run_op {K : PySem.W.Frag} {r : R2} {o : O2} {ta tb : TE} {w : WP2} (h : RunQ K F W ta tb w) (h2 : Op2 K r o) : RunE K F W (tOp r ta tb) (wOp o w) := fun S ρ σ H Q kq kx rr hw hk hx =>
  h S ρ σ H (fun x y H2 => r x y H2 Q) _ kx rr hw (fun S1 ρ1 H1 d v e u g1 p1 p2 k1 => h2 F S1 ρ1 σ H1 d v e u Q _ g1.r p1 p2 k1 fun S2 H2 c z g2 p3 k2 => hk S2 ρ1 H2 c z (g1.trans g2) p3 k2) hx
theorem run_opL {K : PySem.W.Frag} {r : R2} {o : O2L} {ta tb : TE} {w : WP2} (h : RunQ K F W ta tb w) (h2 : Op2L K r o) : RunL K F W (tOp r ta tb) (wOpL o w) := fun S ρ σ H Q kq kx rr hw hk hx =>
  h S ρ σ H (fun x y H2 => r x y H2 Q) _ kx rr hw (fun S1 ρ1 H1 d v e u g1 p1 p2 k1 => h2 F S1 ρ1 σ H1 d v e u Q _ g1.r p1 p2 k1 fun S2 H2 ds p xs g2 hn l p3 p4 k2 => hk S2 ρ1 H2 ds p xs (g1.trans g2) (free_of g1 hn) l p3 p4 k2) hx
theorem d_op {op : Operator} {r : R2} {o : O2} {w : WP2} (ho : OpR X (binaryOp op) r) (h2 : Op2 X.K r o) (h : DQ X F W a b w) : DE X F W (.BinOp a op b pos) (wOp o w) := by
  obtain ⟨ta, tb, pa, pb, q⟩ := h.ex
  exact ⟨_, pe_op ho pa pb, run_op q h2⟩
theorem dl_op {op : Operator} {r : R2} {o : O2L} {w : WP2} (ho : OpR X (binaryOp op) r) (h2 : Op2L X.K r o) (h : DQ X F W a b w) : DL X F W (.BinOp a op b pos) (wOpL o w) := by
  obtain ⟨ta, tb, pa, pb, q⟩ := h.ex
  exact ⟨_, pe_op ho pa pb, run_opL q h2⟩
theorem d_cmp {op : CmpOp} {r : R2} {o : O2} {w : WP2} (ho : OpR X (compareOp op) r) (h2 : Op2 X.K r o) (h : DQ X F W a b w) (hm : behindInMarks op b = false := by first | exact nomark _ | with_unfolding_all rfl) : DE X F W (.Compare a [op] [b] pos) (wOp o w) := by
  obtain ⟨ta, tb, pa, pb, q⟩ := h.ex
  exact ⟨_, pe_cmpR ho pa pb hm, run_op q h2⟩
theorem dt_cmp {op : CmpOp} {r : R2} {o : O2} {w : WP2} (ho : OpR X (compareOp op) r) (h2 : Op2 X.K r o) (h : DQ X F W a b w) (hm : behindInMarks op b = false := by first | exact nomark _ | with_unfolding_all rfl) : DT X F W (.Compare a [op] [b] pos) (wOpT o w) := by
  obtain ⟨ta, tb, pa, pb, q⟩ := h.ex
  refine ⟨_, pt_cmpR ho pa pb hm, fun S ρ σ H Q kq kx rr hw hk hx => ?_⟩
  refine run_op q h2 S ρ σ H (fun x H' => ∃ k, x = .bl k ∧ Q k H') (fun c ρ' => match c with | .bl b => kq b ρ' | _ => False) kx rr hw (fun S1 ρ1 H1 d v g1 p1 k1 => ?_) hx
  split at k1
  · cases p1
    exact ⟨_, rfl, hk S1 ρ1 H1 _ g1 k1⟩
  · exact k1.elim
/-- a value that is True or False, as a test -/
def wTst (w : WE) : WT := fun ρ kq kx => w ρ (fun c ρ' => match c with | .bl b => kq b ρ' | _ => False) kx
theorem dt_val (h : DE X F W e w) (he : ∀ whole, isTrue e X.env whole = (do let v ← whole; standAt e.pos; holding [v] (truthy v)) := by intro _; rfl) : DT X F W e (wTst w) := by
  obtain ⟨t, p, q⟩ := h.ex
  refine ⟨_, pt_val p he, fun S ρ σ H Q kq kx rr hw hk hx => ?_⟩
  refine q S ρ σ H (fun x H' => ∃ k, x = .bl k ∧ Q k H') (fun c ρ' => match c with | .bl b => kq b ρ' | _ => False) kx rr hw (fun S1 ρ1 H1 d v g1 p1 k1 => ?_) hx
  split at k1
  · cases p1
    exact ⟨_, rfl, hk S1 ρ1 H1 _ g1 k1⟩
  · exact k1.elim
/-- the truth of a datum -/
def truD : D → (Bool → Prop) → Prop
  | .non, k => k false
  | .bl b, k => k b
  | .int i, k => k (i != 0)
  | .str s, k => s.length ≤ sizeLine ∧ k ((s.length : Int) != 0)
  | .tup xs, k => k (!xs.isEmpty)
  | .lst xs, k => k (!xs.isEmpty)
  | .dic xs, k => k (!xs.isEmpty)
  | _, _ => False
def wTru (w : WE) : WT := fun ρ kq kx => w ρ (fun c ρ' => truD c fun b => kq b ρ') kx
theorem isEmpty_len {α β : Type} {xs : List α} {ys : List β} (h : xs.length = ys.length) : xs.isEmpty = ys.isEmpty := by
  cases xs <;> cases ys <;> first | rfl | (exact absurd h (by simp))
theorem dt_tru (h : DP X F W e w) (he : ∀ whole, isTrue e X.env whole = (do let v ← whole; standAt e.pos; holding [v] (truthy v)) := by intro _; rfl) : DT X F W e (wTru w) := by
  obtain ⟨t, p, q⟩ := h.ex
  refine ⟨_, pt_truth p he, fun S ρ σ H Q kq kx rr hw hk hx => ?_⟩
  refine q S ρ σ H _ _ kx rr hw (fun S1 ρ1 H1 d v g1 p1 k1 => ?_) hx
  cases d with
  | non =>
    rcases p1 with r | ⟨_, _, _, q, _⟩ | ⟨_, _, _, q, _⟩
    · cases r; exact ⟨false, rfl, hk S1 ρ1 H1 _ g1 k1⟩
    · cases q
    · cases q
  | bl b =>
    rcases p1 with r | ⟨_, _, _, q, _⟩ | ⟨_, _, _, q, _⟩
    · cases r; exact ⟨b, rfl, hk S1 ρ1 H1 _ g1 k1⟩
    · cases q
    · cases q
  | int i =>
    rcases p1 with r | ⟨_, _, _, q, _⟩ | ⟨_, _, _, q, _⟩
    · cases r; exact ⟨_, rfl, hk S1 ρ1 H1 _ g1 k1⟩
    · cases q
    · cases q
  | str s =>
    rw [p1.str]
    exact ⟨_, ⟨k1.1, rfl⟩, hk S1 ρ1 H1 _ g1 k1.2⟩
  | tup xs =>
    obtain ⟨a, ys, rfl, h1, h2⟩ := p1.t g1.r.fz
    exact ⟨_, .inr (.inl ⟨ys, h1, rfl⟩), hk S1 ρ1 H1 _ g1 (by rw [isEmpty_len h2.1]; exact k1)⟩
  | lst xs =>
    obtain ⟨a, ys, rfl, h1, h2⟩ := p1.l g1.r.fz
    exact ⟨_, .inl ⟨ys, SqL.of h1, rfl⟩, hk S1 ρ1 H1 _ g1 (by rw [isEmpty_len h2.1]; exact k1)⟩
  | dic xs =>
    obtain ⟨a, ys, rfl, h1, h2⟩ := p1.k g1.r.fz
    have hl : ys.length = xs.length := by
      have := congrArg List.length h2.1
      simpa using this
    exact ⟨_, .inr (.inr ⟨ys, h1, rfl⟩), hk S1 ρ1 H1 _ g1 (by rw [isEmpty_len hl]; exact k1)⟩
  | ty n => exact k1.elim
  | ref a => exact k1.elim
  | obj C fs => exact k1.elim

/-! ### and, or, not, if -/
def wAnd (w u : WT) : WT := fun ρ kq kx => w ρ (fun b ρ' => if b = true then u ρ' kq kx else kq false ρ') kx
def wOr (w u : WT) : WT := fun ρ kq kx => w ρ (fun b ρ' => if b = true then kq true ρ' else u ρ' kq kx) kx
def wNot (w : WT) : WT := fun ρ kq kx => w ρ (fun b ρ' => kq (!b) ρ') kx
def wIf (t : WT) (w u : WE) : WE := fun ρ kq kx => t ρ (fun b ρ' => if b = true then w ρ' kq kx else u ρ' kq kx) kx
/-- and, or as values: all but the last True or False -/
def wAndV (w u : WE) : WE := fun ρ kq kx => w ρ (fun c ρ' => match c with | .bl b => if b = true then u ρ' kq kx else kq (.bl false) ρ' | _ => False) kx
def wOrV (w u : WE) : WE := fun ρ kq kx => w ρ (fun c ρ' => match c with | .bl b => if b = true then kq (.bl true) ρ' else u ρ' kq kx | _ => False) kx
theorem run_and {K : PySem.W.Frag} {t u : TT} {wt wu : WT} (ht : RunT K F W t wt) (hu : RunT K F W u wu) : RunT K F W (tAnd t u) (wAnd wt wu) := fun S ρ σ H Q kq kx rr hw hk hx => by
  refine ht S ρ σ H _ _ kx rr hw (fun S1 ρ1 H1 b g1 k1 => ?_) hx
  cases b with
  | true => exact iteT (hu S1 ρ1 σ H1 Q kq kx g1.r (by simpa using k1) (fun S2 ρ2 H2 b g2 k2 => hk S2 ρ2 H2 b (g1.trans g2) k2) (hx.mono g1.ex))
  | false => exact iteF (hk S1 ρ1 H1 false g1 (by simpa using k1))
theorem run_or {K : PySem.W.Frag} {t u : TT} {wt wu : WT} (ht : RunT K F W t wt) (hu : RunT K F W u wu) : RunT K F W (tOr t u) (wOr wt wu) := fun S ρ σ H Q kq kx rr hw hk hx => by
  refine ht S ρ σ H _ _ kx rr hw (fun S1 ρ1 H1 b g1 k1 => ?_) hx
  cases b with
  | true => exact iteT (hk S1 ρ1 H1 true g1 (by simpa using k1))
  | false => exact iteF (hu S1 ρ1 σ H1 Q kq kx g1.r (by simpa using k1) (fun S2 ρ2 H2 b g2 k2 => hk S2 ρ2 H2 b (g1.trans g2) k2) (hx.mono g1.ex))
theorem dw_and1 {t : WT} {a : Expr} (h : DT X F W a t) : DW X F W (.BoolOp .And [a] pos) t := by
  obtain ⟨x, p, q⟩ := h.ex
  exact ⟨x, pw_and1 p, q⟩
theorem dw_or1 {t : WT} {a : Expr} (h : DT X F W a t) : DW X F W (.BoolOp .Or [a] pos) t := by
  obtain ⟨x, p, q⟩ := h.ex
  exact ⟨x, pw_or1 p, q⟩
theorem dw_and {t u : WT} {rest : List Expr} (ha : DT X F W a t) (hb : DW X F W (.BoolOp .And (b :: rest) pos) u) : DW X F W (.BoolOp .And (a :: b :: rest) pos) (wAnd t u) := by
  obtain ⟨x, p, q⟩ := ha.ex
  obtain ⟨y, p2, q2⟩ := hb.ex
  exact ⟨_, pw_and p p2, run_and q q2⟩
theorem dw_or {t u : WT} {rest : List Expr} (ha : DT X F W a t) (hb : DW X F W (.BoolOp .Or (b :: rest) pos) u) : DW X F W (.BoolOp .Or (a :: b :: rest) pos) (wOr t u) := by
  obtain ⟨x, p, q⟩ := ha.ex
  obtain ⟨y, p2, q2⟩ := hb.ex
  exact ⟨_, pw_or p p2, run_or q q2⟩
theorem dt_w {t : WT} (h : DW X F W e t) : DT X F W e t := by
  obtain ⟨x, p, q⟩ := h.ex
  exact ⟨x, p.pt, q⟩
theorem dt_not {t : WT} (h : DT X F W a t) : DT X F W (.UnaryOp .Not a pos) (wNot t) := by
  obtain ⟨x, p, q⟩ := h.ex
  exact ⟨_, pt_not p, fun S ρ σ H Q kq kx rr hw hk hx => q S ρ σ H _ _ kx rr hw (fun S1 ρ1 H1 b g1 k1 => hk S1 ρ1 H1 _ g1 k1) hx⟩
def wNotE (w : WE) : WE := fun ρ kq kx => w ρ (fun c ρ' => match c with | .bl b => kq (.bl (!b)) ρ' | _ => False) kx
theorem d_not (h : DE X F W a w) : DE X F W (.UnaryOp .Not a pos) (wNotE w) := by
  obtain ⟨x, p, q⟩ := h.ex
  refine ⟨_, pe_not p, fun S ρ σ H Q kq kx rr hw hk hx => q S ρ σ H _ _ kx rr hw (fun S1 ρ1 H1 d v g1 p1 k1 => ?_) hx⟩
  split at k1
  · cases p1
    exact ⟨_, rfl, hk S1 ρ1 H1 _ _ g1 (.bl _) k1⟩
  · exact k1.elim
theorem d_one {op : BoolOp} (h : DE X F W a w) : DE X F W (.BoolOp op [a] pos) w := by
  obtain ⟨x, p, q⟩ := h.ex
  exact ⟨x, pe_one p, q⟩
theorem d_and {rest : List Expr} (ha : DE X F W a wa) (hb : DE X F W (.BoolOp .And (b :: rest) pos) wb) : DE X F W (.BoolOp .And (a :: b :: rest) pos) (wAndV wa wb) := by
  obtain ⟨x, p, q⟩ := ha.ex
  obtain ⟨y, p2, q2⟩ := hb.ex
  refine ⟨_, pe_and p p2, fun S ρ σ H Q kq kx rr hw hk hx => q S ρ σ H _ _ kx rr hw (fun S1 ρ1 H1 d v g1 p1 k1 => ?_) hx⟩
  split at k1
  · rename_i b
    cases p1
    cases b with
    | true => exact ⟨true, rfl, iteT (q2 S1 ρ1 σ H1 Q kq kx g1.r (by simpa using k1) (fun S2 ρ2 H2 d v g2 p2 k2 => hk S2 ρ2 H2 d v (g1.trans g2) p2 k2) (hx.mono g1.ex))⟩
    | false => exact ⟨false, rfl, iteF (hk S1 ρ1 H1 _ _ g1 (.bl _) (by simpa using k1))⟩
  · exact k1.elim
theorem d_or {rest : List Expr} (ha : DE X F W a wa) (hb : DE X F W (.BoolOp .Or (b :: rest) pos) wb) : DE X F W (.BoolOp .Or (a :: b :: rest) pos) (wOrV wa wb) := by
  obtain ⟨x, p, q⟩ := ha.ex
  obtain ⟨y, p2, q2⟩ := hb.ex
  refine ⟨_, pe_or p p2, fun S ρ σ H Q kq kx rr hw hk hx => q S ρ σ H _ _ kx rr hw (fun S1 ρ1 H1 d v g1 p1 k1 => ?_) hx⟩
  split at k1
  · rename_i b
    cases p1
    cases b with
    | true => exact ⟨true, rfl, iteT (hk S1 ρ1 H1 _ _ g1 (.bl _) (by simpa using k1))⟩
    | false => exact ⟨false, rfl, iteF (q2 S1 ρ1 σ H1 Q kq kx g1.r (by simpa using k1) (fun S2 ρ2 H2 d v g2 p2 k2 => hk S2 ρ2 H2 d v (g1.trans g2) p2 k2) (hx.mono g1.ex))⟩
  · exact k1.elim
theorem d_if {t : WT} (hc : DT X F W c t) (ha : DE X F W a wa) (hb : DE X F W b wb) : DE X F W (.IfExp c a b pos) (wIf t wa wb) := by
  obtain ⟨x, p, q⟩ := hc.ex
  obtain ⟨y, p2, q2⟩ := ha.ex
  obtain ⟨z, p3, q3⟩ := hb.ex
  refine ⟨_, pe_ifExp p p2 p3, fun S ρ σ H Q kq kx rr hw hk hx => q S ρ σ H _ _ kx rr hw (fun S1 ρ1 H1 b g1 k1 => ?_) hx⟩
  cases b with
  | true => exact iteT (q2 S1 ρ1 σ H1 Q kq kx g1.r (by simpa using k1) (fun S2 ρ2 H2 d v g2 p2 k2 => hk S2 ρ2 H2 d v (g1.trans g2) p2 k2) (hx.mono g1.ex))
  | false => exact iteF (q3 S1 ρ1 σ H1 Q kq kx g1.r (by simpa using k1) (fun S2 ρ2 H2 d v g2 p2 k2 => hk S2 ρ2 H2 d v (g1.trans g2) p2 k2) (hx.mono g1.ex))

/-! ### arguments, displays -/
def wNil : WA := fun ρ kq _ => kq [] ρ
def wCons (w : WE) (u : WA) : WA := fun ρ kq kx => w ρ (fun d ρ1 => u ρ1 (fun ds ρ2 => kq (d :: ds) ρ2) kx) kx
theorem da_nil : DA X F W [] wNil := ⟨_, pa_nil, fun S ρ σ H Q kq kx rr hw hk hx => hk S ρ H [] [] (Go.refl rr) Reps.nil hw⟩
theorem da_cons {es : List Expr} {u : WA} (h : DE X F W e w) (hr : DA X F W es u) (hs : starEach (e :: es) X.env = (false, eval e X.env) :: starEach es X.env := by rfl) : DA X F W (e :: es) (wCons w u) := by
  obtain ⟨x, p, q⟩ := h.ex
  obtain ⟨y, p2, q2⟩ := hr.ex
  refine ⟨_, pa_cons p p2 hs, fun S ρ σ H Q kq kx rr hw hk hx => q S ρ σ H _ _ kx rr hw (fun S1 ρ1 H1 d v g1 p1 k1 => ?_) hx⟩
  exact q2 S1 ρ1 σ H1 _ _ kx g1.r k1 (fun S2 ρ2 H2 ds vs g2 p3 k2 => hk S2 ρ2 H2 _ _ (g1.trans g2) (Reps.cons (p1.mono g2.ex) p3) k2) (hx.mono g1.ex)
def wTup (w : WA) : WE := fun ρ kq kx => w ρ (fun ds ρ' => ds.length ≤ sizeLine ∧ kq (.tup ds) ρ') kx
def wLst (w : WA) : WA := fun ρ kq kx => w ρ (fun ds ρ' => ds.length ≤ sizeLine ∧ kq ds ρ') kx
theorem d_tup {es : List Expr} {x1} {u : WA} (h : DA X F W es u) : DE X F W (.Tuple es x1 pos) (wTup u) := by
  obtain ⟨x, p, q⟩ := h.ex
  refine ⟨_, pe_tup p, fun S ρ σ H Q kq kx rr hw hk hx => q S ρ σ H _ _ kx rr hw (fun S1 ρ1 H1 ds vs g1 p1 k1 => ⟨by rw [p1.1]; exact k1.1, fun p hp => ?_⟩) hx⟩
  have eS : Ex S1 (upd S1 p (.tup vs)) := Ex.new (g1.r.fz.free hp)
  exact hk _ ρ1 _ _ _ (g1.trans (Go.laid g1.r hp)) (.tup (SqT.of upd_same) (p1.mono eS).1 (p1.mono eS).2) k1.2
theorem dl_lst {es : List Expr} {u : WA} (h : DA X F W es u) : DL X F W (.List es pos) (wLst u) := by
  obtain ⟨x, p, q⟩ := h.ex
  refine ⟨_, pe_lst p, fun S ρ σ H Q kq kx rr hw hk hx => q S ρ σ H _ _ kx rr hw (fun S1 ρ1 H1 ds vs g1 p1 k1 => ⟨by rw [p1.1]; exact k1.1, fun p hp => ?_⟩) hx⟩
  exact hk S1 ρ1 _ ds p vs (g1.trans (Go.temp g1.r hp)) (free_of g1 hp) (g1.r.loose hp) upd_same p1 k1.2
end
end PD

/-! PD, part d: the operators one by one. -/
namespace PD
open PySem PySem.Spec PyProof.Rows L2

section
variable {K : PySem.W.Frag} {S H : Hp} {d e : D} {v u : V}
theorem Pk.int {i : Int} (p : Pk K S H (.int i) v) : v = .int i := by
  rcases p with r | ⟨_, _, _, q, _⟩ | ⟨_, _, _, q, _⟩
  · cases r; rfl
  · cases q
  · cases q
theorem Pk.bl {i : Bool} (p : Pk K S H (.bl i) v) : v = .bl i := by
  rcases p with r | ⟨_, _, _, q, _⟩ | ⟨_, _, _, q, _⟩
  · cases r; rfl
  · cases q
  · cases q
theorem Pk.non (p : Pk K S H .non v) : v = .non := by
  rcases p with r | ⟨_, _, _, q, _⟩ | ⟨_, _, _, q, _⟩
  · cases r; rfl
  · cases q
  · cases q
theorem Pk.ty {n : String} (p : Pk K S H (.ty n) v) : v = .ty n := by
  rcases p with r | ⟨_, _, _, q, _⟩ | ⟨_, _, _, q, _⟩
  · cases r; rfl
  · cases q
  · cases q
theorem Pk.ref {n : Addr} (p : Pk K S H (.ref n) v) : v = .ref n := by
  rcases p with r | ⟨_, _, _, q, _⟩ | ⟨_, _, _, q, _⟩
  · cases r; rfl
  · cases q
  · cases q
theorem Pk.obj {C : Addr} {fs : List (Str × D)} (p : Pk K S H (.obj C fs) v) (e : Ex S H) : ∃ a dx gs, v = .ref a ∧ H a = some (.ins C dx gs) ∧ RepF K S fs gs := by
  rcases p with r | ⟨_, _, _, q, _⟩ | ⟨_, _, _, q, _⟩
  · cases r with
    | obj h hl r => exact ⟨_, _, _, rfl, e _ _ h, hl, r⟩
  · cases q
  · cases q
end

theorem Pk.rep_t {K : PySem.W.Frag} {S H : Hp} {ds : List D} {v : V} (p : Pk K S H (.tup ds) v) : Rep K S (.tup ds) v := by
  rcases p with r | ⟨_, _, _, q, _⟩ | ⟨_, _, _, q, _⟩
  · exact r
  · cases q
  · cases q
/-! ### ints and texts -/
def oI (g : Int → Int → D) : O2 := fun d e k => match d, e with
  | .int i, .int j => k (g i j)
  | _, _ => False
def oIC (C : Int → Int → Prop) (g : Int → Int → D) : O2 := fun d e k => match d, e with
  | .int i, .int j => C i j ∧ k (g i j)
  | _, _ => False
theorem op2_I {K : PySem.W.Frag} {g : Int → Int → D} {f : Int → Int → V} (hg : ∀ i j S, Rep K S (g i j) (f i j)) : Op2 K (rI0 f) (oI g) := fun F S ρ σ H d v e u Q k r p q h hk => by
  unfold oI at h
  split at h
  · rw [p.int, q.int]
    exact ⟨_, _, rfl, rfl, hk S H _ _ (Go.refl r) (hg _ _ _) h⟩
  · exact h.elim
theorem op2_IC {K : PySem.W.Frag} {C : Int → Int → Prop} {g : Int → Int → D} {f : Int → Int → V} (hg : ∀ i j S, Rep K S (g i j) (f i j)) : Op2 K (rI C f) (oIC C g) := fun F S ρ σ H d v e u Q k r p q h hk => by
  unfold oIC at h
  split at h
  · rw [p.int, q.int]
    exact ⟨_, _, rfl, rfl, h.1, hk S H _ _ (Go.refl r) (hg _ _ _) h.2⟩
  · exact h.elim
abbrev oSub : O2 := oI fun i j => .int (i - j)
abbrev oMul : O2 := oIC CMul fun i j => .int (i * j)
abbrev oMod : O2 := oIC (fun _ j => 0 < j) fun i j => .int (i % j)
abbrev oDiv : O2 := oIC CDiv fun i j => .int (i / j)
abbrev oPow : O2 := oIC CPow fun i j => .int (i ^ j.toNat)
abbrev oLt : O2 := oI fun i j => .bl (decide (i < j))
abbrev oLe : O2 := oI fun i j => .bl (decide (i ≤ j))
abbrev oGt : O2 := oI fun i j => .bl (decide (j < i))
abbrev oGe : O2 := oI fun i j => .bl (decide (j ≤ i))
/-- + of ints, texts, tuples -/
def oAdd : O2 := fun d e k => match d, e with
  | .int i, .int j => k (.int (i + j))
  | .str a, .str b => a.length + b.length ≤ sizeLine ∧ k (.str (a ++ b))
  | .tup xs, .tup ys => xs.length + ys.length ≤ sizeLine ∧ k (.tup (xs ++ ys))
  | _, _ => False
def rAddS : R2 := fun x y H Q => ∃ i j, x = .str i ∧ y = .str j ∧ i.length + j.length ≤ sizeLine ∧ Q (.str (i ++ j)) H
theorem op_add3 {X : Cx} : OpR X (binaryOp .Add) (fun x y H Q => rI0 (fun i j => .int (i + j)) x y H Q ∨ rAddS x y H Q ∨ rCatA X.K x y H Q) := (op_add).or ((op_add_str).or op_catA)
theorem op2_add {K : PySem.W.Frag} : Op2 K (fun x y H Q => rI0 (fun i j => .int (i + j)) x y H Q ∨ rAddS x y H Q ∨ rCatA K x y H Q) oAdd := fun F S ρ σ H d v e u Q k r p q h hk => by
  unfold oAdd at h
  split at h
  · rw [p.int, q.int]
    exact .inl ⟨_, _, rfl, rfl, hk S H _ _ (Go.refl r) (.int _) h⟩
  · rw [p.str, q.str]
    exact .inr (.inl ⟨_, _, rfl, rfl, h.1, hk S H _ _ (Go.refl r) (.str _) h.2⟩)
  · rename_i xs ys
    obtain ⟨a, vs, rfl, ha, ra⟩ := p.t r.fz
    obtain ⟨b, us, rfl, hb, rb⟩ := q.t r.fz
    refine .inr (.inr ⟨a, b, vs, us, rfl, rfl, ha, hb, by rw [ra.1, rb.1]; exact h.1, fun z => ?_, fun _ z => ?_, fun _ _ p' hp => ?_⟩)
    · have e1 : xs = [] := List.length_eq_zero_iff.mp (by rw [← ra.1, z]; rfl)
      have h2 := h.2
      rw [e1] at h2
      exact hk S H _ _ (Go.refl r) q.rep_t h2
    · have e1 : ys = [] := List.length_eq_zero_iff.mp (by rw [← rb.1, z]; rfl)
      have h2 := h.2
      rw [e1, List.append_nil] at h2
      exact hk S H _ _ (Go.refl r) p.rep_t h2
    · have eS : Ex S (upd S p' (.tup (vs ++ us))) := Ex.new (r.fz.free hp)
      have g := (ra.append rb).mono eS
      exact hk _ _ _ _ (Go.laid r hp) (.tup (SqT.of upd_same) g.1 g.2) h.2
  · exact h.elim

/-! ### lists: +, * -/
def oCat : O2L := fun d e k => match d, e with
  | .lst xs, .lst ys => xs.length + ys.length ≤ sizeLine ∧ k (xs ++ ys)
  | _, _ => False
theorem op2_cat {K : PySem.W.Frag} : Op2L K rCat oCat := fun F S ρ σ H d v e u Q k r p q h hk => by
  unfold oCat at h
  split at h
  · obtain ⟨a, vs, rfl, ha, ra⟩ := p.l r.fz
    obtain ⟨b, us, rfl, hb, rb⟩ := q.l r.fz
    exact ⟨a, b, vs, us, rfl, rfl, ha, hb, by rw [ra.1, rb.1]; exact h.1, fun p' hp => hk S _ _ p' _ (Go.temp r hp) hp (r.loose hp) upd_same (ra.append rb) h.2⟩
  · exact h.elim
def oRep : O2L := fun d e k => match d, e with
  | .lst xs, .int n => (-(2 ^ 63) ≤ n ∧ n < 2 ^ 63 ∧ xs.length * n.toNat ≤ sizeLine) ∧ k (List.replicate n.toNat xs).flatten
  | _, _ => False
theorem Reps.rep {K : PySem.W.Frag} {S : Hp} {ds : List D} {xs : List V} (r : Reps K S ds xs) : ∀ n : Nat, Reps K S (List.replicate n ds).flatten (List.replicate n xs).flatten
  | 0 => Reps.nil
  | n + 1 => by
    rw [List.replicate_succ, List.replicate_succ, List.flatten_cons, List.flatten_cons]
    exact r.append (Reps.rep r n)
theorem op2_rep {K : PySem.W.Frag} : Op2L K rRep oRep := fun F S ρ σ H d v e u Q k r p q h hk => by
  unfold oRep at h
  split at h
  · obtain ⟨a, vs, rfl, ha, ra⟩ := p.l r.fz
    rw [q.int]
    exact ⟨a, _, vs, rfl, rfl, ha, h.1.1, h.1.2.1, by rw [ra.1]; exact h.1.2.2, fun p' hp => hk S _ _ p' _ (Go.temp r hp) hp (r.loose hp) upd_same (ra.rep _) h.2⟩
  · exact h.elim

/-! ### items -/
def oIx : O2 := fun d e k => match d, e with
  | .lst xs, .int i => match atI xs i with
    | some x => k x
    | none => False
  | .tup xs, .int i => match atI xs i with
    | some x => k x
    | none => False
  | .str s, .int i => s.length ≤ sizeLine ∧ match atI s.cps.toList i with
    | some c => k (.str ⟨#[c]⟩)
    | none => False
  | _, _ => False
theorem Reps.atI {K : PySem.W.Frag} {S : Hp} {ds : List D} {xs : List V} (r : Reps K S ds xs) {i : Int} {d : D} (h : L2.atI ds i = some d) : ∃ v, L2.atI xs i = some v ∧ Rep K S d v := by
  unfold L2.atI at h ⊢
  rw [r.1]
  cases e : ixN ds.length i with
  | none =>
    rw [e] at h
    cases h
  | some j =>
    rw [e] at h
    exact r.get h
theorem op2_ix {K : PySem.W.Frag} : Op2 K (rIx K) oIx := fun F S ρ σ H d v e u Q k r p q h hk => by
  unfold oIx at h
  split at h
  · split at h
    · rename_i x hx
      obtain ⟨a, vs, rfl, ha, ra⟩ := p.l r.fz
      obtain ⟨y, hy, ry⟩ := ra.atI hx
      rw [q.int]
      exact .inl ⟨a, vs, _, y, rfl, rfl, SqL.of ha, hy, hk S H _ _ (Go.refl r) ry h⟩
    · exact h.elim
  · split at h
    · rename_i x hx
      obtain ⟨a, vs, rfl, ha, ra⟩ := p.t r.fz
      obtain ⟨y, hy, ry⟩ := ra.atI hx
      rw [q.int]
      exact .inr (.inl ⟨a, vs, _, y, rfl, rfl, ha, hy, hk S H _ _ (Go.refl r) ry h⟩)
    · exact h.elim
  · obtain ⟨h1, h2⟩ := h
    split at h2
    · rename_i c hc
      rw [p.str, q.int]
      exact .inr (.inr ⟨_, _, c, rfl, rfl, h1, hc, hk S H _ _ (Go.refl r) (.str _) h2⟩)
    · exact h2.elim
  · exact h.elim

/-! ### ==, in over data -/
mutual
def toP : D → Option PyData
  | .non => some .none
  | .bl b => some (.bool b)
  | .int i => some (.int i)
  | .str s => some (.str s)
  | .tup xs => match toPs xs with
    | some ps => some (.tuple ps)
    | none => none
  | .lst xs => match toPs xs with
    | some ps => some (.list ps)
    | none => none
  | .ty _ => none
  | .ref _ => none
  | .dic _ => none
  | .obj _ _ => none
def toPs : List D → Option (List PyData)
  | [] => some []
  | x :: xs => match toP x, toPs xs with
    | some p, some ps => some (p :: ps)
    | _, _ => none
end
mutual
theorem toP_plain : ∀ (d : D) (p : PyData), toP d = some p → p.plain = true
  | .non, p, h => by cases h; rfl
  | .bl b, p, h => by cases h; rfl
  | .int i, p, h => by cases h; rfl
  | .str s, p, h => by cases h; rfl
  | .tup xs, p, h => by
    unfold toP at h
    cases e : toPs xs with
    | none => rw [e] at h; cases h
    | some ps => rw [e] at h; cases h; exact toPs_plain xs ps e
  | .lst xs, p, h => by
    unfold toP at h
    cases e : toPs xs with
    | none => rw [e] at h; cases h
    | some ps => rw [e] at h; cases h; exact toPs_plain xs ps e
  | .ty _, p, h => by cases h
  | .ref _, p, h => by cases h
  | .dic _, p, h => by cases h
  | .obj _ _, p, h => by cases h
theorem toPs_plain : ∀ (ds : List D) (ps : List PyData), toPs ds = some ps → PyData.plainAll ps = true
  | [], ps, h => by cases h; rfl
  | x :: xs, ps, h => by
    unfold toPs at h
    cases e1 : toP x with
    | none => rw [e1] at h; cases h
    | some p =>
      cases e2 : toPs xs with
      | none => rw [e1, e2] at h; cases h
      | some qs =>
        rw [e1, e2] at h
        cases h
        have h1 := toP_plain x p e1
        have h2 := toPs_plain xs qs e2
        show (PyData.plain p && PyData.plainAll qs) = true
        rw [h1, h2]
        rfl
end
theorem dpAll_of {K : PySem.W.Frag} {H : Hp} : ∀ (ds : List D) (xs : List V) (ps : List PyData), xs.length = ds.length → (∀ (i : Nat) d v, ds[i]? = some d → xs[i]? = some v → ∀ p, toP d = some p → Dp K H v p) → toPs ds = some ps → DpAll K H xs ps
  | [], xs, ps, hl, ih, h => by
    cases h
    cases xs with
    | nil => exact .nil
    | cons x y => cases hl
  | d :: ds, xs, ps, hl, ih, h => by
    cases xs with
    | nil => cases hl
    | cons x xs =>
      unfold toPs at h
      cases e1 : toP d with
      | none => rw [e1] at h; cases h
      | some p =>
        cases e2 : toPs ds with
        | none => rw [e1, e2] at h; cases h
        | some qs =>
          rw [e1, e2] at h
          cases h
          exact .cons (ih 0 d x rfl rfl p e1) (dpAll_of ds xs qs (by simpa using hl) (fun i d v a b => ih (i + 1) d v (by simpa using a) (by simpa using b)) e2)
theorem Rep.dp {K : PySem.W.Frag} {S : Hp} {d : D} {v : V} (r : Rep K S d v) : ∀ p, toP d = some p → Dp K S v p := by
  induction r with
  | non => intro p h; cases h; exact .non
  | bl b => intro p h; cases h; exact .bl b
  | int i => intro p h; cases h; exact .int i
  | str s => intro p h; cases h; exact .str s
  | ty n => intro p h; cases h
  | ref a => intro p h; cases h
  | @tup a xs ds h hl r ih =>
    intro p hp
    unfold toP at hp
    cases e : toPs ds with
    | none => rw [e] at hp; cases hp
    | some ps => rw [e] at hp; cases hp; exact .tup h (dpAll_of ds xs ps hl ih e)
  | @lst a xs ds h hl r ih =>
    intro p hp
    unfold toP at hp
    cases e : toPs ds with
    | none => rw [e] at hp; cases hp
    | some ps => rw [e] at hp; cases hp; exact .lst (SqL.of h) (dpAll_of ds xs ps hl ih e)
  | dic h hl r ih => intro p h; cases h
  | obj h hl r ih => intro p h; cases h
mutual
theorem Dp.ex {K : PySem.W.Frag} {H H' : Hp} (e : Ex H H') : ∀ (p : PyData) (v : V), Dp K H v p → Dp K H' v p
  | .none, _, h => by cases h; exact .non
  | .bool b, _, h => by cases h; exact .bl b
  | .int i, _, h => by cases h; exact .int i
  | .str s, _, h => by cases h; exact .str s
  | .list ps, _, h => by
    cases h with
    | lst h1 h2 => exact .lst (e.l h1) (DpAll.ex e ps _ h2)
  | .tuple ps, _, h => by
    cases h with
    | tup h1 h2 => exact .tup (e.t h1) (DpAll.ex e ps _ h2)
  | .dict _, _, h => by cases h
theorem DpAll.ex {K : PySem.W.Frag} {H H' : Hp} (e : Ex H H') : ∀ (ps : List PyData) (vs : List V), DpAll K H vs ps → DpAll K H' vs ps
  | [], _, h => by cases h; exact .nil
  | p :: ps, _, h => by
    cases h with
    | cons h1 h2 => exact .cons (Dp.ex e p _ h1) (DpAll.ex e ps _ h2)
end
theorem Pk.dp {K : PySem.W.Frag} {S H : Hp} {d : D} {v : V} (p : Pk K S H d v) (e : Ex S H) {q : PyData} (h : toP d = some q) : Dp K H v q := by
  rcases p with r | ⟨ds, a, xs, rfl, rfl, h1, r⟩ | ⟨ds, a, xs, rfl, rfl, h1, r⟩
  · exact Dp.ex e _ _ (r.dp q h)
  · unfold toP at h
    cases e2 : toPs ds with
    | none => rw [e2] at h; cases h
    | some ps =>
      rw [e2] at h
      cases h
      exact .lst (SqL.of h1) (dpAll_of ds xs ps r.1 (fun i d v a b p hp => Dp.ex e _ _ ((r.2 i d v a b).dp p hp)) e2)
  · cases h
def rEqP (K : PySem.W.Frag) : R2 := fun x y H Q => ∃ d e, Dp K H x d ∧ Dp K H y e ∧ d.plain = true ∧ e.plain = true ∧ min d.depth e.depth ≤ 64 ∧ Q (.bl (PyData.eqv d e)) H
def rNeP (K : PySem.W.Frag) : R2 := fun x y H Q => ∃ d e, Dp K H x d ∧ Dp K H y e ∧ d.plain = true ∧ e.plain = true ∧ min d.depth e.depth ≤ 64 ∧ Q (.bl (!PyData.eqv d e)) H
theorem op_eqP {X : Cx} (hu : X.A.units + 64 < cLine) : OpR X (compareOp .Eq) (rEqP X.K) := by
  intro pins s σ H x y v u Q I rx ry h
  obtain ⟨d, e, hd, he, sd, se, hm, q⟩ := h
  obtain ⟨as, r1⟩ := Dp.reads I d x v hd rx
  obtain ⟨bs, r2⟩ := Dp.reads I e y u he ry
  exact SeqAt.eq_plain r1 r2 sd se (by omega) ⟨.bl _, H, I, rfl, q⟩
theorem op_neP {X : Cx} (hu : X.A.units + 64 < cLine) : OpR X (compareOp .NotEq) (rNeP X.K) := by
  intro pins s σ H x y v u Q I rx ry h
  obtain ⟨d, e, hd, he, sd, se, hm, q⟩ := h
  obtain ⟨as, r1⟩ := Dp.reads I d x v hd rx
  obtain ⟨bs, r2⟩ := Dp.reads I e y u he ry
  exact SeqAt.ne_plain r1 r2 sd se (by omega) ⟨.bl _, H, I, rfl, q⟩
def oEq : O2 := fun d e k => match toP d, toP e with
  | some p, some q => min p.depth q.depth ≤ 64 ∧ k (.bl (PyData.eqv p q))
  | _, _ => False
def oNe : O2 := fun d e k => match toP d, toP e with
  | some p, some q => min p.depth q.depth ≤ 64 ∧ k (.bl (!PyData.eqv p q))
  | _, _ => False
theorem op2_eq {K : PySem.W.Frag} : Op2 K (rEqP K) oEq := fun F S ρ σ H d v e u Q k r p q h hk => by
  unfold oEq at h
  split at h
  · rename_i a b ha hb
    exact ⟨a, b, p.dp r.fz ha, q.dp r.fz hb, toP_plain _ _ ha, toP_plain _ _ hb, h.1, hk S H _ _ (Go.refl r) (.bl _) h.2⟩
  · exact h.elim
theorem op2_ne {K : PySem.W.Frag} : Op2 K (rNeP K) oNe := fun F S ρ σ H d v e u Q k r p q h hk => by
  unfold oNe at h
  split at h
  · rename_i a b ha hb
    exact ⟨a, b, p.dp r.fz ha, q.dp r.fz hb, toP_plain _ _ ha, toP_plain _ _ hb, h.1, hk S H _ _ (Go.refl r) (.bl _) h.2⟩
  · exact h.elim
/-- x in c: a list, a tuple of data, a text in a text -/
def inS (a b : Str) : Bool := if a.cps.size = 1 then decide (a.cps.getD 0 0 ∈ b.cps.toList) else !(Builtin.Str.occurrences b a 0 b.length 1).isEmpty
def rInP (K : PySem.W.Frag) (neg : Bool) : R2 := fun x y H Q => (∃ d ds, Dp K H x d ∧ (Dp K H y (.list ds) ∨ Dp K H y (.tuple ds)) ∧ d.plain = true ∧ PyData.plainAll ds = true ∧ min (PyData.depthAll ds) d.depth ≤ 62 ∧ Q (.bl (if neg = true then !ds.any fun z => PyData.eqv z d else ds.any fun z => PyData.eqv z d)) H) ∨
  ∃ a b, x = .str a ∧ y = .str b ∧ Q (.bl (if neg = true then !inS a b else inS a b)) H
theorem str_one {a : Str} (h : a.cps.size = 1) : a = ⟨#[a.cps.getD 0 0]⟩ := by
  obtain ⟨⟨l⟩⟩ := a
  cases l with
  | nil => cases h
  | cons x r =>
    cases r with
    | nil => rfl
    | cons y z => cases h
theorem op_inP {X : Cx} (hu : X.A.units + 64 < cLine) : OpR X (compareOp .In) (rInP X.K false) := by
  intro pins s σ H x y v u Q I rx ry h
  rcases h with ⟨d, ds, hd, he, sd, se, hm, q⟩ | ⟨a, b, rfl, rfl, q⟩
  · obtain ⟨as, r1⟩ := Dp.reads I d x v hd rx
    rcases he with he | he
    · obtain ⟨bs, r2⟩ := Dp.reads I _ y u he ry
      exact SeqAt.in_list_data r2 r1 se sd (by omega) ⟨.bl _, H, I, rfl, q⟩
    · obtain ⟨bs, r2⟩ := Dp.reads I _ y u he ry
      exact SeqAt.in_tuple_data r2 r1 se sd (by omega) ⟨.bl _, H, I, rfl, q⟩
  · unfold inS at q
    by_cases hs : a.cps.size = 1
    · rw [if_pos hs] at q
      exact op_in_sign pins s σ H _ _ v u Q I rx ry ⟨a.cps.getD 0 0, b, by rw [← str_one hs], rfl, q⟩
    · rw [if_neg hs] at q
      exact op_in_str pins s σ H _ _ v u Q I rx ry ⟨a, b, rfl, rfl, q⟩
theorem op_niP {X : Cx} (hu : X.A.units + 64 < cLine) : OpR X (compareOp .NotIn) (rInP X.K true) := by
  intro pins s σ H x y v u Q I rx ry h
  rcases h with ⟨d, ds, hd, he, sd, se, hm, q⟩ | ⟨a, b, rfl, rfl, q⟩
  · obtain ⟨as, r1⟩ := Dp.reads I d x v hd rx
    rcases he with he | he
    · obtain ⟨bs, r2⟩ := Dp.reads I _ y u he ry
      exact SeqAt.notIn_list_data r2 r1 se sd (by omega) ⟨.bl _, H, I, rfl, q⟩
    · obtain ⟨bs, r2⟩ := Dp.reads I _ y u he ry
      exact SeqAt.notIn_tuple_data r2 r1 se sd (by omega) ⟨.bl _, H, I, rfl, q⟩
  · unfold inS at q
    by_cases hs : a.cps.size = 1
    · rw [if_pos hs] at q
      exact op_notIn_sign pins s σ H _ _ v u Q I rx ry ⟨a.cps.getD 0 0, b, by rw [← str_one hs], rfl, q⟩
    · rw [if_neg hs] at q
      exact op_notin_str pins s σ H _ _ v u Q I rx ry ⟨a, b, rfl, rfl, q⟩
def oInG (neg : Bool) : O2 := fun d e k => match d, e with
  | .str a, .str b => k (.bl (if neg = true then !inS a b else inS a b))
  | d, .lst xs => match toP d, toPs xs with
    | some p, some ps => min (PyData.depthAll ps) p.depth ≤ 62 ∧ k (.bl (if neg = true then !ps.any fun z => PyData.eqv z p else ps.any fun z => PyData.eqv z p))
    | _, _ => False
  | d, .tup xs => match toP d, toPs xs with
    | some p, some ps => min (PyData.depthAll ps) p.depth ≤ 62 ∧ k (.bl (if neg = true then !ps.any fun z => PyData.eqv z p else ps.any fun z => PyData.eqv z p))
    | _, _ => False
  | _, _ => False
abbrev oIn : O2 := oInG false
abbrev oNi : O2 := oInG true
theorem op2_in {K : PySem.W.Frag} {neg : Bool} : Op2 K (rInP K neg) (oInG neg) := fun F S ρ σ H d v e u Q k r p q h hk => by
  unfold oInG at h
  split at h
  · rw [p.str, q.str]
    exact .inr ⟨_, _, rfl, rfl, hk S H _ _ (Go.refl r) (.bl _) h⟩
  · rename_i xs
    split at h
    · rename_i a b ha hb
      have hl : toP (.lst xs) = some (.list b) := by unfold toP; rw [hb]
      exact .inl ⟨a, b, p.dp r.fz ha, .inl (q.dp r.fz hl), toP_plain _ _ ha, toPs_plain _ _ hb, h.1, hk S H _ _ (Go.refl r) (.bl _) h.2⟩
    · exact h.elim
  · rename_i xs
    split at h
    · rename_i a b ha hb
      have hl : toP (.tup xs) = some (.tuple b) := by unfold toP; rw [hb]
      exact .inl ⟨a, b, p.dp r.fz ha, .inr (q.dp r.fz hl), toP_plain _ _ ha, toPs_plain _ _ hb, h.1, hk S H _ _ (Go.refl r) (.bl _) h.2⟩
    · exact h.elim
  · exact h.elim
abbrev rIsN1 : R2 := fun x y H Q => y = .non ∧ Q (.bl (decide (x = .non))) H
abbrev rNotN1 : R2 := fun x y H Q => y = .non ∧ Q (.bl (!decide (x = .non))) H
/-- is None -/
def oIsN (neg : Bool) : O2 := fun d e k => match e with
  | .non => match d with
    | .non => k (.bl (!neg))
    | _ => k (.bl neg)
  | _ => False
theorem Pk.nonV {K : PySem.W.Frag} {S H : Hp} {d : D} {v : V} (p : Pk K S H d v) : decide (v = .non) = (match d with | .non => true | _ => false) := by
  rcases p with r | ⟨ds, a, xs, rfl, rfl, h1, r⟩ | ⟨ds, a, xs, rfl, rfl, h1, r⟩
  · cases r <;> rfl
  · rfl
  · rfl
theorem op2_is {K : PySem.W.Frag} : Op2 K rIsN1 (oIsN false) := fun F S ρ σ H d v e u Q k r p q h hk => by
  unfold oIsN at h
  split at h
  · rw [q.non]
    refine ⟨rfl, ?_⟩
    rw [p.nonV]
    split at h
    · exact hk S H _ _ (Go.refl r) (.bl _) h
    · rename_i hn
      cases d <;> first | exact absurd rfl hn | exact hk S H _ _ (Go.refl r) (.bl _) h
  · exact h.elim
theorem op2_isnot {K : PySem.W.Frag} : Op2 K rNotN1 (oIsN true) := fun F S ρ σ H d v e u Q k r p q h hk => by
  unfold oIsN at h
  split at h
  · rw [q.non]
    refine ⟨rfl, ?_⟩
    rw [p.nonV]
    split at h
    · exact hk S H _ _ (Go.refl r) (.bl _) h
    · rename_i hn
      cases d <;> first | exact absurd rfl hn | exact hk S H _ _ (Go.refl r) (.bl _) h
  · exact h.elim
end PD

/-! PD, part e: subscripts, slices, calls of built-ins, methods of texts. -/
namespace PD
open PySem PySem.Spec PyProof.Rows L2

section
variable {X : Cx} {F : Fm} {W : WX} {e a b c : Expr} {w wa wb wc : WE} {pos p : Pos}
/-! ### subscripts -/
theorem d_ix {u : WP2} (h : DQ X F W a b u) (hs : PlainIx b := by exact fun _ _ => rfl) : DE X F W (.Subscript a b pos) (wOp oIx u) := by
  obtain ⟨ta, tb, pa, pb, q⟩ := h.ex
  exact ⟨_, pe_ix ix_seq pa pb hs, run_op q op2_ix⟩

/-! ### slices -/
abbrev WO := DSt → (Option Int → DSt → Prop) → KX → Prop
def RunO (K : PySem.W.Frag) (F : Fm) (W : WX) (t : TO) (w : WO) : Prop := ∀ S ρ σ H (Q : Option Int → Hp → Prop) (kq : Option Int → DSt → Prop) (kx : KX), R K F S ρ σ H → w ρ kq kx →
  (∀ S' ρ' H' o, Go K F σ S ρ H S' ρ' H' → kq o ρ' → Q o H') → XL K F W σ S kx → t σ H Q
structure DO (X : Cx) (F : Fm) (W : WX) (o : Option Expr) (w : WO) : Prop where
  ex : ∃ t, PO X o t ∧ RunO X.K F W t w
def wNoPart : WO := fun ρ kq _ => kq none ρ
def wPart (w : WE) : WO := fun ρ kq kx => w ρ (fun d ρ' => match d with | .int i => kq (some i) ρ' | _ => False) kx
theorem do_none : DO X F W none wNoPart := ⟨_, po_none, fun S ρ σ H Q kq kx rr hw hk hx => hk S ρ H none (Go.refl rr) hw⟩
theorem do_some (h : DE X F W e w) : DO X F W (some e) (wPart w) := by
  obtain ⟨t, q1, q⟩ := h.ex
  refine ⟨_, po_some q1, fun S ρ σ H Q kq kx rr hw hk hx => q S ρ σ H _ _ kx rr hw (fun S1 ρ1 H1 d v g1 p1 k1 => ?_) hx⟩
  split at k1
  · cases p1
    exact ⟨_, rfl, hk S1 ρ1 H1 _ g1 k1⟩
  · exact k1.elim
abbrev O3 := D → Option Int → Option Int → (D → Prop) → Prop
abbrev O3L := D → Option Int → Option Int → (List D → Prop) → Prop
def cutL {α : Type} (xs : List α) (lo hi : Option Int) : List α := (xs.drop (HT.sIx xs.length 0 lo)).take (HT.sIx xs.length xs.length hi - HT.sIx xs.length 0 lo)
def oSl : O3 := fun d lo hi k => match d with
  | .str s => s.length ≤ sizeLine ∧ k (.str (cutS s lo hi))
  | .tup xs => k (.tup (cutL xs lo hi))
  | _ => False
def oSlL : O3L := fun d lo hi k => match d with
  | .lst xs => k (cutL xs lo hi)
  | _ => False
theorem Reps.cut {K : PySem.W.Frag} {S : Hp} {ds : List D} {xs : List V} (r : Reps K S ds xs) (lo hi : Option Int) : Reps K S (cutL ds lo hi) (cutV xs lo hi) := by
  unfold cutL cutV
  rw [r.1]
  exact (r.drop _).take _
/-- the sliced thing a value that rests, or a name (read behind the bounds) -/
def w3 (w : WE) (u v : WO) : DSt → (D → Option Int → Option Int → DSt → Prop) → KX → Prop := fun ρ kq kx => w ρ (fun d ρ1 => u ρ1 (fun lo ρ2 => v ρ2 (fun hi ρ3 => kq d lo hi ρ3) kx) kx) kx
def w3n (i : Nat) (u v : WO) : DSt → (D → Option Int → Option Int → DSt → Prop) → KX → Prop := fun ρ kq kx => match ρ[i]? with
  | some (some _) => u ρ (fun lo ρ2 => v ρ2 (fun hi ρ3 => match ρ3[i]? with
    | some (some z) => kq z.d lo hi ρ3
    | _ => False) kx) kx
  | _ => False
def RunQ3 (K : PySem.W.Frag) (F : Fm) (W : WX) (te : TE) (tl th : TO) (w : DSt → (D → Option Int → Option Int → DSt → Prop) → KX → Prop) : Prop := ∀ S ρ σ H (Q : V → Option Int → Option Int → Hp → Prop) (kq : D → Option Int → Option Int → DSt → Prop) (kx : KX), R K F S ρ σ H → w ρ kq kx →
  (∀ S' ρ' H' d v lo hi, Go K F σ S ρ H S' ρ' H' → Pk K S' H' d v → kq d lo hi ρ' → Q v lo hi H') → XL K F W σ S kx → te σ H fun x H1 => tl σ H1 fun l H2 => th σ H2 fun u H3 => Q x l u H3
theorem run_w3 {K : PySem.W.Frag} {te : TE} {tl th : TO} {w : WE} {u v : WO} (h : RunE K F W te w) (hl : RunO K F W tl u) (hh : RunO K F W th v) : RunQ3 K F W te tl th (w3 w u v) := fun S ρ σ H Q kq kx rr hw hk hx =>
  h S ρ σ H _ _ kx rr hw (fun S1 ρ1 H1 d v g1 p1 k1 => hl S1 ρ1 σ H1 _ _ kx g1.r k1 (fun S2 ρ2 H2 lo g2 k2 => hh S2 ρ2 σ H2 _ _ kx g2.r k2 (fun S3 ρ3 H3 hi g3 k3 =>
    hk S3 ρ3 H3 d v lo hi ((g1.trans g2).trans g3) (.inl (p1.mono (g2.ex.trans g3.ex))) k3) (hx.mono (g1.ex.trans g2.ex))) (hx.mono g1.ex)) hx
theorem run_w3n {K : PySem.W.Frag} (i : Nat) {tl th : TO} {u v : WO} (hl : RunO K F W tl u) (hh : RunO K F W th v) : RunQ3 K F W (tVar i) tl th (w3n i u v) := fun S ρ σ H Q kq kx rr hw hk hx => by
  unfold w3n at hw
  split at hw
  · rename_i y hy
    obtain ⟨z, hz, _⟩ := rr.peek hy
    refine ⟨z, hz, hl S ρ σ H _ _ kx rr hw (fun S2 ρ2 H2 lo g2 k2 => hh S2 ρ2 σ H2 _ _ kx g2.r k2 (fun S3 ρ3 H3 hi g3 k3 => ?_) (hx.mono g2.ex)) hx⟩
    split at k3
    · rename_i x hx2
      obtain ⟨z', hz', p2⟩ := g3.r.peek hx2
      rw [hz] at hz'
      cases hz'
      exact hk S3 ρ3 H3 _ z lo hi (g2.trans g3) p2 k3
    · exact k3.elim
  · exact hw.elim
def Op3 (K : PySem.W.Frag) (r : V → Option Int → Option Int → Hp → VK → Prop) (o : O3) : Prop := ∀ (F : Fm) S ρ σ H d v lo hi (Q : VK) (k : D → Prop), R K F S ρ σ H → Pk K S H d v → o d lo hi k →
  (∀ S' H' c w, Go K F σ S ρ H S' ρ H' → Rep K S' c w → k c → Q w H') → r v lo hi H Q
theorem op3_sl {K : PySem.W.Frag} : Op3 K (fun x lo hi H Q => rSlS x lo hi H Q ∨ rSlA K x lo hi H Q) oSl := fun F S ρ σ H d v lo hi Q k r p h hk => by
  unfold oSl at h
  split at h
  · rw [p.str]
    exact .inl ⟨_, rfl, h.1, hk S H _ _ (Go.refl r) (.str _) h.2⟩
  · rename_i xs
    obtain ⟨a, vs, rfl, ha, ra⟩ := p.t r.fz
    refine .inr ⟨a, vs, rfl, ha, fun z => ?_, fun _ p' hp => ?_⟩
    · have e : cutL xs lo hi = xs := by
        unfold cutL
        rw [← ra.1, z.1, z.2, List.drop_zero, Nat.sub_zero, ra.1]
        exact List.take_length
      rw [e] at h
      exact hk S H _ _ (Go.refl r) p.rep_t h
    · have eS : Ex S (upd S p' (.tup (cutV vs lo hi))) := Ex.new (r.fz.free hp)
      have g := (ra.cut lo hi).mono eS
      exact hk _ _ _ _ (Go.laid r hp) (.tup (SqT.of upd_same) g.1 g.2) h
  · exact h.elim
def wSl (w : DSt → (D → Option Int → Option Int → DSt → Prop) → KX → Prop) : WE := fun ρ kq kx => w ρ (fun d lo hi ρ' => oSl d lo hi fun c => kq c ρ') kx
def wSlL (w : DSt → (D → Option Int → Option Int → DSt → Prop) → KX → Prop) : WA := fun ρ kq kx => w ρ (fun d lo hi ρ' => oSlL d lo hi fun c => kq c ρ') kx
structure DQ3 (X : Cx) (F : Fm) (W : WX) (e : Expr) (lo hi : Option Expr) (w : DSt → (D → Option Int → Option Int → DSt → Prop) → KX → Prop) : Prop where
  ex : ∃ te tl th, PE X e te ∧ PO X lo tl ∧ PO X hi th ∧ RunQ3 X.K F W te tl th w
theorem dq3 {lo hi : Option Expr} {u v : WO} (h : DE X F W e w) (hl : DO X F W lo u) (hh : DO X F W hi v) : DQ3 X F W e lo hi (w3 w u v) := by
  obtain ⟨t, q1, q⟩ := h.ex
  obtain ⟨t2, q2, q3⟩ := hl.ex
  obtain ⟨t3, q4, q5⟩ := hh.ex
  exact ⟨t, t2, t3, q1, q2, q4, run_w3 q q3 q5⟩
theorem dq3n (i : Nat) {x : Str} {lo hi : Option Expr} {u v : WO} (hl : DO X F W lo u) (hh : DO X F W hi v) (hN : X.N[i]? = some x := by rfl) (hv : Vis X.env.scope x := by first | exact Or.inl rfl | exact Or.inr (Or.inl rfl) | exact Or.inr (Or.inr rfl)) (hd : (x == ("__debug__" : Str)) = false := by decide)
    (hcd : (x == ("__classdict__" : Str)) = false := by decide) : DQ3 X F W (.Name x pos) lo hi (w3n i u v) := by
  obtain ⟨t2, q2, q3⟩ := hl.ex
  obtain ⟨t3, q4, q5⟩ := hh.ex
  exact ⟨_, t2, t3, pe_var hN hv hd hcd, q2, q4, run_w3n i q3 q5⟩
theorem d_sl {lo hi : Option Expr} {p2 : Pos} {u : DSt → (D → Option Int → Option Int → DSt → Prop) → KX → Prop} (h : DQ3 X F W e lo hi u) : DE X F W (.Subscript e (.Slice lo hi none p2) pos) (wSl u) := by
  obtain ⟨te, tl, th, q1, q2, q3, q⟩ := h.ex
  refine ⟨_, pe_slice (SlR.or sl_str sl_tupA) q1 q2 q3, fun S ρ σ H Q kq kx rr hw hk hx => ?_⟩
  exact q S ρ σ H (fun x l u H3 => rSlS x l u H3 Q ∨ rSlA X.K x l u H3 Q) _ kx rr hw (fun S1 ρ1 H1 d v lo hi g1 p1 k1 => op3_sl F S1 ρ1 σ H1 d v lo hi Q _ g1.r p1 k1 fun S2 H2 c z g2 p3 k2 => hk S2 ρ1 H2 c z (g1.trans g2) p3 k2) hx
theorem dl_sl {lo hi : Option Expr} {p2 : Pos} {u : DSt → (D → Option Int → Option Int → DSt → Prop) → KX → Prop} (h : DQ3 X F W e lo hi u) : DL X F W (.Subscript e (.Slice lo hi none p2) pos) (wSlL u) := by
  obtain ⟨te, tl, th, q1, q2, q3, q⟩ := h.ex
  refine ⟨_, pe_slice sl_list q1 q2 q3, fun S ρ σ H Q kq kx rr hw hk hx => ?_⟩
  refine q S ρ σ H (fun x l u H3 => rSlL X.K x l u H3 Q) _ kx rr hw (fun S1 ρ1 H1 d v lo hi g1 p1 k1 => ?_) hx
  unfold oSlL at k1
  split at k1
  · obtain ⟨a, vs, rfl, ha, ra⟩ := p1.l g1.r.fz
    exact ⟨a, vs, rfl, SqL.of ha, fun p' hp => hk S1 ρ1 _ _ p' _ (g1.trans (Go.temp g1.r hp)) (g1.up _ hp) (g1.r.loose hp) upd_same (ra.cut lo hi) k1⟩
  · exact k1.elim

/-! ### calls of built-ins with one argument -/
theorem run_cb1 {K : PySem.W.Frag} {r : List V → Hp → VK → Prop} {o : O1} {t : TE} (h : RunP K F W t w) (h2 : Op1 K (fun v => r [v]) o) : RunE K F W (tCB r (tCons t tNil)) (w1 o w) := fun S ρ σ H Q kq kx rr hw hk hx =>
  h S ρ σ H _ _ kx rr hw (fun S1 ρ1 H1 d v g1 p1 k1 => h2 F S1 ρ1 σ H1 d v Q _ g1.r p1 k1 fun S2 H2 c z g2 p3 k2 => hk S2 ρ1 H2 c z (g1.trans g2) p3 k2) hx
theorem run_cb1L {K : PySem.W.Frag} {r : List V → Hp → VK → Prop} {o : O1L} {t : TE} (h : RunP K F W t w) (h2 : Op1L K (fun v => r [v]) o) : RunL K F W (tCB r (tCons t tNil)) (w1L o w) := fun S ρ σ H Q kq kx rr hw hk hx =>
  h S ρ σ H _ _ kx rr hw (fun S1 ρ1 H1 d v g1 p1 k1 => h2 F S1 ρ1 σ H1 d v Q _ g1.r p1 k1 fun S2 H2 ds p xs g2 hn l p3 p4 k2 => hk S2 ρ1 H2 ds p xs (g1.trans g2) (g1.up _ hn) l p3 p4 k2) hx
theorem d_cb {x : Str} {id : String} {r : List V → Hp → VK → Prop} {o : O1} (hc : CallR X (.builtin id) r) (h2 : Op1 X.K (fun v => r [v]) o) (hm : X.mg x = none) (h : DP X F W e w) (hv : bootBuiltins x = some (.builtin id) := by decide +kernel) (hg : Gl X x := by rfl) (hn : x ≠ "__name__" := by decide) (hdb : (x == ("__debug__" : Str)) = false := by decide)
    (hs : starEach [e] X.env = (false, eval e X.env) :: starEach [] X.env := by rfl) : DE X F W (.Call (.Name x p) [e] [] pos) (w1 o w) := by
  obtain ⟨t, q1, q⟩ := h.ex
  exact ⟨_, pe_callB hc hg hm hv (pa_cons q1 pa_nil hs) hn hdb hs rfl, run_cb1 q h2⟩
theorem d_ct {x : Str} {T : String} {r : List V → Hp → VK → Prop} {o : O1} (hc : CallR X (.type T) r) (h2 : Op1 X.K (fun v => r [v]) o) (hm : X.mg x = none) (h : DP X F W e w) (hv : bootBuiltins x = some (.type T) := by decide +kernel) (hg : Gl X x := by rfl) (hn : x ≠ "__name__" := by decide) (hdb : (x == ("__debug__" : Str)) = false := by decide)
    (hs : starEach [e] X.env = (false, eval e X.env) :: starEach [] X.env := by rfl) : DE X F W (.Call (.Name x p) [e] [] pos) (w1 o w) := by
  obtain ⟨t, q1, q⟩ := h.ex
  exact ⟨_, pe_callTy hc hg hm hv (pa_cons q1 pa_nil hs) hn hdb hs rfl, run_cb1 q h2⟩
theorem dl_ct {x : Str} {T : String} {r : List V → Hp → VK → Prop} {o : O1L} (hc : CallR X (.type T) r) (h2 : Op1L X.K (fun v => r [v]) o) (hm : X.mg x = none) (h : DP X F W e w) (hv : bootBuiltins x = some (.type T) := by decide +kernel) (hg : Gl X x := by rfl) (hn : x ≠ "__name__" := by decide) (hdb : (x == ("__debug__" : Str)) = false := by decide)
    (hs : starEach [e] X.env = (false, eval e X.env) :: starEach [] X.env := by rfl) : DL X F W (.Call (.Name x p) [e] [] pos) (w1L o w) := by
  obtain ⟨t, q1, q⟩ := h.ex
  exact ⟨_, pe_callTy hc hg hm hv (pa_cons q1 pa_nil hs) hn hdb hs rfl, run_cb1L q h2⟩

/-! ### len, all, any, int, list, tuple -/
def oLen : O1 := fun d k => match d with
  | .str s => s.length ≤ sizeLine ∧ k (.int s.length)
  | .lst xs => k (.int xs.length)
  | .tup xs => k (.int xs.length)
  | .dic xs => k (.int xs.length)
  | _ => False
def rLenA (K : PySem.W.Frag) : List V → Hp → VK → Prop := fun xs H Q => (∃ x n, xs = [x] ∧ LenV K x H n ∧ Q (.int n) H) ∨ (∃ a kvs, xs = [V.ref a] ∧ H a = some (.dK kvs) ∧ Q (.int kvs.length) H)
theorem call_lenA : CallR X (.builtin "len") (rLenA X.K) := CallR.or call_len call_lenD
theorem op1_len {K : PySem.W.Frag} : Op1 K (fun v => rLenA K [v]) oLen := fun F S ρ σ H d v Q k r p h hk => by
  unfold oLen at h
  split at h
  · rw [p.str]
    exact .inl ⟨_, _, rfl, ⟨h.1, rfl⟩, hk S H _ _ (Go.refl r) (.int _) h.2⟩
  · obtain ⟨a, vs, rfl, ha, ra⟩ := p.l r.fz
    exact .inl ⟨_, _, rfl, .inl ⟨vs, SqL.of ha, rfl⟩, hk S H _ _ (Go.refl r) (.int _) (by rw [ra.1]; exact h)⟩
  · obtain ⟨a, vs, rfl, ha, ra⟩ := p.t r.fz
    exact .inl ⟨_, _, rfl, .inr ⟨vs, ha, rfl⟩, hk S H _ _ (Go.refl r) (.int _) (by rw [ra.1]; exact h)⟩
  · obtain ⟨a, vs, rfl, ha, ra⟩ := p.k r.fz
    have hl : ∀ {xs : List (Key × D)}, RepK K S xs vs → vs.length = xs.length := fun q => by
      have := congrArg List.length q.1
      simpa using this
    exact .inr ⟨a, vs, rfl, ha, hk S H _ _ (Go.refl r) (.int _) (by rw [hl ra]; exact h)⟩
  · exact h.elim
theorem d_len {x : Str} (hx : x = "len") (hm : X.mg x = none) (h : DP X F W e w) (hv : bootBuiltins x = some (.builtin "len") := by decide +kernel) (hg : Gl X x := by rfl) (hn : x ≠ "__name__" := by decide) (hdb : (x == ("__debug__" : Str)) = false := by decide)
    (hs : starEach [e] X.env = (false, eval e X.env) :: starEach [] X.env := by rfl) : DE X F W (.Call (.Name x p) [e] [] pos) (w1 oLen w) := d_cb call_lenA op1_len hm h hv hg hn hdb hs
def bls : List D → Option (List Bool)
  | [] => some []
  | d :: r => match d, bls r with
    | .bl b, some bs => some (b :: bs)
    | _, _ => none
theorem bls_eq : ∀ {ds : List D} {bs : List Bool}, bls ds = some bs → ds = bs.map D.bl
  | [], bs, h => by cases h; rfl
  | d :: r, bs, h => by
    unfold bls at h
    split at h
    · rename_i b cs hr
      cases h
      rw [bls_eq hr]
      rfl
    · cases h
theorem bls_map (bs : List Bool) : bls (bs.map D.bl) = some bs := by
  induction bs with
  | nil => rfl
  | cons b r ih =>
    rw [List.map_cons]
    unfold bls
    rw [ih]
theorem Reps.bls {K : PySem.W.Frag} {S : Hp} : ∀ {bs : List Bool} {xs : List V}, Reps K S (bs.map D.bl) xs → xs = bs.map V.bl
  | [], xs, r => r.inv_nil
  | b :: bs, xs, r => by
    obtain ⟨v, ys, rfl, h1, h2⟩ := r.inv_cons
    cases h1
    rw [Reps.bls h2]
    rfl
def oAll : O1 := fun d k => match d with
  | .lst ds => match bls ds with
    | some bs => k (.bl (bs.all id))
    | none => False
  | _ => False
def oAny : O1 := fun d k => match d with
  | .lst ds => match bls ds with
    | some bs => k (.bl (bs.any id))
    | none => False
  | _ => False
theorem op1_all {K : PySem.W.Frag} : Op1 K (fun v => rAll K [v]) oAll := fun F S ρ σ H d v Q k r p h hk => by
  unfold oAll at h
  split at h
  · split at h
    · rename_i bs hb
      obtain ⟨a, vs, rfl, ha, ra⟩ := p.l r.fz
      rw [bls_eq hb] at ra
      rw [ra.bls] at ha
      exact ⟨a, bs, rfl, SqL.of ha, hk S H _ _ (Go.refl r) (.bl _) h⟩
    · exact h.elim
  · exact h.elim
theorem op1_any {K : PySem.W.Frag} : Op1 K (fun v => rAny K [v]) oAny := fun F S ρ σ H d v Q k r p h hk => by
  unfold oAny at h
  split at h
  · split at h
    · rename_i bs hb
      obtain ⟨a, vs, rfl, ha, ra⟩ := p.l r.fz
      rw [bls_eq hb] at ra
      rw [ra.bls] at ha
      exact ⟨a, bs, rfl, SqL.of ha, hk S H _ _ (Go.refl r) (.bl _) h⟩
    · exact h.elim
  · exact h.elim
def rInt1 : List V → Hp → VK → Prop := fun xs H Q => ((∃ i, xs = [.int i] ∧ Q (.int i) H) ∨ ∃ k, xs = [.bl k] ∧ Q (.int (if k then 1 else 0)) H) ∨ ∃ a n, xs = [.str a] ∧ PySem.intText? a = some n ∧ a.length ≤ 640 ∧ Q (.int n) H
def oInt : O1 := fun d k => match d with
  | .int i => k (.int i)
  | .str a => a.length ≤ 640 ∧ match PySem.intText? a with
    | some n => k (.int n)
    | none => False
  | _ => False
theorem call_intA : CallR X (.type "int") rInt1 := CallR.or call_int1 call_int_str
theorem op1_int {K : PySem.W.Frag} : Op1 K (fun v => rInt1 [v]) oInt := fun F S ρ σ H d v Q k r p h hk => by
  unfold oInt at h
  split at h
  · rw [p.int]
    exact .inl (.inl ⟨_, rfl, hk S H _ _ (Go.refl r) (.int _) h⟩)
  · obtain ⟨h1, h2⟩ := h
    split at h2
    · rename_i n hn
      rw [p.str]
      exact .inr ⟨_, n, rfl, hn, h1, hk S H _ _ (Go.refl r) (.int _) h2⟩
    · exact h2.elim
  · exact h.elim
def rListA (K : PySem.W.Frag) : List V → Hp → VK → Prop := fun xs H Q => ∃ p ys, xs = [.ref p] ∧ (SqL K H p ys ∨ SqT K H p ys) ∧ ∀ l, H l = none → Q (.ref l) (upd H l (.lst ys))
def oList : O1L := fun d k => match d with
  | .lst xs => k xs
  | .tup xs => k xs
  | _ => False
theorem op1_list {K : PySem.W.Frag} : Op1L K (fun v => rListA K [v]) oList := fun F S ρ σ H d v Q k r p h hk => by
  unfold oList at h
  split at h
  · obtain ⟨a, vs, rfl, ha, ra⟩ := p.l r.fz
    exact ⟨a, vs, rfl, .inl (SqL.of ha), fun p' hp => hk S _ _ p' _ (Go.temp r hp) hp (r.loose hp) upd_same ra h⟩
  · obtain ⟨a, vs, rfl, ha, ra⟩ := p.t r.fz
    exact ⟨a, vs, rfl, .inr ha, fun p' hp => hk S _ _ p' _ (Go.temp r hp) hp (r.loose hp) upd_same ra h⟩
  · exact h.elim
def rTupleA (K : PySem.W.Frag) : List V → Hp → VK → Prop := fun xs H Q => ∃ p ys, xs = [.ref p] ∧ ((SqL K H p ys ∧ ∀ l, H l = none → Q (.ref l) (upd H l (.tup ys))) ∨ (SqT K H p ys ∧ Q (.ref p) H))
def oTuple : O1 := fun d k => match d with
  | .lst xs => k (.tup xs)
  | .tup xs => k (.tup xs)
  | _ => False
theorem op1_tuple {K : PySem.W.Frag} : Op1 K (fun v => rTupleA K [v]) oTuple := fun F S ρ σ H d v Q k r p h hk => by
  unfold oTuple at h
  split at h
  · obtain ⟨a, vs, rfl, ha, ra⟩ := p.l r.fz
    refine ⟨a, vs, rfl, .inl ⟨SqL.of ha, fun p' hp => ?_⟩⟩
    have eS : Ex S (upd S p' (.tup vs)) := Ex.new (r.fz.free hp)
    have g := ra.mono eS
    exact hk _ _ _ _ (Go.laid r hp) (.tup (SqT.of upd_same) g.1 g.2) h
  · obtain ⟨a, vs, rfl, ha, ra⟩ := p.t r.fz
    exact ⟨a, vs, rfl, .inr ⟨ha, hk S H _ _ (Go.refl r) p.rep_t h⟩⟩
  · exact h.elim
/-- str(n) -/
def rStr1 : List V → Hp → VK → Prop := fun xs H Q => ∃ i, xs = [.int i] ∧ i.natAbs.log2 < 1920 ∧ Q (.str (toString i)) H
def oStr : O1 := fun d k => match d with
  | .int i => i.natAbs.log2 < 1920 ∧ k (.str (toString i))
  | _ => False
theorem op1_str {K : PySem.W.Frag} : Op1 K (fun v => rStr1 [v]) oStr := fun F S ρ σ H d v Q k r p h hk => by
  unfold oStr at h
  split at h
  · rw [p.int]
    exact ⟨_, rfl, h.1, hk S H _ _ (Go.refl r) (.str _) h.2⟩
  · exact h.elim

/-! ### isinstance -/
def tyD : D → Option String
  | .non => some "NoneType"
  | .bl _ => some "bool"
  | .int _ => some "int"
  | .str _ => some "str"
  | .tup _ => some "tuple"
  | .lst _ => some "list"
  | .dic _ => some "dict"
  | _ => none
theorem Pk.tyX {K : PySem.W.Frag} {S H : Hp} {d : D} {v : V} {n : String} (p : Pk K S H d v) (e : Ex S H) (h : tyD d = some n) : TyX K H v (.type n) := by
  cases d with
  | non => cases h; rw [p.non]; exact .base .non
  | bl b => cases h; rw [p.bl]; exact .base (.bl b)
  | int i => cases h; rw [p.int]; exact .base (.int i)
  | str s => cases h; rw [p.str]; exact .base (.str s)
  | ty n => cases h
  | ref a => cases h
  | tup xs =>
    cases h
    obtain ⟨a, vs, rfl, ha, ra⟩ := p.t e
    rcases ha with (ha | ⟨o, ha⟩) | ⟨o, its, n, h1, h2, _⟩
    · exact .base (.tup ha)
    · exact .fTuple ha
    · exact .kTuple h1 h2
  | lst xs =>
    cases h
    obtain ⟨a, vs, rfl, ha, ra⟩ := p.l e
    exact .base (.lst ha)
  | dic kvs =>
    cases h
    obtain ⟨a, vs, rfl, ha, ra⟩ := p.k e
    exact .base (.dK ha)
  | obj C fs => cases h
/-- the answer for two built-in types -/
def isB (a b : String) : Bool := a == b || (a == "bool" && b == "int")
def oIsi (T : String) : O1 := fun d k => match tyD d with
  | some a => kitB a T = some (isB a T) ∧ k (.bl (isB a T))
  | none => False
def tyNames : List String := ["NoneType", "bool", "int", "str", "tuple", "list", "dict"]
theorem run_isi {K : PySem.W.Frag} (T : String) {t : TE} (h : RunP K F W t w) : RunE K F W (tCB (rIsi K) (tCons t (tCons (tC (.ty T)) tNil))) (w1 (oIsi T) w) := fun S ρ σ H Q kq kx rr hw hk hx =>
  h S ρ σ H _ _ kx rr hw (fun S1 ρ1 H1 d v g1 p1 k1 => by
    unfold oIsi at k1
    split at k1
    · rename_i a ha
      exact ⟨v, .ty T, .type a, .type T, isB a T, rfl, .ty T, p1.tyX g1.r.fz ha, kit_ty k1.1, hk S1 ρ1 H1 _ _ g1 (.bl _) k1.2⟩
    · exact k1.elim) hx
theorem d_isi {x y : Str} (T : String) {p2 : Pos} (hm : X.mg x = none) (hm2 : X.mg y = none) (h : DP X F W e w) (hv : bootBuiltins x = some (.builtin "isinstance") := by decide +kernel) (hv2 : bootBuiltins y = some (.type T) := by decide +kernel) (hg : Gl X x := by rfl) (hg2 : Gl X y := by rfl)
    (hn : x ≠ "__name__" := by decide) (hdb : (x == ("__debug__" : Str)) = false := by decide) (hn2 : y ≠ "__name__" := by decide) (hdb2 : (y == ("__debug__" : Str)) = false := by decide)
    (hs : starEach [e, .Name y p2] X.env = (false, eval e X.env) :: starEach [.Name y p2] X.env := by rfl) : DE X F W (.Call (.Name x p) [e, .Name y p2] [] pos) (w1 (oIsi T) w) := by
  obtain ⟨t, q1, q⟩ := h.ex
  exact ⟨_, pe_callB call_isi hg hm hv (pa_cons q1 (pa_cons (pe_bltn hg2 hm2 hv2 (v := .ty T) rfl hn2 hdb2) pa_nil rfl) hs) hn hdb hs rfl, run_isi T q⟩
/-- isinstance(e, (A, B)) -/
def oIsi2 (T U : String) : O1 := fun d k => match tyD d with
  | some a => (kitB a T = some (isB a T) ∧ kitB a U = some (isB a U)) ∧ k (.bl (isB a T || isB a U))
  | none => False
theorem run_isi2 {K : PySem.W.Frag} (T U : String) {t : TE} (h : RunP K F W t w) : RunE K F W (tCB (rIsiT K) (tCons t (tCons (tTup (tCons (tC (.ty T)) (tCons (tC (.ty U)) tNil))) tNil))) (w1 (oIsi2 T U) w) := fun S ρ σ H Q kq kx rr hw hk hx =>
  h S ρ σ H _ _ kx rr hw (fun S1 ρ1 H1 d v g1 p1 k1 => by
    unfold oIsi2 at k1
    split at k1
    · rename_i a ha
      refine ⟨by show 2 ≤ sizeLine; decide, fun tp hp => ?_⟩
      have r2 := g1.r.temp (o := .tup [.ty T, .ty U]) hp
      refine ⟨v, tp, [.ty T, .ty U], .type a, [.type T, .type U], isB a T || isB a U, rfl, upd_same, .cons (.ty T) (.cons (.ty U) .nil), ?_, ?_, hk S1 ρ1 _ _ _ (g1.trans (Go.temp g1.r hp)) (.bl _) k1.2⟩
      · have h3 : TyX K H1 v (.type a) := p1.tyX g1.r.fz ha
        have e2 : Ex H1 (upd H1 tp (.tup [.ty T, .ty U])) := Ex.new hp
        cases h3 with
        | base b =>
          cases b with
          | non => exact .base .non
          | bl y => exact .base (.bl y)
          | int i => exact .base (.int i)
          | str y => exact .base (.str y)
          | flt y => exact .base (.flt y)
          | lst ea => exact .base (.lst (e2 _ _ ea))
          | frz ea => exact .base (.frz (e2 _ _ ea))
          | tup ea => exact .base (.tup (e2 _ _ ea))
          | dK ea => exact .base (.dK (e2 _ _ ea))
          | dT ea => exact .base (.dT (e2 _ _ ea))
        | byt y => exact .byt y
        | set ea => exact .set (e2 _ _ ea)
        | kList ea c => exact .kList ea c
        | kTuple ea c => exact .kTuple ea c
        | kDict ea c => exact .kDict ea c
        | fTuple ea => exact .fTuple (e2 _ _ ea)
        | fDict ea => exact .fDict (e2 _ _ ea)
      · refine kitAny_cons (kit_ty k1.1.1) (fun hb => kitAny_cons (kit_ty k1.1.2) (fun hb2 => by rw [hb, hb2]; exact kitAny_nil) (fun hb2 => by rw [hb, hb2]; rfl)) (fun hb => by rw [hb]; rfl)
    · exact k1.elim) hx
theorem d_isi2 {x y z : Str} (T U : String) {p2 p3 p4 : Pos} {kk : Nat} (hm : X.mg x = none) (hm2 : X.mg y = none) (hm3 : X.mg z = none) (h : DP X F W e w) (hv : bootBuiltins x = some (.builtin "isinstance") := by decide +kernel) (hv2 : bootBuiltins y = some (.type T) := by decide +kernel) (hv3 : bootBuiltins z = some (.type U) := by decide +kernel)
    (hg : Gl X x := by rfl) (hg2 : Gl X y := by rfl) (hg3 : Gl X z := by rfl)
    (hn : x ≠ "__name__" := by decide) (hdb : (x == ("__debug__" : Str)) = false := by decide) (hn2 : y ≠ "__name__" := by decide) (hdb2 : (y == ("__debug__" : Str)) = false := by decide) (hn3 : z ≠ "__name__" := by decide) (hdb3 : (z == ("__debug__" : Str)) = false := by decide)
    (hs : starEach [e, .Tuple [.Name y p2, .Name z p3] kk p4] X.env = (false, eval e X.env) :: starEach [.Tuple [.Name y p2, .Name z p3] kk p4] X.env := by rfl) : DE X F W (.Call (.Name x p) [e, .Tuple [.Name y p2, .Name z p3] kk p4] [] pos) (w1 (oIsi2 T U) w) := by
  obtain ⟨t, q1, q⟩ := h.ex
  exact ⟨_, pe_callB call_isiT hg hm hv (pa_cons q1 (pa_cons (pe_tup (pa_cons (pe_bltn hg2 hm2 hv2 (v := .ty T) rfl hn2 hdb2) (pa_cons (pe_bltn hg3 hm3 hv3 (v := .ty U) rfl hn3 hdb3) pa_nil rfl) rfl)) pa_nil rfl) hs) hn hdb hs rfl, run_isi2 T U q⟩

/-! ### texts -/
def sts : List D → Option (List Str)
  | [] => some []
  | d :: r => match d, sts r with
    | .str b, some bs => some (b :: bs)
    | _, _ => none
theorem sts_eq : ∀ {ds : List D} {bs : List Str}, sts ds = some bs → ds = bs.map D.str
  | [], bs, h => by cases h; rfl
  | d :: r, bs, h => by
    unfold sts at h
    split at h
    · rename_i b cs hr
      cases h
      rw [sts_eq hr]
      rfl
    · cases h
theorem sts_map (bs : List Str) : sts (bs.map D.str) = some bs := by
  induction bs with
  | nil => rfl
  | cons b r ih =>
    rw [List.map_cons]
    unfold sts
    rw [ih]
theorem Reps.sts {K : PySem.W.Frag} {S : Hp} : ∀ {bs : List Str} {xs : List V}, Reps K S (bs.map D.str) xs → xs = bs.map V.str
  | [], xs, r => r.inv_nil
  | b :: bs, xs, r => by
    obtain ⟨v, ys, rfl, h1, h2⟩ := r.inv_cons
    cases h1
    rw [Reps.sts h2]
    rfl
def joinOk (a : Str) (ys : List Str) : Prop := (ys.map (·.length)).sum + ys.length * a.length ≤ 16777216
def oJoin : O2 := fun d e k => match d, e with
  | .str a, .lst ds => match sts ds with
    | some ys => joinOk a ys ∧ k (.str (Txt.join a ys))
    | none => False
  | .str a, .tup ds => match sts ds with
    | some ys => joinOk a ys ∧ k (.str (Txt.join a ys))
    | none => False
  | _, _ => False
abbrev rJoin (K : PySem.W.Frag) : V → List V → Hp → VK → Prop := fun x xs H Q => ∃ a p, ∃ ys : List Str, x = .str a ∧ xs = [.ref p] ∧ (SqL K H p (ys.map V.str) ∨ SqT K H p (ys.map V.str)) ∧ (ys.map (·.length)).sum + ys.length * a.length ≤ 16777216 ∧ Q (.str (Txt.join a ys)) H
/-- a method of a text with one argument -/
def OpM1 (K : PySem.W.Frag) (r : V → List V → Hp → VK → Prop) (o : O2) : Prop := (∀ d e k, o d e k → ∃ s, d = .str s) ∧ Op2 K (fun x y => r x [y]) o
theorem run_m1 {K : PySem.W.Frag} {r : V → List V → Hp → VK → Prop} {o : O2} {ta tb : TE} (ha : RunE K F W ta wa) (hb : RunP K F W tb wb) (h2 : Op2 K (fun x y => r x [y]) o) : RunE K F W (tM1 r ta tb) (fun ρ kq kx => wa ρ (fun d ρ1 => (match d with | .str _ => True | _ => False) ∧ wb ρ1 (fun e ρ2 => o d e fun c => kq c ρ2) kx) kx) := fun S ρ σ H Q kq kx rr hw hk hx =>
  ha S ρ σ H _ _ kx rr hw (fun S1 ρ1 H1 d v g1 p1 k1 => by
    obtain ⟨k0, k1⟩ := k1
    split at k0
    · have p2 := p1
      cases p2
      refine ⟨⟨_, rfl⟩, hb S1 ρ1 σ H1 _ _ kx g1.r k1 (fun S2 ρ2 H2 e u g2 p3 k2 => ?_) (hx.mono g1.ex)⟩
      exact h2 F S2 ρ2 σ H2 _ _ e u Q _ g2.r (.inl (p1.mono g2.ex)) p3 k2 fun S3 H3 c z g3 p4 k3 => hk S3 ρ2 H3 c z ((g1.trans g2).trans g3) p4 k3
    · exact k0.elim) hx
def wM1 (o : O2) (wa wb : WE) : WE := fun ρ kq kx => wa ρ (fun d ρ1 => (match d with | .str _ => True | _ => False) ∧ wb ρ1 (fun e ρ2 => o d e fun c => kq c ρ2) kx) kx
theorem d_m1 {id : String} {name : Str} {apos : Pos} {r : V → List V → Hp → VK → Prop} {o : O2} (slot : Slot "str" name id) (ty : typeOf (.builtin id) = pure (.type "method_descriptor")) (rule : MtR X id r) (h2 : Op2 X.K (fun x y => r x [y]) o) (ha : DE X F W a wa) (hb : DP X F W b wb)
    (hs : starEach [b] X.env = [(false, eval b X.env)] := by rfl) (hbase : attributeBase a name X.env (eval a X.env) = eval a X.env := by rfl) (hline : (apos.endLine == pos.line) = true := by rfl) : DE X F W (.Call (.Attribute a name apos) [b] [] pos) (wM1 o wa wb) := by
  obtain ⟨t, q1, q⟩ := ha.ex
  obtain ⟨t2, q2, q3⟩ := hb.ex
  exact ⟨_, pe_m1 slot ty rule q1 q2 hs hbase hline, run_m1 q q3 h2⟩
theorem op2_join {K : PySem.W.Frag} : Op2 K (fun x y => rJoin K x [y]) oJoin := fun F S ρ σ H d v e u Q k r p q h hk => by
  unfold oJoin at h
  split at h
  · split at h
    · rename_i ys hy
      obtain ⟨a, vs, rfl, ha, ra⟩ := q.l r.fz
      rw [sts_eq hy] at ra
      rw [ra.sts] at ha
      rw [p.str]
      exact ⟨_, a, ys, rfl, rfl, .inl (SqL.of ha), h.1, hk S H _ _ (Go.refl r) (.str _) h.2⟩
    · exact h.elim
  · split at h
    · rename_i ys hy
      obtain ⟨a, vs, rfl, ha, ra⟩ := q.t r.fz
      rw [sts_eq hy] at ra
      rw [ra.sts] at ha
      rw [p.str]
      exact ⟨_, a, ys, rfl, rfl, .inr ha, h.1, hk S H _ _ (Go.refl r) (.str _) h.2⟩
    · exact h.elim
  · exact h.elim
end
end PD

/-! PD, part f: statements, targets, loops, comprehensions. -/
namespace PD
open PySem PySem.Spec PyProof.Rows L2

/-! ### values that a name takes -/
def SVok (K : PySem.W.Frag) (F : Fm) (S : Hp) (ρ : DSt) (σ : L2.St) (H : Hp) (y : SV) (v : V) : Prop := match y with
  | .val d => Rep K S d v
  | .own ds => ∃ p xs, v = .ref p ∧ Loose F S ρ σ p ∧ H p = some (.lst xs) ∧ Reps K S ds xs
  | .ownK kvs => ∃ p es, v = .ref p ∧ Loose F S ρ σ p ∧ H p = some (.dK es) ∧ RepK K S kvs es
section
variable {K : PySem.W.Frag} {F : Fm} {S S' H H' : Hp} {ρ ρ' : DSt} {σ σ' : L2.St}
theorem R.setSV {j : Nat} {y : SV} {v : V} (r : R K F S ρ σ H) (h : SVok K F S ρ σ H y v) : R K F S (ρ.set j (some y)) (σ.set j (some v)) H := by
  cases y with
  | val d => exact r.setV h
  | own ds =>
    obtain ⟨p, xs, rfl, l, hp, q⟩ := h
    exact r.setL l hp q
  | ownK kvs =>
    obtain ⟨p, es, rfl, l, hp, q⟩ := h
    exact r.setK l hp q
theorem SVok.go {y : SV} {v : V} (g : Go K F σ S ρ H S' ρ' H') (h : SVok K F S ρ σ H y v) : SVok K F S' ρ' σ H' y v := by
  cases y with
  | val d => exact Rep.mono h g.ex
  | own ds =>
    obtain ⟨p, xs, rfl, l, hp, q⟩ := h
    obtain ⟨l2, hp2⟩ := g.kp p _ l hp
    exact ⟨p, xs, rfl, l2, hp2, q.mono g.ex⟩
  | ownK kvs =>
    obtain ⟨p, es, rfl, l, hp, q⟩ := h
    obtain ⟨l2, hp2⟩ := g.kp p _ l hp
    exact ⟨p, es, rfl, l2, hp2, q.mono g.ex⟩
end
def RunV (K : PySem.W.Frag) (F : Fm) (W : WX) (t : TE) (w : DSt → (SV → DSt → Prop) → KX → Prop) : Prop := ∀ S ρ σ H (Q : VK) (kq : SV → DSt → Prop) (kx : KX), R K F S ρ σ H → w ρ kq kx →
  (∀ S' ρ' H' y v, Go K F σ S ρ H S' ρ' H' → SVok K F S' ρ' σ H' y v → (∀ p, v = .ref p → (∀ d, y ≠ .val d) → H p = none) → kq y ρ' → Q v H') → XL K F W σ S kx → t σ H Q
abbrev WV := DSt → (SV → DSt → Prop) → KX → Prop
structure DV (X : Cx) (F : Fm) (W : WX) (e : Expr) (w : WV) : Prop where
  ex : ∃ t, PE X e t ∧ RunV X.K F W t w
/-- the canonical reading -/
def tE (K : PySem.W.Frag) (F : Fm) (W : WX) (w : WE) : TE := fun σ H Q => ∃ S ρ kq kx, R K F S ρ σ H ∧ w ρ kq kx ∧ (∀ S' ρ' H' d v, Go K F σ S ρ H S' ρ' H' → Rep K S' d v → kq d ρ' → Q v H') ∧ XL K F W σ S kx
def tV (K : PySem.W.Frag) (F : Fm) (W : WX) (w : WV) : TE := fun σ H Q => ∃ S ρ kq kx, R K F S ρ σ H ∧ w ρ kq kx ∧ (∀ S' ρ' H' y v, Go K F σ S ρ H S' ρ' H' → SVok K F S' ρ' σ H' y v → (∀ p, v = .ref p → (∀ d, y ≠ .val d) → H p = none) → kq y ρ' → Q v H') ∧ XL K F W σ S kx
def tT (K : PySem.W.Frag) (F : Fm) (W : WX) (w : WT) : TT := fun σ H Q => ∃ S ρ kq kx, R K F S ρ σ H ∧ w ρ kq kx ∧ (∀ S' ρ' H' b, Go K F σ S ρ H S' ρ' H' → kq b ρ' → Q b H') ∧ XL K F W σ S kx
section
variable {X : Cx} {F : Fm} {W : WX} {e : Expr}
theorem DE.pe {w : WE} (h : DE X F W e w) : PE X e (tE X.K F W w) := by
  obtain ⟨t, p, q⟩ := h.ex
  refine ⟨fun pins s σ H Q I hq => p.run pins s σ H Q I ?_⟩
  obtain ⟨S, ρ, kq, kx, r, hw, hk, hx⟩ := hq
  exact q S ρ σ H Q kq kx r hw hk hx
theorem DT.pt {w : WT} (h : DT X F W e w) : PT X e (tT X.K F W w) := by
  obtain ⟨t, p, q⟩ := h.ex
  refine ⟨fun pins s σ H Q I hq => p.run pins s σ H Q I ?_⟩
  obtain ⟨S, ρ, kq, kx, r, hw, hk, hx⟩ := hq
  exact q S ρ σ H Q kq kx r hw hk hx
theorem run_tE {K : PySem.W.Frag} {w : WE} : RunE K F W (tE K F W w) w := fun S ρ σ H Q kq kx r hw hk hx => ⟨S, ρ, kq, kx, r, hw, hk, hx⟩
theorem run_tT {K : PySem.W.Frag} {w : WT} : RunT K F W (tT K F W w) w := fun S ρ σ H Q kq kx r hw hk hx => ⟨S, ρ, kq, kx, r, hw, hk, hx⟩
def wVE (w : WE) : WV := fun ρ kq kx => w ρ (fun d ρ' => kq (.val d) ρ') kx
def wVL (w : WA) : WV := fun ρ kq kx => w ρ (fun ds ρ' => kq (.own ds) ρ') kx
theorem dv_e {w : WE} (h : DE X F W e w) : DV X F W e (wVE w) := by
  obtain ⟨t, p, q⟩ := h.ex
  exact ⟨t, p, fun S ρ σ H Q kq kx r hw hk hx => q S ρ σ H Q _ kx r hw (fun S' ρ' H' d v g rp k => hk S' ρ' H' (.val d) v g rp (fun _ _ z => absurd rfl (z d)) k) hx⟩
theorem dv_l {w : WA} (h : DL X F W e w) : DV X F W e (wVL w) := by
  obtain ⟨t, p, q⟩ := h.ex
  exact ⟨t, p, fun S ρ σ H Q kq kx r hw hk hx => q S ρ σ H Q _ kx r hw (fun S' ρ' H' ds a xs g hn l ha rp k => hk S' ρ' H' (.own ds) (.ref a) g ⟨a, xs, rfl, l, ha, rp⟩ (fun p e _ => by cases e; exact hn) k) hx⟩
end

/-! ### statements -/
structure DEnds where
  nx : DSt → Prop
  rt : SV → Prop
  bk : DSt → Prop := fun _ => False
  ct : DSt → Prop := fun _ => False
  ex : DX → DSt → Prop
abbrev WS := DEnds → DSt → Prop
/-- a value handed back: a datum, or a list that nobody else has -/
def SVret (K : PySem.W.Frag) (F : Fm) (S H : Hp) (y : SV) (v : V) : Prop := match y with
  | .val d => Rep K S d v
  | .own ds => ∃ p xs, v = .ref p ∧ F.H0 p = none ∧ S p = none ∧ H p = some (.lst xs) ∧ Reps K S ds xs
  | .ownK kvs => ∃ p es, v = .ref p ∧ F.H0 p = none ∧ S p = none ∧ H p = some (.dK es) ∧ RepK K S kvs es
theorem SVok.ret {K : PySem.W.Frag} {F : Fm} {S H : Hp} {ρ : DSt} {σ : L2.St} {y : SV} {v : V} (h : SVok K F S ρ σ H y v) : SVret K F S H y v := by
  cases y with
  | val d => exact h
  | own ds =>
    obtain ⟨p, xs, e, l, hp, q⟩ := h
    exact ⟨p, xs, e, l.h0, l.s, hp, q⟩
  | ownK ds =>
    obtain ⟨p, xs, e, l, hp, q⟩ := h
    exact ⟨p, xs, e, l.h0, l.s, hp, q⟩
/-- what is wanted behind, over data, makes what is wanted behind -/
structure Lk (K : PySem.W.Frag) (F : Fm) (W : WX) (S : Hp) (D : Ends) (E : DEnds) : Prop where
  nx : ∀ S' ρ σ H, Ex S S' → R K F S' ρ σ H → E.nx ρ → D.nx σ H
  rt : ∀ S' H y v, Ex S S' → R0 F S' H → SVret K F S' H y v → E.rt y → D.rt v H
  bk : ∀ S' ρ σ H, Ex S S' → R K F S' ρ σ H → E.bk ρ → D.bk σ H
  ct : ∀ S' ρ σ H, Ex S S' → R K F S' ρ σ H → E.ct ρ → D.ct σ H
  ex : ∀ σ, XL K F W σ S E.ex
theorem Lk.mono {K : PySem.W.Frag} {F : Fm} {W : WX} {S S' : Hp} {D : Ends} {E : DEnds} (l : Lk K F W S D E) (e : Ex S S') : Lk K F W S' D E :=
  ⟨fun _ _ _ _ e2 => l.nx _ _ _ _ (e.trans e2), fun _ _ _ _ e2 => l.rt _ _ _ _ (e.trans e2), fun _ _ _ _ e2 => l.bk _ _ _ _ (e.trans e2), fun _ _ _ _ e2 => l.ct _ _ _ _ (e.trans e2), fun σ => (l.ex σ).mono e⟩
def RunS (K : PySem.W.Frag) (F : Fm) (W : WX) (t : TS) (w : WS) : Prop := ∀ S ρ σ H (D : Ends) (E : DEnds), R K F S ρ σ H → w E ρ → Lk K F W S D E → t D σ H
structure DS (X : Cx) (F : Fm) (W : WX) (st : Stmt) (w : WS) : Prop where
  ex : ∃ t, PS X st t ∧ RunS X.K F W t w
structure DSs (X : Cx) (F : Fm) (W : WX) (st : List Stmt) (w : WS) : Prop where
  ex : ∃ t, PSs X st t ∧ RunS X.K F W t w
def wNext : WS := fun E ρ => E.nx ρ
def wSeq (t u : WS) : WS := fun E ρ => t { E with nx := fun ρ' => u E ρ' } ρ
def wIfS (c : WT) (t u : WS) : WS := fun E ρ => c ρ (fun b ρ' => if b = true then t E ρ' else u E ρ') E.ex
def wRet (w : WE) : WS := fun E ρ => w ρ (fun d _ => E.rt (.val d)) E.ex
def wRetV (w : WV) : WS := fun E ρ => w ρ (fun y _ => E.rt y) E.ex
def wRetO (i : Nat) : WS := fun E ρ => match ρ[i]? with
  | some (some y) => E.rt y
  | _ => False
def wRetN : WS := fun E _ => E.rt (.val .non)
def wAsg (i : Nat) (w : WV) : WS := fun E ρ => w ρ (fun y ρ' => E.nx (ρ'.set i (some y))) E.ex
def wDrop (w : WE) : WS := fun E ρ => w ρ (fun _ ρ' => E.nx ρ') E.ex
section
variable {X : Cx} {F : Fm} {W : WX} {e : Expr} {pos : Pos} {st : Stmt} {rest body : List Stmt} {t u : WS}
theorem dss_nil : DSs X F W [] wNext := ⟨_, pss_nil, fun S ρ σ H D E r hw l => l.nx S ρ σ H (Ex.refl S) r hw⟩
theorem dss_cons (h1 : DS X F W st t) (h2 : DSs X F W rest u) : DSs X F W (st :: rest) (wSeq t u) := by
  obtain ⟨a, p, q⟩ := h1.ex
  obtain ⟨b, p2, q2⟩ := h2.ex
  refine ⟨_, pss_cons p p2, fun S ρ σ H D E r hw l => ?_⟩
  exact q S ρ σ H { D with nx := b D } { E with nx := fun ρ' => u E ρ' } r hw ⟨fun S' ρ' σ' H' e r' k => q2 S' ρ' σ' H' D E r' k (l.mono e), l.rt, l.bk, l.ct, l.ex⟩
theorem dss_one (h1 : DS X F W st t) : DSs X F W [st] t := by
  obtain ⟨a, p, q⟩ := h1.ex
  exact ⟨_, pss_one p, q⟩
theorem ds_pass : DS X F W (.Pass pos) wNext := ⟨_, ps_pass, fun S ρ σ H D E r hw l => l.nx S ρ σ H (Ex.refl S) r hw⟩
theorem ds_doc {x j pos'} : DS X F W (.Expr (.Constant (.str x) j pos) pos') wNext := ⟨_, ps_doc, fun S ρ σ H D E r hw l => l.nx S ρ σ H (Ex.refl S) r hw⟩
theorem ds_if {c : Expr} {a b : List Stmt} {w : WT} (hc : DT X F W c w) (ha : DSs X F W a t) (hb : DSs X F W b u) : DS X F W (.If c a b pos) (wIfS w t u) := by
  obtain ⟨x, p, q⟩ := hc.ex
  obtain ⟨y, p2, q2⟩ := ha.ex
  obtain ⟨z, p3, q3⟩ := hb.ex
  refine ⟨_, ps_if p p2 p3, fun S ρ σ H D E r hw l => q S ρ σ H _ _ E.ex r hw (fun S1 ρ1 H1 b g k => ?_) (l.ex σ)⟩
  cases b with
  | true => exact iteT (q2 S1 ρ1 σ H1 D E g.r (by simpa using k) (l.mono g.ex))
  | false => exact iteF (q3 S1 ρ1 σ H1 D E g.r (by simpa using k) (l.mono g.ex))
theorem ds_ret {w : WE} (h : DE X F W e w) : DS X F W (.Return (some e) pos) (wRet w) := by
  obtain ⟨x, p, q⟩ := h.ex
  exact ⟨_, ps_ret p, fun S ρ σ H D E r hw l => q S ρ σ H D.rt _ E.ex r hw (fun S1 ρ1 H1 d v g rp k => l.rt S1 H1 (.val d) v g.ex g.r.toR0 rp k) (l.ex σ)⟩
theorem ds_retN : DS X F W (.Return none pos) wRetN := ⟨_, ps_retN, fun S ρ σ H D E r hw l => l.rt S H (.val .non) .non (Ex.refl S) r.toR0 .non hw⟩
theorem ds_retV {w : WV} (h : DV X F W e w) : DS X F W (.Return (some e) pos) (wRetV w) := by
  obtain ⟨x, p, q⟩ := h.ex
  exact ⟨_, ps_ret p, fun S ρ σ H D E r hw l => q S ρ σ H D.rt _ E.ex r hw (fun S1 ρ1 H1 y v g sv hn k => l.rt S1 H1 y v g.ex g.r.toR0 sv.ret k) (l.ex σ)⟩
/-- return of a name as it stands: a list of its own is handed over -/
theorem ds_retO (i : Nat) {x : Str} {p2 : Pos} (hN : X.N[i]? = some x := by rfl) (hv : Vis X.env.scope x := by first | exact Or.inl rfl | exact Or.inr (Or.inl rfl) | exact Or.inr (Or.inr rfl)) (hd : (x == ("__debug__" : Str)) = false := by decide)
    (hcd : (x == ("__classdict__" : Str)) = false := by decide) : DS X F W (.Return (some (.Name x p2)) pos) (wRetO i) := by
  refine ⟨_, ps_ret (pe_var hN hv hd hcd), fun S ρ σ H D E r hw l => ?_⟩
  unfold wRetO at hw
  split at hw
  · rename_i y h
    cases y with
    | val d =>
      obtain ⟨v, h1, h2⟩ := r.val h
      exact ⟨v, h1, l.rt S H (.val d) v (Ex.refl S) r.toR0 h2 hw⟩
    | own ds =>
      obtain ⟨a, xs, h1, h2, h3, h4, h5⟩ := r.own h
      exact ⟨_, h1, l.rt S H (.own ds) _ (Ex.refl S) r.toR0 ⟨a, xs, rfl, h2, h3, h4, h5⟩ hw⟩
    | ownK ds =>
      obtain ⟨a, xs, h1, h2, h3, h4, h5⟩ := r.ownK h
      exact ⟨_, h1, l.rt S H (.ownK ds) _ (Ex.refl S) r.toR0 ⟨a, xs, rfl, h2, h3, h4, h5⟩ hw⟩
  · exact hw.elim
theorem ds_set {i : Nat} {x : Str} {pos' : Pos} {w : WV} (hN : X.N.Nodup) (h : DV X F W e w) (hi : X.N[i]? = some x := by rfl) (hx : Loc X.env.scope x := by first | exact Or.inl rfl | exact Or.inr rfl) (hs : swapsWith e (some (.Name x pos')) pos.line X.env = pure false := by rfl)
    (hf : X.fn x = true ∨ X.env.scope.names.lookup x = some .local := by first | exact .inl rfl | exact .inr rfl | assumption) : DS X F W (.Assign [.Name x pos'] e pos) (wAsg i w) := by
  obtain ⟨t, p, q⟩ := h.ex
  refine ⟨_, ps_set hN hi hx p hs hf, fun S ρ σ H D E r hw l => q S ρ σ H _ _ E.ex r hw (fun S1 ρ1 H1 y v g sv hn k => ?_) (l.ex σ)⟩
  exact l.nx S1 _ _ H1 g.ex (g.r.setSV sv) k
theorem ds_expr {w : WE} (h : DE X F W e w) (hs : swapsWith e none pos.line X.env = pure false := by rfl) : DS X F W (.Expr e pos) (wDrop w) := by
  obtain ⟨x, p, q⟩ := h.ex
  exact ⟨_, ps_expr p hs, fun S ρ σ H D E r hw l => q S ρ σ H _ _ E.ex r hw (fun S1 ρ1 H1 d v g rp k => l.nx S1 ρ1 σ H1 g.ex g.r k) (l.ex σ)⟩

/-- a, b = e1, e2 -/
def wPar (i j : Nat) (w u : WV) : WS := fun E ρ => w ρ (fun y ρ1 => u ρ1 (fun z ρ2 => E.nx ((ρ2.set i (some y)).set j (some z))) E.ex) E.ex
theorem SVok.set {K : PySem.W.Frag} {F : Fm} {S H : Hp} {ρ : DSt} {σ : L2.St} {i : Nat} {y z : SV} {v u : V} (h : SVok K F S ρ σ H z u) (hne : ∀ p, u = .ref p → (∀ d, z ≠ .val d) → v = .ref p → (∀ d, y ≠ .val d) → False) : SVok K F S (ρ.set i (some y)) (σ.set i (some v)) H z u := by
  have key : ∀ p, Loose F S ρ σ p → (v = .ref p → (∀ d, y ≠ .val d) → False) → Loose F S (ρ.set i (some y)) (σ.set i (some v)) p := fun p l hv => ⟨l.h0, l.s, fun k hk => by
    by_cases e : k = i
    · subst e
      obtain ⟨h1, h2⟩ := hk
      rw [List.getElem?_set] at h2
      split at h2
      · split at h2
        · rename_i hlt
          cases h2
          refine hv rfl fun d z => ?_
          subst z
          rw [List.getElem?_set] at h1
          rcases h1 with ⟨_, h1⟩ | ⟨_, h1⟩
          · split at h1
            · split at h1 <;> cases h1
            · rename_i c
              exact c rfl
          · split at h1
            · split at h1 <;> cases h1
            · rename_i c
              exact c rfl
        · cases h2
      · rename_i c
        exact c rfl
    · exact l.ap k (hk.set_ne e)⟩
  cases z with
  | val d => exact h
  | own ds =>
    obtain ⟨p, xs, rfl, l, hp, q⟩ := h
    exact ⟨p, xs, rfl, key p l (hne p rfl (fun _ z => nomatch z)), hp, q⟩
  | ownK ds =>
    obtain ⟨p, xs, rfl, l, hp, q⟩ := h
    exact ⟨p, xs, rfl, key p l (hne p rfl (fun _ z => nomatch z)), hp, q⟩
theorem SVok.at_ {K : PySem.W.Frag} {F : Fm} {S H : Hp} {ρ : DSt} {σ : L2.St} {y : SV} {v : V} {p : Addr} (h : SVok K F S ρ σ H y v) (hv : v = .ref p) (hy : ∀ d, y ≠ .val d) : H p ≠ none := by
  cases y with
  | val d => exact absurd rfl (hy d)
  | own ds =>
    obtain ⟨q, xs, rfl, l, hp, _⟩ := h
    cases hv
    rw [hp]
    exact fun z => nomatch z
  | ownK ds =>
    obtain ⟨q, xs, rfl, l, hp, _⟩ := h
    cases hv
    rw [hp]
    exact fun z => nomatch z
theorem ds_par {i j : Nat} {x y : Str} {a b : Expr} {wa wb : WV} {px py pt : Pos} {kt k2 pt2} (hc : X.calm = true) (hN : X.N.Nodup) (ha : DV X F W a wa) (hb : DV X F W b wb) (hi : X.N[i]? = some x := by rfl) (hj : X.N[j]? = some y := by rfl) (hij : i ≠ j := by decide)
    (hx : X.env.scope.names.lookup x = some .local := by rfl) (hy : X.env.scope.names.lookup y = some .local := by rfl)
    (hw : swappedStores [.Tuple [.Name x px, .Name y py] kt pt] (.Tuple [a, b] k2 pt2) X.env = pure (some [x, y]) := by rfl)
    (hs : swapsWithSole [.Tuple [.Name x px, .Name y py] kt pt] (.Tuple [a, b] k2 pt2) pos.line X.env = pure false := by rfl)
    (hs1 : starEach [a, b] X.env = (false, eval a X.env) :: starEach [b] X.env := by rfl) (hs2 : starEach [b] X.env = (false, eval b X.env) :: starEach [] X.env := by rfl) :
    DS X F W (.Assign [.Tuple [.Name x px, .Name y py] kt pt] (.Tuple [a, b] k2 pt2) pos) (wPar i j wa wb) := by
  obtain ⟨t1, p1, q1⟩ := ha.ex
  obtain ⟨t2, p2, q2⟩ := hb.ex
  refine ⟨_, ps_par hc hN hi hj hij hx hy (pa_cons p1 (pa_cons p2 pa_nil hs2) hs1) hw hs, fun S ρ σ H D E r hw l => ?_⟩
  refine q1 S ρ σ H _ _ E.ex r hw (fun S1 ρ1 H1 y1 v1 g1 s1 n1 k1 => ?_) (l.ex σ)
  refine q2 S1 ρ1 σ H1 _ _ E.ex g1.r k1 (fun S2 ρ2 H2 y2 v2 g2 s2 n2 k2 => ?_) ((l.ex σ).mono g1.ex)
  refine ⟨v1, v2, rfl, l.nx S2 _ _ H2 (g1.ex.trans g2.ex) ((g2.r.setSV (s1.go g2)).setSV (s2.set ?_)) k2⟩
  intro p h1 h2 h3 h4
  exact (s1.at_ h3 h4) (n2 p h1 h2)

/-! ### x op= e -/
def wAug (i : Nat) (o : O2) (w : WE) : WS := fun E ρ => match ρ[i]? with
  | some (some (.val d)) => w ρ (fun e ρ' => o d e fun c => E.nx (ρ'.set i (some (.val c)))) E.ex
  | _ => False
theorem ds_aug {i : Nat} {x : Str} {op : Operator} {r : R2} {o : O2} {w : WE} {pos' : Pos} (hN : X.N.Nodup) (ho : OpR X (inplaceOp op) r) (h2 : Op2 X.K r o) (h : DE X F W e w) (hi : X.N[i]? = some x := by rfl) (hx : Loc X.env.scope x := by first | exact Or.inl rfl | exact Or.inr rfl)
    (hf : X.fn x = true ∨ X.env.scope.names.lookup x = some .local := by first | exact .inl rfl | exact .inr rfl | assumption) : DS X F W (.AugAssign (.Name x pos') op e pos) (wAug i o w) := by
  obtain ⟨t, p, q⟩ := h.ex
  refine ⟨_, ps_aug hN hi hx p (ti := r) ho hf, fun S ρ σ H D E rr hw l => ?_⟩
  unfold wAug at hw
  split at hw
  · rename_i d hd
    obtain ⟨v, hv, rv⟩ := rr.val hd
    refine ⟨v, hv, q S ρ σ H _ _ E.ex rr hw (fun S1 ρ1 H1 e u g p1 k => ?_) (l.ex σ)⟩
    exact h2 F S1 ρ1 σ H1 d v e u _ _ g.r (.inl (rv.mono g.ex)) (.inl p1) k fun S2 H2 c z g2 p2 k2 => l.nx S2 _ _ H2 (g.ex.trans g2.ex) (g2.r.setV p2) k2
  · exact hw.elim
end

/-! ### targets -/
abbrev WG := D → DSt → (DSt → Prop) → Prop
abbrev WGs := List D → DSt → (DSt → Prop) → Prop
/-- behind it the other slots are as they were; the target's hold data -/
structure Tgt (ρ : DSt) (σ : L2.St) (ρ' : DSt) (σ' : L2.St) (ts : List Nat) : Prop where
  ne : ∀ j : Nat, j ∉ ts → σ'[j]? = σ[j]? ∧ ρ'[j]? = ρ[j]?
  own : ∀ (j : Nat) y, ρ'[j]? = some (some y) → (∃ d, y = .val d) ∨ (ρ[j]? = some (some y) ∧ σ'[j]? = σ[j]?)
  ls : σ'.length = σ.length
  lr : ρ'.length = ρ.length
theorem Tgt.refl {ρ : DSt} {σ : L2.St} : Tgt ρ σ ρ σ [] := ⟨fun _ _ => ⟨rfl, rfl⟩, fun _ _ h => .inr ⟨h, rfl⟩, rfl, rfl⟩
theorem Tgt.trans {ρ ρ1 ρ2 : DSt} {σ σ1 σ2 : L2.St} {ts us : List Nat} (a : Tgt ρ σ ρ1 σ1 ts) (b : Tgt ρ1 σ1 ρ2 σ2 us) : Tgt ρ σ ρ2 σ2 (ts ++ us) :=
  ⟨fun j hj => by
    have x := a.ne j fun z => hj (List.mem_append_left _ z)
    have y := b.ne j fun z => hj (List.mem_append_right _ z)
    exact ⟨y.1.trans x.1, y.2.trans x.2⟩, fun j y h => by
    rcases b.own j y h with e | ⟨e1, e2⟩
    · exact .inl e
    · rcases a.own j y e1 with e | ⟨e3, e4⟩
      · exact .inl e
      · exact .inr ⟨e3, e2.trans e4⟩, b.ls.trans a.ls, b.lr.trans a.lr⟩
theorem Tgt.name {ρ : DSt} {σ : L2.St} {i : Nat} {d : D} {v : V} : Tgt ρ σ (ρ.set i (some (.val d))) (σ.set i (some v)) [i] :=
  ⟨fun j hj => by
    have n : i ≠ j := fun e => hj (e ▸ List.mem_singleton_self i)
    exact ⟨List.getElem?_set_ne n, List.getElem?_set_ne n⟩, fun j y h => by
    by_cases e : i = j
    · subst e
      rw [List.getElem?_set] at h
      split at h
      · split at h
        · cases h
          exact .inl ⟨_, rfl⟩
        · cases h
      · rename_i c
        exact absurd rfl c
    · rw [List.getElem?_set_ne e] at h
      exact .inr ⟨h, List.getElem?_set_ne e⟩, List.length_set .., List.length_set ..⟩
def RunG (K : PySem.W.Frag) (F : Fm) (g : TG) (w : WG) (ts : List Nat) : Prop := ∀ S ρ σ H d v (Q : L2.St → Hp → Prop) (k : DSt → Prop), R K F S ρ σ H → Rep K S d v → w d ρ k →
  (∀ ρ' σ', R K F S ρ' σ' H → Tgt ρ σ ρ' σ' ts → k ρ' → Q σ' H) → g v σ H Q
def RunGs (K : PySem.W.Frag) (F : Fm) (g : TGs) (w : WGs) (ts : List Nat) : Prop := ∀ S ρ σ H ds vs (Q : L2.St → Hp → Prop) (k : DSt → Prop), R K F S ρ σ H → Reps K S ds vs → w ds ρ k →
  (∀ ρ' σ', R K F S ρ' σ' H → Tgt ρ σ ρ' σ' ts → k ρ' → Q σ' H) → g vs σ H Q
def wName (i : Nat) : WG := fun d ρ k => k (ρ.set i (some (.val d)))
def wGNil : WGs := fun ds ρ k => match ds with
  | [] => k ρ
  | _ => False
def wGCons (w : WG) (u : WGs) : WGs := fun ds ρ k => match ds with
  | d :: r => w d ρ fun ρ' => u r ρ' k
  | [] => False
def wGTup (n : Nat) (u : WGs) : WG := fun d ρ k => match d with
  | .tup ds => ds.length = n ∧ u ds ρ k
  | _ => False
structure DG (X : Cx) (F : Fm) (e : Expr) (w : WG) (ts : List Nat) (g : TG) : Prop where
  pg : PG X e g
  run : RunG X.K F g w ts
structure DGs (X : Cx) (F : Fm) (es : List Expr) (w : WGs) (ts : List Nat) (g : TGs) : Prop where
  pg : PGs X es g
  run : RunGs X.K F g w ts
section
variable {X : Cx} {F : Fm} {W : WX} {e : Expr} {pos : Pos}
theorem run_name {K : PySem.W.Frag} (i : Nat) : RunG K F (gName i) (wName i) [i] := fun S ρ σ H d v Q k r rp hw hk =>
  hk _ _ (r.setV rp) Tgt.name hw
theorem dg (i : Nat) {x : Str} (hN : X.N.Nodup) (hi : X.N[i]? = some x := by rfl) (hx : Loc X.env.scope x := by first | exact Or.inl rfl | exact Or.inr rfl) (hf : X.fn x = true ∨ X.env.scope.names.lookup x = some .local := by first | exact .inl rfl | exact .inr rfl | assumption) : DG X F (.Name x pos) (wName i) [i] (gName i) :=
  ⟨pg_name hN hi hx hf, run_name i⟩
theorem dgs_nil : DGs X F [] wGNil [] gNil := ⟨pgs_nil, fun S ρ σ H ds vs Q k r rp hw hk => by
  unfold wGNil at hw
  split at hw
  · exact ⟨rp.inv_nil, hk ρ σ r Tgt.refl hw⟩
  · exact hw.elim⟩
theorem dgs_cons {es : List Expr} {w : WG} {u : WGs} {ts us : List Nat} {g : TG} {gs : TGs} (h : DG X F e w ts g) (hs : DGs X F es u us gs) (hh : (assignEach (e :: es) X.env).map (·.2) = assign e X.env :: (assignEach es X.env).map (·.2) := by rfl) : DGs X F (e :: es) (wGCons w u) (ts ++ us) (gCons g gs) := by
  refine ⟨pgs_cons h.pg hs.pg hh, fun S ρ σ H ds vs Q k r rp hw hk => ?_⟩
  unfold wGCons at hw
  split at hw
  · obtain ⟨v, ys, rfl, r1, r2⟩ := rp.inv_cons
    exact ⟨v, ys, rfl, h.run S ρ σ H _ v _ _ r r1 hw fun ρ1 σ1 R1 t1 hu => hs.run S ρ1 σ1 H _ ys _ _ R1 r2 hu fun ρ2 σ2 R2 t2 kk => hk ρ2 σ2 R2 (t1.trans t2) kk⟩
  · exact hw.elim
theorem dg_tup (K : PySem.W.Frag) (n : Nat) {es : List Expr} {kk : Nat} {u : WGs} {us : List Nat} {gs : TGs} (hc : X.calm = true) (h : DGs X F es u us gs) (hK : X.K = K := by rfl) (hn : (assignEach es X.env).length = n := by rfl) (hst : (assignEach es X.env).findIdx? (·.1) = none := by rfl) : DG X F (.Tuple es kk pos) (wGTup n u) us (gTup K n gs) := by
  subst hK
  refine ⟨pg_tup hc h.pg hn hst, fun S ρ σ H d v Q k r rp hw hk => ?_⟩
  unfold wGTup at hw
  split at hw
  · obtain ⟨a, vs, rfl, ha, ra⟩ := (Pk.t (.inl rp) r.fz)
    exact ⟨a, vs, rfl, ha, by rw [ra.1]; exact hw.1, h.run S ρ σ H _ vs Q k r ra hw.2 hk⟩
  · exact hw.elim
/-- target = value, a tuple's names -/
def wAsgG (w : WE) (g : WG) : WS := fun E ρ => w ρ (fun d ρ' => g d ρ' E.nx) E.ex
theorem ds_asg {tg : Expr} {w : WE} {g : WG} {ts : List Nat} {gg : TG} (h : DE X F W e w) (hg : DG X F tg g ts gg) (hs : swapsWithSole [tg] e pos.line X.env = pure false := by rfl) (hw : swappedStores [tg] e X.env = pure none := by rfl)
    (h1 : (assignEach [tg] X.env).map (·.2) = [assign tg X.env] := by rfl) : DS X F W (.Assign [tg] e pos) (wAsgG w g) := by
  obtain ⟨t, p, q⟩ := h.ex
  refine ⟨_, ps_asg p hg.pg hs hw h1, fun S ρ σ H D E r hw l => q S ρ σ H _ _ E.ex r hw (fun S1 ρ1 H1 d v g1 rp k => ?_) (l.ex σ)⟩
  exact hg.run S1 ρ1 σ H1 d v _ _ g1.r rp k fun ρ2 σ2 R2 _ k2 => l.nx S1 ρ2 σ2 H1 g1.ex R2 k2
end

/-! ### what is walked -/
/-- J gives the items one by one as long as what stands stands -/
def SrcOk (K : PySem.W.Frag) (S : Hp) (J : It) (items : List D) : Prop := ∃ (n : Nat) (G : Hp → Prop) (Y : Nat → Hp → V → Hp → Prop), Walk J n G Y ∧ n = items.length ∧ (∀ H, Ex S H → G H) ∧
  ∀ S2 H2 (i : Nat) d x H3, Ex S S2 → Ex S2 H2 → items[i]? = some d → Y i H2 x H3 → (H3 = H2 ∧ Rep K S2 d x) ∨ ∃ T vs ds, x = .ref T ∧ H2 T = none ∧ H3 = upd H2 T (.tup vs) ∧ d = .tup ds ∧ Reps K S2 ds vs
def RunI (K : PySem.W.Frag) (F : Fm) (W : WX) (wi : TI) (w : WA) : Prop := ∀ S ρ σ H (Q : It → Hp → Prop) (kq : List D → DSt → Prop) (kx : KX), R K F S ρ σ H → w ρ kq kx →
  (∀ S' ρ' H' items J, Go K F σ S ρ H S' ρ' H' → SrcOk K S' J items → kq items ρ' → Q J H') → XL K F W σ S kx → wi σ H Q
structure DI (X : Cx) (F : Fm) (W : WX) (tg e : Expr) (w : WA) : Prop where
  ex : ∃ wi, PI X tg e wi ∧ RunI X.K F W wi w
def lsts : D → (List D → Prop) → Prop := fun d k => match d with
  | .lst xs => k xs
  | _ => False
def tups : D → (List D → Prop) → Prop := fun d k => match d with
  | .tup xs => k xs
  | _ => False
section
variable {X : Cx} {F : Fm} {W : WX} {e tg a b : Expr} {pos p : Pos}
theorem di_list {w : WE} (h : DE X F W e w) : DI X F W tg e (fun ρ kq kx => w ρ (fun d ρ' => lsts d fun xs => kq xs ρ') kx) := by
  obtain ⟨t, p, q⟩ := h.ex
  refine ⟨_, pi_list p, fun S ρ σ H Q kq kx r hw hk hx => q S ρ σ H _ _ kx r hw (fun S1 ρ1 H1 d v g rp k => ?_) hx⟩
  unfold lsts at k
  split at k
  · cases rp with
    | @lst a vs ds ha hl rr =>
      refine ⟨a, rfl, ⟨vs, SqL.of (g.r.fz _ _ ha)⟩, hk S1 ρ1 H1 _ _ g ⟨vs.length, _, _, walk_list, hl, fun H2 e2 => SqL.of (e2 _ _ ha), fun S2 H2 i d x H3 e1 e2 hd y => ?_⟩ k⟩
      obtain ⟨rfl, y⟩ := y
      exact .inl ⟨rfl, (rr i d x hd y).mono e1⟩
  · exact k.elim
theorem di_tup {w : WE} (h : DE X F W e w) : DI X F W tg e (fun ρ kq kx => w ρ (fun d ρ' => tups d fun xs => kq xs ρ') kx) := by
  obtain ⟨t, p, q⟩ := h.ex
  refine ⟨_, pi_tup p, fun S ρ σ H Q kq kx r hw hk hx => q S ρ σ H _ _ kx r hw (fun S1 ρ1 H1 d v g rp k => ?_) hx⟩
  unfold tups at k
  split at k
  · cases rp with
    | @tup a vs ds ha hl rr =>
      refine ⟨a, rfl, ⟨vs, g.r.fz.t ha⟩, hk S1 ρ1 H1 _ _ g ⟨vs.length, _, _, walk_tup, hl, fun H2 e2 => e2.t ha, fun S2 H2 i d x H3 e1 e2 hd y => ?_⟩ k⟩
      obtain ⟨rfl, y⟩ := y
      exact .inl ⟨rfl, (rr i d x hd y).mono e1⟩
  · exact k.elim
def signs (s : Str) : List D := s.cps.toList.map fun c => .str ⟨#[c]⟩
def wSigns (w : WE) : WA := fun ρ kq kx => w ρ (fun d ρ' => match d with | .str s => kq (signs s) ρ' | _ => False) kx
theorem di_str {w : WE} (h : DE X F W e w) : DI X F W tg e (wSigns w) := by
  obtain ⟨t, p, q⟩ := h.ex
  refine ⟨_, pi_str p, fun S ρ σ H Q kq kx r hw hk hx => q S ρ σ H _ _ kx r hw (fun S1 ρ1 H1 d v g rp k => ?_) hx⟩
  split at k
  · rename_i s
    cases rp
    refine ⟨_, rfl, hk S1 ρ1 H1 _ _ g ⟨s.cps.size, _, _, walk_str, by simp [signs], fun _ _ => trivial, fun S2 H2 i d x H3 e1 e2 hd y => ?_⟩ k⟩
    obtain ⟨rfl, c, hc, rfl⟩ := y
    unfold signs at hd
    rw [List.getElem?_map, Array.getElem?_toList, hc] at hd
    cases hd
    exact .inl ⟨rfl, .str _⟩
  · exact k.elim
def rangeD (n : Int) : List D := (List.range n.toNat).map fun i => .int (i : Nat)
def wRange (w : WE) : WA := fun ρ kq kx => w ρ (fun d ρ' => match d with | .int n => (-(2 ^ 62) ≤ n ∧ n < 2 ^ 62) ∧ kq (rangeD n) ρ' | _ => False) kx
theorem di_range {w : WE} (hm : X.mg "range" = none) (h : DE X F W e w) (hg : Gl X "range" := by rfl) (hs : starEach [e] X.env = [(false, eval e X.env)] := by rfl) : DI X F W tg (.Call (.Name "range" p) [e] [] pos) (wRange w) := by
  obtain ⟨t, p, q⟩ := h.ex
  refine ⟨_, pi_range1 hg hm (pa_cons p pa_nil hs) hs, fun S ρ σ H Q kq kx r hw hk hx => q S ρ σ H _ _ kx r hw (fun S1 ρ1 H1 d v g rp k => ?_) hx⟩
  split at k
  · rename_i n
    cases rp
    refine ⟨n, rfl, k.1.1, k.1.2, hk S1 ρ1 H1 _ _ g ⟨n.toNat, _, _, walk_range, by simp [rangeD], fun _ _ => trivial, fun S2 H2 i d x H3 e1 e2 hd y => ?_⟩ k.2⟩
    obtain ⟨rfl, rfl⟩ := y
    unfold rangeD at hd
    rw [List.getElem?_map] at hd
    cases hr : (List.range n.toNat)[i]? with
    | none => rw [hr] at hd; cases hd
    | some j =>
      rw [hr] at hd
      have : j = i := by
        have := (List.getElem?_eq_some_iff.mp hr)
        obtain ⟨h1, h2⟩ := this
        rw [List.getElem_range] at h2
        exact h2.symm
      cases hd
      subst this
      have e0 : (0 : Int) + (j : Int) = (j : Int) := Int.zero_add _
      exact .inl ⟨rfl, by show Rep X.K S2 (.int (j : Nat)) (.int ((0 : Int) + (j : Int))); rw [e0]; exact .int _⟩
  · exact k.elim
def pairs (xs ys : List D) : List D := (xs.zip ys).map fun q => .tup [q.1, q.2]
def wZip (w u : WE) : WA := fun ρ kq kx => w ρ (fun d ρ1 => u ρ1 (fun e ρ2 => match d, e with | .lst xs, .lst ys => kq (pairs xs ys) ρ2 | _, _ => False) kx) kx
theorem getElem?_pairs {xs ys : List D} {i : Nat} {d : D} (h : (pairs xs ys)[i]? = some d) : ∃ x y, xs[i]? = some x ∧ ys[i]? = some y ∧ d = .tup [x, y] := by
  unfold pairs at h
  rw [List.getElem?_map] at h
  cases e : (xs.zip ys)[i]? with
  | none => rw [e] at h; cases h
  | some q =>
    rw [e] at h
    cases h
    obtain ⟨h1, h2⟩ := List.getElem?_zip_eq_some.mp e
    exact ⟨q.1, q.2, h1, h2, rfl⟩
theorem di_zip {w u : WE} {elts : List Expr} {kk : Nat} {tpos : Pos} (hm : X.mg "zip" = none) (ha : DE X F W a w) (hb : DE X F W b u) (hg : Gl X "zip" := by rfl) (hs : starEach [a, b] X.env = (false, eval a X.env) :: starEach [b] X.env := by rfl) (hs2 : starEach [b] X.env = (false, eval b X.env) :: starEach [] X.env := by rfl)
    (hpl : (backTo pos (starEach [b] X.env)).any (·.1) = false := by rfl) : DI X F W (.Tuple elts kk tpos) (.Call (.Name "zip" p) [a, b] [] pos) (wZip w u) := by
  obtain ⟨t, p, q⟩ := ha.ex
  obtain ⟨t2, p2, q2⟩ := hb.ex
  refine ⟨_, pi_zip hg hm (pa_cons p (pa_cons p2 pa_nil hs2) hs) hs hpl, fun S ρ σ H Q kq kx r hw hk hx => q S ρ σ H _ _ kx r hw (fun S1 ρ1 H1 d v g1 r1 k1 => ?_) hx⟩
  refine q2 S1 ρ1 σ H1 _ _ kx g1.r k1 (fun S2 ρ2 H2 e u g2 r2 k => ?_) (hx.mono g1.ex)
  split at k
  · rename_i xs ys
    obtain ⟨A, vs, rfl, ha, ra⟩ := Pk.l (.inl (r1.mono g2.ex)) (Ex.refl S2)
    obtain ⟨B, us, rfl, hb, rb⟩ := Pk.l (.inl r2) (Ex.refl S2)
    refine ⟨A, B, vs, us, rfl, SqL.of (g2.r.fz _ _ ha), SqL.of (g2.r.fz _ _ hb), hk S2 ρ2 H2 _ _ (g1.trans g2) ⟨_, _, _, walk_zip rfl, ?_, fun H e => ⟨SqL.of (e _ _ ha), SqL.of (e _ _ hb)⟩, fun S3 H3 i d x H4 e1 e2 hd y => ?_⟩ k⟩
    · rw [ra.1, rb.1]
      simp [pairs]
    · obtain ⟨T, x1, y1, rfl, hT, rfl, hx1, hy1⟩ := y
      obtain ⟨dx, dy, h1, h2, rfl⟩ := getElem?_pairs hd
      exact .inr ⟨T, [x1, y1], [dx, dy], rfl, hT, rfl, rfl, Reps.cons ((ra.2 i dx x1 h1 hx1).mono e1) (Reps.cons ((rb.2 i dy y1 h2 hy1).mono e1) Reps.nil)⟩
  · exact k.elim
def enumD (xs : List D) : List D := xs.zipIdx.map fun q => .tup [.int (q.2 : Nat), q.1]
def wEnum (w : WE) : WA := fun ρ kq kx => w ρ (fun d ρ' => lsts d fun xs => kq (enumD xs) ρ') kx
theorem di_enum {w : WE} {elts : List Expr} {kk : Nat} {tpos : Pos} (hm : X.mg "enumerate" = none) (ha : DE X F W e w) (hg : Gl X "enumerate" := by rfl) (hs : starEach [e] X.env = [(false, eval e X.env)] := by rfl) : DI X F W (.Tuple elts kk tpos) (.Call (.Name "enumerate" p) [e] [] pos) (wEnum w) := by
  obtain ⟨t, p, q⟩ := ha.ex
  refine ⟨_, pi_enum hg hm (pa_cons p pa_nil hs) hs, fun S ρ σ H Q kq kx r hw hk hx => q S ρ σ H _ _ kx r hw (fun S1 ρ1 H1 d v g1 r1 k1 => ?_) hx⟩
  unfold lsts at k1
  split at k1
  · rename_i xs
    obtain ⟨A, vs, rfl, ha, ra⟩ := Pk.l (.inl r1) (Ex.refl S1)
    refine ⟨A, vs, rfl, SqL.of (g1.r.fz _ _ ha), hk S1 ρ1 H1 _ _ g1 ⟨_, _, _, walk_enum, ?_, fun H e => SqL.of (e _ _ ha), fun S3 H3 i d x H4 e1 e2 hd y => ?_⟩ k1⟩
    · rw [ra.1]
      simp [enumD]
    · obtain ⟨T, x1, y1, rfl, hT, rfl, hx1, hy1⟩ := y
      unfold enumD at hd
      rw [List.getElem?_map] at hd
      cases hz : xs.zipIdx[i]? with
      | none => rw [hz] at hd; cases hd
      | some z =>
        rw [hz] at hd
        cases hd
        rw [List.getElem?_zipIdx] at hz
        cases hxi : xs[i]? with
        | none => rw [hxi] at hz; cases hz
        | some dx =>
          rw [hxi] at hz
          cases hz
          cases hx1
          refine .inr ⟨T, [.int (i : Nat), y1], [.int ((0 + i : Nat) : Int), dx], rfl, hT, rfl, rfl, Reps.cons ?_ (Reps.cons ((ra.2 i dx y1 hxi hy1).mono e1) Reps.nil)⟩
          rw [Nat.zero_add]
          exact .int _
  · exact k1.elim
end

/-! ### for, while -/
def forGo (g : WG) (body : WS) (E : DEnds) : List D → DSt → Prop
  | [], ρ => E.nx ρ
  | d :: ds, ρ => g d ρ fun ρ' => body { E with nx := forGo g body E ds, ct := forGo g body E ds, bk := E.nx } ρ'
def wFor (w : WA) (g : WG) (body : WS) : WS := fun E ρ => w ρ (fun items ρ' => forGo g body E items ρ') E.ex
def wWhile (c : WT) (body : WS) : WS := fun E ρ => ∃ I : Nat → DSt → Prop, (∃ m, I m ρ) ∧ ∀ m ρ, I m ρ → c ρ (fun b ρ' => if b = true then body { E with nx := fun ρ2 => ∃ m', m' < m ∧ I m' ρ2, ct := fun ρ2 => ∃ m', m' < m ∧ I m' ρ2, bk := E.nx } ρ' else E.nx ρ') E.ex
/-- the item as it comes -/
theorem SrcOk.turn {K : PySem.W.Frag} {F : Fm} {σ : L2.St} {S1 S2 H2 H3 : Hp} {ρ : DSt} {d : D} {x : V} (r : R K F S2 ρ σ H2) (y : (H3 = H2 ∧ Rep K S2 d x) ∨ ∃ T vs ds, x = .ref T ∧ H2 T = none ∧ H3 = upd H2 T (.tup vs) ∧ d = .tup ds ∧ Reps K S2 ds vs) :
    ∃ S3, Go K F σ S2 ρ H2 S3 ρ H3 ∧ Rep K S3 d x := by
  rcases y with ⟨rfl, h⟩ | ⟨T, vs, ds, rfl, hT, rfl, rfl, h⟩
  · exact ⟨S2, Go.refl r, h⟩
  · have eS : Ex S2 (upd S2 T (.tup vs)) := Ex.new (r.fz.free hT)
    have g := h.mono eS
    exact ⟨_, Go.laid r hT, .tup (SqT.of upd_same) g.1 g.2⟩
section
variable {X : Cx} {F : Fm} {W : WX} {e tg iter c : Expr} {pos p : Pos} {body : List Stmt}
theorem run_for {K : PySem.W.Frag} {wi : TI} {w : WA} {g : TG} {wg : WG} {ts : List Nat} {tb : TS} {wb : WS} (hi : RunI K F W wi w) (hg : RunG K F g wg ts) (hb : RunS K F W tb wb) : RunS K F W (tFor wi g tb) (wFor w wg wb) := fun S ρ σ H D E r hw l => by
  refine hi S ρ σ H _ _ E.ex r hw (fun S1 ρ1 H1 items J g1 src k => ?_) (l.ex σ)
  obtain ⟨n, G, Y, wk, hn, hG, hY⟩ := src
  refine for_it wk (fun i σ' H' => ∃ S' ρ', Ex S1 S' ∧ R K F S' ρ' σ' H' ∧ forGo wg wb E (items.drop i) ρ') ⟨S1, ρ1, Ex.refl S1, g1.r, by rw [List.drop_zero]; exact k⟩ ?_ ?_ ?_
  · rintro i σ' H' hi ⟨S', ρ', e1, r1, _⟩
    exact hG H' (e1.trans r1.fz)
  · rintro i x σ' H' H2 hi ⟨S', ρ', e1, r1, k1⟩ y
    rw [hn] at hi
    have hd : items[i]? = some items[i] := List.getElem?_eq_getElem hi
    obtain ⟨S3, g3, r3⟩ := SrcOk.turn (S1 := S1) r1 (hY S' H' i _ x H2 e1 r1.fz hd y)
    rw [List.drop_eq_getElem_cons hi] at k1
    refine hg S3 ρ' σ' H2 _ x _ _ g3.r r3 k1 fun ρ4 σ4 r4 _ k4 => ?_
    have e3 : Ex S1 S3 := e1.trans g3.ex
    refine hb S3 ρ4 σ4 H2 _ _ r4 k4 ⟨fun S5 ρ5 σ5 H5 e5 r5 k5 => ⟨S5, ρ5, e3.trans e5, r5, k5⟩, fun S5 H5 d v e5 => l.rt S5 H5 d v ((g1.ex.trans e3).trans e5), fun S5 ρ5 σ5 H5 e5 r5 k5 => l.nx S5 ρ5 σ5 H5 ((g1.ex.trans e3).trans e5) r5 k5,
      fun S5 ρ5 σ5 H5 e5 r5 k5 => ⟨S5, ρ5, e3.trans e5, r5, k5⟩, fun σ5 => (l.ex σ5).mono (g1.ex.trans e3)⟩
  · rintro σ' H' ⟨S', ρ', e1, r1, k1⟩
    rw [hn, List.drop_length] at k1
    exact l.nx S' ρ' σ' H' (g1.ex.trans e1) r1 k1
theorem ds_for {w : WA} {wg : WG} {ts : List Nat} {g : TG} {wb : WS} (hp : PassesOwn (model X.prog X.w) X.A X.env X.xe) (hc : X.calm = true) (hi : DI X F W tg iter w) (hg : DG X F tg wg ts g) (hb : DSs X F W body wb)
    (hsw : ∀ x, foldedSetIterable iter X.env x = pure x := by intro _; rfl) : DS X F W (.For tg iter body [] pos) (wFor w wg wb) := by
  obtain ⟨wi, p1, q1⟩ := hi.ex
  obtain ⟨tb, p2, q2⟩ := hb.ex
  exact ⟨_, ps_for hp hc p1 hg.pg p2 (hs := hsw), run_for q1 hg.run q2⟩
theorem ds_while {wc : WT} {wb : WS} (hp : PassesOwn (model X.prog X.w) X.A X.env X.xe) (hc : DT X F W c wc) (hb : DSs X F W body wb) : DS X F W (.While c body [] pos) (wWhile wc wb) := by
  obtain ⟨tc, p1, q1⟩ := hc.ex
  obtain ⟨tb, p2, q2⟩ := hb.ex
  refine ⟨_, ps_while hp p1 p2, fun S ρ σ H D E r hw l => ?_⟩
  obtain ⟨I, ⟨m, h0⟩, hs⟩ := hw
  refine ⟨fun m σ' H' => ∃ S' ρ', Ex S S' ∧ R X.K F S' ρ' σ' H' ∧ I m ρ', ⟨m, S, ρ, Ex.refl S, r, h0⟩, ?_⟩
  rintro m σ' H' ⟨S', ρ', e1, r1, i1⟩
  refine q1 S' ρ' σ' H' _ _ E.ex r1 (hs m ρ' i1) (fun S2 ρ2 H2 b g2 k2 => ?_) ((l.ex σ').mono e1)
  have e2 : Ex S S2 := e1.trans g2.ex
  cases b with
  | true =>
    refine iteT ⟨fun σ3 H3 => ∃ m', m' < m ∧ ∃ S' ρ', Ex S S' ∧ R X.K F S' ρ' σ3 H3 ∧ I m' ρ', fun σ3 H3 h => ?_, ?_⟩
    · obtain ⟨m', hm, S3, ρ3, h3⟩ := h
      exact ⟨m', hm, S3, ρ3, h3⟩
    · refine q2 S2 ρ2 σ' H2 _ { E with nx := fun ρ2 => ∃ m', m' < m ∧ I m' ρ2, ct := fun ρ2 => ∃ m', m' < m ∧ I m' ρ2, bk := E.nx } g2.r (by simpa using k2) ⟨fun S5 ρ5 σ5 H5 e5 r5 k5 => ?_, fun S5 H5 d v e5 => l.rt S5 H5 d v (e2.trans e5), fun S5 ρ5 σ5 H5 e5 r5 k5 => l.nx S5 ρ5 σ5 H5 (e2.trans e5) r5 k5, fun S5 ρ5 σ5 H5 e5 r5 k5 => ?_, fun σ5 => (l.ex σ5).mono e2⟩
      · obtain ⟨m', hm, k⟩ := k5
        exact ⟨m', hm, S5, ρ5, e2.trans e5, r5, k⟩
      · obtain ⟨m', hm, k⟩ := k5
        exact ⟨m', hm, S5, ρ5, e2.trans e5, r5, k⟩
  | false => exact iteF (l.nx S2 ρ2 σ' H2 e2 g2.r (by simpa using k2))
end
end PD

/-! PD, part g: comprehensions. -/
namespace PD
open PySem PySem.Spec PyProof.Rows L2

/-- the slots of a comprehension's own names: nothing is known of them -/
def wipeD (ρ : DSt) : List Nat → DSt
  | [] => ρ
  | v :: vs => (wipeD ρ vs).set v none
theorem wipeD_length (ρ : DSt) : ∀ vs : List Nat, (wipeD ρ vs).length = ρ.length
  | [] => rfl
  | v :: vs => by unfold wipeD; rw [List.length_set, wipeD_length ρ vs]
theorem wipeD_ne {ρ : DSt} {j : Nat} : ∀ {vs : List Nat}, j ∉ vs → (wipeD ρ vs)[j]? = ρ[j]?
  | [], _ => rfl
  | v :: vs, h => by
    unfold wipeD
    have n : v ≠ j := fun e => h (e ▸ List.mem_cons_self)
    rw [List.getElem?_set_ne n]
    exact wipeD_ne fun z => h (List.mem_cons_of_mem _ z)
theorem wipeD_mem {ρ : DSt} {j : Nat} : ∀ {vs : List Nat}, j ∈ vs → (wipeD ρ vs)[j]? = some none ∨ (wipeD ρ vs)[j]? = none
  | v :: vs, h => by
    unfold wipeD
    by_cases e : v = j
    · subst e
      by_cases hl : v < (wipeD ρ vs).length
      · exact .inl (List.getElem?_set_self hl)
      · exact .inr (List.getElem?_eq_none (by rw [List.length_set]; omega))
    · rw [List.getElem?_set_ne e]
      rcases List.mem_cons.mp h with h | h
      · exact absurd h.symm e
      · exact wipeD_mem h
theorem wipe_ne {σ : L2.St} {j : Nat} : ∀ {vs : List Nat}, j ∉ vs → (wipe σ vs)[j]? = σ[j]?
  | [], _ => rfl
  | v :: vs, h => by
    unfold wipe
    have n : v ≠ j := fun e => h (e ▸ List.mem_cons_self)
    rw [List.getElem?_set_ne n]
    exact wipe_ne fun z => h (List.mem_cons_of_mem _ z)
theorem wipe_mem {σ : L2.St} {j : Nat} : ∀ {vs : List Nat}, j ∈ vs → (wipe σ vs)[j]? = (if j < σ.length then some none else none)
  | v :: vs, h => by
    unfold wipe
    by_cases e : v = j
    · subst e
      by_cases hl : v < σ.length
      · rw [if_pos hl, List.getElem?_set_self (by rw [wipe_length]; exact hl)]
      · rw [if_neg hl, List.getElem?_eq_none (by rw [List.length_set, wipe_length]; omega)]
    · rw [List.getElem?_set_ne e]
      rcases List.mem_cons.mp h with h | h
      · exact absurd h.symm e
      · exact wipe_mem h
theorem wipe_eq {σ σ' : L2.St} {vs : List Nat} (hl : σ'.length = σ.length) (h : ∀ j, j ∉ vs → σ'[j]? = σ[j]?) : wipe σ' vs = wipe σ vs := by
  apply List.ext_getElem?
  intro j
  by_cases hj : j ∈ vs
  · rw [wipe_mem hj, wipe_mem hj, hl]
  · rw [wipe_ne hj, wipe_ne hj, h j hj]
section
variable {K : PySem.W.Frag} {F : Fm} {S H : Hp} {ρ ρ' : DSt} {σ σ' : L2.St}
/-- only the slots of which something is known matter -/
theorem R.sub (r : R K F S ρ σ H) (hl : ρ'.length = ρ.length) (hs : σ'.length = σ.length) (h : ∀ (j : Nat) y, ρ'[j]? = some (some y) → ρ[j]? = some (some y) ∧ σ'[j]? = σ[j]?) : R K F S ρ' σ' H := by
  refine ⟨r.toR0, by rw [hl, hs]; exact r.len, fun i => ?_, fun i j a h1 h2 => ?_⟩
  · cases e : ρ'[i]? with
    | none => exact trivial
    | some o =>
      cases o with
      | none => exact trivial
      | some y =>
        obtain ⟨q1, q2⟩ := h i y e
        have q := r.slot i
        rw [q1] at q
        rw [q2]
        exact q
  · have up : ∀ i, OwnAt ρ' σ' i a → OwnAt ρ σ i a := fun i q => by
      obtain ⟨⟨ds, q1⟩ | ⟨ds, q1⟩, q2⟩ := q
      · obtain ⟨z1, z2⟩ := h i _ q1
        exact ⟨.inl ⟨ds, z1⟩, by rw [← z2]; exact q2⟩
      · obtain ⟨z1, z2⟩ := h i _ q1
        exact ⟨.inr ⟨ds, z1⟩, by rw [← z2]; exact q2⟩
    exact r.apart i j a (up i h1) (up j h2)
theorem Loose.sub {p : Addr} (l : Loose F S ρ σ p) (h : ∀ (j : Nat) y, ρ'[j]? = some (some y) → ρ[j]? = some (some y) ∧ σ'[j]? = σ[j]?) : Loose F S ρ' σ' p :=
  ⟨l.h0, l.s, fun i q => by
    obtain ⟨⟨ds, q1⟩ | ⟨ds, q1⟩, q2⟩ := q
    · obtain ⟨z1, z2⟩ := h i _ q1
      exact l.ap i ⟨.inl ⟨ds, z1⟩, by rw [← z2]; exact q2⟩
    · obtain ⟨z1, z2⟩ := h i _ q1
      exact l.ap i ⟨.inr ⟨ds, z1⟩, by rw [← z2]; exact q2⟩⟩
theorem wipeD_known {vs : List Nat} {j : Nat} {y : SV} (h : (wipeD ρ vs)[j]? = some (some y)) : j ∉ vs ∧ ρ[j]? = some (some y) := by
  by_cases hj : j ∈ vs
  · rcases wipeD_mem hj with e | e
    · rw [e] at h
      cases h
    · rw [e] at h
      cases h
  · rw [wipeD_ne hj] at h
    exact ⟨hj, h⟩
end

/-- the turns of a comprehension: wt tells whether an item is kept, we what is put -/
def lcGo (g : WG) (wt : WT) (we : WE) (ρ : DSt) (kx : KX) : List D → List D → (List D → Prop) → Prop
  | [], acc, k => k acc
  | d :: ds, acc, k => g d ρ fun ρi => wt ρi (fun b ρ1 => ρ1 = ρi ∧ if b = true then we ρi (fun c ρ2 => ρ2 = ρi ∧ acc.length < 10000000 ∧ lcGo g wt we ρ kx ds (acc ++ [c]) k) (fun _ _ => False) else lcGo g wt we ρ kx ds acc k) (fun _ _ => False)
def wLc (w : WA) (g : WG) (wt : WT) (we : WE) (vs : List Nat) : WA := fun ρ kq kx => w ρ (fun items ρ1 => lcGo g wt we (wipeD ρ1 vs) kx items [] fun acc => kq acc (wipeD ρ1 vs)) kx
def wYes : WT := fun ρ kq _ => kq true ρ
/-- within a comprehension nothing is raised -/
abbrev W0 : WX := fun _ _ _ _ => False
theorem xl0 {K : PySem.W.Frag} {F : Fm} {σ : L2.St} {S : Hp} : XL K F W0 σ S (fun _ _ => False) := fun _ _ _ _ _ _ _ _ _ h => h.elim
theorem run_yes {K : PySem.W.Frag} {F : Fm} {W : WX} : RunT K F W tYes wYes := fun S ρ σ H Q kq kx r hw hk hx => hk S ρ H true (Go.refl r) hw
theorem run_lc {K : PySem.W.Frag} {F : Fm} {W : WX} {wi : TI} {w : WA} {g : TG} {wg : WG} {ts vs : List Nat} {tt : TT} {wt : WT} {te : TE} {we : WE} (hi : RunI K F W wi w) (hg : RunG K F g wg ts) (ht : RunT K F W0 tt wt) (he : RunE K F W0 te we) (hts : ∀ j ∈ ts, j ∈ vs) :
    RunL K F W (tLc wi g tt te vs) (wLc w wg wt we vs) := fun S ρ σ H Q kq kx r hw hk hx => by
  refine hi S ρ σ H _ _ kx r hw (fun S1 ρ1 H1 items J g1 src k => ?_) hx
  obtain ⟨n, G, Y, wk, hn, hG, hY⟩ := src
  intro D hD
  -- the state within: the comprehension's slots unknown
  have kn : ∀ (j : Nat) y, (wipeD ρ1 vs)[j]? = some (some y) → ρ1[j]? = some (some y) ∧ σ[j]? = σ[j]? := fun j y h => ⟨(wipeD_known h).2, rfl⟩
  have r1 : R K F S1 (wipeD ρ1 vs) σ H1 := g1.r.sub (wipeD_length _ _) rfl kn
  have l1 : Loose F S1 (wipeD ρ1 vs) σ D := r1.loose hD
  have gw : Go K F σ S ρ H S1 (wipeD ρ1 vs) H1 := ⟨g1.ex, r1, fun p o l h => by
    obtain ⟨l2, h2⟩ := g1.kp p o l h
    exact ⟨l2.sub kn, h2⟩, g1.up⟩
  refine lc_it wk (fun i H' => ∃ S' acc xs, Go K F σ S1 (wipeD ρ1 vs) H1 S' (wipeD ρ1 vs) H' ∧ Loose F S' (wipeD ρ1 vs) σ D ∧ H' D = some (.lst xs) ∧ Reps K S' acc xs ∧ lcGo wg wt we (wipeD ρ1 vs) kx (items.drop i) acc fun acc => kq acc (wipeD ρ1 vs))
    ⟨S1, [], [], Go.temp r1 hD, l1, upd_same, Reps.nil, by rw [List.drop_zero]; exact k⟩ ?_ ?_ ?_
  · rintro i H' hi ⟨S', acc, xs, g2, _⟩
    exact hG H' (g2.ex.trans g2.r.fz)
  · rintro i x H' H2 hi ⟨S', acc, xs, g2, l2, hD2, ra, k2⟩ y
    rw [hn] at hi
    have hd : items[i]? = some items[i] := List.getElem?_eq_getElem hi
    -- the state over the wiped slots
    have wk2 : ∀ (j : Nat) y, (wipeD ρ1 vs)[j]? = some (some y) → (wipeD ρ1 vs)[j]? = some (some y) ∧ (wipe σ vs)[j]? = σ[j]? := fun j y h => ⟨h, wipe_ne (wipeD_known h).1⟩
    have wk3 : ∀ (j : Nat) y, (wipeD ρ1 vs)[j]? = some (some y) → (wipeD ρ1 vs)[j]? = some (some y) ∧ σ[j]? = (wipe σ vs)[j]? := fun j y h => ⟨h, (wipe_ne (wipeD_known h).1).symm⟩
    have r2 : R K F S' (wipeD ρ1 vs) (wipe σ vs) H' := g2.r.sub rfl (wipe_length _ _) wk2
    obtain ⟨S3, g3, r3⟩ := SrcOk.turn (S1 := S1) r2 (hY S' H' i _ x H2 g2.ex g2.r.fz hd y)
    rw [List.drop_eq_getElem_cons hi] at k2
    refine hg S3 (wipeD ρ1 vs) (wipe σ vs) H2 _ x _ _ g3.r r3 k2 fun ρ4 σ4 r4 tg k4 => ?_
    have hne2 : ∀ j, j ∉ vs → σ4[j]? = (wipe σ vs)[j]? ∧ ρ4[j]? = (wipeD ρ1 vs)[j]? := fun j hj => tg.ne j fun z => hj (hts j z)
    refine ⟨?_, ?_⟩
    · rw [wipe_eq (σ' := σ4) (σ := wipe σ vs) tg.ls fun j hj => (hne2 j hj).1]
      exact wipe_eq (wipe_length _ _) fun j hj => wipe_ne hj
    -- back from within
    have bk : ∀ (j : Nat) y, (wipeD ρ1 vs)[j]? = some (some y) → ρ4[j]? = some (some y) ∧ σ[j]? = σ4[j]? := fun j y h => by
      have hj := (wipeD_known h).1
      exact ⟨by rw [(hne2 j hj).2]; exact h, by rw [(hne2 j hj).1, wipe_ne hj]⟩
    have inn : ∀ p, Loose F S3 (wipeD ρ1 vs) (wipe σ vs) p → Loose F S3 ρ4 σ4 p := fun p l => ⟨l.h0, l.s, fun j q => by
      obtain ⟨⟨ds, q1⟩ | ⟨ds, q1⟩, q2⟩ := q
      · rcases tg.own j _ q1 with ⟨d, z⟩ | ⟨z1, z2⟩
        · cases z
        · exact l.ap j ⟨.inl ⟨ds, z1⟩, by rw [← z2]; exact q2⟩
      · rcases tg.own j _ q1 with ⟨d, z⟩ | ⟨z1, z2⟩
        · cases z
        · exact l.ap j ⟨.inr ⟨ds, z1⟩, by rw [← z2]; exact q2⟩⟩
    have mid : ∀ S4 H4, Go K F σ4 S3 ρ4 H2 S4 ρ4 H4 → Go K F σ S1 (wipeD ρ1 vs) H1 S4 (wipeD ρ1 vs) H4 ∧ Loose F S4 (wipeD ρ1 vs) σ D ∧ H4 D = some (.lst xs) := fun S4 H4 g4 => by
      have hl : (wipeD ρ1 vs).length = ρ4.length := tg.lr.symm
      have hs : σ.length = σ4.length := by rw [tg.ls, wipe_length]
      have thr : ∀ p o, Loose F S' (wipeD ρ1 vs) σ p → H' p = some o → Loose F S4 (wipeD ρ1 vs) σ p ∧ H4 p = some o := fun p o l h => by
        obtain ⟨l3, h3⟩ := g3.kp p o (l.sub wk2) h
        obtain ⟨l4, h4⟩ := g4.kp p o (inn p l3) h3
        exact ⟨l4.sub bk, h4⟩
      refine ⟨⟨(g2.ex.trans g3.ex).trans g4.ex, g4.r.sub hl hs bk, fun p o l h => ?_, fun p h => g2.up p (g3.up p (g4.up p h))⟩, thr D _ l2 hD2⟩
      obtain ⟨l3, h3⟩ := g2.kp p o l h
      exact thr p o l3 h3
    have e3 : Ex S' S3 := g3.ex
    refine ht S3 ρ4 σ4 H2 _ _ _ r4 k4 (fun S4 ρ5 H4 b g4 k5 => ?_) xl0
    obtain ⟨rfl, k5⟩ := k5
    cases b with
    | true =>
      refine iteT (he S4 ρ5 σ4 H4 _ _ _ g4.r (by simpa using k5) (fun S5 ρ6 H5 c v g5 rc k6 => ?_) xl0)
      obtain ⟨rfl, k7, k6⟩ := k6
      obtain ⟨g6, l6, hD6⟩ := mid S5 H5 (g4.trans g5)
      have ra5 : Reps K S5 acc xs := ra.mono ((g3.ex.trans g4.ex).trans g5.ex)
      refine ⟨xs, hD6, ?_, S5, acc ++ [c], xs ++ [v], g6.chg l6 hD, l6, upd_same, ra5.append (Reps.one rc), k6⟩
      rw [ra.1]
      exact Nat.lt_of_lt_of_le k7 (by decide)
    | false =>
      obtain ⟨g6, l6, hD6⟩ := mid S4 H4 g4
      exact iteF ⟨S4, acc, xs, g6, l6, hD6, ra.mono (g3.ex.trans g4.ex), by simpa using k5⟩
  · rintro H' ⟨S', acc, xs, g2, l2, hD2, ra, k2⟩
    rw [hn, List.drop_length] at k2
    exact hk S' _ H' acc D xs (gw.trans g2) (g1.up D hD) l2 hD2 ra k2
section
variable {X : Cx} {F : Fm} {W : WX} {elt tg iter : Expr} {ifs : List Expr} {scope : Scope} {pos : Pos}
/-- the tests of a comprehension -/
structure DTs (X : Cx) (F : Fm) (W : WX) (ifs : List Expr) (w : WT) : Prop where
  ex : ∃ t, PTs X ifs t ∧ RunT X.K F W t w
theorem dts_nil : DTs X F W [] wYes := ⟨_, pts_nil, run_yes⟩
theorem dts_one {c : Expr} {w : WT} (h : DT X F W c w) : DTs X F W [c] w := by
  obtain ⟨t, p, q⟩ := h.ex
  exact ⟨_, pts_one p, q⟩
theorem DTs.pt {w : WT} (h : DTs X F W ifs w) : PTs X ifs (tT X.K F W w) := by
  obtain ⟨t, p, q⟩ := h.ex
  refine ⟨fun pins s σ H Q I hq => p.run pins s σ H Q I ?_⟩
  obtain ⟨S, ρ, kq, kx, r, hw, hk, hx⟩ := hq
  exact q S ρ σ H Q kq kx r hw hk hx
theorem dl_lc {own : List (Str × Nat)} {w : WA} {wg : WG} {ts : List Nat} {g : TG} {wt : WT} {we : WE} (hc : X.calm = true) (hN : X.N.Nodup) (hi : DI X F W tg iter w) (ok : BlkOk X.N X.env.scope scope own)
    (hg : ∀ (s : Shared) (H : Hp) (C : Addr) (cl : List (Str × Addr)) (fp : List Addr), DG (X.blk s H scope (compEnvC scope cl C X.env) fp) F tg wg ts g) (ht : ∀ (s : Shared) (H : Hp) (C : Addr) (cl : List (Str × Addr)) (fp : List Addr), DTs (X.blk s H scope (compEnvC scope cl C X.env) fp) F W0 ifs wt)
    (he : ∀ (s : Shared) (H : Hp) (C : Addr) (cl : List (Str × Addr)) (fp : List Addr), DE (X.blk s H scope (compEnvC scope cl C X.env) fp) F W0 elt we) (hts : ∀ j ∈ ts, j ∈ own.map (·.2) := by decide) (hs : ∀ x, foldedSetIterable iter X.env x = pure x := by intro _; rfl) :
    DL X F W (.ListComp elt [⟨tg, iter, ifs, 0⟩] scope pos) (wLc w wg wt we (own.map (·.2))) := by
  obtain ⟨wi, p1, q1⟩ := hi.ex
  have g0 : RunG X.K F g wg ts := (hg X.s_0 X.H_0 0 [] []).run
  exact ⟨_, pe_lc (te := tE X.K F W0 we) (tt := tT X.K F W0 wt) hc hN p1 ok (fun s H C cl fp => (hg s H C cl fp).pg) (fun s H C cl fp => (ht s H C cl fp).pt) (fun s H C cl fp => (he s H C cl fp).pe) hs, run_lc q1 g0 run_tT run_tE hts⟩
/-- y = [..] on one line -/
theorem ds_setLc {i : Nat} {y : Str} {py spos : Pos} {own : List (Str × Nat)} {w : WA} {wg : WG} {ts : List Nat} {g : TG} {wt : WT} {we : WE} (hc : X.calm = true) (hN : X.N.Nodup) (hi : DI X F W tg iter w) (ok : BlkOk X.N X.env.scope scope own)
    (hg : ∀ (s : Shared) (H : Hp) (C : Addr) (cl : List (Str × Addr)) (fp : List Addr), DG (X.blk s H scope (compEnvC scope cl C X.env) fp) F tg wg ts g) (ht : ∀ (s : Shared) (H : Hp) (C : Addr) (cl : List (Str × Addr)) (fp : List Addr), DTs (X.blk s H scope (compEnvC scope cl C X.env) fp) F W0 ifs wt)
    (he : ∀ (s : Shared) (H : Hp) (C : Addr) (cl : List (Str × Addr)) (fp : List Addr), DE (X.blk s H scope (compEnvC scope cl C X.env) fp) F W0 elt we) (hy : X.N[i]? = some y := by rfl) (hyl : X.env.scope.names.lookup y = some .local := by rfl)
    (hsw : swapsWith (.ListComp elt [⟨tg, iter, ifs, 0⟩] scope pos) (some (.Name y py)) spos.line X.env = pure true := by exact sw_true rfl rfl rfl (by decide +kernel)) (hts : ∀ j ∈ ts, j ∈ own.map (·.2) := by decide) (hs : ∀ x, foldedSetIterable iter X.env x = pure x := by intro _; rfl) :
    DS X F W (.Assign [.Name y py] (.ListComp elt [⟨tg, iter, ifs, 0⟩] scope pos) spos) (wAsg i (wVL (wLc w wg wt we (own.map (·.2))))) := by
  obtain ⟨wi, p1, q1⟩ := hi.ex
  have g0 : RunG X.K F g wg ts := (hg X.s_0 X.H_0 0 [] []).run
  refine ⟨_, ps_setLc (te := tE X.K F W0 we) (tt := tT X.K F W0 wt) hc hN hy hyl hsw p1 ok (fun s H C cl fp => (hg s H C cl fp).pg) (fun s H C cl fp => (ht s H C cl fp).pt) (fun s H C cl fp => (he s H C cl fp).pe) hs, fun S ρ σ H D E r hw l => ?_⟩
  refine run_lc q1 g0 run_tT run_tE hts S ρ σ H _ _ E.ex r hw (fun S' ρ' H' ds a xs g hn lo ha rp k => ?_) (l.ex σ)
  exact l.nx S' _ _ H' g.ex (g.r.setL lo ha rp) k
end
end PD

/-! PD, part h: defs, what they promise over data; their calls. -/
namespace PD
open PySem PySem.Spec PyProof.Rows L2

abbrev SpD := Option Addr → List D → (SV → Prop) → (DX → Prop) → Prop
/-- a def's promise over data -/
def spD (K : PySem.W.Frag) (sp : SpD) : Sp := fun vs H Q E => ∃ (S : Hp) (β : Option Addr) (ds : List D) (kq : SV → Prop) (kx : DX → Prop), Ex S H ∧ (∀ b, β = some b → BagAt S H b) ∧ Reps K S ds vs ∧ sp β ds kq kx ∧
  (∀ S' H' y v, R0 ⟨H, S, β⟩ S' H' → SVret K ⟨H, S, β⟩ S' H' y v → kq y → Q v H') ∧ (∀ S' H' dx cls od, R0 ⟨H, S, β⟩ S' H' → RepX K S' dx cls od → kx dx → E cls od H')
def startD (N : List Str) (ds : List D) : DSt := ds.map (fun d => some (.val d)) ++ List.replicate (N.length - ds.length) none
theorem BagAt.some {S H : Hp} {b : Addr} (h : BagAt S H b) : H b ≠ none := by
  obtain ⟨_, c, cells, i1, i2, i3, i4, h2, _⟩ := h
  rw [h2]
  exact fun z => nomatch z
theorem R0.start {S H : Hp} {β : Option Addr} (e : Ex S H) (hb : ∀ b, β = some b → BagAt S H b) : R0 ⟨H, S, β⟩ S H :=
  ⟨e, Ex.refl S, fun _ _ h _ => h, fun _ _ h => .inl h, fun b h => ⟨hb b h, (hb b h).some⟩⟩
theorem startD_get {N : List Str} {ds : List D} {vs : List V} {K : PySem.W.Frag} {S : Hp} (r : Reps K S ds vs) (i : Nat) : (∃ d v, (startD N ds)[i]? = some (some (.val d)) ∧ (L2.start N vs)[i]? = some (some v) ∧ Rep K S d v) ∨ (startD N ds)[i]? = some none ∨ (startD N ds)[i]? = none := by
  unfold startD L2.start
  by_cases h : i < ds.length
  · left
    have hv : i < vs.length := by rw [r.1]; exact h
    refine ⟨ds[i], vs[i], ?_, ?_, r.2 i _ _ (List.getElem?_eq_getElem h) (List.getElem?_eq_getElem hv)⟩
    · rw [List.getElem?_append_left (by simpa using h), List.getElem?_map, List.getElem?_eq_getElem h]
      rfl
    · rw [List.getElem?_append_left (by simpa using hv), List.getElem?_map, List.getElem?_eq_getElem hv]
      rfl
  · right
    rw [List.getElem?_append_right (by simpa using h), List.getElem?_replicate]
    split
    · exact .inl rfl
    · exact .inr rfl
theorem R.start {K : PySem.W.Frag} {S H : Hp} {β : Option Addr} {N : List Str} {ds : List D} {vs : List V} (e : Ex S H) (hb : ∀ b, β = some b → BagAt S H b) (r : Reps K S ds vs) : R K ⟨H, S, β⟩ S (startD N ds) (L2.start N vs) H := by
  refine ⟨R0.start e hb, ?_, fun i => ?_, fun i j a h1 h2 => ?_⟩
  · unfold startD L2.start
    simp [r.1]
  · rcases startD_get (N := N) r i with ⟨d, v, h1, h2, h3⟩ | h | h
    · rw [h1, h2]
      exact ⟨v, rfl, h3⟩
    · rw [h]
      trivial
    · rw [h]
      trivial
  · obtain ⟨⟨ds, h⟩ | ⟨ds, h⟩, _⟩ := h1
    · rcases startD_get (N := N) r i with ⟨d, v, h1, h2, h3⟩ | q | q <;> rw [h] at * <;> first | cases h1 | cases q
    · rcases startD_get (N := N) r i with ⟨d, v, h1, h2, h3⟩ | q | q <;> rw [h] at * <;> first | cases h1 | cases q

section
variable {P : Program} {w : World} {K : PySem.W.Frag} {mg : Str → Option Value} {base : Heap}
/-- what a body wants of its ends -/
def endsOf (kq : SV → Prop) (kx : DX → Prop) : DEnds := { nx := fun _ => kq (.val .non), rt := kq, ex := fun dx _ => kx dx }
/-- the context of a def's body -/
abbrev cxD (P : Program) (w : World) (K : PySem.W.Frag) (mg : Str → Option Value) (base : Heap) (N : List Str) (qual : Str) (scope : Scope) (f : Addr) (cdv : Value) (A : Around) (outer : List Env) (s : Shared) (H : Hp) (E : XK) : Cx := cxOf (L2.CX P w) P w K mg base N qual scope f cdv A outer s H E
abbrev wxD (E : XK) : WX := fun cls od _ H => E cls od H
theorem takesD {N : List Str} {qual : Str} {scope : Scope} {f : Addr} {cdv : Value} {A : Around} {outer : List Env} {s : Shared} {H : Hp} {E : XK} : Takes (cxD P w K mg base N qual scope f cdv A outer s H E) (wxD E) := takes_of rfl rfl rfl rfl
theorem ownD {N : List Str} {qual : Str} {scope : Scope} {f : Addr} {cdv : Value} {A : Around} {outer : List Env} {s : Shared} {H : Hp} {E : XK} : PassesOwn (model P w) (cxD P w K mg base N qual scope f cdv A outer s H E).A (cxD P w K mg base N qual scope f cdv A outer s H E).env (cxD P w K mg base N qual scope f cdv A outer s H E).xe := passes_of (X := cxD P w K mg base N qual scope f cdv A outer s H E) rfl
/-- THE RULE for a def -/
theorem okD {x qual : Str} {st : Stmt} {f : Addr} {fd : FuncData} {N ps : List Str} {k : Nat} {sp : SpD} (F : Fun K x qual st f fd) (S : FnScope N ps (defScope st)) (len : ∀ β ds kq kx, sp β ds kq kx → ds.length = ps.length)
    (hbody : ∀ (cdv : Value) (A : Around) (outer : List Env) (s : Shared) (H : Hp) (E : XK) (Fm : Fm), Room k (cxD P w K mg base N qual (defScope st) f cdv A outer s H E).A →
      ∃ wb, DSs (cxD P w K mg base N qual (defScope st) f cdv A outer s H E) Fm (wxD E) (defBody st) wb ∧ ∀ ds kq kx, sp Fm.bag ds kq kx → wb (endsOf kq kx) (startD N ds)) : FnOk P w K mg base (L2.CX P w) (k + 1) f fd ps (spD K sp) := by
  refine F.okX S (fun vs H Q E h => ?_) (fun cdv A outer s H vs Q E hr h => ?_)
  · obtain ⟨S', β, ds, kq, kx, _, _, r, h, _⟩ := h
    rw [r.1]
    exact len β ds kq kx h
  · obtain ⟨S', β, ds, kq, kx, e, hb, r, h, q1, q2⟩ := h
    obtain ⟨wb, hd, hw⟩ := hbody cdv A outer s H E ⟨H, S', β⟩ hr
    obtain ⟨t, p, q⟩ := hd.ex
    refine ⟨t, p, q S' (startD N ds) (L2.start N vs) H _ (endsOf kq kx) (R.start e hb r) (hw ds kq kx h) ⟨fun S2 ρ σ H2 e2 r2 k2 => ?_, fun S2 H2 y v e2 r2 sv k2 => ?_, fun S2 ρ σ H2 e2 r2 k2 => k2.elim, fun S2 ρ σ H2 e2 r2 k2 => k2.elim, fun σ dx ρ S2 H2 cls od e2 r2 rx k2 => ?_⟩⟩
    · exact q1 S2 H2 (.val .non) .non r2.toR0 .non k2
    · exact q1 S2 H2 y v r2 sv k2
    · exact q2 S2 H2 dx cls od r2.toR0 rx k2
end

/-! ### calls -/
theorem R0.called {K : PySem.W.Frag} {F : Fm} {S S' H H' : Hp} (r : R0 F S H) (q : R0 ⟨H, S, F.bag⟩ S' H') : R0 F S' H' :=
  ⟨q.fz, r.s0.trans q.s0, fun a o h n => q.keep a o (r.keep a o h n) n, fun a o h => by
    rcases q.new a o h with h1 | h1
    · exact r.new a o h1
    · exact .inr (R.h0_none r h1), fun b hb => ⟨(q.bag b hb).1, (r.bag b hb).2⟩⟩
theorem Go.call {K : PySem.W.Frag} {F : Fm} {σ : L2.St} {S S' H H' : Hp} {ρ : DSt} (r : R K F S ρ σ H) (q : R0 ⟨H, S, F.bag⟩ S' H') : Go K F σ S ρ H S' ρ H' := by
  have un : ∀ p o, F.H0 p = none → S p = none → H p = some o → S' p = none ∧ H' p = some o := fun p o h0 hs h => by
    have nb : F.bag ≠ some p := fun hb => (r.toR0.bagNe hb (.inl h0)) rfl
    refine ⟨?_, q.keep p o h nb⟩
    cases z : S' p with
    | none => rfl
    | some u =>
      rcases q.new p u z with h1 | h1
      · have h1 : S p = some u := h1
        rw [hs] at h1
        cases h1
      · have h1 : H p = none := h1
        rw [h] at h1
        cases h1
  refine ⟨q.s0, r.grow (R0.called (K := K) r.toR0 q) q.s0 fun i a h => ?_, fun p o l h => ?_, fun p h => ?_⟩
  · obtain ⟨h0, hs, o, ho⟩ := r.ownAt h
    obtain ⟨z1, z2⟩ := un a o h0 hs ho
    exact ⟨z1, by rw [z2, ho]⟩
  · obtain ⟨z1, z2⟩ := un p o l.h0 l.s h
    exact ⟨⟨l.h0, z1, l.ap⟩, z2⟩
  · cases z : H p with
    | none => rfl
    | some o =>
      by_cases hb : F.bag = some p
      · exact absurd h (q.bag p hb).1.some
      · rw [q.keep p o z hb] at h
        cases h
theorem SVret.ok {K : PySem.W.Frag} {F : Fm} {σ : L2.St} {S S' H H' : Hp} {ρ : DSt} {y : SV} {v : V} (r : R K F S ρ σ H) (h : SVret K ⟨H, S, F.bag⟩ S' H' y v) : SVok K F S' ρ σ H' y v ∧ ∀ p, v = .ref p → (∀ d, y ≠ .val d) → H p = none := by
  have lo : ∀ p, H p = none → S' p = none → Loose F S' ρ σ p := fun p h1 h2 => ⟨R.h0_none r.toR0 h1, h2, fun i q => by
    obtain ⟨_, _, o, ho⟩ := r.ownAt q
    rw [h1] at ho
    cases ho⟩
  cases y with
  | val d => exact ⟨h, fun _ _ z => absurd rfl (z d)⟩
  | own ds =>
    obtain ⟨p, xs, rfl, h1, h2, h3, h4⟩ := h
    exact ⟨⟨p, xs, rfl, lo p h1 h2, h3, h4⟩, fun q e _ => by cases e; exact h1⟩
  | ownK ds =>
    obtain ⟨p, xs, rfl, h1, h2, h3, h4⟩ := h
    exact ⟨⟨p, xs, rfl, lo p h1 h2, h3, h4⟩, fun q e _ => by cases e; exact h1⟩
/-- a call with the data ds -/
def wCall (β : Option Addr) (sp : SpD) (dds : List D) (u : WA) : WV := fun ρ kq kx => u ρ (fun ds ρ' => sp β (ds ++ dds) (fun y => kq y ρ') (fun dx => kx dx ρ')) kx
theorem run_call {K : PySem.W.Frag} {F : Fm} {W : WX} {sp : SpD} {t : TA} {u : WA} {dvs : List V} {dds : List D} (h : RunA K F W t u) (hd : ∀ S, Reps K S dds dvs) : RunV K F W (tCallSD (spD K sp) dvs (fun σ cls od H => W cls od σ H) t) (wCall F.bag sp dds u) := fun S ρ σ H Q kq kx r hw hk hx =>
  h S ρ σ H _ _ kx r hw (fun S1 ρ1 H1 ds vs g1 rp k1 => by
    refine ⟨S1, F.bag, ds ++ dds, _, _, g1.r.fz, fun b hb => (g1.r.bag b hb).1, rp.append (hd S1), k1, fun S2 H2 y v r2 sv k2 => ?_, fun S2 H2 dx cls od r2 rx k2 => ?_⟩
    · obtain ⟨s1, n1⟩ := sv.ok g1.r
      exact hk S2 ρ1 H2 y v (g1.trans (Go.call g1.r r2)) s1 (fun p e hy => g1.up p (n1 p e hy)) k2
    · have g2 := Go.call g1.r r2
      exact hx dx ρ1 S2 H2 cls od (g1.ex.trans g2.ex) g2.r rx k2) hx
section
variable {X : Cx} {F : Fm} {W : WX} {k : Nat} {f : Addr} {fd : FuncData} {ps : List Str} {sp : SpD} {dvs : List V} {dds : List D} {us : List Value} {x : Str} {p pos : Pos} {e : Expr} {es : List Expr}
/-- what a call lets out goes where the wish is -/
abbrev Snk (X : Cx) (W : WX) : Prop := ∀ σ, PassesAt (L2.CX X.prog X.w) X σ (fun cls od H => W cls od σ H)
theorem snk_of (tk : Takes X W) : Snk X W := fun σ => passAt tk σ
theorem snk0 : Snk X W0 := fun σ pins H s e s' I h => by
  obtain ⟨_, _, _, _, _, _, _, _, _, _, _, _, z⟩ := h
  exact z.elim
theorem dv_call {u : WA} (G : FnOk X.prog X.w X.K X.mg X.base (L2.CX X.prog X.w) k f fd ps (spD X.K sp)) (hr : Room k X.A) (hm : X.mg x = some (.ref f)) (hk : PySem.W.keepIn X.K (.ref f) = true) (hb : Binds X.K fd ps us) (hv : Vals dvs us) (hd : ∀ S, Reps X.K S dds dvs) (hx : Snk X W) (ha : DA X F W (e :: es) u)
    (hg : Gl X x := by rfl) (hdb : (x == ("__debug__" : Str)) = false := by decide) (he : starEach (e :: es) X.env = (false, eval e X.env) :: starEach es X.env := by rfl) (hpl : (backTo pos (starEach es X.env)).any (·.1) = false := by rfl) :
    DV X F W (.Call (.Name x p) (e :: es) [] pos) (wCall F.bag sp dds u) := by
  obtain ⟨t, q1, q⟩ := ha.ex
  exact ⟨_, pe_callSD (E := fun σ cls od H => W cls od σ H) G hr hg hm hk hb hv hx q1 hdb he hpl, run_call q hd⟩
/-- a value of which a list comes to rest -/
theorem d_v {w : WV} (h : DV X F W e w) : DE X F W e (fun ρ kq kx => w ρ (fun y ρ' => match y with | .val d => kq d ρ' | .own ds => kq (.lst ds) ρ' | .ownK kvs => kq (.dic kvs) ρ') kx) := by
  obtain ⟨t, p, q⟩ := h.ex
  refine ⟨t, p, fun S ρ σ H Q kq kx r hw hk hx => q S ρ σ H Q _ kx r hw (fun S' ρ' H' y v g sv hn k => ?_) hx⟩
  cases y with
  | val d => exact hk S' ρ' H' d v g sv k
  | own ds =>
    obtain ⟨a, xs, rfl, l, ha, rp⟩ := sv
    have eS : Ex S' (upd S' a (.lst xs)) := Ex.new l.s
    exact hk _ ρ' H' (.lst ds) (.ref a) (g.rest l ha (hn a rfl (fun _ z => nomatch z))) (.lst upd_same (rp.mono eS).1 (rp.mono eS).2) k
  | ownK kvs =>
    obtain ⟨a, xs, rfl, l, ha, rp⟩ := sv
    have eS : Ex S' (upd S' a (.dK xs)) := Ex.new l.s
    exact hk _ ρ' H' (.dic kvs) (.ref a) (g.rest l ha (hn a rfl (fun _ z => nomatch z))) (.dic upd_same (rp.mono eS).1 (rp.mono eS).2) k
/-- f(e, ..) as a value -/
def wCallE (β : Option Addr) (sp : SpD) (dds : List D) (u : WA) : WE := fun ρ kq kx => u ρ (fun ds ρ' => sp β (ds ++ dds) (fun y => kq y.d ρ') (fun dx => kx dx ρ')) kx
theorem d_call {u : WA} (G : FnOk X.prog X.w X.K X.mg X.base (L2.CX X.prog X.w) k f fd ps (spD X.K sp)) (hr : Room k X.A) (hm : X.mg x = some (.ref f)) (hk : PySem.W.keepIn X.K (.ref f) = true) (hb : Binds X.K fd ps []) (hx : Snk X W) (ha : DA X F W (e :: es) u)
    (hg : Gl X x := by rfl) (hdb : (x == ("__debug__" : Str)) = false := by decide) (he : starEach (e :: es) X.env = (false, eval e X.env) :: starEach es X.env := by rfl) (hpl : (backTo pos (starEach es X.env)).any (·.1) = false := by rfl) :
    DE X F W (.Call (.Name x p) (e :: es) [] pos) (wCallE F.bag sp [] u) := by
  have h := d_v (dv_call (pos := pos) (p := p) G hr hm hk hb .nil (fun _ => Reps.nil) hx ha hg hdb he hpl)
  obtain ⟨t, q1, q⟩ := h.ex
  refine ⟨t, q1, fun S ρ σ H Q kq kx r hw hk hx => q S ρ σ H Q kq kx r ?_ hk hx⟩
  have e : ∀ (ρ' : DSt) (y : SV), kq y.d ρ' = (match y with | .val d => kq d ρ' | .own ds => kq (.lst ds) ρ' | .ownK kvs => kq (.dic kvs) ρ') := fun ρ' y => by cases y <;> rfl
  unfold wCallE at hw
  unfold wCall
  simp only [e] at hw
  exact hw
end
end PD

/-! PD, part i: lists that change; a law's bag and its draws; a law's end. -/
namespace PD
open PySem PySem.Spec PyProof.Rows L2

section
variable {X : Cx} {F : Fm} {W : WX} {e : Expr} {pos : Pos}
/-- xs.append(e), xs a name's own list -/
def wApp (i : Nat) (w : WE) : WS := fun E ρ => match ρ[i]? with
  | some (some (.own _)) => w ρ (fun d ρ' => match ρ'[i]? with
    | some (some (.own ds)) => ds.length < 10000000 ∧ E.nx (ρ'.set i (some (.own (ds ++ [d]))))
    | _ => False) E.ex
  | _ => False
theorem ds_append (i : Nat) {x : Str} {p2 apos cpos : Pos} {w : WE} (h : DE X F W e w) (hN : X.N[i]? = some x := by rfl) (hv : Vis X.env.scope x := by first | exact Or.inl rfl | exact Or.inr (Or.inl rfl) | exact Or.inr (Or.inr rfl)) (hd : (x == ("__debug__" : Str)) = false := by decide)
    (hcd : (x == ("__classdict__" : Str)) = false := by decide)
    (hsw : swapsWith (.Call (.Attribute (.Name x p2) "append" apos) [e] [] cpos) none pos.line X.env = pure false := by rfl)
    (hbase : attributeBase (.Name x p2) "append" X.env (eval (.Name x p2) X.env) = eval (.Name x p2) X.env := by rfl)
    (hfew : ((backTo cpos (starEach [e] X.env)).all (fun x => !x.1) && (backToKw cpos (keywordEach [] X.env)).all (fun x => x.1.isSome)
      && decide (([e] : List Expr).length + ([] : List Keyword).length + (if ([] : List Keyword).isEmpty then 0 else 1) < 30)) = true := by rfl)
    (hline : (apos.endLine == cpos.line) = true := by rfl) (hs : starEach [e] X.env = (false, eval e X.env) :: starEach [] X.env := by rfl) :
    DS X F W (.Expr (.Call (.Attribute (.Name x p2) "append" apos) [e] [] cpos) pos) (wApp i w) := by
  obtain ⟨t, q1, q⟩ := h.ex
  refine ⟨_, ps_expr (pe_bm PySem.F.plainAttrs_list PySem.F.slot_list_append PySem.F.type_list_append mt_append (pe_var hN hv hd hcd) (pa_cons q1 pa_nil hs) hbase hfew hline hs rfl) hsw, fun S ρ σ H D E r hw l => ?_⟩
  unfold wApp at hw
  split at hw
  · rename_i ds0 h0
    obtain ⟨a, xs, h1, h2, h3, h4, h5⟩ := r.own h0
    refine ⟨.ref a, h1, .inl ⟨rfl, _, SqL.of h4⟩, q S ρ σ H _ _ E.ex r hw (fun S1 ρ1 H1 d v g rp k => ?_) (l.ex σ)⟩
    split at k
    · rename_i ds hds
      obtain ⟨a', ys, z1, z2, z3, z4, z5⟩ := g.r.own hds
      rw [h1] at z1
      cases z1
      refine ⟨a, ys, v, rfl, rfl, z4, ?_, l.nx S1 _ _ _ g.ex (g.r.chgOwn hds h1 (z5.append (Reps.one rp))) k.2⟩
      rw [z5.1]
      exact Nat.lt_of_lt_of_le k.1 (by decide)
    · exact k.elim
  · exact hw.elim
/-- xs.insert(i, e) -/
def wIns (i : Nat) (w u : WE) : WS := fun E ρ => match ρ[i]? with
  | some (some (.own _)) => w ρ (fun c ρ1 => u ρ1 (fun d ρ' => match c, ρ'[i]? with
    | .int n, some (some (.own ds)) => (ds.length < 10000000 ∧ 0 ≤ n ∧ n < 2 ^ 63) ∧ E.nx (ρ'.set i (some (.own (ds.take n.toNat ++ [d] ++ ds.drop n.toNat))))
    | _, _ => False) E.ex) E.ex
  | _ => False
theorem ds_insert (i : Nat) {x : Str} {p2 apos cpos : Pos} {b : Expr} {w u : WE} (h : DE X F W e w) (h' : DE X F W b u) (hN : X.N[i]? = some x := by rfl) (hv : Vis X.env.scope x := by first | exact Or.inl rfl | exact Or.inr (Or.inl rfl) | exact Or.inr (Or.inr rfl)) (hd : (x == ("__debug__" : Str)) = false := by decide)
    (hcd : (x == ("__classdict__" : Str)) = false := by decide)
    (hsw : swapsWith (.Call (.Attribute (.Name x p2) "insert" apos) [e, b] [] cpos) none pos.line X.env = pure false := by rfl)
    (hbase : attributeBase (.Name x p2) "insert" X.env (eval (.Name x p2) X.env) = eval (.Name x p2) X.env := by rfl)
    (hfew : ((backTo cpos (starEach [e, b] X.env)).all (fun x => !x.1) && (backToKw cpos (keywordEach [] X.env)).all (fun x => x.1.isSome)
      && decide (([e, b] : List Expr).length + ([] : List Keyword).length + (if ([] : List Keyword).isEmpty then 0 else 1) < 30)) = true := by rfl)
    (hline : (apos.endLine == cpos.line) = true := by rfl) (hs : starEach [e, b] X.env = (false, eval e X.env) :: starEach [b] X.env := by rfl) (hs2 : starEach [b] X.env = (false, eval b X.env) :: starEach [] X.env := by rfl) (hpl : (backTo cpos (starEach [b] X.env)).any (·.1) = false := by rfl) :
    DS X F W (.Expr (.Call (.Attribute (.Name x p2) "insert" apos) [e, b] [] cpos) pos) (wIns i w u) := by
  obtain ⟨t, q1, q⟩ := h.ex
  obtain ⟨t2, q3, q4⟩ := h'.ex
  refine ⟨_, ps_expr (pe_bm PySem.F.plainAttrs_list PySem.F.slot_list_insert PySem.F.type_list_insert mt_insert (pe_var hN hv hd hcd) (pa_cons q1 (pa_cons q3 pa_nil hs2) hs) hbase hfew hline hs hpl) hsw, fun S ρ σ H D E r hw l => ?_⟩
  unfold wIns at hw
  split at hw
  · rename_i ds0 h0
    obtain ⟨a, xs, h1, h2, h3, h4, h5⟩ := r.own h0
    refine ⟨.ref a, h1, .inl ⟨rfl, _, SqL.of h4⟩, q S ρ σ H _ _ E.ex r hw (fun S1 ρ1 H1 c z g1 rc k1 => ?_) (l.ex σ)⟩
    refine q4 S1 ρ1 σ H1 _ _ E.ex g1.r k1 (fun S2 ρ2 H2 d v g2 rp k => ?_) ((l.ex σ).mono g1.ex)
    split at k
    · rename_i n ds hds
      cases rc
      obtain ⟨a', ys, z1, z2, z3, z4, z5⟩ := g2.r.own hds
      rw [h1] at z1
      cases z1
      refine ⟨a, ys, n, v, rfl, rfl, z4, ?_, k.1.2.1, k.1.2.2, l.nx S2 _ _ _ (g1.ex.trans g2.ex) (g2.r.chgOwn hds h1 (((z5.take _).append (Reps.one rp)).append (z5.drop _))) k.2⟩
      rw [z5.1]
      exact Nat.lt_of_lt_of_le k.1.1 (by decide)
    · exact k.elim
  · exact hw.elim
end

/-! ### the law's own: its bag, its draws -/
section
variable {P : Program} {w : World} {K : PySem.W.Frag} {mg : Str → Option Value} {base : Heap}
/-- a new bag of the script's first cells -/
def spBag (K : PySem.W.Frag) : Sp := fun vs H Q _ => ∃ (a : Addr) (ns : List Int), vs = [.ref a] ∧ SqL K H a (ns.map V.int) ∧ ∀ (c b : Addr) (cells : List Int) (H' : Hp), cells.length ≤ 63 → Same H H' → c ≠ b → H' c = some (.lst (cells.map V.int)) →
  H' b = some (.lst [.ref c, .int 0, .int 0, .int 10043, .int 0]) → Q (.ref b) H'
theorem cutV_ints (ns : List Int) (lo hi : Option Int) : cutV (ns.map V.int) lo hi = (cutL ns lo hi).map V.int := by
  unfold cutV cutL
  rw [List.length_map, List.map_take, List.map_drop]
/-- a draw: any number below many -/
def spDraw : SpD := fun β ds kq _ => ∃ b m, β = some b ∧ ds = [.ref b, .int m] ∧ 0 < m ∧ m < 1073741824 ∧ ∀ i, 0 ≤ i → i < m → kq (.val (.int i))
/-- the statements behind the bag: for any frame -/
def tSx (K : PySem.W.Frag) (W : WX) (w : Fm → WS) : TS := fun D σ H => ∃ F S ρ E, R K F S ρ σ H ∧ w F E ρ ∧ Lk K F W S D E
theorem pss_x {X : Cx} {W : WX} {st : List Stmt} {w : Fm → WS} (h : ∀ F, DSs X F W st (w F)) : PSs X st (tSx X.K W w) := by
  refine ⟨fun pins s σ H D I hq => ?_⟩
  obtain ⟨F, S, ρ, E, r, hw, l⟩ := hq
  obtain ⟨t, p, q⟩ := (h F).ex
  exact p.run pins s σ H D I (q S ρ σ H D E r hw l)
/-- the law: a list of at most 63 ints is handed in, True comes out -/
def spLaw (K : PySem.W.Frag) : Sp := fun vs H Q _ => ∃ (a : Addr) (ns : List Int), vs = [.ref a] ∧ SqL K H a (ns.map V.int) ∧ ns.length ≤ 63 ∧ ∀ H', Q (.bl true) H'
theorem ok_bag {x : Str} {st : Stmt} {f : Addr} {fd : FuncData} {p1 p2 p3 p4 p5 p6 p7 p8 p9 p10 p11 p12 : Pos} {j1 j2 j3 j4 j5 : Nat} {sn : Str} (F : Fun K x x st f fd) (S : FnScope [sn] [sn] (defScope st)) (hl : mg "list" = none) (hv : Vis (defScope st) sn) (hgl : (defScope st).names.lookup ("list" : Str) = some .globalImplicit)
    (hd : (sn == ("__debug__" : Str)) = false) (hcd : (sn == ("__classdict__" : Str)) = false)
    (hb : defBody st = [.Return (some (.List [.Call (.Name "list" p1) [.Subscript (.Name sn p2) (.Slice none (some (.Constant (.int 63) j1 p3)) none p4) p5] [] p6, .Constant (.int 0) j2 p7, .Constant (.int 0) j3 p8, .Constant (.int 10043) j4 p9, .Constant (.int 0) j5 p10] p11)) p12]) :
    FnOk P w K mg base (L2.CX P w) 1 f fd [sn] (spBag K) := by
  refine F.okX S (fun vs H Q E h => ?_) (fun cdv A outer s H vs Q E hr h => ?_)
  · obtain ⟨a, ns, rfl, _⟩ := h
    rfl
  · obtain ⟨a, ns, rfl, hS, k⟩ := h
    rw [hb]
    refine ⟨_, pss_one (ps_ret (pe_lst (pa_cons (pe_callTy call_list_of hgl hl (by decide +kernel) (pa_cons (pe_slice sl_list (pe_var (i := 0) rfl hv hd hcd) po_none (po_some pe_int)) pa_nil)) (pa_cons pe_int (pa_cons pe_int (pa_cons pe_int (pa_cons pe_int pa_nil))))))), ?_⟩
    refine ⟨.ref a, rfl, 63, rfl, a, _, rfl, hS, fun q hq => ?_⟩
    have s1 : Same H (upd H q (.lst (cutV (ns.map V.int) none (some 63)))) := Ex.new hq
    refine ⟨q, _, rfl, .inl (SqL.of upd_same), fun c hc => ?_⟩
    have s2 := s1.trans (Ex.new (o := .lst (cutV (ns.map V.int) none (some 63))) hc)
    refine ⟨by show 5 ≤ sizeLine; decide, fun b hb => ?_⟩
    refine k c b (cutL ns none (some 63)) _ ?_ (s2.trans (Ex.new hb)) (fun e => ?_) ?_ upd_same
    · unfold cutL
      rw [List.length_take, HT.sIx_none]
      have : HT.sIx ns.length ns.length (some 63) = min 63 ns.length := HT.sIx_nat ns.length ns.length 63
      rw [this]
      omega
    · subst e
      rw [upd_same] at hb
      cases hb
    · rw [upd_ne, upd_same, cutV_ints]
      intro e
      subst e
      rw [upd_same] at hb
      cases hb
end
end PD

/-! PD, part j: a law's draw. -/
namespace PD
open PySem PySem.Spec PyProof.Rows L2
/-! the readings of a draw's body -/
abbrev tI (n : Int) : TE := tC (.int n)
abbrev bAt (K : PySem.W.Frag) (n : Int) : TE := tOp (rIxL K) (tVar 0) (tI n)
abbrev gAt (n : Int) : TG := gSub (tVar 0) (tI n) rSetL
abbrev oA : TE → TE → TE := tOp (rI0 fun i j => .int (i + j))
abbrev oM : TE → TE → TE := tOp (rI CMul fun i j => .int (i * j))
abbrev oR : TE → TE → TE := tOp (rI (fun _ j => 0 < j) fun i j => .int (i % j))
abbrev oF : TE → TE → TE := tOp (rI CDiv fun i j => .int (i / j))
abbrev oP : TE → TE → TE := tOp (rI CPow fun i j => .int (i ^ j.toNat))
abbrev tInt1 (t : TE) : TE := tCB rInt1 (tCons t tNil)
def tDrawA (K : PySem.W.Frag) : TS :=
  tSeq (tAsg (tOp (rIxL K) (bAt K 0) (bAt K 1)) (gName 2)) (tSeq (tAsg (oA (bAt K 1) (tI 1)) (gAt 1)) (tSeq (tIfS (tB (tGe (tVar 2) (oP (tI 10) (tI 18)))) (tSeq (tAsg (tVar 2) (gAt 2)) tNext) tNext)
    (tSeq (tAsg (oR (tInt1 (oA (oA (oM (bAt K 3) (tI 44089)) (oM (oR (tInt1 (tVar 2)) (tI 2147480197)) (tI 613))) (tI 29))) (tI 2147483579)) (gAt 3)) tNext)))
def tDrawB (K : PySem.W.Frag) : TS :=
  tSeq (tAsg (oR (tInt1 (bAt K 2)) (tVar 1)) (gName 3)) (tSeq (tAsg (oF (tInt1 (bAt K 2)) (tVar 1)) (gAt 2)) (tSeq (tRet (tVar 3)) tNext))
def tDrawC (K : PySem.W.Frag) : TS :=
  tSeq (tAsg (bAt K 3) (gName 4)) (tSeq (tAsg (oR (tInt1 (oA (oA (oA (oP (tVar 4) (tI 3)) (oM (tVar 4) (tI 40127))) (oM (bAt K 4) (tI 1299647))) (tI 61043))) (tI 2147483579)) (gAt 3))
    (tSeq (tRet (oR (tInt1 (oA (oF (bAt K 3) (tI 83)) (oM (oR (tInt1 (bAt K 3)) (tI 7907)) (tI 59)))) (tVar 1))) tNext))
def tDraw (K : PySem.W.Frag) : TS :=
  tSeq (tAsg (oA (bAt K 4) (tI 1)) (gAt 4)) (tSeq (tIfS (tAnd (tB (tEqI (bAt K 2) (tI 0))) (tB (tLt (bAt K 1) (tCB (rLen K) (tCons (bAt K 0) tNil))))) (tDrawA K) tNext)
    (tSeq (tIfS (tB (tGt (bAt K 2) (tI 0))) (tDrawB K) tNext) (tDrawC K)))

section
variable {K : PySem.W.Frag}
/-- how a bag stands within a draw -/
def bagL (c : Addr) (i1 i2 i3 i4 : Int) : HO := .lst [.ref c, .int i1, .int i2, .int i3, .int i4]
def updB (H : Hp) (b c : Addr) (i1 i2 i3 i4 : Int) : Hp := upd H b (bagL c i1 i2 i3 i4)
theorem updB_upd {H : Hp} {b c : Addr} {i1 i2 i3 i4 : Int} {o : HO} : upd (updB H b c i1 i2 i3 i4) b o = upd H b o := by
  funext a
  unfold updB
  by_cases e : a = b
  · subst e
    rw [upd_same, upd_same]
  · rw [upd_ne e, upd_ne e, upd_ne e]
theorem updB_self {H : Hp} {b c : Addr} {i1 i2 i3 i4 : Int} (h : H b = some (.lst [.ref c, .int i1, .int i2, .int i3, .int i4])) : updB H b c i1 i2 i3 i4 = H := by
  funext a
  unfold updB bagL
  by_cases e : a = b
  · subst e
    rw [upd_same, h]
  · rw [upd_ne e]
variable {H : Hp} {b c : Addr} {i1 i2 i3 i4 : Int} {σ : L2.St} {Q : VK}
theorem bag_sq : SqL K (updB H b c i1 i2 i3 i4) b [.ref c, .int i1, .int i2, .int i3, .int i4] := SqL.of upd_same
theorem bAt_run {n : Int} {v : V} (h0 : σ[0]? = some (some (.ref b))) (hn : atI [V.ref c, .int i1, .int i2, .int i3, .int i4] n = some v) (q : Q v (updB H b c i1 i2 i3 i4)) : bAt K n σ (updB H b c i1 i2 i3 i4) Q :=
  ⟨.ref b, h0, b, _, n, v, rfl, rfl, bag_sq, hn, q⟩
theorem gAt_run {n : Int} {j : Nat} {v : V} {R : L2.St → Hp → Prop} {j1 j2 j3 j4 : Int} (h0 : σ[0]? = some (some (.ref b))) (hn : ixN 5 n = some j) (hs : [V.ref c, .int i1, .int i2, .int i3, .int i4].set j v = [.ref c, .int j1, .int j2, .int j3, .int j4]) (q : R σ (updB H b c j1 j2 j3 j4)) : gAt n v σ (updB H b c i1 i2 i3 i4) R := by
  refine ⟨.ref b, h0, b, _, n, j, rfl, rfl, upd_same, hn, ?_⟩
  rw [hs, updB_upd]
  exact q
theorem int_run {t : TE} {i : Int} (h : t σ H fun x H1 => x = .int i ∧ Q (.int i) H1) (hm : ∀ Q1 Q2 : VK, (∀ x H1, Q1 x H1 → Q2 x H1) → t σ H Q1 → t σ H Q2) : tInt1 t σ H Q :=
  hm _ _ (fun x H1 h => by
    obtain ⟨rfl, q⟩ := h
    exact .inl (.inl ⟨i, rfl, q⟩)) h
theorem small_mul {i j : Int} (h1 : -(2 ^ 64) < j) (h2 : j < 2 ^ 64) : CMul i j := .inr ⟨h1, h2⟩
theorem lt1 : (0 : Int) < 2147483579 := by decide
theorem lt2 : (0 : Int) < 7907 := by decide
theorem lt3 : (0 : Int) < 2147480197 := by decide
theorem drawC_run {D : Ends} {m : Int} {x2 x3 x4 : Option V} (hm : 0 < m) (h3 : 0 ≤ i3) (h3' : i3 < 2147483648)
    (q : ∀ i j3, 0 ≤ i → i < m → 0 ≤ j3 → j3 < 2147483648 → D.rt (.int i) (updB H b c i1 i2 j3 i4)) : tDrawC K D [some (.ref b), some (.int m), x2, x3, x4] (updB H b c i1 i2 i3 i4) := by
  refine bAt_run rfl rfl ?_
  -- seed
  refine ⟨_, rfl, ⟨_, _, rfl, rfl, ⟨by decide, by decide, by show i3.natAbs < 2 ^ 64; omega⟩, ?_⟩⟩
  refine ⟨_, rfl, _, _, rfl, rfl, small_mul (by decide) (by decide), _, _, rfl, rfl, ?_⟩
  refine bAt_run rfl rfl ⟨_, _, rfl, rfl, small_mul (by decide) (by decide), _, _, rfl, rfl, _, _, rfl, rfl, ?_⟩
  refine .inl (.inl ⟨_, rfl, _, _, rfl, rfl, lt1, ?_⟩)
  refine gAt_run (j := 3) (v := _) rfl rfl rfl ?_
  generalize hg : (_ : Int) % 2147483579 = g
  have g0 : 0 ≤ g := by rw [← hg]; exact Int.emod_nonneg _ (by decide)
  have g1 : g < 2147483579 := by rw [← hg]; exact Int.emod_lt_of_pos _ (by decide)
  refine bAt_run rfl rfl ⟨_, _, rfl, rfl, ⟨by decide, by decide⟩, ?_⟩
  refine bAt_run rfl rfl ?_
  refine .inl (.inl ⟨_, rfl, _, _, rfl, rfl, lt2, _, _, rfl, rfl, small_mul (by decide) (by decide), _, _, rfl, rfl, .inl (.inl ⟨_, rfl, _, rfl, _, _, rfl, rfl, hm, ?_⟩)⟩)
  exact q _ _ (Int.emod_nonneg _ (by omega)) (Int.emod_lt_of_pos _ hm) g0 (by omega)
theorem drawB_run {D : Ends} {m : Int} {x2 x3 x4 : Option V} (hm : 0 < m) (hm' : m < 1073741824)
    (q : ∀ i j2, 0 ≤ i → i < m → D.rt (.int i) (updB H b c i1 j2 i3 i4)) : tDrawB K D [some (.ref b), some (.int m), x2, x3, x4] (updB H b c i1 i2 i3 i4) := by
  refine bAt_run rfl rfl ?_
  refine .inl (.inl ⟨_, rfl, _, rfl, _, _, rfl, rfl, hm, ?_⟩)
  refine bAt_run rfl rfl ?_
  refine .inl (.inl ⟨_, rfl, _, rfl, _, _, rfl, rfl, ⟨hm, hm'⟩, ?_⟩)
  refine gAt_run (j := 2) (v := _) rfl rfl rfl ?_
  exact ⟨_, rfl, q _ _ (Int.emod_nonneg _ (by omega)) (Int.emod_lt_of_pos _ hm)⟩
theorem drawA_run {D : Ends} {m : Int} {x3 x4 x5 : Option V} {cells : List Int} (hc : H c = some (.lst (cells.map V.int))) (cb : c ≠ b) (h1 : 0 ≤ i1) (h1' : i1 < cells.length)
    (q : ∀ y2 j2 j3, 0 ≤ j3 → j3 < 2147483648 → D.nx [some (.ref b), some (.int m), y2, x4, x5] (updB H b c (i1 + 1) j2 j3 i4)) : tDrawA K D [some (.ref b), some (.int m), x3, x4, x5] (updB H b c i1 i2 i3 i4) := by
  obtain ⟨n, rfl⟩ := Int.eq_ofNat_of_zero_le h1
  have hn : n < cells.length := by omega
  have hcell : atI (cells.map V.int) (n : Int) = some (.int cells[n]) := atI_nat (by rw [List.getElem?_map, List.getElem?_eq_getElem hn]; rfl)
  have hq : ∀ i1' i2' i3' i4', SqL K (updB H b c i1' i2' i3' i4') c (cells.map V.int) := fun _ _ _ _ => SqL.of (by unfold updB; rw [upd_ne cb]; exact hc)
  refine bAt_run rfl rfl (bAt_run rfl rfl ⟨_, _, _, _, rfl, rfl, hq _ _ _ _, hcell, ?_⟩)
  refine bAt_run rfl rfl ⟨_, _, rfl, rfl, ?_⟩
  refine gAt_run (j := 1) (v := _) rfl rfl rfl ?_
  have fin : ∀ j2, (tSeq (tAsg (oR (tInt1 (oA (oA (oM (bAt K 3) (tI 44089)) (oM (oR (tInt1 (tVar 2)) (tI 2147480197)) (tI 613))) (tI 29))) (tI 2147483579)) (gAt 3)) tNext) D [some (.ref b), some (.int m), some (.int cells[n]), x4, x5] (updB H b c (n + 1) j2 i3 i4) := fun j2 => by
    refine bAt_run rfl rfl ⟨_, _, rfl, rfl, small_mul (by decide) (by decide), ?_⟩
    refine ⟨_, rfl, .inl (.inl ⟨_, rfl, _, _, rfl, rfl, lt3, _, _, rfl, rfl, small_mul (by decide) (by decide), _, _, rfl, rfl, _, _, rfl, rfl, .inl (.inl ⟨_, rfl, _, _, rfl, rfl, lt1, ?_⟩)⟩)⟩
    refine gAt_run (j := 3) (v := _) rfl rfl rfl ?_
    exact q _ _ _ (Int.emod_nonneg _ (by decide)) (Int.lt_trans (Int.emod_lt_of_pos _ (by decide)) (by decide))
  refine ⟨_, rfl, _, _, rfl, rfl, ⟨by decide, by decide, by decide⟩, _, _, rfl, rfl, _, rfl, ?_⟩
  refine ite2 (fun _ => ?_) (fun _ => ?_)
  · refine ⟨_, rfl, ?_⟩
    refine gAt_run (j := 2) (v := _) rfl rfl rfl ?_
    exact fin _
  · exact fin _
theorem draw_run {D : Ends} {m : Int} {x2 x3 x4 : Option V} {cells : List Int} (hc : H c = some (.lst (cells.map V.int))) (cb : c ≠ b) (hb : H b = some (bagL c i1 i2 i3 i4)) (h1 : 0 ≤ i1) (h1' : i1 ≤ cells.length) (h3 : 0 ≤ i3) (h3' : i3 < 2147483648) (hm : 0 < m) (hm' : m < 1073741824)
    (q : ∀ (i j1 j2 j3 j4 : Int), 0 ≤ i → i < m → 0 ≤ j1 → j1 ≤ cells.length → 0 ≤ j3 → j3 < 2147483648 → D.rt (.int i) (updB H b c j1 j2 j3 j4)) : tDraw K D [some (.ref b), some (.int m), x2, x3, x4] H := by
  rw [← updB_self hb]
  refine bAt_run rfl rfl ⟨_, _, rfl, rfl, ?_⟩
  refine gAt_run (j := 4) (v := _) rfl rfl rfl ?_
  have fin : ∀ (y2 : Option V) (j1 j2 j3 : Int), 0 ≤ j1 → j1 ≤ cells.length → 0 ≤ j3 → j3 < 2147483648 → (tSeq (tIfS (tB (tGt (bAt K 2) (tI 0))) (tDrawB K) tNext) (tDrawC K)) D [some (.ref b), some (.int m), y2, x3, x4] (updB H b c j1 j2 j3 (i4 + 1)) := fun y2 j1 j2 j3 a1 a2 a3 a4 => by
    refine bAt_run rfl rfl ⟨_, _, rfl, rfl, _, rfl, ?_⟩
    refine ite2 (fun _ => ?_) (fun _ => ?_)
    · exact drawB_run hm hm' fun i k2 z1 z2 => q i _ _ _ _ z1 z2 a1 a2 a3 a4
    · exact drawC_run hm a3 a4 fun i k3 z1 z2 z3 z4 => q i _ _ _ _ z1 z2 a1 a2 z3 z4
  refine bAt_run rfl rfl ⟨_, _, rfl, rfl, _, rfl, ?_⟩
  refine ite2 (fun _ => ?_) (fun _ => ?_)
  · refine bAt_run rfl rfl (bAt_run rfl rfl ⟨_, cells.length, rfl, .inl ⟨_, SqL.of (by unfold updB; rw [upd_ne cb]; exact hc), by rw [List.length_map]⟩, ⟨_, _, rfl, rfl, _, rfl, ?_⟩⟩)
    refine ite2 (fun h => ?_) (fun h => ?_)
    · have h : i1 < cells.length := of_decide_eq_true h
      exact drawA_run hc cb h1 h fun y2 j2 j3 z1 z2 => fin _ _ _ _ (by omega) (by omega) z1 z2
    · exact fin _ _ _ _ h1 h1' h3 h3'
  · exact fin _ _ _ _ h1 h1' h3 h3'
variable {P : Program} {w : World} {mg : Str → Option Value} {base : Heap}
/-- the draw keeps its promise -/
theorem ok_draw {x : Str} {st : Stmt} {f : Addr} {fd : FuncData} {N ps : List Str} (F : Fun K x x st f fd) (S : FnScope N ps (defScope st)) (hN : N.length = 5) (hp : ps.length = 2)
    (hbody : ∀ (cdv : Value) (A : Around) (outer : List Env) (s : Shared) (H : Hp) (E : XK), PSs (cxD P w K mg base N x (defScope st) f cdv A outer s H E) (defBody st) (tDraw K)) : FnOk P w K mg base (L2.CX P w) 1 f fd ps (spD K spDraw) := by
  refine F.okX S (fun vs H Q E h => ?_) (fun cdv A outer s H vs Q E hr h => ?_)
  · obtain ⟨S', β, ds, kq, kx, _, _, r, ⟨b, m, _, rfl, _⟩, _⟩ := h
    rw [r.1, hp]
    rfl
  · obtain ⟨S', β, ds, kq, kx, e, hb, r, ⟨b, m, rfl, rfl, hm, hm', k⟩, q1, q2⟩ := h
    refine ⟨_, hbody cdv A outer s H E, ?_⟩
    obtain ⟨z, c, cells, i1, i2, i3, i4, h1, h2, h3, h4, h5, h6, h7⟩ := hb b rfl
    match vs, r with
    | [v1, v2], r =>
    have r1 := r.2 0 _ _ rfl rfl
    have r2 := r.2 1 _ _ rfl rfl
    cases r1
    cases r2
    have hst : L2.start N [V.ref b, V.int m] = [some (.ref b), some (.int m), none, none, none] := by
      unfold L2.start
      rw [hN]
      rfl
    rw [hst]
    have cb : c ≠ b := fun e => by
      subst e
      rw [h2] at z
      cases z
    refine draw_run (e _ _ h2) cb h1 h4 h5 h6 h7 hm hm' fun i j1 j2 j3 j4 a1 a2 a3 a4 a5 a6 => ?_
    refine q1 S' _ (.val (.int i)) (.int i) ?_ (.int _) (k i a1 a2)
    refine ⟨fun a o h => ?_, Ex.refl _, fun a o h n => ?_, fun a o h => .inl h, fun b' hb' => ?_⟩
    · unfold updB
      rw [upd_ne]
      · exact e a o h
      · intro e'
        subst e'
        rw [z] at h
        cases h
    · unfold updB
      rw [upd_ne]
      · exact h
      · intro e'
        subst e'
        exact n rfl
    · cases hb'
      refine ⟨⟨z, c, cells, j1, j2, j3, j4, upd_same, h2, h3, a3, a4, a5, a6⟩, ?_⟩
      show H b ≠ none
      rw [h1]
      exact fun z => nomatch z
end
end PD

/-! PD, part k: the rule for a law. -/
namespace PD
open PySem PySem.Spec PyProof.Rows L2
/-- the ends of a law: True, nothing raised -/
def endsL : DEnds := { nx := fun _ => False, rt := fun y => y = .val (.bl true), ex := fun _ _ => False }
theorem snkF {X : Cx} : ∀ σ, PassesAt (L2.CX X.prog X.w) X σ (fun _ _ _ => False) := fun σ pins H s e s' I h => by
  obtain ⟨_, _, _, _, _, _, _, _, _, _, _, _, z⟩ := h
  exact z.elim
section
variable {P : Program} {w : World} {K : PySem.W.Frag} {mg : Str → Option Value} {base : Heap}
/-- the names' start behind the bag -/
def startL (N : List Str) (b : Addr) : DSt := (List.replicate N.length none).set 1 (some (.val (.ref b)))
theorem R.law {N : List Str} {H : Hp} {a b c : Addr} {cells : List Int} (hl : cells.length ≤ 63) (cb : c ≠ b) (hc : H c = some (.lst (cells.map V.int))) (hb : H b = some (.lst [.ref c, .int 0, .int 0, .int 10043, .int 0])) (hN : 2 ≤ N.length) :
    R K ⟨H, upd (fun _ => none) c (.lst (cells.map V.int)), some b⟩ (upd (fun _ => none) c (.lst (cells.map V.int))) (startL N b) ((L2.start N [.ref a]).set 1 (some (.ref b))) H := by
  have hs : ∀ a o, upd (fun _ => none) c (.lst (cells.map V.int)) a = some o → H a = some o := fun a o h => by
    by_cases e : a = c
    · subst e
      rw [upd_same] at h
      rw [hc, h]
    · rw [upd_ne e] at h
      cases h
  refine ⟨⟨hs, Ex.refl _, fun a o h _ => h, fun a o h => .inl h, fun b' hb' => ?_⟩, ?_, fun i => ?_, fun i j a' h1 h2 => ?_⟩
  · cases hb'
    refine ⟨⟨by rw [upd_ne (fun e => cb e.symm)], c, cells, 0, 0, 10043, 0, hb, upd_same, hl, by decide, by omega, by decide, by decide⟩, ?_⟩
    show H b ≠ none
    rw [hb]
    exact fun z => nomatch z
  · unfold startL L2.start
    simp
    omega
  · unfold startL
    by_cases e : i = 1
    · subst e
      rw [List.getElem?_set_self (by simp; omega), List.getElem?_set_self (by unfold L2.start; simp; omega)]
      exact ⟨.ref b, rfl, .ref b⟩
    · rw [List.getElem?_set_ne (fun z => e z.symm), List.getElem?_replicate]
      split <;> trivial
  · obtain ⟨⟨ds, h⟩ | ⟨ds, h⟩, _⟩ := h1 <;>
    · unfold startL at h
      by_cases e : i = 1
      · subst e
        rw [List.getElem?_set_self (by simp; omega)] at h
        cases h
      · rw [List.getElem?_set_ne (fun z => e z.symm), List.getElem?_replicate] at h
        split at h <;> cases h
theorem ok_law {sn : Str} {N : List Str} {st : Stmt} {f : Addr} {fd : FuncData} {k : Nat} (F : Fun K "law" "law" st f fd) (S : FnScope N [sn] (defScope st)) (hN : 2 ≤ N.length)
    (hbody : ∀ (cdv : Value) (A : Around) (outer : List Env) (s : Shared) (H : Hp) (E : XK), Room k (cxD P w K mg base N "law" (defScope st) f cdv A outer s H E).A →
      ∃ st0 rest, defBody st = st0 :: rest ∧ PS (cxD P w K mg base N "law" (defScope st) f cdv A outer s H E) st0 (tAsg (tCallSD (spBag K) [] (fun _ _ _ _ => False) (tCons (tVar 0) tNil)) (gName 1)) ∧
        ∀ Fm, ∃ wb, DSs (cxD P w K mg base N "law" (defScope st) f cdv A outer s H E) Fm (wxD E) rest wb ∧ ∀ b, Fm.bag = some b → wb endsL (startL N b)) : FnOk P w K mg base (L2.CX P w) (k + 1) f fd [sn] (spLaw K) := by
  refine F.okX S (fun vs H Q E h => ?_) (fun cdv A outer s H vs Q E hr h => ?_)
  · obtain ⟨a, ns, rfl, _⟩ := h
    rfl
  · obtain ⟨a, ns, rfl, hS, hlen, q⟩ := h
    obtain ⟨st0, rest, hb, h0, hr⟩ := hbody cdv A outer s H E hr
    rw [hb]
    refine ⟨_, pss_cons h0 (pss_x (w := fun Fm => Classical.choose (hr Fm)) fun Fm => (Classical.choose_spec (hr Fm)).1), ?_⟩
    have st1 : (L2.start N [V.ref a])[0]? = some (some (.ref a)) := by
      unfold L2.start
      rfl
    refine ⟨.ref a, st1, a, ns, rfl, hS, fun c b cells H' hl hs cb hc hb' => ?_⟩
    refine ⟨_, _, _, endsL, R.law hl cb hc hb' hN, (Classical.choose_spec (hr _)).2 b rfl, ⟨fun _ _ _ _ _ _ z => z.elim, fun S2 H2 y v e r sv k => ?_, fun _ _ _ _ _ _ z => z.elim, fun _ _ _ _ _ _ z => z.elim, fun σ dx ρ S2 H2 cls od e r rx k => k.elim⟩⟩
    cases k
    cases sv
    exact q H2
end
end PD

/-! PD, part l: walks of any sequence, zip of either kind, calls with keywords, chains of comparisons. -/
namespace PD
open PySem PySem.Spec PyProof.Rows L2
/-! ### a list, a tuple or a text is walked -/
def seqs : D → (List D → Prop) → Prop := fun d k => match d with
  | .lst xs => k xs
  | .tup xs => k xs
  | .str s => k (signs s)
  | _ => False
section
variable {X : Cx} {F : Fm} {W : WX} {e tg a b c : Expr} {pos p : Pos}
def iSeq (K : PySem.W.Frag) (tl : TE) : TI := fun σ H R => tl σ H fun x H1 => (∃ a, x = .ref a ∧ (∃ xs, SqL K H1 a xs) ∧ R (Itl K a) H1) ∨ (∃ a, x = .ref a ∧ (∃ xs, SqT K H1 a xs) ∧ R (Itt K a) H1) ∨ (∃ s, x = .str s ∧ R (Its s) H1)
theorem pi_seqA {l : Expr} {tl : TE} (hl : PE X l tl) : PI X tg l (iSeq X.K tl) := by
  refine ⟨fun pins s σ H R I h => ?_⟩
  refine thn (hl.run pins s σ H _ I h) fun v s1 ⟨x, H1, I1, r1, q1⟩ => ?_
  rcases q1 with ⟨a, e, ⟨xs, hq⟩, q⟩ | ⟨a, e, ⟨xs, hq⟩, q⟩ | ⟨z, e, q⟩ <;> subst e
  · cases r1
    obtain ⟨vs, rv, pl, hz⟩ := I1.list hq
    refine wpAny_pyIter_list pl.isList ⟨s1.heap.objs.size, [s1.heap.objs.size], _, _, H1, rfl, I1.kept (t' := s1.toks) fun b o e => Heap.get?_push_of_some _ e, turn_list a _, ⟨_, Heap.get?_push_size _ rfl, rfl, rfl⟩, fun b hb => ?_, q⟩
    cases (List.mem_singleton.mp hb : b = s1.heap.objs.size)
    exact I1.fpOk (Nat.le_refl _) (I1.hok.fresh (Nat.le_refl _))
  · cases r1
    obtain ⟨vs, rv, pl, hz⟩ := I1.tuple hq
    refine wpAny_pyIter_tuple (show s1.heap.IsTuple a vs.toArray from pl) ⟨s1.heap.objs.size, [s1.heap.objs.size], _, _, H1, rfl, I1.kept (t' := s1.toks) fun b o e => Heap.get?_push_of_some _ e, turn_tuple a _, ⟨_, Heap.get?_push_size _ rfl, rfl, rfl⟩, fun b hb => ?_, q⟩
    cases (List.mem_singleton.mp hb : b = s1.heap.objs.size)
    exact I1.fpOk (Nat.le_refl _) (I1.hok.fresh (Nat.le_refl _))
  · obtain ⟨t, rfl⟩ := r1
    cases ha : z.cps.all (· < 128)
    · exact wpAny_pyIter_wide ha (pi_one (tk := s1.toks) I1 _ (turn_str _ z t "str_iterator" (.inr rfl)) ⟨_, Heap.get?_push_size _ rfl, rfl, rfl⟩ q)
    · exact wpAny_pyIter_ascii ha (pi_one (tk := s1.toks) I1 _ (turn_str _ z t "str_ascii_iterator" (.inl rfl)) ⟨_, Heap.get?_push_size _ rfl, rfl, rfl⟩ q)
def wSeqs (w : WE) : WA := fun ρ kq kx => w ρ (fun d ρ' => seqs d fun xs => kq xs ρ') kx
theorem di_seq {w : WE} (h : DE X F W e w) : DI X F W tg e (wSeqs w) := by
  obtain ⟨t, p, q⟩ := h.ex
  refine ⟨_, pi_seqA p, fun S ρ σ H Q kq kx r hw hk hx => q S ρ σ H _ _ kx r hw (fun S1 ρ1 H1 d v g rp k => ?_) hx⟩
  unfold seqs at k
  split at k
  · cases rp with
    | @lst a vs ds ha hl rr =>
      refine .inl ⟨a, rfl, ⟨vs, SqL.of (g.r.fz _ _ ha)⟩, hk S1 ρ1 H1 _ _ g ⟨vs.length, _, _, walk_list, hl, fun H2 e2 => SqL.of (e2 _ _ ha), fun S2 H2 i d x H3 e1 e2 hd y => ?_⟩ k⟩
      obtain ⟨rfl, y⟩ := y
      exact .inl ⟨rfl, (rr i d x hd y).mono e1⟩
  · cases rp with
    | @tup a vs ds ha hl rr =>
      refine .inr (.inl ⟨a, rfl, ⟨vs, g.r.fz.t ha⟩, hk S1 ρ1 H1 _ _ g ⟨vs.length, _, _, walk_tup, hl, fun H2 e2 => e2.t ha, fun S2 H2 i d x H3 e1 e2 hd y => ?_⟩ k⟩)
      obtain ⟨rfl, y⟩ := y
      exact .inl ⟨rfl, (rr i d x hd y).mono e1⟩
  · rename_i s
    cases rp
    refine .inr (.inr ⟨_, rfl, hk S1 ρ1 H1 _ _ g ⟨s.cps.size, _, _, walk_str, by simp [signs], fun _ _ => trivial, fun S2 H2 i d x H3 e1 e2 hd y => ?_⟩ k⟩)
    obtain ⟨rfl, c, hc, rfl⟩ := y
    unfold signs at hd
    rw [List.getElem?_map, Array.getElem?_toList, hc] at hd
    cases hd
    exact .inl ⟨rfl, .str _⟩
  · exact k.elim
/-! ### zip of two lists or of two tuples -/
theorem walk_zipT {K : PySem.W.Frag} {a b : Addr} {xs ys : List V} {n : Nat} (hn : n = min xs.length ys.length) : Walk (RZ.ItzT K a b) n (fun H => SqT K H a xs ∧ SqT K H b ys) (YPair (fun i => xs[i]?) (fun i => ys[i]?)) := by
  subst hn
  refine ⟨fun i _ hi q => ?_, fun _ q => ⟨xs, ys, q.1, q.2, by omega⟩, fun i H v H' _ q y => ?_⟩
  · have h1 : i < xs.length := by omega
    have h2 : i < ys.length := by omega
    exact ⟨xs, ys, xs[i], ys[i], q.1, q.2, by simp [h1], by simp [h2]⟩
  · obtain ⟨T, x, z, h1, h2, h3, h4, h5⟩ := y
    exact ⟨T, x, z, h1, h2, h3, h4 xs q.1, h5 ys q.2⟩
def wZipA (w u : WE) : WA := fun ρ kq kx => w ρ (fun d ρ1 => u ρ1 (fun e ρ2 => match d, e with | .lst xs, .lst ys => kq (pairs xs ys) ρ2 | .tup xs, .tup ys => kq (pairs xs ys) ρ2 | _, _ => False) kx) kx
theorem di_zipA {w u : WE} {elts : List Expr} {kk : Nat} {tpos : Pos} (hm : X.mg "zip" = none) (ha : DE X F W a w) (hb : DE X F W b u) (hg : Gl X "zip" := by rfl) (hs : starEach [a, b] X.env = (false, eval a X.env) :: starEach [b] X.env := by rfl) (hs2 : starEach [b] X.env = (false, eval b X.env) :: starEach [] X.env := by rfl)
    (hpl : (backTo pos (starEach [b] X.env)).any (·.1) = false := by rfl) : DI X F W (.Tuple elts kk tpos) (.Call (.Name "zip" p) [a, b] [] pos) (wZipA w u) := by
  obtain ⟨t, p, q⟩ := ha.ex
  obtain ⟨t2, p2, q2⟩ := hb.ex
  refine ⟨_, RZ.pi_zipA hg hm (pa_cons p (pa_cons p2 pa_nil hs2) hs) hs hpl, fun S ρ σ H Q kq kx r hw hk hx => q S ρ σ H _ _ kx r hw (fun S1 ρ1 H1 d v g1 r1 k1 => ?_) hx⟩
  refine q2 S1 ρ1 σ H1 _ _ kx g1.r k1 (fun S2 ρ2 H2 e u g2 r2 k => ?_) (hx.mono g1.ex)
  split at k
  · rename_i xs ys
    obtain ⟨A, vs, rfl, ha, ra⟩ := Pk.l (.inl (r1.mono g2.ex)) (Ex.refl S2)
    obtain ⟨B, us, rfl, hb, rb⟩ := Pk.l (.inl r2) (Ex.refl S2)
    refine ⟨A, B, vs, us, rfl, .inl ⟨SqL.of (g2.r.fz _ _ ha), SqL.of (g2.r.fz _ _ hb), hk S2 ρ2 H2 _ _ (g1.trans g2) ⟨_, _, _, walk_zip rfl, ?_, fun H e => ⟨SqL.of (e _ _ ha), SqL.of (e _ _ hb)⟩, fun S3 H3 i d x H4 e1 e2 hd y => ?_⟩ k⟩⟩
    · rw [ra.1, rb.1]
      simp [pairs]
    · obtain ⟨T, x1, y1, rfl, hT, rfl, hx1, hy1⟩ := y
      obtain ⟨dx, dy, h1, h2, rfl⟩ := getElem?_pairs hd
      exact .inr ⟨T, [x1, y1], [dx, dy], rfl, hT, rfl, rfl, Reps.cons ((ra.2 i dx x1 h1 hx1).mono e1) (Reps.cons ((rb.2 i dy y1 h2 hy1).mono e1) Reps.nil)⟩
  · rename_i xs ys
    obtain ⟨A, vs, rfl, ha, ra⟩ := Pk.t (.inl (r1.mono g2.ex)) (Ex.refl S2)
    obtain ⟨B, us, rfl, hb, rb⟩ := Pk.t (.inl r2) (Ex.refl S2)
    refine ⟨A, B, vs, us, rfl, .inr ⟨g2.r.fz.t ha, g2.r.fz.t hb, hk S2 ρ2 H2 _ _ (g1.trans g2) ⟨_, _, _, walk_zipT rfl, ?_, fun H e => ⟨e.t ha, e.t hb⟩, fun S3 H3 i d x H4 e1 e2 hd y => ?_⟩ k⟩⟩
    · rw [ra.1, rb.1]
      simp [pairs]
    · obtain ⟨T, x1, y1, rfl, hT, rfl, hx1, hy1⟩ := y
      obtain ⟨dx, dy, h1, h2, rfl⟩ := getElem?_pairs hd
      exact .inr ⟨T, [x1, y1], [dx, dy], rfl, hT, rfl, rfl, Reps.cons ((ra.2 i dx x1 h1 hx1).mono e1) (Reps.cons ((rb.2 i dy y1 h2 hy1).mono e1) Reps.nil)⟩
  · exact k.elim
/-! ### a op b op c -/
def wChain (o o' : O2) (wa wb wc : WE) : WE := fun ρ kq kx => wa ρ (fun d ρ1 => wb ρ1 (fun e ρ2 => o d e fun c => match c with
  | .bl b => if b = true then wc ρ2 (fun f ρ3 => o' e f fun z => kq z ρ3) kx else kq (.bl false) ρ2
  | _ => False) kx) kx
theorem run_chain {K : PySem.W.Frag} {r r' : R2} {o o' : O2} {ta tb tc : TE} {wa wb wc : WE} (h1 : RunE K F W ta wa) (h2 : RunE K F W tb wb) (h3 : RunE K F W tc wc) (p : Op2 K r o) (p' : Op2 K r' o') : RunE K F W (tChain r r' ta tb tc) (wChain o o' wa wb wc) := fun S ρ σ H Q kq kx rr hw hk hx => by
  refine h1 S ρ σ H _ _ kx rr hw (fun S1 ρ1 H1 d v g1 r1 k1 => ?_) hx
  refine h2 S1 ρ1 σ H1 _ _ kx g1.r k1 (fun S2 ρ2 H2 e u g2 r2 k2 => ?_) (hx.mono g1.ex)
  refine p F S2 ρ2 σ H2 d v e u _ _ g2.r (.inl (r1.mono g2.ex)) (.inl r2) k2 fun S3 H3 c z g3 r3 k3 => ?_
  have g12 := (g1.trans g2).trans g3
  split at k3
  · rename_i b
    cases r3
    cases b with
    | false => exact ⟨false, rfl, iteF (hk S3 ρ2 H3 (.bl false) _ g12 (.bl false) (by simpa using k3))⟩
    | true =>
    refine ⟨true, rfl, iteT (h3 S3 ρ2 σ H3 _ _ kx g3.r (by simpa using k3) (fun S4 ρ4 H4 f y g4 r4 k4 => ?_) (hx.mono g12.ex))⟩
    refine p' F S4 ρ4 σ H4 e u f y _ _ g4.r (.inl (r2.mono (g3.ex.trans g4.ex))) (.inl r4) k4 fun S5 H5 c2 z2 g5 r5 k5 => ?_
    exact hk S5 ρ4 H5 c2 z2 ((g12.trans g4).trans g5) r5 k5
  · exact k3.elim
theorem d_chain {op op' : CmpOp} {r r' : R2} {o o' : O2} {wa wb wc : WE} (ho : OpR X (compareOp op) r) (p1 : Op2 X.K r o) (ho' : OpR X (compareOp op') r') (p2 : Op2 X.K r' o') (ha : DE X F W a wa) (hb : DE X F W b wb) (hc : DE X F W c wc) (hm : lastMarks [op, op'] [b, c] = false := by with_unfolding_all rfl) :
    DE X F W (.Compare a [op, op'] [b, c] pos) (wChain o o' wa wb wc) := by
  obtain ⟨ta, q1, z1⟩ := ha.ex
  obtain ⟨tb, q2, z2⟩ := hb.ex
  obtain ⟨tc, q3, z3⟩ := hc.ex
  exact ⟨_, pe_chain ho ho' q1 q2 q3 hm, run_chain z1 z2 z3 p1 p2⟩
theorem dt_chain {op op' : CmpOp} {r r' : R2} {o o' : O2} {wa wb wc : WE} (ho : OpR X (compareOp op) r) (p1 : Op2 X.K r o) (ho' : OpR X (compareOp op') r') (p2 : Op2 X.K r' o') (ha : DE X F W a wa) (hb : DE X F W b wb) (hc : DE X F W c wc) (hm : lastMarks [op, op'] [b, c] = false := by with_unfolding_all rfl) :
    DT X F W (.Compare a [op, op'] [b, c] pos) (wTst (wChain o o' wa wb wc)) := by
  obtain ⟨ta, q1, z1⟩ := ha.ex
  obtain ⟨tb, q2, z2⟩ := hb.ex
  obtain ⟨tc, q3, z3⟩ := hc.ex
  refine ⟨_, pt_chain ho ho' q1 q2 q3 hm, fun S ρ σ H Q kq kx r hw hk hx => run_chain z1 z2 z3 p1 p2 S ρ σ H _ _ kx r hw (fun S1 ρ1 H1 d v g rp k => ?_) hx⟩
  split at k
  · cases rp
    exact ⟨_, rfl, hk S1 ρ1 H1 _ g k⟩
  · exact k.elim
end
/-! ### -e -/
def wNegE (w : WE) : WE := fun ρ kq kx => w ρ (fun d ρ' => match d with | .int i => kq (.int (-i)) ρ' | _ => False) kx
section
variable {X : Cx} {F : Fm} {W : WX} {e : Expr} {pos : Pos}
theorem d_neg {w : WE} (h : DE X F W e w) : DE X F W (.UnaryOp .USub e pos) (wNegE w) := by
  obtain ⟨t, p, q⟩ := h.ex
  refine ⟨_, pe_un un_neg p, fun S ρ σ H Q kq kx r hw hk hx => q S ρ σ H _ _ kx r hw (fun S1 ρ1 H1 d v g rp k => ?_) hx⟩
  split at k
  · cases rp
    exact ⟨_, rfl, hk S1 ρ1 H1 _ _ g (.int _) k⟩
  · exact k.elim
end
/-! ### calls with keywords and defaults -/
def pick {α : Type} (idx : List Nat) (xs : List α) : List α := idx.filterMap fun i => xs[i]?
theorem Vals.len {vs : List V} {us : List Value} (r : Vals vs us) : vs.length = us.length := r.length
theorem vals_pick {vs : List V} {us : List Value} (r : Vals vs us) : ∀ idx : List Nat, Vals (pick idx vs) (pick idx us)
  | [] => .nil
  | i :: idx => by
    unfold pick
    cases h : vs[i]? with
    | none =>
      have h2 : us[i]? = none := by
        rw [List.getElem?_eq_none_iff] at h ⊢
        rw [← r.length]
        exact h
      rw [List.filterMap_cons_none h, List.filterMap_cons_none h2]
      exact vals_pick r idx
    | some v =>
      obtain ⟨u, hu, ru⟩ := r.get h
      rw [List.filterMap_cons_some h, List.filterMap_cons_some hu]
      exact .cons ru (vals_pick r idx)
theorem reps_pick {K : PySem.W.Frag} {S : Hp} {ds : List D} {vs : List V} (r : Reps K S ds vs) : ∀ idx : List Nat, Reps K S (pick idx ds) (pick idx vs)
  | [] => Reps.nil
  | i :: idx => by
    unfold pick
    cases h : ds[i]? with
    | none =>
      have h2 : vs[i]? = none := by
        rw [List.getElem?_eq_none_iff] at h ⊢
        rw [r.1]
        exact h
      rw [List.filterMap_cons_none h, List.filterMap_cons_none h2]
      exact reps_pick r idx
    | some d =>
      have hi : i < vs.length := by
        rw [r.1]
        exact (List.getElem?_eq_some_iff.mp h).1
      rw [List.filterMap_cons_some h, List.filterMap_cons_some (List.getElem?_eq_getElem hi)]
      exact Reps.cons (r.2 i d _ h (List.getElem?_eq_getElem hi)) (reps_pick r idx)
/-- n values and the keywords ks bind: the parameters take, of values, keywords' values and us, those at idx -/
def Bd (K : PySem.W.Frag) (fd : FuncData) (ps : List Str) (n : Nat) (ks : List Str) (idx : List Nat) (us : List Value) : Prop := ∀ (s : Shared) (xs ws : List Value), K.In s.heap → xs.length = n → ws.length = ks.length → BindsTo s fd ⟨xs, ks.zip ws⟩ (ps.zip (pick idx (xs ++ ws ++ us)))
theorem Fun.bd {K : PySem.W.Frag} {x qual : Str} {st : Stmt} {f : Addr} {fd : FuncData} {ps ks : List Str} {n : Nat} {idx : List Nat} (F : Fun K x qual st f fd)
    (h : ∀ (kV doc pm : Value) (an : Option Addr) (cdv ct : Value) (xs ws : List Value), xs.length = n → ws.length = ks.length → bindArgs (PySem.W.fnOf x qual (defArgs st) (defBody st) (defScope st) .none kV doc pm an cdv ct) ⟨xs, ks.zip ws⟩ = pure (ps.zip (pick idx (xs ++ ws ++ [])))) : Bd K fd ps n ks idx [] := by
  obtain ⟨oc, od, kV, doc, pm, an, cdv, ct, osl, rfl, lk, hcd⟩ := F.ex
  exact fun s xs ws _ h1 h2 => .of_eq (h kV doc pm an cdv ct xs ws h1 h2)
def tCallW (n m : Nat) (idx : List Nat) (sp : Sp) (dvs : List V) (E : L2.St → XK) (t tk : TA) : TE := fun σ H Q => t σ H fun vs H1 => tk σ H1 fun zs H2 => vs.length = n ∧ zs.length = m ∧ (pick idx (vs ++ zs ++ dvs)).length = (pick idx (vs ++ zs ++ dvs)).length ∧ sp (pick idx (vs ++ zs ++ dvs)) H2 Q (E σ)
section
variable {X : Cx} {CX : CXT} {k n : Nat} {f : Addr} {fd : FuncData} {ps ks : List Str} {sp : Sp} {E : L2.St → XK} {x : Str} {p pos : Pos} {e : Expr} {es : List Expr} {kws : List Keyword} {t tk : TA} {idx : List Nat} {dvs : List V} {ds : List Value}
theorem run_fnW {pins : List (Addr × Obj)} {σ : L2.St} {H : Hp} {s : Shared} {Q : VK} {us ws : List Value} {vs zs : List V} (F : FnOk X.prog X.w X.K X.mg X.base CX k f fd ps sp) (hr : Room k X.A) (hb : Bd X.K fd ps n ks idx ds) (hd : Vals dvs ds) (hx : PassesAt CX X σ (E σ))
    (I : Inv X pins σ H s) (r : Vals vs us) (rz : Vals zs ws) (l1 : vs.length = n) (l2 : zs.length = ks.length) (h : sp (pick idx (vs ++ zs ++ dvs)) H Q (E σ)) : wpAny (model X.prog X.w) X.A (call (.ref f) us (ks.zip ws)) (EP X pins σ Q) X.xe s := by
  have r3 : Vals (pick idx (vs ++ zs ++ dvs)) (pick idx (us ++ ws ++ ds)) := vals_pick ((r.append rz).append hd) idx
  refine wpAny_call (codeAny_mono (F.run X.A X.stack s H ⟨us, ks.zip ws⟩ (pick idx (us ++ ws ++ ds)) (pick idx (vs ++ zs ++ dvs)) Q (E σ) hr I.env0 (hb s us ws I.kIn (r.length.symm.trans l1) (rz.length.symm.trans l2)) r3 h) fun y s' hq => ?_)
  cases y with
  | error e => exact hx pins H s e s' I hq
  | ok fl =>
    cases fl with
    | ret u => exact I.after hq
    | next => exact False.elim hq
    | brk => exact False.elim hq
    | cont => exact False.elim hq
theorem pe_callW (F : FnOk X.prog X.w X.K X.mg X.base CX k f fd ps sp) (hr : Room k X.A) (hg : Gl X x) (hm : X.mg x = some (.ref f)) (hk : PySem.W.keepIn X.K (.ref f) = true) (hb : Bd X.K fd ps n ks idx ds) (hd : Vals dvs ds) (hx : ∀ σ, PassesAt CX X σ (E σ))
    (ha : PA X (e :: es) t) (hkw : PK X kws tk) (hall : (backToKw pos (keywordEach kws X.env)).all (·.1.isSome) = true := by rfl) (hks : (backToKw pos (keywordEach kws X.env)).filterMap (·.1) = ks := by rfl)
    (hdb : (x == ("__debug__" : Str)) = false := by decide) (he : starEach (e :: es) X.env = (false, eval e X.env) :: starEach es X.env := by rfl)
    (hpl : ((backTo pos (starEach (e :: es) X.env)).any (·.1) || (backToKw pos (keywordEach kws X.env)).any (·.1.isNone)) = false := by rfl) :
    PE X (.Call (.Name x p) (e :: es) kws pos) (tCallW n ks.length idx sp dvs E t tk) := by
  refine ⟨fun pins s σ H Q I h => wpAny_Call_Name_kw (ld_glob I hg hm ?_ hdb)⟩
  refine PySem.W.callWith_KW (h₀ := X.base) I.ok.mod.kin hk hall (thn (ha.run pos pins s σ H _ I h) fun us s1 ⟨vs, H1, I1, r, q⟩ => ?_) hpl he
  refine thn (hkw.run pos pins s1 σ H1 _ I1 q) fun ws s2 ⟨zs, H2, I2, rz, l1, l2, _, q2⟩ => ⟨I2.kIn, ?_⟩
  rw [hks]
  exact run_fnW F hr hb hd (hx σ) I2 r rz l1 l2 q2
theorem pe_callW0 (F : FnOk X.prog X.w X.K X.mg X.base CX k f fd ps sp) (hr : Room k X.A) (hg : Gl X x) (hm : X.mg x = some (.ref f)) (hk : PySem.W.keepIn X.K (.ref f) = true) (hb : Bd X.K fd ps n ks idx ds) (hd : Vals dvs ds) (hx : ∀ σ, PassesAt CX X σ (E σ))
    (hkw : PK X kws tk) (hall : (backToKw pos (keywordEach kws X.env)).all (·.1.isSome) = true := by rfl) (hks : (backToKw pos (keywordEach kws X.env)).filterMap (·.1) = ks := by rfl)
    (hdb : (x == ("__debug__" : Str)) = false := by decide)
    (hpl : ((backTo pos (starEach [] X.env)).any (·.1) || (backToKw pos (keywordEach kws X.env)).any (·.1.isNone)) = false := by rfl) :
    PE X (.Call (.Name x p) [] kws pos) (tCallW n ks.length idx sp dvs E tNil tk) := by
  refine ⟨fun pins s σ H Q I h => wpAny_Call_Name_kw (ld_glob I hg hm ?_ hdb)⟩
  refine PySem.W.callWith_KW0 (h₀ := X.base) I.ok.mod.kin hk hall (thn (hkw.run pos pins s σ H _ I h) fun ws s2 ⟨zs, H2, I2, rz, l1, l2, _, q2⟩ => ⟨I2.kIn, ?_⟩) hpl
  rw [hks]
  exact run_fnW F hr hb hd (hx σ) I2 .nil rz l1 l2 q2
end
/-- what comes behind, as simp leaves it alone -/
def Hid {α : Type} (f : α) : Type := Unit
def hid0 {α : Type} (f : α) : Hid f := ()
def hid {α : Type} (f : α) (u : Hid f) : α := f
theorem hid_app {α : Type} (f : α → Prop) (u : Hid f) (a : α) : hid f u a = f a := rfl
structure DK (X : Cx) (F : Fm) (W : WX) (kws : List Keyword) (w : WA) : Prop where
  ex : ∃ t, PK X kws t ∧ RunA X.K F W t w
def wCallW (β : Option Addr) (n m : Nat) (idx : List Nat) (sp : SpD) (dds : List D) (u uk : WA) : WV := fun ρ kq kx => u ρ (fun ds ρ1 => uk ρ1 (fun zs ρ2 => (ds.length = n ∧ zs.length = m) ∧ sp β (pick idx (ds ++ zs ++ dds)) (hid (fun y => kq y ρ2) (hid0 _)) (hid (fun dx => kx dx ρ2) (hid0 _))) kx) kx
def wCallWE (β : Option Addr) (n m : Nat) (idx : List Nat) (sp : SpD) (dds : List D) (u uk : WA) : WE := fun ρ kq kx => u ρ (fun ds ρ1 => uk ρ1 (fun zs ρ2 => (ds.length = n ∧ zs.length = m) ∧ sp β (pick idx (ds ++ zs ++ dds)) (hid (fun y => kq y.d ρ2) (hid0 _)) (hid (fun dx => kx dx ρ2) (hid0 _))) kx) kx
theorem run_callW {K : PySem.W.Frag} {F : Fm} {W : WX} {sp : SpD} {t tk : TA} {u uk : WA} {dvs : List V} {dds : List D} {n m : Nat} {idx : List Nat} (h : RunA K F W t u) (h' : RunA K F W tk uk) (hd : ∀ S, Reps K S dds dvs) : RunV K F W (tCallW n m idx (spD K sp) dvs (fun σ cls od H => W cls od σ H) t tk) (wCallW F.bag n m idx sp dds u uk) := fun S ρ σ H Q kq kx r hw hk hx =>
  h S ρ σ H _ _ kx r hw (fun S0 ρ0 H0 ds vs g0 rp0 k0 => h' S0 ρ0 σ H0 _ _ kx g0.r k0 (fun S1 ρ1 H1 zs us g1 rz k1 => by
    have rd := rp0.mono g1.ex
    refine ⟨rd.1.trans k1.1.1, rz.1.trans k1.1.2, rfl, S1, F.bag, _, _, _, g1.r.fz, fun b hb => (g1.r.bag b hb).1, reps_pick ((rd.append rz).append (hd S1)) idx, k1.2, fun S2 H2 y v r2 sv k2 => ?_, fun S2 H2 dx cls od r2 rx k2 => ?_⟩
    · obtain ⟨s1, n1⟩ := sv.ok g1.r
      exact hk S2 ρ1 H2 y v (g0.trans (g1.trans (Go.call g1.r r2))) s1 (fun p e hy => g0.up p (g1.up p (n1 p e hy))) k2
    · have g2 := g1.trans (Go.call g1.r r2)
      exact hx dx ρ1 S2 H2 cls od (g0.ex.trans g2.ex) g2.r rx k2) (hx.mono g0.ex)) hx
section
variable {X : Cx} {F : Fm} {W : WX} {k n : Nat} {f : Addr} {fd : FuncData} {ps ks : List Str} {sp : SpD} {dvs : List V} {dds : List D} {us : List Value} {x : Str} {p pos : Pos} {e : Expr} {es : List Expr} {kws : List Keyword} {idx : List Nat}
theorem dk_nil : DK X F W [] wNil := ⟨_, pk_nil, fun S ρ σ H Q kq kx rr hw hk hx => hk S ρ H [] [] (Go.refl rr) Reps.nil hw⟩
theorem dk_cons {nm : Option Str} {kpos : Pos} {w : WE} {u : WA} (h : DE X F W e w) (hr : DK X F W kws u) : DK X F W (⟨nm, e, kpos⟩ :: kws) (wCons w u) := by
  obtain ⟨t, p1, q1⟩ := h.ex
  obtain ⟨t2, p2, q2⟩ := hr.ex
  exact ⟨_, pk_cons p1 p2, fun S ρ σ H Q kq kx rr hw hk hx => q1 S ρ σ H _ _ kx rr hw (fun S1 ρ1 H1 d v g1 r1 k1 => q2 S1 ρ1 σ H1 _ _ kx g1.r k1 (fun S2 ρ2 H2 ds vs g2 r2 k2 => hk S2 ρ2 H2 (d :: ds) (v :: vs) (g1.trans g2) (Reps.cons (r1.mono g2.ex) r2) k2) (hx.mono g1.ex)) hx⟩
theorem dv_callW {u uk : WA} (G : FnOk X.prog X.w X.K X.mg X.base (L2.CX X.prog X.w) k f fd ps (spD X.K sp)) (hr : Room k X.A) (hm : X.mg x = some (.ref f)) (hk : PySem.W.keepIn X.K (.ref f) = true) (hb : Bd X.K fd ps n ks idx us) (hv : Vals dvs us) (hd : ∀ S, Reps X.K S dds dvs) (hx : Snk X W) (ha : DA X F W (e :: es) u) (hkw : DK X F W kws uk)
    (hg : Gl X x := by rfl) (hall : (backToKw pos (keywordEach kws X.env)).all (·.1.isSome) = true := by rfl) (hks : (backToKw pos (keywordEach kws X.env)).filterMap (·.1) = ks := by rfl) (hdb : (x == ("__debug__" : Str)) = false := by decide)
    (he : starEach (e :: es) X.env = (false, eval e X.env) :: starEach es X.env := by rfl) (hpl : ((backTo pos (starEach (e :: es) X.env)).any (·.1) || (backToKw pos (keywordEach kws X.env)).any (·.1.isNone)) = false := by rfl) :
    DV X F W (.Call (.Name x p) (e :: es) kws pos) (wCallW F.bag n ks.length idx sp dds u uk) := by
  obtain ⟨t, q1, q⟩ := ha.ex
  obtain ⟨t2, q2, q'⟩ := hkw.ex
  exact ⟨_, pe_callW (E := fun σ cls od H => W cls od σ H) G hr hg hm hk hb hv hx q1 q2 hall hks hdb he hpl, run_callW q q' hd⟩
theorem dv_callW0 {uk : WA} (G : FnOk X.prog X.w X.K X.mg X.base (L2.CX X.prog X.w) k f fd ps (spD X.K sp)) (hr : Room k X.A) (hm : X.mg x = some (.ref f)) (hk : PySem.W.keepIn X.K (.ref f) = true) (hb : Bd X.K fd ps n ks idx us) (hv : Vals dvs us) (hd : ∀ S, Reps X.K S dds dvs) (hx : Snk X W) (hkw : DK X F W kws uk)
    (hg : Gl X x := by rfl) (hall : (backToKw pos (keywordEach kws X.env)).all (·.1.isSome) = true := by rfl) (hks : (backToKw pos (keywordEach kws X.env)).filterMap (·.1) = ks := by rfl) (hdb : (x == ("__debug__" : Str)) = false := by decide)
    (hpl : ((backTo pos (starEach [] X.env)).any (·.1) || (backToKw pos (keywordEach kws X.env)).any (·.1.isNone)) = false := by rfl) :
    DV X F W (.Call (.Name x p) [] kws pos) (wCallW F.bag n ks.length idx sp dds wNil uk) := by
  obtain ⟨t2, q2, q'⟩ := hkw.ex
  exact ⟨_, pe_callW0 (E := fun σ cls od H => W cls od σ H) G hr hg hm hk hb hv hx q2 hall hks hdb hpl, run_callW (t := tNil) (fun S ρ σ H Q kq kx rr hw hk hx => hk S ρ H [] [] (Go.refl rr) Reps.nil hw) q' hd⟩
/-- the value of a call comes to rest -/
theorem d_vW {β : Option Addr} {n m : Nat} {u uk : WA} (h : DV X F W e (wCallW β n m idx sp dds u uk)) : DE X F W e (wCallWE β n m idx sp dds u uk) := by
  obtain ⟨t, q1, q⟩ := (d_v h).ex
  refine ⟨t, q1, fun S ρ σ H Q kq kx r hw hk hx => q S ρ σ H Q kq kx r ?_ hk hx⟩
  have e : (fun (y : SV) (ρ' : DSt) => kq y.d ρ') = (fun y ρ' => match y with | .val d => kq d ρ' | .own ds => kq (.lst ds) ρ' | .ownK kvs => kq (.dic kvs) ρ') := by
    funext y ρ'
    cases y <;> rfl
  have hw2 : wCallW β n m idx sp dds u uk ρ (fun y ρ' => kq y.d ρ') kx := hw
  rw [e] at hw2
  exact hw2
end
end PD

/-! PD, part m: plain laws: texts as lists of signs, slices, isinstance, comprehensions and loops by their turns. -/
namespace PD
open PySem PySem.Spec PyProof.Rows L2
/-! ### texts -/
def tx (l : List Nat) : Str := ⟨l.toArray⟩
def cs (s : Str) : List Nat := s.cps.toList
theorem tx_cs (s : Str) : tx (cs s) = s := rfl
theorem cs_tx (l : List Nat) : cs (tx l) = l := rfl
theorem tx_len (l : List Nat) : (tx l).length = l.length := by
  unfold tx Str.length
  simp
theorem cs_len (s : Str) : s.length = (cs s).length := by
  unfold cs Str.length
  simp
theorem tx_app (a b : List Nat) : tx a ++ tx b = tx (a ++ b) := by
  show Str.append (tx a) (tx b) = tx (a ++ b)
  unfold Str.append tx
  simp
theorem tx_inj {a b : List Nat} : tx a = tx b ↔ a = b := ⟨fun h => congrArg cs h, fun h => congrArg tx h⟩
theorem tx_beq (a b : List Nat) : (tx a == tx b) = decide (a = b) := by
  by_cases h : a = b
  · subst h
    simp
  · rw [decide_eq_false h]
    exact beq_eq_false_iff_ne.mpr fun z => h (tx_inj.mp z)
theorem tx_cps (l : List Nat) : (tx l).cps.toList = l := by
  unfold tx
  simp
theorem one_tx (c : Nat) : (⟨#[c]⟩ : Str) = tx [c] := rfl
theorem tx_one {a b : Nat} : tx [a] = tx [b] ↔ a = b := by
  rw [tx_inj]
  simp
theorem tx_cut (l : List Nat) (lo hi : Option Int) : cutS (tx l) lo hi = tx (cutL l lo hi) := rfl
theorem tx_signs (l : List Nat) : signs (tx l) = l.map fun c => .str (tx [c]) := rfl
theorem tx_at (l : List Nat) (i : Int) : atI (tx l).cps.toList i = atI l i := rfl
theorem tx_in (c : Nat) (l : List Nat) : inS (tx [c]) (tx l) = decide (c ∈ l) := rfl
theorem tx_str (s : String) : Str.ofString s = tx (s.toList.map Char.toNat) := Str.ofString_eq_toList s
theorem tx_join : ∀ ls : List (List Nat), Txt.join (tx []) (ls.map tx) = tx ls.flatten
  | [] => rfl
  | l :: ls => by
    show Builtin.Str.glued (tx []) ((l :: ls).map tx) = _
    rw [StrLaws.glued_eq_join]
    have ih := tx_join ls
    change Builtin.Str.glued (tx []) (ls.map tx) = _ at ih
    rw [StrLaws.glued_eq_join] at ih
    cases ls with
    | nil => simp [Str.join]
    | cons m ls =>
      show tx l ++ tx [] ++ Str.join (tx []) ((m :: ls).map tx) = _
      rw [ih, tx_app, tx_app]
      simp
/-! ### slices, places -/
theorem cut_from {α : Type} (xs : List α) (k : Nat) : cutL xs (some (k : Int)) none = xs.drop k := by
  unfold cutL
  rw [HT.sIx_nat, HT.sIx_none]
  by_cases h : k ≤ xs.length
  · rw [Nat.min_eq_left h]
    exact List.take_of_length_le (by simp)
  · rw [Nat.min_eq_right (by omega), List.drop_length, List.drop_of_length_le (by omega), List.take_nil]
theorem cut_to {α : Type} (xs : List α) (k : Nat) : cutL xs none (some (k : Int)) = xs.take k := by
  unfold cutL
  rw [HT.sIx_nat, HT.sIx_none, List.drop_zero, Nat.sub_zero]
  by_cases h : k ≤ xs.length
  · rw [Nat.min_eq_left h]
  · rw [Nat.min_eq_right (by omega), List.take_length, List.take_of_length_le (by omega)]
theorem cut_toI {α : Type} (xs : List α) {k : Int} (h : 0 ≤ k) : cutL xs none (some k) = xs.take k.toNat := by
  obtain ⟨n, rfl⟩ := Int.eq_ofNat_of_zero_le h
  exact cut_to xs n
theorem cut_fromI {α : Type} (xs : List α) {k : Int} (h : 0 ≤ k) : cutL xs (some k) none = xs.drop k.toNat := by
  obtain ⟨n, rfl⟩ := Int.eq_ofNat_of_zero_le h
  exact cut_from xs n
theorem cut_neg1 {α : Type} (xs : List α) : cutL xs none (some (-1)) = xs.dropLast := by
  unfold cutL
  rw [HT.sIx_none, List.drop_zero, Nat.sub_zero, List.dropLast_eq_take]
  have e : HT.sIx xs.length xs.length (some (-1)) = xs.length - 1 := by
    show (if (-1 : Int) < 0 then ((-1 : Int) + (xs.length : Int)).toNat else min (-1 : Int).toNat xs.length) = xs.length - 1
    rw [if_pos (by decide)]
    omega
  rw [e]
theorem cut_all {α : Type} (xs : List α) : cutL xs none none = xs := by
  unfold cutL
  rw [HT.sIx_none, HT.sIx_none, List.drop_zero, Nat.sub_zero, List.take_length]
theorem atI_get {α : Type} {xs : List α} {i : Int} (h : 0 ≤ i) (h2 : i < xs.length) : atI xs i = some (xs[i.toNat]'(by omega)) := by
  obtain ⟨n, rfl⟩ := Int.eq_ofNat_of_zero_le h
  exact atI_nat (List.getElem?_eq_getElem (by omega))
theorem atI_mem {α : Type} {xs : List α} {i : Int} (h : 0 ≤ i) (h2 : i < xs.length) : ∃ x ∈ xs, atI xs i = some x := ⟨_, List.getElem_mem (by omega), atI_get h h2⟩
theorem atI_hd {α : Type} (x : α) (xs : List α) : atI (x :: xs) 0 = some x := atI_nat (j := 0) rfl
/-! ### isinstance -/
def isT (T : String) (d : D) : Bool := match tyD d with
  | some a => isB a T
  | none => false
theorem kit_ok : ∀ a ∈ tyNames, ∀ T ∈ ["str", "int", "bool", "list", "tuple", "dict"], kitB a T = some (isB a T) := by decide +kernel
theorem ty_name {d : D} {a : String} (h : tyD d = some a) : a ∈ tyNames := by
  cases d <;> cases h <;> decide
theorem isi_run {T : String} {d : D} {k : D → Prop} (hd : (tyD d).isSome = true) (hT : T ∈ ["str", "int", "bool", "list", "tuple", "dict"] := by decide) (h : k (.bl (isT T d))) : oIsi T d k := by
  unfold oIsi
  unfold isT at h
  cases e : tyD d with
  | none => rw [e] at hd; cases hd
  | some a =>
    rw [e] at h
    exact ⟨kit_ok a (ty_name e) T hT, h⟩
theorem isi_eq {T : String} {d : D} {k : D → Prop} (hd : (tyD d).isSome = true) (hT : (["str", "int", "bool", "list", "tuple", "dict"].contains T) = true) : oIsi T d k = k (.bl (isT T d)) := by
  apply propext
  refine ⟨fun h => ?_, isi_run hd (by simpa using hT)⟩
  unfold oIsi at h
  unfold isT
  cases e : tyD d with
  | none => rw [e] at hd; cases hd
  | some a =>
    rw [e] at h
    exact h.2
theorem isi2_eq {T U : String} {d : D} {k : D → Prop} (hd : (tyD d).isSome = true) (hT : (["str", "int", "bool", "list", "tuple", "dict"].contains T) = true) (hU : (["str", "int", "bool", "list", "tuple", "dict"].contains U) = true) : oIsi2 T U d k = k (.bl (isT T d || isT U d)) := by
  apply propext
  unfold oIsi2 isT
  cases e : tyD d with
  | none => rw [e] at hd; cases hd
  | some a => exact ⟨fun h => h.2, fun h => ⟨⟨kit_ok a (ty_name e) T (by simpa using hT), kit_ok a (ty_name e) U (by simpa using hU)⟩, h⟩⟩
/-! ### comprehensions -/
inductive Fa2 {α β : Type} (P : α → β → Prop) : List α → List β → Prop
  | nil : Fa2 P [] []
  | cons {a : α} {b : β} {as : List α} {bs : List β} (h : P a b) (t : Fa2 P as bs) : Fa2 P (a :: as) (b :: bs)
theorem Fa2.len {α β : Type} {P : α → β → Prop} {as : List α} {bs : List β} (h : Fa2 P as bs) : bs.length = as.length := by
  induction h with
  | nil => rfl
  | cons _ _ ih => exact congrArg Nat.succ ih
theorem Fa2.map {α β : Type} {f : α → β} {as : List α} {bs : List β} (h : Fa2 (fun a b => b = f a) as bs) : bs = as.map f := by
  induction h with
  | nil => rfl
  | cons h _ ih => rw [h, ih]; rfl
theorem Fa2.all {α β : Type} {P : α → β → Prop} {R : β → Prop} {as : List α} {bs : List β} (h : Fa2 P as bs) (hp : ∀ a b, a ∈ as → P a b → R b) : ∀ b ∈ bs, R b := by
  induction h with
  | nil => exact fun b hb => by cases hb
  | cons h _ ih =>
    intro b hb
    rcases List.mem_cons.mp hb with e | hb
    · subst e
      exact hp _ _ (List.mem_cons_self ..) h
    · exact ih (fun a b ha => hp a b (List.mem_cons_of_mem _ ha)) b hb
/-- each turn puts what P tells -/
theorem lc_each {g : WG} {we : WE} {ρ : DSt} {kx : KX} (st : D → DSt) (P : D → D → Prop) : ∀ (ds acc : List D) (k : List D → Prop), (∀ d ∈ ds, ∀ k, k (st d) → g d ρ k) → (∀ d ∈ ds, ∀ Q : D → DSt → Prop, (∀ c, P d c → Q c (st d)) → we (st d) Q (fun _ _ => False)) → acc.length + ds.length ≤ 10000000 →
    (∀ cs, Fa2 P ds cs → k (acc ++ cs)) → lcGo g wYes we ρ kx ds acc k
  | [], acc, k, _, _, _, hk => by
    have := hk [] .nil
    rw [List.append_nil] at this
    exact this
  | d :: ds, acc, k, hg, hw, hl, hk => by
    refine hg d (List.mem_cons_self ..) _ ⟨rfl, ?_⟩
    rw [if_pos rfl]
    refine hw d (List.mem_cons_self ..) _ fun c hc => ⟨rfl, ?_, ?_⟩
    · rw [List.length_cons] at hl
      omega
    · refine lc_each st P ds (acc ++ [c]) k (fun d hd => hg d (List.mem_cons_of_mem _ hd)) (fun d hd => hw d (List.mem_cons_of_mem _ hd)) ?_ fun cs h => ?_
      · rw [List.length_append, List.length_cons] at *
        simp only [List.length_nil] at *
        omega
      · rw [List.append_assoc]
        exact hk (c :: cs) (.cons hc h)
theorem lc_map {g : WG} {we : WE} {ρ : DSt} {kx : KX} (st : D → DSt) (f : D → D) {ds acc : List D} {k : List D → Prop} (hg : ∀ d ∈ ds, ∀ k, k (st d) → g d ρ k) (hw : ∀ d ∈ ds, ∀ Q : D → DSt → Prop, Q (f d) (st d) → we (st d) Q (fun _ _ => False)) (hl : acc.length + ds.length ≤ 10000000)
    (hk : k (acc ++ ds.map f)) : lcGo g wYes we ρ kx ds acc k :=
  lc_each st (fun d c => c = f d) ds acc k hg (fun d hd Q h => hw d hd Q (h _ rfl)) hl fun cs h => by rw [h.map]; exact hk
/-- with a test -/
theorem lc_filter {g : WG} {wt : WT} {we : WE} {ρ : DSt} {kx : KX} (st : D → DSt) (t : D → Bool) (f : D → D) : ∀ (ds acc : List D) (k : List D → Prop), (∀ d ∈ ds, ∀ k, k (st d) → g d ρ k) → (∀ d ∈ ds, ∀ Q : Bool → DSt → Prop, Q (t d) (st d) → wt (st d) Q (fun _ _ => False)) →
    (∀ d ∈ ds, t d = true → ∀ Q : D → DSt → Prop, Q (f d) (st d) → we (st d) Q (fun _ _ => False)) → acc.length + ds.length ≤ 10000000 → k (acc ++ (ds.filter t).map f) → lcGo g wt we ρ kx ds acc k
  | [], acc, k, _, _, _, _, hk => by
    rw [List.filter_nil, List.map_nil, List.append_nil] at hk
    exact hk
  | d :: ds, acc, k, hg, ht, hw, hl, hk => by
    have m := List.mem_cons_self (a := d) (l := ds)
    have r : ∀ acc', acc'.length + ds.length ≤ 10000000 → k (acc' ++ (ds.filter t).map f) → lcGo g wt we ρ kx ds acc' k := fun acc' hl' hk' => lc_filter st t f ds acc' k (fun d hd => hg d (List.mem_cons_of_mem _ hd)) (fun d hd => ht d (List.mem_cons_of_mem _ hd)) (fun d hd => hw d (List.mem_cons_of_mem _ hd)) hl' hk'
    rw [List.length_cons] at hl
    refine hg d m _ (ht d m _ ⟨rfl, ?_⟩)
    cases e : t d with
    | true =>
      rw [List.filter_cons_of_pos e, List.map_cons] at hk
      rw [if_pos rfl]
      refine hw d m e _ ⟨rfl, by omega, r _ ?_ ?_⟩
      · rw [List.length_append, List.length_singleton]
        omega
      · rw [List.append_assoc]
        exact hk
    | false =>
      rw [List.filter_cons_of_neg (by rw [e]; exact Bool.false_ne_true)] at hk
      rw [if_neg Bool.false_ne_true]
      exact r _ (by omega) hk
/-! ### loops by what holds behind the items that are done -/
theorem for_inv {g : WG} {body : WS} {E : DEnds} (I : List D → DSt → Prop) : ∀ (ds dn : List D) (ρ : DSt), I dn ρ →
    (∀ (a : List D) (d : D) (r : List D) ρ (E' : DEnds), dn ++ ds = a ++ d :: r → dn.length ≤ a.length → I a ρ → E'.rt = E.rt → E'.ex = E.ex → (∀ ρ', I (a ++ [d]) ρ' → E'.nx ρ') → (∀ ρ', I (a ++ [d]) ρ' → E'.ct ρ') → (∀ ρ', E.nx ρ' → E'.bk ρ') → g d ρ fun ρ' => body E' ρ') →
    (∀ ρ, I (dn ++ ds) ρ → E.nx ρ) → forGo g body E ds ρ
  | [], dn, ρ, h, _, hn => hn ρ (by rw [List.append_nil]; exact h)
  | d :: ds, dn, ρ, h, hs, hn => by
    have next : ∀ ρ', I (dn ++ [d]) ρ' → forGo g body E ds ρ' := fun ρ' h' => for_inv I ds (dn ++ [d]) ρ' h' (fun a d' r ρ2 E' e hl => hs a d' r ρ2 E' (by rw [← e, List.append_assoc]; rfl) (by rw [List.length_append] at hl; omega)) fun ρ2 h2 => hn ρ2 (by rw [List.append_assoc] at h2; exact h2)
    exact hs dn d ds ρ { E with nx := forGo g body E ds, ct := forGo g body E ds, bk := E.nx } rfl (Nat.le_refl _) h rfl rfl next next fun _ h => h
/-- the same thing holds all the time -/
theorem for_same {g : WG} {body : WS} {E : DEnds} (I : DSt → Prop) {ds : List D} {ρ : DSt} (h : I ρ) (hs : ∀ d ∈ ds, ∀ ρ (E' : DEnds), I ρ → E'.rt = E.rt → E'.ex = E.ex → (∀ ρ', I ρ' → E'.nx ρ') → (∀ ρ', I ρ' → E'.ct ρ') → (∀ ρ', E.nx ρ' → E'.bk ρ') → g d ρ fun ρ' => body E' ρ') (hn : ∀ ρ, I ρ → E.nx ρ) : forGo g body E ds ρ :=
  for_inv (fun _ => I) ds [] ρ h (fun a d r ρ E' e _ hi h1 h2 h3 h4 h5 => hs d (by rw [List.nil_append] at e; rw [e]; simp) ρ E' hi h1 h2 h3 h4 h5) hn
/-! ### all, any over Booleans -/
theorem bls_of {α : Type} (f : α → Bool) (l : List α) : bls (l.map fun x => .bl (f x)) = some (l.map f) := by
  have := bls_map (l.map f)
  rw [List.map_map] at this
  exact this
theorem sts_of {α : Type} (f : α → Str) (l : List α) : sts (l.map fun x => .str (f x)) = some (l.map f) := by
  have := sts_map (l.map f)
  rw [List.map_map] at this
  exact this
theorem range_len (n : Int) : (rangeD n).length = n.toNat := by simp [rangeD]
end PD

/-! PD, part n: promises that are often made. -/
namespace PD
open PySem PySem.Spec PyProof.Rows L2
theorem svd_val (d : D) : (SV.val d).d = d := rfl
theorem svd_own (d : List D) : (SV.own d).d = .lst d := rfl
theorem svd_ownK (d : List (Key × D)) : (SV.ownK d).d = .dic d := rfl
/-- one datum in, one out -/
def sp1 (ok : D → Prop) (f : D → D) : SpD := fun β ds kq _ => ∃ d, ds = [d] ∧ ok d ∧ kq (.val (f d))
def sp2 (ok : D → D → Prop) (f : D → D → D) : SpD := fun β ds kq _ => ∃ d e, ds = [d, e] ∧ ok d e ∧ kq (.val (f d e))
/-- a datum of a known kind, a text of it short enough -/
def okT (d : D) : Prop := (tyD d).isSome = true ∧ ∀ s, d = .str s → s.length ≤ sizeLine
/-- the items of what a law chooses of -/
def items : D → Option (List D)
  | .lst xs => some xs
  | .tup xs => some xs
  | .str s => some (signs s)
  | _ => none
/-- some item of a sequence -/
def spOf : SpD := fun β ds kq _ => ∃ b x xs, β = some b ∧ ds = [.ref b, x] ∧ items x = some xs ∧ 0 < xs.length ∧ xs.length < 16777216 ∧ ∀ y ∈ xs, kq (.val y)
theorem signs_len (s : Str) : (signs s).length = s.length := by
  unfold signs
  simp [Str.length]
theorem of_run {x : D} {xs : List D} {kq : SV → Prop} (hx : items x = some xs) (hl : xs.length < 16777216) (k : ∀ y ∈ xs, kq (.val y)) {i : Int} (h : 0 ≤ i) (h2 : i < xs.length) : oIx x (.int i) fun c => kq (.val c) := by
  unfold oIx
  cases x <;> cases hx
  · rename_i s
    rw [signs_len] at hl
    refine ⟨by rw [sizeLine_eq]; omega, ?_⟩
    rw [signs_len] at h2
    obtain ⟨c, hc, e⟩ := atI_mem (xs := s.cps.toList) h (by simpa [Str.length] using h2)
    show match atI s.cps.toList i with | some c => kq (.val (.str ⟨#[c]⟩)) | none => False
    rw [e]
    exact k _ (List.mem_map.mpr ⟨c, hc, rfl⟩)
  · obtain ⟨c, hc, e⟩ := atI_mem (xs := xs) h h2
    show match atI xs i with | some c => kq (.val c) | none => False
    rw [e]
    exact k _ hc
  · obtain ⟨c, hc, e⟩ := atI_mem (xs := xs) h h2
    show match atI xs i with | some c => kq (.val c) | none => False
    rw [e]
    exact k _ hc
theorem len_items {x : D} {xs : List D} {k : D → Prop} (hx : items x = some xs) (hl : xs.length < 16777216) (h : k (.int xs.length)) : oLen x k := by
  unfold oLen
  cases x <;> cases hx
  · rename_i s
    rw [signs_len] at h hl
    exact ⟨by rw [sizeLine_eq]; omega, h⟩
  · exact h
  · exact h
/-! ### the same data are the same -/
mutual
/-- how deep a datum is; none: not one that is compared -/
def dep : D → Option Nat
  | .non => some 0
  | .bl _ => some 0
  | .int _ => some 0
  | .str _ => some 0
  | .tup xs => match deps xs with
    | some n => if xs.length ≤ 10000000 then some (n + 1) else none
    | none => none
  | .lst xs => match deps xs with
    | some n => if xs.length ≤ 10000000 then some (n + 1) else none
    | none => none
  | .ty _ => none
  | .ref _ => none
  | .dic _ => none
  | .obj _ _ => none
def deps : List D → Option Nat
  | [] => some 0
  | x :: xs => match dep x, deps xs with
    | some n, some m => some (max n m)
    | _, _ => none
end
theorem deps_mem {xs : List D} {n : Nat} (h : deps xs = some n) {x : D} (hx : x ∈ xs) : ∃ m, dep x = some m ∧ m ≤ n := by
  induction xs generalizing n with
  | nil => cases hx
  | cons y ys ih =>
    unfold deps at h
    cases e1 : dep y with
    | none => rw [e1] at h; cases h
    | some a =>
      cases e2 : deps ys with
      | none => rw [e1, e2] at h; cases h
      | some b =>
        rw [e1, e2] at h
        cases h
        rcases List.mem_cons.mp hx with e | hx
        · subst e
          exact ⟨a, e1, Nat.le_max_left _ _⟩
        · obtain ⟨m, h1, h2⟩ := ih e2 hx
          exact ⟨m, h1, Nat.le_trans h2 (Nat.le_max_right _ _)⟩
theorem dep_ty {d : D} {n : Nat} (h : dep d = some n) : (tyD d).isSome = true := by
  cases d <;> first | rfl | cases h
theorem dep_tup {xs : List D} {m : Nat} (h : dep (.tup xs) = some m) : xs.length ≤ 10000000 ∧ ∃ n, deps xs = some n ∧ m = n + 1 := by
  unfold dep at h
  cases e : deps xs with
  | none => rw [e] at h; cases h
  | some n =>
    rw [e] at h
    have h : (if xs.length ≤ 10000000 then some (n + 1) else none) = some m := h
    split at h
    · cases h
      exact ⟨by assumption, n, rfl, rfl⟩
    · cases h
theorem dep_lst {xs : List D} {m : Nat} (h : dep (.lst xs) = some m) : xs.length ≤ 10000000 ∧ ∃ n, deps xs = some n ∧ m = n + 1 := by
  unfold dep at h
  cases e : deps xs with
  | none => rw [e] at h; cases h
  | some n =>
    rw [e] at h
    have h : (if xs.length ≤ 10000000 then some (n + 1) else none) = some m := h
    split at h
    · cases h
      exact ⟨by assumption, n, rfl, rfl⟩
    · cases h
theorem pairs_self {xs : List D} {d : D} (h : d ∈ pairs xs xs) : ∃ x ∈ xs, d = .tup [x, x] := by
  obtain ⟨i, hi, e⟩ := List.getElem_of_mem h
  obtain ⟨x, y, h1, h2, h3⟩ := getElem?_pairs (List.getElem?_eq_some_iff.mpr ⟨hi, e⟩)
  rw [h1] at h2
  cases h2
  exact ⟨x, List.mem_of_getElem? h1, h3⟩
theorem pairs_len (xs ys : List D) : (pairs xs ys).length = min xs.length ys.length := by simp [pairs]
/-- all of a list of Trues -/
theorem bls_true {α : Type} (l : List α) : bls (l.map fun _ => D.bl true) = some (l.map fun _ => true) := bls_of (fun _ => true) l
theorem all_true {α : Type} (l : List α) : (l.map fun _ => true).all id = true := by simp
/-- _law_same, asked of one datum twice: n levels are enough -/
def spSame (n : Nat) : SpD := fun β ds kq _ => ∃ d m, ds = [d, d] ∧ dep d = some m ∧ m < n ∧ kq (.val (.bl true))
theorem fnOk_no {P : Program} {w : World} {K : PySem.W.Frag} {mg : Str → Option Value} {base : Heap} {CX : CXT} {k : Nat} {f : Addr} {fd : FuncData} {ps : List Str} {sp : SpD} (h : ∀ β ds kq kx, ¬ sp β ds kq kx) : FnOk P w K mg base CX k f fd ps (spD K sp) :=
  ⟨fun vs H Q E hs => by
    obtain ⟨_, β, ds, kq, kx, _, _, _, z, _⟩ := hs
    exact absurd z (h β ds kq kx), fun A outer s H args us vs Q E _ _ _ _ hs => by
    obtain ⟨_, β, ds, kq, kx, _, _, _, z, _⟩ := hs
    exact absurd z (h β ds kq kx)⟩
theorem spSame0 (β : Option Addr) (ds : List D) (kq : SV → Prop) (kx : DX → Prop) : ¬ spSame 0 β ds kq kx := fun ⟨_, _, _, _, h, _⟩ => absurd h (Nat.not_lt_zero _)
/-- one statement at a time -/
theorem seq_cut {t u : WS} {E : DEnds} {ρ : DSt} (h : ∀ N : DSt → Prop, (∀ ρ', u E ρ' → N ρ') → t { nx := N, rt := E.rt, bk := E.bk, ct := E.ct, ex := E.ex } ρ) : wSeq t u E ρ := h _ fun _ h => h
theorem draw_eq {b : Addr} {m : Int} {kq : SV → Prop} {kx : DX → Prop} (h : 0 < m) (h2 : m < 1073741824) : spDraw (some b) [.ref b, .int m] kq kx = ∀ i, 0 ≤ i → i < m → kq (.val (.int i)) :=
  propext ⟨fun h => by
    obtain ⟨_, _, e1, e2, _, _, k⟩ := h
    cases e1
    cases e2
    exact k, fun k => ⟨b, m, rfl, rfl, h, h2, k⟩⟩
theorem of_eq {b : Addr} {x : D} {xs : List D} {kq : SV → Prop} {kx : DX → Prop} (hx : items x = some xs) (h : 0 < xs.length) (h2 : xs.length < 16777216) : spOf (some b) [.ref b, x] kq kx = ∀ y ∈ xs, kq (.val y) :=
  propext ⟨fun h => by
    obtain ⟨_, _, _, e1, e2, e3, _, _, k⟩ := h
    cases e1
    cases e2
    rw [hx] at e3
    cases e3
    exact k, fun k => ⟨b, x, xs, rfl, rfl, hx, h, h2, k⟩⟩
theorem of_lst {b : Addr} {xs : List D} {kq : SV → Prop} {kx : DX → Prop} (h : 0 < xs.length) (h2 : xs.length < 16777216) : spOf (some b) [.ref b, .lst xs] kq kx = ∀ y ∈ xs, kq (.val y) := of_eq rfl h h2
theorem of_str {b : Addr} {l : List Nat} {kq : SV → Prop} {kx : DX → Prop} (h : 0 < l.length) (h2 : l.length < 16777216) : spOf (some b) [.ref b, .str (tx l)] kq kx = ∀ c ∈ l, kq (.val (.str (tx [c]))) := by
  rw [of_eq (x := .str (tx l)) (xs := signs (tx l)) rfl (by rw [signs_len, tx_len]; exact h) (by rw [signs_len, tx_len]; exact h2), tx_signs]
  exact propext ⟨fun h c hc => h _ (List.mem_map.mpr ⟨c, hc, rfl⟩), fun h y hy => by
    obtain ⟨c, hc, rfl⟩ := List.mem_map.mp hy
    exact h c hc⟩
theorem sp1_eq {ok : D → Prop} {f : D → D} {β : Option Addr} {d : D} {kq : SV → Prop} {kx : DX → Prop} : sp1 ok f β [d] kq kx = (ok d ∧ kq (.val (f d))) :=
  propext ⟨fun h => by
    obtain ⟨_, e, h1, h2⟩ := h
    cases e
    exact ⟨h1, h2⟩, fun h => ⟨d, rfl, h⟩⟩
theorem okT_str {l : List Nat} (h : l.length ≤ sizeLine) : okT (.str (tx l)) := ⟨rfl, fun s e => by cases e; rw [tx_len]; exact h⟩
/-! ### all(c in okay for c in text) -/
def inL (ok : List Nat) (l : List Nat) : Bool := l.all fun c => decide (c ∈ ok)
theorem lc_in (i : Nat) {ρ : DSt} {kx : KX} {ok l : List Nat} {k : List D → Prop} (hi : i < ρ.length) (hl : l.length ≤ 10000000) (hk : k (l.map fun c => .bl (decide (c ∈ ok)))) : lcGo (wName i) wYes (wOp (oInG false) (w2n i (wC (.str (tx ok))))) ρ kx (signs (tx l)) [] k := by
  refine lc_map (fun d => ρ.set i (some (.val d))) (fun d => match d with | .str s => .bl (inS s (tx ok)) | _ => .bl false) (fun d hd k hk => hk) (fun d hd Q hQ => ?_) ?_ ?_
  · rw [tx_signs] at hd
    obtain ⟨c, hc, rfl⟩ := List.mem_map.mp hd
    simp only [↓wOp, ↓w2n, List.getElem?_set_self hi, ↓wC, svd_val, oInG]
    exact hQ
  · rw [signs_len, tx_len]
    show 0 + _ ≤ _
    omega
  · rw [List.nil_append, tx_signs, List.map_map]
    exact hk
theorem all_in (ok l : List Nat) : (l.map fun c => decide (c ∈ ok)).all id = inL ok l := by
  unfold inL
  rw [List.all_map]
  rfl
/-! ### isinstance of each kind -/
theorem isT_str_non  : isT "str" .non = false := rfl
theorem isT_str_bl (x : Bool) : isT "str" (.bl x) = false := rfl
theorem isT_str_int (x : Int) : isT "str" (.int x) = false := rfl
theorem isT_str_str (x : Str) : isT "str" (.str x) = true := rfl
theorem isT_str_tup (x : List D) : isT "str" (.tup x) = false := rfl
theorem isT_str_lst (x : List D) : isT "str" (.lst x) = false := rfl
theorem isT_str_dic (x : List (Key × D)) : isT "str" (.dic x) = false := rfl
theorem isT_int_non  : isT "int" .non = false := rfl
theorem isT_int_bl (x : Bool) : isT "int" (.bl x) = true := rfl
theorem isT_int_int (x : Int) : isT "int" (.int x) = true := rfl
theorem isT_int_str (x : Str) : isT "int" (.str x) = false := rfl
theorem isT_int_tup (x : List D) : isT "int" (.tup x) = false := rfl
theorem isT_int_lst (x : List D) : isT "int" (.lst x) = false := rfl
theorem isT_int_dic (x : List (Key × D)) : isT "int" (.dic x) = false := rfl
theorem isT_bool_non  : isT "bool" .non = false := rfl
theorem isT_bool_bl (x : Bool) : isT "bool" (.bl x) = true := rfl
theorem isT_bool_int (x : Int) : isT "bool" (.int x) = false := rfl
theorem isT_bool_str (x : Str) : isT "bool" (.str x) = false := rfl
theorem isT_bool_tup (x : List D) : isT "bool" (.tup x) = false := rfl
theorem isT_bool_lst (x : List D) : isT "bool" (.lst x) = false := rfl
theorem isT_bool_dic (x : List (Key × D)) : isT "bool" (.dic x) = false := rfl
theorem isT_list_non  : isT "list" .non = false := rfl
theorem isT_list_bl (x : Bool) : isT "list" (.bl x) = false := rfl
theorem isT_list_int (x : Int) : isT "list" (.int x) = false := rfl
theorem isT_list_str (x : Str) : isT "list" (.str x) = false := rfl
theorem isT_list_tup (x : List D) : isT "list" (.tup x) = false := rfl
theorem isT_list_lst (x : List D) : isT "list" (.lst x) = true := rfl
theorem isT_list_dic (x : List (Key × D)) : isT "list" (.dic x) = false := rfl
theorem isT_tuple_non  : isT "tuple" .non = false := rfl
theorem isT_tuple_bl (x : Bool) : isT "tuple" (.bl x) = false := rfl
theorem isT_tuple_int (x : Int) : isT "tuple" (.int x) = false := rfl
theorem isT_tuple_str (x : Str) : isT "tuple" (.str x) = false := rfl
theorem isT_tuple_tup (x : List D) : isT "tuple" (.tup x) = true := rfl
theorem isT_tuple_lst (x : List D) : isT "tuple" (.lst x) = false := rfl
theorem isT_tuple_dic (x : List (Key × D)) : isT "tuple" (.dic x) = false := rfl
theorem isT_dict_non  : isT "dict" .non = false := rfl
theorem isT_dict_bl (x : Bool) : isT "dict" (.bl x) = false := rfl
theorem isT_dict_int (x : Int) : isT "dict" (.int x) = false := rfl
theorem isT_dict_str (x : Str) : isT "dict" (.str x) = false := rfl
theorem isT_dict_tup (x : List D) : isT "dict" (.tup x) = false := rfl
theorem isT_dict_lst (x : List D) : isT "dict" (.lst x) = false := rfl
theorem isT_dict_dic (x : List (Key × D)) : isT "dict" (.dic x) = true := rfl
theorem isi_non  {T : String} {k : D → Prop} (hT : (["str", "int", "bool", "list", "tuple", "dict"].contains T) = true) : oIsi T .non k = k (.bl (isT T .non)) := isi_eq rfl hT
theorem isi_bl (x : Bool) {T : String} {k : D → Prop} (hT : (["str", "int", "bool", "list", "tuple", "dict"].contains T) = true) : oIsi T (.bl x) k = k (.bl (isT T (.bl x))) := isi_eq rfl hT
theorem isi_int (x : Int) {T : String} {k : D → Prop} (hT : (["str", "int", "bool", "list", "tuple", "dict"].contains T) = true) : oIsi T (.int x) k = k (.bl (isT T (.int x))) := isi_eq rfl hT
theorem isi_str (x : Str) {T : String} {k : D → Prop} (hT : (["str", "int", "bool", "list", "tuple", "dict"].contains T) = true) : oIsi T (.str x) k = k (.bl (isT T (.str x))) := isi_eq rfl hT
theorem isi_tup (x : List D) {T : String} {k : D → Prop} (hT : (["str", "int", "bool", "list", "tuple", "dict"].contains T) = true) : oIsi T (.tup x) k = k (.bl (isT T (.tup x))) := isi_eq rfl hT
theorem isi_lst (x : List D) {T : String} {k : D → Prop} (hT : (["str", "int", "bool", "list", "tuple", "dict"].contains T) = true) : oIsi T (.lst x) k = k (.bl (isT T (.lst x))) := isi_eq rfl hT
theorem isi_dic (x : List (Key × D)) {T : String} {k : D → Prop} (hT : (["str", "int", "bool", "list", "tuple", "dict"].contains T) = true) : oIsi T (.dic x) k = k (.bl (isT T (.dic x))) := isi_eq rfl hT
/-! ### comparisons of leaves -/
theorem oEq_bl (a b : Bool) (k : D → Prop) : oEq (.bl a) (.bl b) k = k (.bl (a == b)) := propext ⟨fun h => h.2, fun h => ⟨Nat.zero_le _, h⟩⟩
theorem oNe_bl (a b : Bool) (k : D → Prop) : oNe (.bl a) (.bl b) k = k (.bl (!(a == b))) := propext ⟨fun h => h.2, fun h => ⟨Nat.zero_le _, h⟩⟩
theorem oEq_int (a b : Int) (k : D → Prop) : oEq (.int a) (.int b) k = k (.bl (decide (a = b))) := propext ⟨fun h => by rw [← Bool.beq_eq_decide_eq]; exact h.2, fun h => ⟨Nat.zero_le _, by rw [← Bool.beq_eq_decide_eq] at h; exact h⟩⟩
theorem oNe_int (a b : Int) (k : D → Prop) : oNe (.int a) (.int b) k = k (.bl (!decide (a = b))) := propext ⟨fun h => by rw [← Bool.beq_eq_decide_eq]; exact h.2, fun h => ⟨Nat.zero_le _, by rw [← Bool.beq_eq_decide_eq] at h; exact h⟩⟩
theorem oEq_str (a b : Str) (k : D → Prop) : oEq (.str a) (.str b) k = k (.bl (a == b)) := propext ⟨fun h => h.2, fun h => ⟨Nat.zero_le _, h⟩⟩
theorem oNe_str (a b : Str) (k : D → Prop) : oNe (.str a) (.str b) k = k (.bl (!(a == b))) := propext ⟨fun h => h.2, fun h => ⟨Nat.zero_le _, h⟩⟩
/-- two data that can be compared -/
theorem oEq_of {d e : D} {p q : PyData} (k : D → Prop) (hd : toP d = some p) (he : toP e = some q) (hm : min p.depth q.depth ≤ 64) : oEq d e k = k (.bl (PyData.eqv p q)) := by
  unfold oEq
  rw [hd, he]
  exact propext ⟨fun h => h.2, fun h => ⟨hm, h⟩⟩
theorem oNe_of {d e : D} {p q : PyData} (k : D → Prop) (hd : toP d = some p) (he : toP e = some q) (hm : min p.depth q.depth ≤ 64) : oNe d e k = k (.bl (!PyData.eqv p q)) := by
  unfold oNe
  rw [hd, he]
  exact propext ⟨fun h => h.2, fun h => ⟨hm, h⟩⟩
theorem oIsN_non (b : Bool) (k : D → Prop) : oIsN b .non .non k = k (.bl (!b)) := by cases b <;> rfl
end PD

/-! PF: plain functions for defs. Part a: plain data, trees of draws, the state as a list of data. -/
namespace PF
open PySem PySem.Spec PyProof.Rows L2 PD

/-- plain data: texts are lists of signs, classes and fields are numbers -/
inductive A where
  | non | bl (b : Bool) | int (i : Int) | str (l : List Nat) | ty (n : String) | ref (a : Addr)
  | tup (xs : List A) | lst (xs : List A) | dic (ks vs : List A) | obj (C : Nat) (ks : List Nat) (vs : List A)
deriving Inhabited
/-- an exception: its class, its fields -/
structure AX where
  cls : Nat
  ks : List Nat
  vs : List A
/-- where classes stand, how fields are called -/
structure CM where
  cls : Nat → Addr
  fld : Nat → Str
def keyD : A → Key
  | .int i => .inl i
  | .str l => .inr (tx l)
  | _ => .inl 0
mutual
def toD (cm : CM) : A → D
  | .non => .non
  | .bl b => .bl b
  | .int i => .int i
  | .str l => .str (tx l)
  | .ty n => .ty n
  | .ref a => .ref a
  | .tup xs => .tup (toDs cm xs)
  | .lst xs => .lst (toDs cm xs)
  | .dic ks vs => .dic ((ks.map keyD).zip (toDs cm vs))
  | .obj C ks vs => .obj (cm.cls C) ((ks.map cm.fld).zip (toDs cm vs))
def toDs (cm : CM) : List A → List D
  | [] => []
  | x :: xs => toD cm x :: toDs cm xs
end
def toX (cm : CM) (x : AX) : DX := ⟨cm.cls x.cls, (x.ks.map cm.fld).zip (toDs cm x.vs)⟩
section
variable (cm : CM)
theorem toDs_map : ∀ xs : List A, toDs cm xs = xs.map (toD cm)
  | [] => rfl
  | x :: xs => by
    unfold toDs
    rw [toDs_map xs]
    rfl
theorem toDs_len (xs : List A) : (toDs cm xs).length = xs.length := by rw [toDs_map]; simp
theorem toDs_app (xs ys : List A) : toDs cm (xs ++ ys) = toDs cm xs ++ toDs cm ys := by simp [toDs_map]
theorem toDs_get (xs : List A) (i : Nat) : (toDs cm xs)[i]? = (xs[i]?).map (toD cm) := by rw [toDs_map, List.getElem?_map]
theorem toD_tup (xs : List A) : toD cm (.tup xs) = .tup (toDs cm xs) := by unfold toD; rfl
theorem toD_lst (xs : List A) : toD cm (.lst xs) = .lst (toDs cm xs) := by unfold toD; rfl
end

/-! ### trees of draws -/
inductive T (α : Type) where
  | ret (a : α) | exc (x : AX) | bad | draw (b : Addr) (m : Int) (k : Int → T α)
namespace T
variable {α β γ : Type}
def bind : T α → (α → T β) → T β
  | .ret a, f => f a
  | .exc x, _ => .exc x
  | .bad, _ => .bad
  | .draw b m k, f => .draw b m fun i => (k i).bind f
def opt : Option α → T α
  | some a => .ret a
  | none => .bad
/-- nothing is raised -/
def calm : T α → T α
  | .ret a => .ret a
  | .exc _ => .bad
  | .bad => .bad
  | .draw b m k => .draw b m fun i => (k i).calm
def wp (bg : Option Addr) : T α → (α → Prop) → (AX → Prop) → Prop
  | .ret a, q, _ => q a
  | .exc x, _, e => e x
  | .bad, _, _ => False
  | .draw b m k, q, e => (bg = some b ∧ 0 < m ∧ m < 1073741824) ∧ ∀ i, 0 ≤ i → i < m → (k i).wp bg q e
@[simp] theorem ret_bind (a : α) (f : α → T β) : (T.ret a).bind f = f a := rfl
@[simp] theorem exc_bind (x : AX) (f : α → T β) : (T.exc x : T α).bind f = .exc x := rfl
@[simp] theorem bad_bind (f : α → T β) : (T.bad : T α).bind f = .bad := rfl
@[simp] theorem opt_some (a : α) : opt (some a) = .ret a := rfl
@[simp] theorem opt_none : opt (none : Option α) = .bad := rfl
theorem bind_assoc (t : T α) (f : α → T β) (g : β → T γ) : (t.bind f).bind g = t.bind fun a => (f a).bind g := by
  induction t with
  | ret a => rfl
  | exc x => rfl
  | bad => rfl
  | draw b m k ih => exact congrArg (T.draw b m) (funext fun i => ih i)
theorem bind_ret (t : T α) : t.bind T.ret = t := by
  induction t with
  | ret a => rfl
  | exc x => rfl
  | bad => rfl
  | draw b m k ih => exact congrArg (T.draw b m) (funext fun i => ih i)
variable {bg : Option Addr}
theorem wp_bind (t : T α) (f : α → T β) (q : β → Prop) (e : AX → Prop) : (t.bind f).wp bg q e = t.wp bg (fun a => (f a).wp bg q e) e := by
  induction t with
  | ret a => rfl
  | exc x => rfl
  | bad => rfl
  | draw b m k ih =>
    show (_ ∧ _) = (_ ∧ _)
    simp only [ih]
theorem wp_mono {t : T α} {q q' : α → Prop} {e e' : AX → Prop} (h : t.wp bg q e) (hq : ∀ a, q a → q' a) (he : ∀ x, e x → e' x) : t.wp bg q' e' := by
  induction t with
  | ret a => exact hq a h
  | exc x => exact he x h
  | bad => exact h.elim
  | draw b m k ih => exact ⟨h.1, fun i h0 h1 => ih i (h.2 i h0 h1)⟩
theorem wp_opt {o : Option α} {q : α → Prop} {e : AX → Prop} (h : (opt o).wp bg q e) : ∃ a, o = some a ∧ q a := by
  cases o with
  | none => exact h.elim
  | some a => exact ⟨a, rfl, h⟩
theorem wp_calm {t : T α} {q : α → Prop} {e e' : AX → Prop} (h : t.calm.wp bg q e) : t.wp bg q e' := by
  induction t with
  | ret a => exact h
  | exc x => exact h.elim
  | bad => exact h.elim
  | draw b m k ih => exact ⟨h.1, fun i h0 h1 => ih i (h.2 i h0 h1)⟩
end T

/-! ### the state -/
abbrev Env := List (Option A)
def ownD (cm : CM) : A → SV
  | .lst xs => .own (toDs cm xs)
  | .dic ks vs => .ownK ((ks.map keyD).zip (toDs cm vs))
  | a => .val (toD cm a)
def mixAt (cm : CM) (O : List Nat) (i : Nat) (x : Option A) : Option SV := x.map fun a => if O.contains i then ownD cm a else .val (toD cm a)
/-- the names at O hold what is theirs alone -/
def mix (cm : CM) (O : List Nat) (env : Env) : DSt := env.mapIdx (mixAt cm O)
section
variable {cm : CM} {O : List Nat} {env : Env} {i : Nat}
theorem mix_get : (mix cm O env)[i]? = (env[i]?).map (mixAt cm O i) := by
  unfold mix
  rw [List.getElem?_mapIdx]
theorem mix_len : (mix cm O env).length = env.length := by
  unfold mix
  simp
theorem mix_set (x : Option A) : (mix cm O env).set i (mixAt cm O i x) = mix cm O (env.set i x) := by
  apply List.ext_getElem?
  intro j
  by_cases e : i = j
  · subst e
    by_cases h : i < env.length
    · rw [List.getElem?_set_self (by rw [mix_len]; exact h), mix_get, List.getElem?_set_self h]
      rfl
    · rw [List.getElem?_eq_none (by rw [List.length_set, mix_len]; omega), mix_get, List.getElem?_eq_none (by rw [List.length_set]; omega)]
      rfl
  · rw [List.getElem?_set_ne e, mix_get, mix_get, List.getElem?_set_ne e]
theorem mix_congr {O' : List Nat} (h : ∀ i, O.contains i = O'.contains i) : mix cm O env = mix cm O' env := by
  apply List.ext_getElem?
  intro j
  rw [mix_get, mix_get]
  have : mixAt cm O j = mixAt cm O' j := by
    funext x
    unfold mixAt
    rw [h j]
  rw [this]
theorem mixAt_val {a : A} (h : O.contains i = false) : mixAt cm O i (some a) = some (.val (toD cm a)) := by
  unfold mixAt
  rw [h]
  rfl
theorem mixAt_own {a : A} (h : O.contains i = true) : mixAt cm O i (some a) = some (ownD cm a) := by
  unfold mixAt
  rw [h]
  rfl
theorem ownD_d (a : A) : (ownD cm a).d = toD cm a := by
  cases a <;> rfl
theorem mixAt_d {a : A} : ∃ y, mixAt cm O i (some a) = some y ∧ y.d = toD cm a := by
  cases h : O.contains i with
  | true => exact ⟨_, mixAt_own h, ownD_d a⟩
  | false => exact ⟨_, mixAt_val h, rfl⟩
end

/-! ### what is a name's own comes to rest -/
section
variable {cm : CM} {K : PySem.W.Frag} {F : Fm} {S H : Hp} {σ : L2.St} {env : Env} {O : List Nat}
theorem restOwnK {ρ : DSt} {j : Nat} {kvs : List (Key × D)} (r : R K F S ρ σ H) (h : ρ[j]? = some (some (.ownK kvs))) : ∃ S', Ex S S' ∧ R K F S' (ρ.set j (some (.val (.dic kvs)))) σ H := by
  obtain ⟨a, es, ha, p1, p2, hH, g5⟩ := r.ownK h
  have hA : OwnAt ρ σ j a := ⟨.inr ⟨_, h⟩, ha⟩
  have hj : j < ρ.length := (List.getElem?_eq_some_iff.mp h).1
  have eS : Ex S (upd S a (.dK es)) := Ex.new p2
  refine ⟨_, eS, r.toR0.rest p1 hH p2, by rw [List.length_set]; exact r.len, fun i => ?_, fun i k b h1 h2 => ?_⟩
  · by_cases e : j = i
    · subst e
      rw [List.getElem?_set_self hj]
      exact ⟨.ref a, ha, .dic upd_same (g5.mono eS).1 (g5.mono eS).2⟩
    · rw [List.getElem?_set_ne e]
      have q := r.slot i
      unfold SlotR at q ⊢
      split
      · rename_i d g
        rw [g] at q
        obtain ⟨v, g1, g2⟩ := q
        exact ⟨v, g1, g2.mono eS⟩
      · rename_i d g
        rw [g] at q
        obtain ⟨b, xs, g1, g2, g3, g4, g5⟩ := q
        have nb : b ≠ a := fun z => e (r.apart j i a hA ⟨.inl ⟨_, g⟩, z ▸ g1⟩)
        exact ⟨b, xs, g1, g2, by rw [upd_ne nb]; exact g3, g4, g5.mono eS⟩
      · rename_i d g
        rw [g] at q
        obtain ⟨b, xs, g1, g2, g3, g4, g5⟩ := q
        have nb : b ≠ a := fun z => e (r.apart j i a hA ⟨.inr ⟨_, g⟩, z ▸ g1⟩)
        exact ⟨b, xs, g1, g2, by rw [upd_ne nb]; exact g3, g4, g5.mono eS⟩
      · trivial
  · have up : ∀ i, OwnAt (ρ.set j (some (.val (.dic kvs)))) σ i b → OwnAt ρ σ i b := fun i q => by
      by_cases e : j = i
      · subst e
        obtain ⟨⟨ds, q1⟩ | ⟨ds, q1⟩, _⟩ := q
        · rw [List.getElem?_set_self hj] at q1
          cases q1
        · rw [List.getElem?_set_self hj] at q1
          cases q1
      · obtain ⟨q1, q2⟩ := q
        rw [List.getElem?_set_ne e] at q1
        exact ⟨q1, q2⟩
    exact r.apart i k b (up i h1) (up k h2)
theorem contains_drop {O : List Nat} {i j : Nat} : (O.filter (· != i)).contains j = (O.contains j && (j != i)) := by
  rw [Bool.eq_iff_iff]
  simp
theorem mix_drop {i : Nat} {y : SV} (h : (mix cm O env)[i]? = some (some y)) : (mix cm O env).set i (some (.val y.d)) = mix cm (O.filter (· != i)) env := by
  apply List.ext_getElem?
  intro j
  have hi : i < (mix cm O env).length := (List.getElem?_eq_some_iff.mp h).1
  by_cases e : i = j
  · subst e
    rw [List.getElem?_set_self hi, mix_get]
    rw [mix_get] at h
    cases g : env[i]? with
    | none => rw [g] at h; cases h
    | some x =>
      rw [g] at h
      cases x with
      | none => cases h
      | some a =>
        have h : mixAt cm O i (some a) = some y := by simpa using h
        obtain ⟨y', e1, e2⟩ := mixAt_d (cm := cm) (O := O) (i := i) (a := a)
        rw [h] at e1
        cases e1
        show some (some (SV.val y.d)) = some (mixAt cm (O.filter (· != i)) i (some a))
        rw [mixAt_val (by rw [contains_drop]; simp), e2]
  · rw [List.getElem?_set_ne e, mix_get, mix_get]
    have : mixAt cm O j = mixAt cm (O.filter (· != i)) j := by
      funext x
      unfold mixAt
      have e2 : (O.filter (· != i)).contains j = O.contains j := by
        rw [contains_drop]
        have : (j != i) = true := by simpa using fun z => e z.symm
        rw [this, Bool.and_true]
      rw [e2]
    rw [this]
theorem frz1 (i : Nat) (r : R K F S (mix cm O env) σ H) : ∃ S', Ex S S' ∧ R K F S' (mix cm (O.filter (· != i)) env) σ H := by
  cases h : (mix cm O env)[i]? with
  | none =>
    refine ⟨S, Ex.refl S, ?_⟩
    have e : mix cm (O.filter (· != i)) env = mix cm O env := by
      apply List.ext_getElem?
      intro j
      by_cases e : i = j
      · subst e
        rw [h, mix_get]
        rw [mix_get] at h
        cases g : env[i]? with
        | none => rfl
        | some x => rw [g] at h; cases h
      · rw [mix_get, mix_get]
        have : mixAt cm (O.filter (· != i)) j = mixAt cm O j := by
          funext x
          unfold mixAt
          have e2 : (O.filter (· != i)).contains j = O.contains j := by
            rw [contains_drop]
            have : (j != i) = true := by simpa using fun z => e z.symm
            rw [this, Bool.and_true]
          rw [e2]
        rw [this]
    rw [e]
    exact r
  | some o =>
    cases o with
    | none =>
      have e : mix cm (O.filter (· != i)) env = mix cm O env := by
        apply List.ext_getElem?
        intro j
        by_cases e : i = j
        · subst e
          rw [h, mix_get]
          rw [mix_get] at h
          cases g : env[i]? with
          | none => rw [g] at h; cases h
          | some x =>
            cases x with
            | none => rfl
            | some a =>
              rw [g] at h
              obtain ⟨y', e1, e2⟩ := mixAt_d (cm := cm) (O := O) (i := i) (a := a)
              have h : mixAt cm O i (some a) = none := by simpa using h
              rw [h] at e1
              cases e1
        · rw [mix_get, mix_get]
          have : mixAt cm (O.filter (· != i)) j = mixAt cm O j := by
            funext x
            unfold mixAt
            have e2 : (O.filter (· != i)).contains j = O.contains j := by
              rw [contains_drop]
              have : (j != i) = true := by simpa using fun z => e z.symm
              rw [this, Bool.and_true]
            rw [e2]
          rw [this]
      rw [e]
      exact ⟨S, Ex.refl S, r⟩
    | some y =>
      rw [← mix_drop h]
      cases y with
      | val d =>
        have e : (mix cm O env).set i (some (.val d)) = mix cm O env := by
          apply List.ext_getElem?
          intro j
          by_cases e : i = j
          · subst e
            rw [List.getElem?_set_self (List.getElem?_eq_some_iff.mp h).1, h]
          · rw [List.getElem?_set_ne e]
        show ∃ S', Ex S S' ∧ R K F S' ((mix cm O env).set i (some (.val d))) σ H
        rw [e]
        exact ⟨S, Ex.refl S, r⟩
      | own ds =>
        obtain ⟨a, xs, h1, h2, h3, h4, h5⟩ := r.own h
        exact ⟨_, Ex.new h3, r.restOwn h h1 h4⟩
      | ownK kvs => exact restOwnK r h
/-- the names at L come to rest -/
def less (O L : List Nat) : List Nat := O.filter fun j => !L.contains j
theorem frz : ∀ (L : List Nat) {O : List Nat} {S : Hp}, R K F S (mix cm O env) σ H → ∃ S', Ex S S' ∧ R K F S' (mix cm (less O L) env) σ H
  | [], O, S, r => by
    refine ⟨S, Ex.refl S, ?_⟩
    rw [mix_congr (O := less O []) (O' := O)]
    · exact r
    · intro i
      unfold less
      rw [Bool.eq_iff_iff]
      simp
  | l :: L, O, S, r => by
    obtain ⟨S1, e1, r1⟩ := frz1 l r
    obtain ⟨S2, e2, r2⟩ := frz L r1
    refine ⟨S2, e1.trans e2, ?_⟩
    rw [mix_congr (O := less O (l :: L)) (O' := less (O.filter (· != l)) L)]
    · exact r2
    · intro i
      unfold less
      rw [Bool.eq_iff_iff]
      simp
      exact fun _ => And.comm
/-- O' of the names stay a name's own -/
def sub (O' O : List Nat) : Bool := O'.all fun i => O.contains i
theorem frzTo {O' : List Nat} (hs : sub O' O = true) (r : R K F S (mix cm O env) σ H) : ∃ S', Ex S S' ∧ R K F S' (mix cm O' env) σ H := by
  obtain ⟨S', e, r'⟩ := frz (less O O') r
  refine ⟨S', e, ?_⟩
  rw [mix_congr (O := O') (O' := less O (less O O'))]
  · exact r'
  · intro i
    unfold less
    unfold sub at hs
    rw [Bool.eq_iff_iff]
    simp at hs ⊢
    exact ⟨fun h => ⟨hs i h, .inr h⟩, fun h => h.2.resolve_left fun z => z h.1⟩
end
end PF

/-! PF, part b: operations on plain data. -/
namespace PF
open PySem PySem.Spec PyProof.Rows L2 PD

/-! ### equality -/
def okd : Nat → A → Bool
  | _, .non => true
  | _, .bl _ => true
  | _, .int _ => true
  | _, .str _ => true
  | n + 1, .tup xs => xs.all (okd n)
  | n + 1, .lst xs => xs.all (okd n)
  | _, _ => false
mutual
def eqv : A → A → Bool
  | .non, .non => true
  | .bl a, .bl b => a == b
  | .bl a, .int j => decide ((if a then 1 else 0) = j)
  | .int i, .bl b => decide (i = (if b then 1 else 0))
  | .int i, .int j => decide (i = j)
  | .str x, .str y => decide (x = y)
  | .lst xs, .lst ys => eqvs xs ys
  | .tup xs, .tup ys => eqvs xs ys
  | _, _ => false
def eqvs : List A → List A → Bool
  | [], [] => true
  | x :: xs, y :: ys => eqv x y && eqvs xs ys
  | _, _ => false
end
section
variable (cm : CM)
mutual
theorem okd_toP : ∀ (n : Nat) (a : A), okd n a = true → ∃ p, toP (toD cm a) = some p ∧ p.depth ≤ n
  | n, .non, h => ⟨.none, by unfold toD toP; rfl, Nat.zero_le _⟩
  | n, .bl b, h => ⟨.bool b, by unfold toD toP; rfl, Nat.zero_le _⟩
  | n, .int b, h => ⟨.int b, by unfold toD toP; rfl, Nat.zero_le _⟩
  | n, .str b, h => ⟨.str (tx b), by unfold toD toP; rfl, Nat.zero_le _⟩
  | 0, .tup xs, h => by unfold okd at h; cases h
  | 0, .lst xs, h => by unfold okd at h; cases h
  | n + 1, .tup xs, h => by
    unfold okd at h
    obtain ⟨ps, h1, h2⟩ := okds_toP n xs h
    refine ⟨.tuple ps, ?_, ?_⟩
    · rw [toD_tup]; unfold toP; rw [h1]
    · unfold PyData.depth; omega
  | n + 1, .lst xs, h => by
    unfold okd at h
    obtain ⟨ps, h1, h2⟩ := okds_toP n xs h
    refine ⟨.list ps, ?_, ?_⟩
    · rw [toD_lst]; unfold toP; rw [h1]
    · unfold PyData.depth; omega
  | n, .ty _, h => by cases n <;> unfold okd at h <;> cases h
  | n, .ref _, h => by cases n <;> unfold okd at h <;> cases h
  | n, .dic _ _, h => by cases n <;> unfold okd at h <;> cases h
  | n, .obj _ _ _, h => by cases n <;> unfold okd at h <;> cases h
theorem okds_toP : ∀ (n : Nat) (xs : List A), xs.all (okd n) = true → ∃ ps, toPs (toDs cm xs) = some ps ∧ PyData.depthAll ps ≤ n
  | n, [], h => ⟨[], by unfold toDs toPs; rfl, Nat.zero_le _⟩
  | n, x :: xs, h => by
    rw [List.all_cons, Bool.and_eq_true] at h
    obtain ⟨p, h1, h2⟩ := okd_toP n x h.1
    obtain ⟨ps, h3, h4⟩ := okds_toP n xs h.2
    refine ⟨p :: ps, ?_, ?_⟩
    · unfold toDs toPs; rw [h1, h3]
    · unfold PyData.depthAll; omega
end
theorem toP_lst {xs : List A} {p : PyData} (h : toP (toD cm (.lst xs)) = some p) : ∃ ps, toPs (toDs cm xs) = some ps ∧ p = .list ps := by
  rw [toD_lst] at h
  unfold toP at h
  cases e : toPs (toDs cm xs) with
  | none => rw [e] at h; cases h
  | some ps => rw [e] at h; cases h; exact ⟨ps, rfl, rfl⟩
theorem toP_tup {xs : List A} {p : PyData} (h : toP (toD cm (.tup xs)) = some p) : ∃ ps, toPs (toDs cm xs) = some ps ∧ p = .tuple ps := by
  rw [toD_tup] at h
  unfold toP at h
  cases e : toPs (toDs cm xs) with
  | none => rw [e] at h; cases h
  | some ps => rw [e] at h; cases h; exact ⟨ps, rfl, rfl⟩
theorem toP_leaf {a : A} {p : PyData} (h : toP (toD cm a) = some p) : (a = .non ∧ p = .none) ∨ (∃ b, a = .bl b ∧ p = .bool b) ∨ (∃ i, a = .int i ∧ p = .int i) ∨ (∃ l, a = .str l ∧ p = .str (tx l)) ∨ (∃ xs ps, a = .lst xs ∧ p = .list ps ∧ toPs (toDs cm xs) = some ps) ∨ (∃ xs ps, a = .tup xs ∧ p = .tuple ps ∧ toPs (toDs cm xs) = some ps) := by
  cases a with
  | non => unfold toD toP at h; cases h; exact .inl ⟨rfl, rfl⟩
  | bl b => unfold toD toP at h; cases h; exact .inr (.inl ⟨b, rfl, rfl⟩)
  | int b => unfold toD toP at h; cases h; exact .inr (.inr (.inl ⟨b, rfl, rfl⟩))
  | str b => unfold toD toP at h; cases h; exact .inr (.inr (.inr (.inl ⟨b, rfl, rfl⟩)))
  | lst xs =>
    obtain ⟨ps, h1, rfl⟩ := toP_lst cm h
    exact .inr (.inr (.inr (.inr (.inl ⟨xs, ps, rfl, rfl, h1⟩))))
  | tup xs =>
    obtain ⟨ps, h1, rfl⟩ := toP_tup cm h
    exact .inr (.inr (.inr (.inr (.inr ⟨xs, ps, rfl, rfl, h1⟩))))
  | ty n => unfold toD toP at h; cases h
  | ref n => unfold toD toP at h; cases h
  | dic a b => unfold toD toP at h; cases h
  | obj a b c => unfold toD toP at h; cases h
theorem toPs_cons {x : A} {xs : List A} {ps : List PyData} (h : toPs (toDs cm (x :: xs)) = some ps) : ∃ p qs, toP (toD cm x) = some p ∧ toPs (toDs cm xs) = some qs ∧ ps = p :: qs := by
  unfold toDs toPs at h
  cases e1 : toP (toD cm x) with
  | none => rw [e1] at h; cases h
  | some p =>
    cases e2 : toPs (toDs cm xs) with
    | none => rw [e1, e2] at h; cases h
    | some qs => rw [e1, e2] at h; cases h; exact ⟨p, qs, rfl, rfl, rfl⟩
mutual
theorem eqv_of : ∀ (a b : A) (p q : PyData), toP (toD cm a) = some p → toP (toD cm b) = some q → PyData.eqv p q = eqv a b
  | .lst xs, b, p, q, h1, h2 => by
    obtain ⟨ps, g1, rfl⟩ := toP_lst cm h1
    rcases toP_leaf cm h2 with ⟨rfl, rfl⟩ | ⟨b, rfl, rfl⟩ | ⟨b, rfl, rfl⟩ | ⟨b, rfl, rfl⟩ | ⟨ys, qs, rfl, rfl, g2⟩ | ⟨ys, qs, rfl, rfl, g2⟩
    · unfold eqv; rfl
    · unfold eqv; rfl
    · unfold eqv; rfl
    · unfold eqv; rfl
    · unfold eqv PyData.eqv; exact eqvs_of xs ys ps qs g1 g2
    · unfold eqv; rfl
  | .tup xs, b, p, q, h1, h2 => by
    obtain ⟨ps, g1, rfl⟩ := toP_tup cm h1
    rcases toP_leaf cm h2 with ⟨rfl, rfl⟩ | ⟨b, rfl, rfl⟩ | ⟨b, rfl, rfl⟩ | ⟨b, rfl, rfl⟩ | ⟨ys, qs, rfl, rfl, g2⟩ | ⟨ys, qs, rfl, rfl, g2⟩
    · unfold eqv; rfl
    · unfold eqv; rfl
    · unfold eqv; rfl
    · unfold eqv; rfl
    · unfold eqv; rfl
    · unfold eqv PyData.eqv; exact eqvs_of xs ys ps qs g1 g2
  | .non, b, p, q, h1, h2 => by
    unfold toD toP at h1
    cases h1
    rcases toP_leaf cm h2 with ⟨rfl, rfl⟩ | ⟨b, rfl, rfl⟩ | ⟨b, rfl, rfl⟩ | ⟨b, rfl, rfl⟩ | ⟨ys, qs, rfl, rfl, g2⟩ | ⟨ys, qs, rfl, rfl, g2⟩ <;> (unfold eqv; rfl)
  | .bl a, b, p, q, h1, h2 => by
    unfold toD toP at h1
    cases h1
    rcases toP_leaf cm h2 with ⟨rfl, rfl⟩ | ⟨b, rfl, rfl⟩ | ⟨b, rfl, rfl⟩ | ⟨b, rfl, rfl⟩ | ⟨ys, qs, rfl, rfl, g2⟩ | ⟨ys, qs, rfl, rfl, g2⟩ <;> (unfold eqv; rfl)
  | .int a, b, p, q, h1, h2 => by
    unfold toD toP at h1
    cases h1
    rcases toP_leaf cm h2 with ⟨rfl, rfl⟩ | ⟨b, rfl, rfl⟩ | ⟨b, rfl, rfl⟩ | ⟨b, rfl, rfl⟩ | ⟨ys, qs, rfl, rfl, g2⟩ | ⟨ys, qs, rfl, rfl, g2⟩ <;> (unfold eqv; rfl)
  | .str a, b, p, q, h1, h2 => by
    unfold toD toP at h1
    cases h1
    rcases toP_leaf cm h2 with ⟨rfl, rfl⟩ | ⟨b, rfl, rfl⟩ | ⟨b, rfl, rfl⟩ | ⟨b, rfl, rfl⟩ | ⟨ys, qs, rfl, rfl, g2⟩ | ⟨ys, qs, rfl, rfl, g2⟩
    · unfold eqv; rfl
    · unfold eqv; rfl
    · unfold eqv; rfl
    · unfold eqv PyData.eqv; exact tx_beq a b
    · unfold eqv; rfl
    · unfold eqv; rfl
  | .ty _, b, p, q, h1, h2 => by unfold toD toP at h1; cases h1
  | .ref _, b, p, q, h1, h2 => by unfold toD toP at h1; cases h1
  | .dic _ _, b, p, q, h1, h2 => by unfold toD toP at h1; cases h1
  | .obj _ _ _, b, p, q, h1, h2 => by unfold toD toP at h1; cases h1
theorem eqvs_of : ∀ (xs ys : List A) (ps qs : List PyData), toPs (toDs cm xs) = some ps → toPs (toDs cm ys) = some qs → PyData.eqvAll ps qs = eqvs xs ys
  | [], [], ps, qs, h1, h2 => by
    unfold toDs toPs at h1 h2
    cases h1
    cases h2
    unfold eqvs; rfl
  | [], y :: ys, ps, qs, h1, h2 => by
    unfold toDs toPs at h1
    cases h1
    obtain ⟨q, qs, g1, g2, rfl⟩ := toPs_cons cm h2
    unfold eqvs; rfl
  | x :: xs, [], ps, qs, h1, h2 => by
    unfold toDs toPs at h2
    cases h2
    obtain ⟨q, qs, g1, g2, rfl⟩ := toPs_cons cm h1
    unfold eqvs; rfl
  | x :: xs, y :: ys, ps, qs, h1, h2 => by
    obtain ⟨p, ps, g1, g2, rfl⟩ := toPs_cons cm h1
    obtain ⟨q, qs, g3, g4, rfl⟩ := toPs_cons cm h2
    unfold eqvs PyData.eqvAll
    rw [eqv_of x y p q g1 g3, eqvs_of xs ys ps qs g2 g4]
end
end

/-! ### operations of two -/
abbrev G2 := A → A → Option A
abbrev G2L := A → A → Option (List A)
abbrev G1 := A → Option A
abbrev G1L := A → Option (List A)
def OpF (o : O2) (g : G2) : Prop := ∀ (cm : CM) a b c (k : D → Prop), g a b = some c → k (toD cm c) → o (toD cm a) (toD cm b) k
def OpFL (o : O2L) (g : G2L) : Prop := ∀ (cm : CM) a b c (k : List D → Prop), g a b = some c → k (toDs cm c) → o (toD cm a) (toD cm b) k
def OpF1 (o : O1) (g : G1) : Prop := ∀ (cm : CM) a c (k : D → Prop), g a = some c → k (toD cm c) → o (toD cm a) k
def OpF1L (o : O1L) (g : G1L) : Prop := ∀ (cm : CM) a c (k : List D → Prop), g a = some c → k (toDs cm c) → o (toD cm a) k
def gI (f : Int → Int → A) : G2
  | .int i, .int j => some (f i j)
  | _, _ => none
def gIC (C : Int → Int → Bool) (f : Int → Int → A) : G2
  | .int i, .int j => if C i j then some (f i j) else none
  | _, _ => none
theorem opF_I {f : Int → Int → A} {g : Int → Int → D} (h : ∀ cm i j, toD cm (f i j) = g i j) : OpF (oI g) (gI f) := fun cm a b c k e hk => by
  unfold gI at e
  split at e
  · cases e
    rw [h] at hk
    exact hk
  · cases e
theorem opF_IC {C : Int → Int → Prop} {C' : Int → Int → Bool} {f : Int → Int → A} {g : Int → Int → D} (hC : ∀ i j, C' i j = true → C i j) (h : ∀ cm i j, toD cm (f i j) = g i j) : OpF (oIC C g) (gIC C' f) := fun cm a b c k e hk => by
  unfold gIC at e
  split at e
  · split at e
    · rename_i i j hc
      cases e
      rw [h] at hk
      exact ⟨hC i j hc, hk⟩
    · cases e
  · cases e
abbrev gSub : G2 := gI fun i j => .int (i - j)
abbrev gLt : G2 := gI fun i j => .bl (decide (i < j))
abbrev gLe : G2 := gI fun i j => .bl (decide (i ≤ j))
abbrev gGt : G2 := gI fun i j => .bl (decide (j < i))
abbrev gGe : G2 := gI fun i j => .bl (decide (j ≤ i))
abbrev gMul : G2 := gIC (fun i j => decide ((-(2 ^ 64) < i ∧ i < 2 ^ 64) ∨ (-(2 ^ 64) < j ∧ j < 2 ^ 64))) fun i j => .int (i * j)
abbrev gMod : G2 := gIC (fun _ j => decide (0 < j)) fun i j => .int (i % j)
abbrev gDiv : G2 := gIC (fun _ j => decide (0 < j ∧ j < 1073741824)) fun i j => .int (i / j)
abbrev gPow : G2 := gIC (fun i j => decide (0 ≤ j ∧ j ≤ 1000000 ∧ i.natAbs < 2 ^ 64)) fun i j => .int (i ^ j.toNat)
theorem f_sub : OpF oSub gSub := opF_I fun _ _ _ => rfl
theorem f_lt : OpF oLt gLt := opF_I fun _ _ _ => rfl
theorem f_le : OpF oLe gLe := opF_I fun _ _ _ => rfl
theorem f_gt : OpF oGt gGt := opF_I fun _ _ _ => rfl
theorem f_ge : OpF oGe gGe := opF_I fun _ _ _ => rfl
theorem f_mul : OpF oMul gMul := opF_IC (fun i j h => by unfold CMul; exact of_decide_eq_true h) fun _ _ _ => rfl
theorem f_mod : OpF oMod gMod := opF_IC (fun _ _ h => of_decide_eq_true h) fun _ _ _ => rfl
theorem f_div : OpF oDiv gDiv := opF_IC (fun i j h => by unfold CDiv; exact of_decide_eq_true h) fun _ _ _ => rfl
theorem f_pow : OpF oPow gPow := opF_IC (fun i j h => by unfold CPow; exact of_decide_eq_true h) fun _ _ _ => rfl
/-- the longest text, tuple, list that is made -/
abbrev big : Nat := 10000000
theorem big_line {n : Nat} (h : n ≤ big) : n ≤ sizeLine := by
  rw [sizeLine_eq]
  exact Nat.le_trans h (by decide)
def gAdd : G2
  | .int i, .int j => some (.int (i + j))
  | .str a, .str b => if a.length + b.length ≤ big then some (.str (a ++ b)) else none
  | .tup a, .tup b => if a.length + b.length ≤ big then some (.tup (a ++ b)) else none
  | _, _ => none
theorem f_add : OpF oAdd gAdd := fun cm a b c k e hk => by
  unfold gAdd at e
  split at e
  · cases e
    exact hk
  · split at e
    · rename_i h
      cases e
      refine ⟨by rw [tx_len, tx_len]; exact big_line h, ?_⟩
      rw [tx_app]
      exact hk
    · cases e
  · split at e
    · rename_i h
      cases e
      rw [toD_tup, toD_tup]
      rw [toD_tup, toDs_app] at hk
      exact ⟨by rw [toDs_len, toDs_len]; exact big_line h, hk⟩
    · cases e
  · cases e
def gCat : G2L
  | .lst a, .lst b => if a.length + b.length ≤ big then some (a ++ b) else none
  | _, _ => none
theorem f_cat : OpFL oCat gCat := fun cm a b c k e hk => by
  unfold gCat at e
  split at e
  · split at e
    · rename_i h
      cases e
      rw [toD_lst, toD_lst]
      rw [toDs_app] at hk
      exact ⟨by rw [toDs_len, toDs_len]; exact big_line h, hk⟩
    · cases e
  · cases e
/-- [..] * n, n not below nothing -/
def gRep : G2L
  | .lst a, .int n => if (0 ≤ n ∧ n < 1000000) ∧ a.length * n.toNat ≤ big then some (List.replicate n.toNat a).flatten else none
  | _, _ => none
theorem toDs_rep (cm : CM) (a : List A) : ∀ n : Nat, toDs cm (List.replicate n a).flatten = (List.replicate n (toDs cm a)).flatten
  | 0 => rfl
  | n + 1 => by rw [List.replicate_succ, List.replicate_succ, List.flatten_cons, List.flatten_cons, toDs_app, toDs_rep cm a n]
theorem f_rep : OpFL oRep gRep := fun cm a b c k e hk => by
  unfold gRep at e
  split at e
  · split at e
    · rename_i h
      cases e
      rw [toD_lst]
      rw [toDs_rep] at hk
      exact ⟨⟨by omega, by omega, by rw [toDs_len]; exact big_line h.2⟩, hk⟩
    · cases e
  · cases e
def gIx : G2
  | .lst xs, .int i => atI xs i
  | .tup xs, .int i => atI xs i
  | .str l, .int i => if l.length ≤ big then (atI l i).map fun c => .str [c] else none
  | _, _ => none
theorem atI_toDs (cm : CM) (xs : List A) (i : Int) : atI (toDs cm xs) i = (atI xs i).map (toD cm) := by
  unfold atI
  rw [toDs_len]
  cases ixN xs.length i with
  | none => rfl
  | some j => exact toDs_get cm xs j
theorem f_ix : OpF oIx gIx := fun cm a b c k e hk => by
  unfold gIx at e
  split at e
  · rw [toD_lst]
    show match atI (toDs cm _) _ with | some x => k x | none => False
    rw [atI_toDs, e]
    exact hk
  · rw [toD_tup]
    show match atI (toDs cm _) _ with | some x => k x | none => False
    rw [atI_toDs, e]
    exact hk
  · split at e
    · rename_i l i h
      cases g : atI l i with
      | none => rw [g] at e; cases e
      | some x =>
        rw [g] at e
        cases e
        refine ⟨by rw [tx_len]; exact big_line h, ?_⟩
        show match atI (tx l).cps.toList i with | some c => k (.str ⟨#[c]⟩) | none => False
        rw [tx_at, g]
        exact hk
    · cases e
  · cases e
def gEq : G2 := fun a b => if okd 60 a && okd 60 b then some (.bl (eqv a b)) else none
def gNe : G2 := fun a b => if okd 60 a && okd 60 b then some (.bl (!eqv a b)) else none
theorem f_eq : OpF oEq gEq := fun cm a b c k e hk => by
  unfold gEq at e
  split at e
  · rename_i h
    rw [Bool.and_eq_true] at h
    cases e
    obtain ⟨p, h1, h2⟩ := okd_toP cm 60 a h.1
    obtain ⟨q, h3, h4⟩ := okd_toP cm 60 b h.2
    unfold oEq
    rw [h1, h3]
    exact ⟨by omega, by rw [eqv_of cm a b p q h1 h3]; exact hk⟩
  · cases e
theorem f_ne : OpF oNe gNe := fun cm a b c k e hk => by
  unfold gNe at e
  split at e
  · rename_i h
    rw [Bool.and_eq_true] at h
    cases e
    obtain ⟨p, h1, h2⟩ := okd_toP cm 60 a h.1
    obtain ⟨q, h3, h4⟩ := okd_toP cm 60 b h.2
    unfold oNe
    rw [h1, h3]
    exact ⟨by omega, by rw [eqv_of cm a b p q h1 h3]; exact hk⟩
  · cases e
/-- whether a is among xs -/
def mem (a : A) (xs : List A) : Bool := xs.any fun z => eqv z a
def gInG (neg : Bool) : G2 := fun a b => match b with
  | .str y => match a with
    | .str [c] => some (.bl (if neg then !decide (c ∈ y) else decide (c ∈ y)))
    | _ => none
  | .lst xs => if okd 60 a && xs.all (okd 60) then some (.bl (if neg then !mem a xs else mem a xs)) else none
  | .tup xs => if okd 60 a && xs.all (okd 60) then some (.bl (if neg then !mem a xs else mem a xs)) else none
  | _ => none
abbrev gIn : G2 := gInG false
abbrev gNi : G2 := gInG true
theorem mem_of (cm : CM) (a : A) (p : PyData) (hp : toP (toD cm a) = some p) : ∀ (xs : List A) (ps : List PyData), toPs (toDs cm xs) = some ps → (ps.any fun z => PyData.eqv z p) = mem a xs
  | [], ps, h => by
    unfold toDs toPs at h
    cases h
    rfl
  | x :: xs, ps, h => by
    obtain ⟨q, qs, g1, g2, rfl⟩ := toPs_cons cm h
    unfold mem
    rw [List.any_cons, List.any_cons, eqv_of cm x a q p g1 hp]
    rw [mem_of cm a p hp xs qs g2]
    rfl
theorem f_in {neg : Bool} : OpF (oInG neg) (gInG neg) := fun cm a b c k e hk => by
  unfold gInG at e
  split at e
  · rename_i y
    split at e
    · rename_i c'
      cases e
      show k (.bl (if neg = true then !inS (tx [c']) (tx y) else inS (tx [c']) (tx y)))
      rw [tx_in]
      exact hk
    · cases e
  · rename_i xs
    split at e
    · rename_i h
      rw [Bool.and_eq_true] at h
      cases e
      obtain ⟨p, h1, h2⟩ := okd_toP cm 60 a h.1
      obtain ⟨ps, h3, h4⟩ := okds_toP cm 60 xs h.2
      rw [toD_lst]
      have key : oInG neg (toD cm a) (.lst (toDs cm xs)) k = (min (PyData.depthAll ps) p.depth ≤ 62 ∧ k (.bl (if neg = true then !ps.any fun z => PyData.eqv z p else ps.any fun z => PyData.eqv z p))) := by
        unfold oInG
        simp only [h1, h3]
      rw [key, mem_of cm a p h1 xs ps h3]
      exact ⟨by omega, hk⟩
    · cases e
  · rename_i xs
    split at e
    · rename_i h
      rw [Bool.and_eq_true] at h
      cases e
      obtain ⟨p, h1, h2⟩ := okd_toP cm 60 a h.1
      obtain ⟨ps, h3, h4⟩ := okds_toP cm 60 xs h.2
      rw [toD_tup]
      have key : oInG neg (toD cm a) (.tup (toDs cm xs)) k = (min (PyData.depthAll ps) p.depth ≤ 62 ∧ k (.bl (if neg = true then !ps.any fun z => PyData.eqv z p else ps.any fun z => PyData.eqv z p))) := by
        unfold oInG
        simp only [h1, h3]
      rw [key, mem_of cm a p h1 xs ps h3]
      exact ⟨by omega, hk⟩
    · cases e
  · cases e
/-- is None -/
def gIsN (neg : Bool) : G2
  | .non, .non => some (.bl (!neg))
  | _, .non => some (.bl neg)
  | _, _ => none
theorem f_isn {neg : Bool} : OpF (oIsN neg) (gIsN neg) := fun cm a b c k e hk => by
  unfold gIsN at e
  split at e
  · cases e
    exact hk
  · rename_i hn
    cases e
    unfold oIsN
    cases a <;> first | exact absurd rfl hn | exact hk
  · cases e

/-! ### operations of one -/
def gLen : G1
  | .str s => if s.length ≤ big then some (.int s.length) else none
  | .lst xs => some (.int xs.length)
  | .tup xs => some (.int xs.length)
  | .dic ks vs => if ks.length = vs.length then some (.int ks.length) else none
  | _ => none
theorem f_len : OpF1 oLen gLen := fun cm a c k e hk => by
  unfold gLen at e
  split at e
  · split at e
    · rename_i h
      cases e
      exact ⟨by rw [tx_len]; exact big_line h, by rw [tx_len]; exact hk⟩
    · cases e
  · cases e
    rw [toD_lst]
    show k (.int (toDs cm _).length)
    rw [toDs_len]
    exact hk
  · cases e
    rw [toD_tup]
    show k (.int (toDs cm _).length)
    rw [toDs_len]
    exact hk
  · split at e
    · rename_i ks vs h
      cases e
      show k (.int ((ks.map keyD).zip (toDs cm vs)).length)
      rw [List.length_zip, List.length_map, toDs_len, h, Nat.min_self, ← h]
      exact hk
    · cases e
  · cases e
def blsF : List A → Option (List Bool)
  | [] => some []
  | .bl b :: r => (blsF r).map (b :: ·)
  | _ :: _ => none
theorem bls_F (cm : CM) : ∀ (xs : List A) (bs : List Bool), blsF xs = some bs → bls (toDs cm xs) = some bs
  | [], bs, h => by
    cases h
    unfold toDs bls
    rfl
  | .bl b :: r, bs, h => by
    unfold blsF at h
    cases g : blsF r with
    | none => rw [g] at h; cases h
    | some cs =>
      rw [g] at h
      cases h
      unfold toDs bls
      rw [bls_F cm r cs g]
      rfl
  | .non :: _, _, h => by cases h
  | .int _ :: _, _, h => by cases h
  | .str _ :: _, _, h => by cases h
  | .ty _ :: _, _, h => by cases h
  | .ref _ :: _, _, h => by cases h
  | .tup _ :: _, _, h => by cases h
  | .lst _ :: _, _, h => by cases h
  | .dic _ _ :: _, _, h => by cases h
  | .obj _ _ _ :: _, _, h => by cases h
@[simp] theorem blsF_map {α : Type} (f : α → Bool) (l : List α) : blsF (l.map fun x => .bl (f x)) = some (l.map f) := by
  induction l with
  | nil => rfl
  | cons x l ih =>
    rw [List.map_cons]
    unfold blsF
    rw [ih]
    rfl
def gAll : G1
  | .lst xs => (blsF xs).map fun bs => .bl (bs.all id)
  | _ => none
def gAny : G1
  | .lst xs => (blsF xs).map fun bs => .bl (bs.any id)
  | _ => none
theorem f_all : OpF1 oAll gAll := fun cm a c k e hk => by
  unfold gAll at e
  split at e
  · rename_i xs
    cases g : blsF xs with
    | none => rw [g] at e; cases e
    | some bs =>
      rw [g] at e
      cases e
      rw [toD_lst]
      show match bls (toDs cm xs) with | some bs => k (.bl (bs.all id)) | none => False
      rw [bls_F cm xs bs g]
      exact hk
  · cases e
theorem f_any : OpF1 oAny gAny := fun cm a c k e hk => by
  unfold gAny at e
  split at e
  · rename_i xs
    cases g : blsF xs with
    | none => rw [g] at e; cases e
    | some bs =>
      rw [g] at e
      cases e
      rw [toD_lst]
      show match bls (toDs cm xs) with | some bs => k (.bl (bs.any id)) | none => False
      rw [bls_F cm xs bs g]
      exact hk
  · cases e
def gInt : G1
  | .int i => some (.int i)
  | .str l => if l.length ≤ 640 then (PySem.intText? (tx l)).map .int else none
  | _ => none
theorem f_int : OpF1 oInt gInt := fun cm a c k e hk => by
  unfold gInt at e
  split at e
  · cases e
    exact hk
  · split at e
    · rename_i l h
      cases g : PySem.intText? (tx l) with
      | none => rw [g] at e; cases e
      | some n =>
        rw [g] at e
        cases e
        refine ⟨by rw [tx_len]; exact h, ?_⟩
        rw [g]
        exact hk
    · cases e
  · cases e
def gList : G1L
  | .lst xs => some xs
  | .tup xs => some xs
  | _ => none
theorem f_list : OpF1L oList gList := fun cm a c k e hk => by
  unfold gList at e
  split at e
  · cases e
    rw [toD_lst]
    exact hk
  · cases e
    rw [toD_tup]
    exact hk
  · cases e
def gTuple : G1
  | .lst xs => some (.tup xs)
  | .tup xs => some (.tup xs)
  | _ => none
theorem f_tuple : OpF1 oTuple gTuple := fun cm a c k e hk => by
  unfold gTuple at e
  split at e
  · cases e
    rw [toD_lst]
    rw [toD_tup] at hk
    exact hk
  · cases e
    rw [toD_tup]
    rw [toD_tup] at hk
    exact hk
  · cases e
/-- the signs of a number's text -/
def intL (i : Int) : List Nat := cs (toString i : Str)
def gStr : G1
  | .int i => if i.natAbs < 2 ^ 64 then some (.str (intL i)) else none
  | _ => none
theorem f_str : OpF1 oStr gStr := fun cm a c k e hk => by
  unfold gStr at e
  split at e
  · split at e
    · rename_i i h
      cases e
      refine ⟨?_, hk⟩
      by_cases h0 : i.natAbs = 0
      · rw [h0]
        decide
      · exact Nat.lt_of_lt_of_le ((Nat.log2_lt h0).mpr h) (by decide)
    · cases e
  · cases e
/-! ### isinstance -/
def tyF : A → Option String
  | .non => some "NoneType"
  | .bl _ => some "bool"
  | .int _ => some "int"
  | .str _ => some "str"
  | .tup _ => some "tuple"
  | .lst _ => some "list"
  | .dic _ _ => some "dict"
  | _ => none
theorem ty_F (cm : CM) (a : A) : tyD (toD cm a) = tyF a := by cases a <;> rfl
/-- the seven kinds by their letters, as tests -/
def isA (t : String) (a : A) : Bool := match t, a with
  | "str", .str _ => true
  | "int", .int _ => true
  | "int", .bl _ => true
  | "bool", .bl _ => true
  | "list", .lst _ => true
  | "tuple", .tup _ => true
  | "dict", .dic _ _ => true
  | _, _ => false
def isStr : A → Bool | .str _ => true | _ => false
def isInt : A → Bool | .int _ => true | .bl _ => true | _ => false
def isBool : A → Bool | .bl _ => true | _ => false
def isList : A → Bool | .lst _ => true | _ => false
def isTuple : A → Bool | .tup _ => true | _ => false
def isDict : A → Bool | .dic _ _ => true | _ => false
def IsF (t : String) (f : A → Bool) : Prop := (["str", "int", "bool", "list", "tuple", "dict"].contains t) = true ∧ ∀ a x, tyF a = some x → isB x t = f a
theorem is_str : IsF "str" isStr := ⟨by decide +kernel, fun a x h => by cases a <;> cases h <;> rfl⟩
theorem is_int : IsF "int" isInt := ⟨by decide +kernel, fun a x h => by cases a <;> cases h <;> rfl⟩
theorem is_bool : IsF "bool" isBool := ⟨by decide +kernel, fun a x h => by cases a <;> cases h <;> rfl⟩
theorem is_list : IsF "list" isList := ⟨by decide +kernel, fun a x h => by cases a <;> cases h <;> rfl⟩
theorem is_tuple : IsF "tuple" isTuple := ⟨by decide +kernel, fun a x h => by cases a <;> cases h <;> rfl⟩
theorem is_dict : IsF "dict" isDict := ⟨by decide +kernel, fun a x h => by cases a <;> cases h <;> rfl⟩
/-- built-in data alone are asked -/
def plainK : A → Bool
  | .ty _ => false
  | .ref _ => false
  | .obj _ _ _ => false
  | _ => true
def gIsi (f : A → Bool) : G1 := fun a => if plainK a then some (.bl (f a)) else none
theorem plainK_ty {a : A} (h : plainK a = true) : ∃ x, tyF a = some x := by cases a <;> first | exact ⟨_, rfl⟩ | cases h
theorem isT_F {t : String} {f : A → Bool} (h : IsF t f) (cm : CM) {a : A} (ha : plainK a = true) : isT t (toD cm a) = f a := by
  obtain ⟨x, hx⟩ := plainK_ty ha
  unfold isT
  rw [ty_F, hx]
  exact h.2 a x hx
theorem f_isi {t : String} {f : A → Bool} (h : IsF t f) : OpF1 (oIsi t) (gIsi f) := fun cm a c k e hk => by
  unfold gIsi at e
  split at e
  · rename_i ha
    cases e
    obtain ⟨x, hx⟩ := plainK_ty ha
    rw [isi_eq (by rw [ty_F, hx]; rfl) h.1, isT_F h cm ha]
    exact hk
  · cases e
theorem f_isi2 {t u : String} {f g : A → Bool} (h : IsF t f) (h' : IsF u g) : OpF1 (oIsi2 t u) (gIsi fun a => f a || g a) := fun cm a c k e hk => by
  unfold gIsi at e
  split at e
  · rename_i ha
    cases e
    obtain ⟨x, hx⟩ := plainK_ty ha
    rw [isi2_eq (by rw [ty_F, hx]; rfl) h.1 h'.1, isT_F h cm ha, isT_F h' cm ha]
    exact hk
  · cases e
/-! ### truth -/
def truF : A → Option Bool
  | .non => some false
  | .bl b => some b
  | .int i => some (decide (i ≠ 0))
  | .str l => if l.length ≤ big then some (!l.isEmpty) else none
  | .tup xs => some (!xs.isEmpty)
  | .lst xs => some (!xs.isEmpty)
  | .dic ks vs => if ks.length = vs.length then some (!ks.isEmpty) else none
  | _ => none
theorem f_tru (cm : CM) (a : A) (b : Bool) (k : Bool → Prop) (e : truF a = some b) (hk : k b) : truD (toD cm a) k := by
  unfold truF at e
  split at e
  · cases e; exact hk
  · cases e; exact hk
  · rename_i i
    cases e
    have e2 : (i != 0) = decide (i ≠ 0) := by
      by_cases h : i = 0
      · subst h; rfl
      · rw [decide_eq_true h]; exact bne_iff_ne.mpr h
    show k (i != 0)
    rw [e2]; exact hk
  · split at e
    · rename_i l h
      cases e
      refine ⟨by rw [tx_len]; exact big_line h, ?_⟩
      rw [tx_len]
      cases l with
      | nil => exact hk
      | cons c l =>
        have : (((c :: l).length : Int) != 0) = true := by rw [bne_iff_ne, List.length_cons]; omega
        rw [this]; exact hk
    · cases e
  · rename_i xs
    cases e
    rw [toD_tup]
    show k (!(toDs cm xs).isEmpty)
    rw [isEmpty_len (toDs_len cm xs)]; exact hk
  · rename_i xs
    cases e
    rw [toD_lst]
    show k (!(toDs cm xs).isEmpty)
    rw [isEmpty_len (toDs_len cm xs)]; exact hk
  · split at e
    · rename_i ks vs h
      cases e
      show k (!((ks.map keyD).zip (toDs cm vs)).isEmpty)
      rw [isEmpty_len (ys := ks) (by rw [List.length_zip, List.length_map, toDs_len, h, Nat.min_self])]
      exact hk
    · cases e
  · cases e
/-! ### join -/
def stsF : List A → Option (List (List Nat))
  | [] => some []
  | .str b :: r => (stsF r).map (b :: ·)
  | _ :: _ => none
theorem sts_F (cm : CM) : ∀ (xs : List A) (bs : List (List Nat)), stsF xs = some bs → sts (toDs cm xs) = some (bs.map tx)
  | [], bs, h => by
    cases h
    unfold toDs sts
    rfl
  | .str b :: r, bs, h => by
    unfold stsF at h
    cases g : stsF r with
    | none => rw [g] at h; cases h
    | some cs =>
      rw [g] at h
      cases h
      unfold toDs sts
      rw [sts_F cm r cs g]
      rfl
  | .non :: _, _, h => by cases h
  | .int _ :: _, _, h => by cases h
  | .bl _ :: _, _, h => by cases h
  | .ty _ :: _, _, h => by cases h
  | .ref _ :: _, _, h => by cases h
  | .tup _ :: _, _, h => by cases h
  | .lst _ :: _, _, h => by cases h
  | .dic _ _ :: _, _, h => by cases h
  | .obj _ _ _ :: _, _, h => by cases h
@[simp] theorem stsF_map {α : Type} (f : α → List Nat) (l : List α) : stsF (l.map fun x => .str (f x)) = some (l.map f) := by
  induction l with
  | nil => rfl
  | cons x l ih =>
    rw [List.map_cons]
    unfold stsF
    rw [ih]
    rfl
/-- texts with a text between them -/
def joinL (sep : List Nat) : List (List Nat) → List Nat
  | [] => []
  | [l] => l
  | l :: r => l ++ sep ++ joinL sep r
theorem join_tx (sep : List Nat) : ∀ ls : List (List Nat), Txt.join (tx sep) (ls.map tx) = tx (joinL sep ls)
  | [] => rfl
  | l :: ls => by
    show Builtin.Str.glued (tx sep) ((l :: ls).map tx) = _
    rw [StrLaws.glued_eq_join]
    have ih := join_tx sep ls
    change Builtin.Str.glued (tx sep) (ls.map tx) = _ at ih
    rw [StrLaws.glued_eq_join] at ih
    cases ls with
    | nil => simp [Str.join, joinL]
    | cons m ls =>
      show tx l ++ tx sep ++ Str.join (tx sep) ((m :: ls).map tx) = _
      rw [ih, tx_app, tx_app]
      rfl
def gJoin : G2
  | .str sep, .lst xs => match stsF xs with
    | some ys => if (ys.map (·.length)).sum + ys.length * sep.length ≤ big then some (.str (joinL sep ys)) else none
    | none => none
  | .str sep, .tup xs => match stsF xs with
    | some ys => if (ys.map (·.length)).sum + ys.length * sep.length ≤ big then some (.str (joinL sep ys)) else none
    | none => none
  | _, _ => none
theorem joinOk_tx {sep : List Nat} {ys : List (List Nat)} (h : (ys.map (·.length)).sum + ys.length * sep.length ≤ big) : joinOk (tx sep) (ys.map tx) := by
  unfold joinOk
  rw [List.map_map, tx_len, List.length_map]
  have e : ((fun y : Str => y.length) ∘ tx) = (fun y : List Nat => y.length) := by
    funext y
    exact tx_len y
  rw [e]
  exact Nat.le_trans h (by decide)
theorem f_join : OpF oJoin gJoin := fun cm a b c k e hk => by
  unfold gJoin at e
  split at e
  · rename_i sep xs
    split at e
    · rename_i ys g
      split at e
      · rename_i h
        cases e
        rw [toD_lst]
        show match sts (toDs cm xs) with | some ys => joinOk (tx sep) ys ∧ k (.str (Txt.join (tx sep) ys)) | none => False
        rw [sts_F cm xs ys g]
        exact ⟨joinOk_tx h, by rw [join_tx]; exact hk⟩
      · cases e
    · cases e
  · rename_i sep xs
    split at e
    · rename_i ys g
      split at e
      · rename_i h
        cases e
        rw [toD_tup]
        show match sts (toDs cm xs) with | some ys => joinOk (tx sep) ys ∧ k (.str (Txt.join (tx sep) ys)) | none => False
        rw [sts_F cm xs ys g]
        exact ⟨joinOk_tx h, by rw [join_tx]; exact hk⟩
      · cases e
    · cases e
  · cases e
/-! ### slices -/
def gSl (a : A) (lo hi : Option Int) : Option A := match a with
  | .str l => if l.length ≤ big then some (.str (cutL l lo hi)) else none
  | .tup xs => some (.tup (cutL xs lo hi))
  | _ => none
def gSlL (a : A) (lo hi : Option Int) : Option (List A) := match a with
  | .lst xs => some (cutL xs lo hi)
  | _ => none
theorem cut_toDs (cm : CM) (xs : List A) (lo hi : Option Int) : cutL (toDs cm xs) lo hi = toDs cm (cutL xs lo hi) := by
  unfold cutL
  rw [toDs_len, toDs_map, toDs_map, List.map_take, List.map_drop]
theorem f_sl (cm : CM) (a : A) (lo hi : Option Int) (c : A) (k : D → Prop) (e : gSl a lo hi = some c) (hk : k (toD cm c)) : oSl (toD cm a) lo hi k := by
  unfold gSl at e
  split at e
  · split at e
    · rename_i l h
      cases e
      exact ⟨by rw [tx_len]; exact big_line h, by rw [tx_cut]; exact hk⟩
    · cases e
  · cases e
    rw [toD_tup]
    rw [toD_tup] at hk
    show k (.tup (cutL (toDs cm _) lo hi))
    rw [cut_toDs]
    exact hk
  · cases e
theorem f_slL (cm : CM) (a : A) (lo hi : Option Int) (c : List A) (k : List D → Prop) (e : gSlL a lo hi = some c) (hk : k (toDs cm c)) : oSlL (toD cm a) lo hi k := by
  unfold gSlL at e
  split at e
  · cases e
    rw [toD_lst]
    show k (cutL (toDs cm _) lo hi)
    rw [cut_toDs]
    exact hk
  · cases e
end PF

/-! PF, part c: expressions as plain functions of the state. -/
namespace PF
open PySem PySem.Spec PyProof.Rows L2 PD

/-! ### readings -/
section
variable (cm : CM) (bg : Option Addr) (O : List Nat)
def cE (f : Env → T A) : WE := fun ρ kq kx => ∃ env, ρ = mix cm O env ∧ (f env).wp bg (fun a => kq (toD cm a) ρ) (fun x => kx (toX cm x) ρ)
def cL (f : Env → T (List A)) : WA := fun ρ kq kx => ∃ env, ρ = mix cm O env ∧ (f env).wp bg (fun a => kq (toDs cm a) ρ) (fun x => kx (toX cm x) ρ)
def cT (f : Env → T Bool) : WT := fun ρ kq kx => ∃ env, ρ = mix cm O env ∧ (f env).wp bg (fun a => kq a ρ) (fun x => kx (toX cm x) ρ)
def cQ (f : Env → T (A × A)) : WP2 := fun ρ kq kx => ∃ env, ρ = mix cm O env ∧ (f env).wp bg (fun a => kq (toD cm a.1) (toD cm a.2) ρ) (fun x => kx (toX cm x) ρ)
def cO (f : Env → T (Option Int)) : WO := fun ρ kq kx => ∃ env, ρ = mix cm O env ∧ (f env).wp bg (fun a => kq a ρ) (fun x => kx (toX cm x) ρ)
def cQ3 (f : Env → T (A × Option Int × Option Int)) : DSt → (D → Option Int → Option Int → DSt → Prop) → KX → Prop := fun ρ kq kx => ∃ env, ρ = mix cm O env ∧ (f env).wp bg (fun a => kq (toD cm a.1) a.2.1 a.2.2 ρ) (fun x => kx (toX cm x) ρ)
end
abbrev FE (cm : CM) (X : Cx) (F : Fm) (W : WX) (O : List Nat) (e : Expr) (f : Env → T A) : Prop := DE X F W e (cE cm F.bag O f)
abbrev FP (cm : CM) (X : Cx) (F : Fm) (W : WX) (O : List Nat) (e : Expr) (f : Env → T A) : Prop := DP X F W e (cE cm F.bag O f)
abbrev FL (cm : CM) (X : Cx) (F : Fm) (W : WX) (O : List Nat) (e : Expr) (f : Env → T (List A)) : Prop := DL X F W e (cL cm F.bag O f)
abbrev FT (cm : CM) (X : Cx) (F : Fm) (W : WX) (O : List Nat) (e : Expr) (f : Env → T Bool) : Prop := DT X F W e (cT cm F.bag O f)
abbrev FW (cm : CM) (X : Cx) (F : Fm) (W : WX) (O : List Nat) (e : Expr) (f : Env → T Bool) : Prop := DW X F W e (cT cm F.bag O f)
abbrev FA (cm : CM) (X : Cx) (F : Fm) (W : WX) (O : List Nat) (es : List Expr) (f : Env → T (List A)) : Prop := DA X F W es (cL cm F.bag O f)
abbrev FQ (cm : CM) (X : Cx) (F : Fm) (W : WX) (O : List Nat) (a b : Expr) (f : Env → T (A × A)) : Prop := DQ X F W a b (cQ cm F.bag O f)
abbrev FO (cm : CM) (X : Cx) (F : Fm) (W : WX) (O : List Nat) (e : Option Expr) (f : Env → T (Option Int)) : Prop := DO X F W e (cO cm F.bag O f)
abbrev FQ3 (cm : CM) (X : Cx) (F : Fm) (W : WX) (O : List Nat) (e : Expr) (lo hi : Option Expr) (f : Env → T (A × Option Int × Option Int)) : Prop := DQ3 X F W e lo hi (cQ3 cm F.bag O f)
abbrev FK (cm : CM) (X : Cx) (F : Fm) (W : WX) (O : List Nat) (es : List Keyword) (f : Env → T (List A)) : Prop := DK X F W es (cL cm F.bag O f)

section
variable {X : Cx} {F : Fm} {W : WX} {e a b : Expr} {es : List Expr}
theorem DE_imp {w w' : WE} (h : DE X F W e w) (hw : ∀ ρ kq kx, w' ρ kq kx → w ρ kq kx) : DE X F W e w' := by
  obtain ⟨t, p, q⟩ := h.ex
  exact ⟨t, p, fun S ρ σ H Q kq kx r h' => q S ρ σ H Q kq kx r (hw _ _ _ h')⟩
theorem DP_imp {w w' : WE} (h : DP X F W e w) (hw : ∀ ρ kq kx, w' ρ kq kx → w ρ kq kx) : DP X F W e w' := by
  obtain ⟨t, p, q⟩ := h.ex
  exact ⟨t, p, fun S ρ σ H Q kq kx r h' => q S ρ σ H Q kq kx r (hw _ _ _ h')⟩
theorem DL_imp {w w' : WA} (h : DL X F W e w) (hw : ∀ ρ kq kx, w' ρ kq kx → w ρ kq kx) : DL X F W e w' := by
  obtain ⟨t, p, q⟩ := h.ex
  exact ⟨t, p, fun S ρ σ H Q kq kx r h' => q S ρ σ H Q kq kx r (hw _ _ _ h')⟩
theorem DT_imp {w w' : WT} (h : DT X F W e w) (hw : ∀ ρ kq kx, w' ρ kq kx → w ρ kq kx) : DT X F W e w' := by
  obtain ⟨t, p, q⟩ := h.ex
  exact ⟨t, p, fun S ρ σ H Q kq kx r h' => q S ρ σ H Q kq kx r (hw _ _ _ h')⟩
theorem DW_imp {w w' : WT} (h : DW X F W e w) (hw : ∀ ρ kq kx, w' ρ kq kx → w ρ kq kx) : DW X F W e w' := by
  obtain ⟨t, p, q⟩ := h.ex
  exact ⟨t, p, fun S ρ σ H Q kq kx r h' => q S ρ σ H Q kq kx r (hw _ _ _ h')⟩
theorem DA_imp {w w' : WA} (h : DA X F W es w) (hw : ∀ ρ kq kx, w' ρ kq kx → w ρ kq kx) : DA X F W es w' := by
  obtain ⟨t, p, q⟩ := h.ex
  exact ⟨t, p, fun S ρ σ H Q kq kx r h' => q S ρ σ H Q kq kx r (hw _ _ _ h')⟩
theorem DQ_imp {w w' : WP2} (h : DQ X F W a b w) (hw : ∀ ρ kq kx, w' ρ kq kx → w ρ kq kx) : DQ X F W a b w' := by
  obtain ⟨t, t2, p, p2, q⟩ := h.ex
  exact ⟨t, t2, p, p2, fun S ρ σ H Q kq kx r h' => q S ρ σ H Q kq kx r (hw _ _ _ h')⟩
theorem DO_imp {o : Option Expr} {w w' : WO} (h : DO X F W o w) (hw : ∀ ρ kq kx, w' ρ kq kx → w ρ kq kx) : DO X F W o w' := by
  obtain ⟨t, p, q⟩ := h.ex
  exact ⟨t, p, fun S ρ σ H Q kq kx r h' => q S ρ σ H Q kq kx r (hw _ _ _ h')⟩
theorem DQ3_imp {lo hi : Option Expr} {w w' : DSt → (D → Option Int → Option Int → DSt → Prop) → KX → Prop} (h : DQ3 X F W e lo hi w) (hw : ∀ ρ kq kx, w' ρ kq kx → w ρ kq kx) : DQ3 X F W e lo hi w' := by
  obtain ⟨t, t2, t3, p, p2, p3, q⟩ := h.ex
  exact ⟨t, t2, t3, p, p2, p3, fun S ρ σ H Q kq kx r h' => q S ρ σ H Q kq kx r (hw _ _ _ h')⟩
theorem DK_imp {kws : List Keyword} {w w' : WA} (h : DK X F W kws w) (hw : ∀ ρ kq kx, w' ρ kq kx → w ρ kq kx) : DK X F W kws w' := by
  obtain ⟨t, p, q⟩ := h.ex
  exact ⟨t, p, fun S ρ σ H Q kq kx r h' => q S ρ σ H Q kq kx r (hw _ _ _ h')⟩
theorem DI_imp {tg : Expr} {w w' : WA} (h : DI X F W tg e w) (hw : ∀ ρ kq kx, w' ρ kq kx → w ρ kq kx) : DI X F W tg e w' := by
  obtain ⟨t, p, q⟩ := h.ex
  exact ⟨t, p, fun S ρ σ H Q kq kx r h' => q S ρ σ H Q kq kx r (hw _ _ _ h')⟩
end

/-! ### the functions -/
def fVar (i : Nat) : Env → T A := fun env => match env[i]? with
  | some (some a) => .ret a
  | _ => .bad
def fC (a : A) : Env → T A := fun _ => .ret a
def fPair (f g : Env → T A) : Env → T (A × A) := fun env => (f env).bind fun a => (g env).bind fun b => .ret (a, b)
def fOp (g : G2) (f : Env → T (A × A)) : Env → T A := fun env => (f env).bind fun p => T.opt (g p.1 p.2)
def fOpL (g : G2L) (f : Env → T (A × A)) : Env → T (List A) := fun env => (f env).bind fun p => T.opt (g p.1 p.2)
def asB : A → T Bool
  | .bl b => .ret b
  | _ => .bad
def fTst (f : Env → T A) : Env → T Bool := fun env => (f env).bind asB
def fTru (f : Env → T A) : Env → T Bool := fun env => (f env).bind fun a => T.opt (truF a)
def fAnd (f g : Env → T Bool) : Env → T Bool := fun env => (f env).bind fun b => if b then g env else .ret false
def fOr (f g : Env → T Bool) : Env → T Bool := fun env => (f env).bind fun b => if b then .ret true else g env
def fNot (f : Env → T Bool) : Env → T Bool := fun env => (f env).bind fun b => .ret (!b)
def fIf (c : Env → T Bool) (f g : Env → T A) : Env → T A := fun env => (c env).bind fun b => if b then f env else g env
def fAndV (f g : Env → T A) : Env → T A := fun env => (f env).bind fun a => (asB a).bind fun b => if b then g env else .ret (.bl false)
def fOrV (f g : Env → T A) : Env → T A := fun env => (f env).bind fun a => (asB a).bind fun b => if b then .ret (.bl true) else g env
def fNotV (f : Env → T A) : Env → T A := fun env => (f env).bind fun a => (asB a).bind fun b => .ret (.bl (!b))
def fNil : Env → T (List A) := fun _ => .ret []
def fCons (f : Env → T A) (g : Env → T (List A)) : Env → T (List A) := fun env => (f env).bind fun a => (g env).bind fun r => .ret (a :: r)
def small (xs : List A) : Option (List A) := if xs.length ≤ big then some xs else none
def fTup (f : Env → T (List A)) : Env → T A := fun env => (f env).bind fun xs => (T.opt (small xs)).bind fun xs => .ret (.tup xs)
def fLst (f : Env → T (List A)) : Env → T (List A) := fun env => (f env).bind fun xs => T.opt (small xs)
/-- a list as a value -/
def fVal (f : Env → T (List A)) : Env → T A := fun env => (f env).bind fun xs => .ret (.lst xs)
def fG1 (g : G1) (f : Env → T A) : Env → T A := fun env => (f env).bind fun a => T.opt (g a)
def fG1L (g : G1L) (f : Env → T A) : Env → T (List A) := fun env => (f env).bind fun a => T.opt (g a)
def fNone : Env → T (Option Int) := fun _ => .ret none
def fPart (f : Env → T A) : Env → T (Option Int) := fun env => (f env).bind fun a => match a with
  | .int i => .ret (some i)
  | _ => .bad
def fTri (f : Env → T A) (g h : Env → T (Option Int)) : Env → T (A × Option Int × Option Int) := fun env => (f env).bind fun a => (g env).bind fun l => (h env).bind fun u => .ret (a, l, u)
def fSl (f : Env → T (A × Option Int × Option Int)) : Env → T A := fun env => (f env).bind fun p => T.opt (gSl p.1 p.2.1 p.2.2)
def fSlL (f : Env → T (A × Option Int × Option Int)) : Env → T (List A) := fun env => (f env).bind fun p => T.opt (gSlL p.1 p.2.1 p.2.2)
def fChain (g g' : G2) (f h k : Env → T A) : Env → T A := fun env => (f env).bind fun a => (h env).bind fun b => (T.opt (g a b)).bind fun c => (asB c).bind fun t => if t then (k env).bind fun d => T.opt (g' b d) else .ret (.bl false)
def fNeg (f : Env → T A) : Env → T A := fun env => (f env).bind fun a => match a with
  | .int i => .ret (.int (-i))
  | _ => .bad
/-- a method of a text with one argument -/
def fM1 (g : G2) (f h : Env → T A) : Env → T A := fun env => (f env).bind fun a => match a with
  | .str _ => (h env).bind fun b => T.opt (g a b)
  | _ => .bad

section
variable {cm : CM} {X : Cx} {F : Fm} {W : WX} {O : List Nat} {e a b c : Expr} {es : List Expr} {f g h f' g' : Env → T A} {pos p : Pos}
/-! ### names, constants -/
theorem fVar_some {env : Env} {i : Nat} {bg : Option Addr} {q : A → Prop} {k : AX → Prop} (hw : (fVar i env).wp bg q k) : ∃ a, env[i]? = some (some a) ∧ q a := by
  unfold fVar at hw
  split at hw
  · rename_i a h
    exact ⟨a, h, hw⟩
  · exact hw.elim
theorem fv (i : Nat) {x : Str} {pos : Pos} (ho : O.contains i = false := by decide) (hN : X.N[i]? = some x := by rfl) (hv : Vis X.env.scope x := by first | exact Or.inl rfl | exact Or.inr (Or.inl rfl) | exact Or.inr (Or.inr rfl)) (hd : (x == ("__debug__" : Str)) = false := by decide)
    (hcd : (x == ("__classdict__" : Str)) = false := by decide) : FE cm X F W O (.Name x pos) (fVar i) :=
  DE_imp (dv i hN hv hd hcd) fun ρ kq kx hw => by
    obtain ⟨env, rfl, hw⟩ := hw
    obtain ⟨a, h, k⟩ := fVar_some hw
    unfold wVar
    have e : (mix cm O env)[i]? = some (some (.val (toD cm a))) := by rw [mix_get, h]; exact congrArg some (mixAt_val ho)
    rw [e]
    exact k
theorem fvp (i : Nat) {x : Str} {pos : Pos} (hN : X.N[i]? = some x := by rfl) (hv : Vis X.env.scope x := by first | exact Or.inl rfl | exact Or.inr (Or.inl rfl) | exact Or.inr (Or.inr rfl)) (hd : (x == ("__debug__" : Str)) = false := by decide)
    (hcd : (x == ("__classdict__" : Str)) = false := by decide) : FP cm X F W O (.Name x pos) (fVar i) :=
  DP_imp (dvp i hN hv hd hcd) fun ρ kq kx hw => by
    obtain ⟨env, rfl, hw⟩ := hw
    obtain ⟨a, h, k⟩ := fVar_some hw
    unfold wPeek
    obtain ⟨y, e1, e2⟩ := mixAt_d (cm := cm) (O := O) (i := i) (a := a)
    have e : (mix cm O env)[i]? = some (some y) := by rw [mix_get, h]; exact congrArg some e1
    rw [e]
    show kq y.d _
    rw [e2]
    exact k
theorem fe_c {d : D} {a : A} (h : DE X F W e (wC d)) (hd : toD cm a = d) : FE cm X F W O e (fC a) := DE_imp h fun ρ kq kx hw => by
  obtain ⟨env, rfl, hw⟩ := hw
  subst hd
  exact hw
theorem f_int' {i j pos} : FE cm X F W O (.Constant (.int i) j pos) (fC (.int i)) := fe_c d_int rfl
theorem f_bl {x j pos} : FE cm X F W O (.Constant (.bool x) j pos) (fC (.bl x)) := fe_c d_bl rfl
theorem f_non {j pos} : FE cm X F W O (.Constant .none j pos) (fC .non) := fe_c d_non rfl
theorem f_str' {x j pos} (l : List Nat) (hl : x = tx l) : FE cm X F W O (.Constant (.str x) j pos) (fC (.str l)) := fe_c d_str (by rw [hl]; rfl)
theorem f_globI {x : Str} {i : Int} {t : Tok} {pos : Pos} (hm : X.mg x = some (.int i t)) (hg : Gl X x := by rfl) (hd : (x == ("__debug__" : Str)) = false := by decide) : FE cm X F W O (.Name x pos) (fC (.int i)) := fe_c (d_globI hm hg hd) rfl
theorem f_globS {x : Str} {i : Str} {t : Tok} {pos : Pos} (l : List Nat) (hm : X.mg x = some (.str i t)) (hl : i = tx l) (hg : Gl X x := by rfl) (hd : (x == ("__debug__" : Str)) = false := by decide) : FE cm X F W O (.Name x pos) (fC (.str l)) := fe_c (d_globS hm hg hd) (by rw [hl]; rfl)
theorem f_globT {x : Str} {r : Addr} {as : List A} {pos : Pos} (hm : X.mg x = some (.ref r)) (hr : ∀ H, Rep X.K H (.tup (toDs cm as)) (.ref r)) (hg : Gl X x := by rfl) (hd : (x == ("__debug__" : Str)) = false := by decide) : FE cm X F W O (.Name x pos) (fC (.tup as)) := fe_c (d_globT hm hr hg hd) (toD_tup cm as)
theorem f_ty' {x : Str} {n : String} {pos : Pos} (hm : X.mg x = none) (hv : bootBuiltins x = some (.type n)) (hg : Gl X x := by rfl) (hn : x ≠ "__name__" := by decide) (hd : (x == ("__debug__" : Str)) = false := by decide) : FE cm X F W O (.Name x pos) (fC (.ty n)) := fe_c (d_ty hm hv hg hn hd) rfl

/-! ### from one to the other -/
theorem fp (h : FE cm X F W O e f) : FP cm X F W O e f := dp h
theorem fl_e {f : Env → T (List A)} (h : FL cm X F W O e f) : FE cm X F W O e (fVal f) := DE_imp (dl_e h) fun ρ kq kx hw => by
  obtain ⟨env, rfl, hw⟩ := hw
  unfold fVal at hw
  rw [T.wp_bind] at hw
  exact ⟨env, rfl, T.wp_mono hw (fun xs k => by show kq (.lst (toDs cm xs)) _; rw [← toD_lst]; exact k) fun _ k => k⟩
theorem fl_p {f : Env → T (List A)} (h : FL cm X F W O e f) : FP cm X F W O e (fVal f) := DP_imp (dl_p h) fun ρ kq kx hw => by
  obtain ⟨env, rfl, hw⟩ := hw
  unfold fVal at hw
  rw [T.wp_bind] at hw
  exact ⟨env, rfl, T.wp_mono hw (fun xs k => by show kq (.lst (toDs cm xs)) _; rw [← toD_lst]; exact k) fun _ k => k⟩
/-! ### two operands -/
theorem fq (ha : FE cm X F W O a f) (hb : FP cm X F W O b g) : FQ cm X F W O a b (fPair f g) := DQ_imp (dq ha hb) fun ρ kq kx hw => by
  obtain ⟨env, rfl, hw⟩ := hw
  unfold fPair at hw
  simp only [T.wp_bind] at hw
  exact ⟨env, rfl, T.wp_mono hw (fun x k => ⟨env, rfl, k⟩) fun _ k => k⟩
theorem fqn (i : Nat) {x : Str} {pos : Pos} (hb : FP cm X F W O b g) (hN : X.N[i]? = some x := by rfl) (hv : Vis X.env.scope x := by first | exact Or.inl rfl | exact Or.inr (Or.inl rfl) | exact Or.inr (Or.inr rfl)) (hd : (x == ("__debug__" : Str)) = false := by decide)
    (hcd : (x == ("__classdict__" : Str)) = false := by decide) : FQ cm X F W O (.Name x pos) b (fPair (fVar i) g) := DQ_imp (dqn i hb hN hv hd hcd) fun ρ kq kx hw => by
  obtain ⟨env, rfl, hw⟩ := hw
  unfold fPair at hw
  simp only [T.wp_bind] at hw
  obtain ⟨a, h, k⟩ := fVar_some hw
  obtain ⟨y, e1, e2⟩ := mixAt_d (cm := cm) (O := O) (i := i) (a := a)
  have e : (mix cm O env)[i]? = some (some y) := by rw [mix_get, h]; exact congrArg some e1
  unfold w2n
  rw [e]
  refine ⟨env, rfl, T.wp_mono k (fun b k => ?_) fun _ k => k⟩
  dsimp only
  rw [e]
  show kq y.d _ _
  rw [e2]
  exact k
theorem fe_op {op : Operator} {r : R2} {o : O2} {gg : G2} {f2 : Env → T (A × A)} (ho : OpR X (binaryOp op) r) (h2 : Op2 X.K r o) (hg : OpF o gg) (h : FQ cm X F W O a b f2) : FE cm X F W O (.BinOp a op b pos) (fOp gg f2) := DE_imp (d_op ho h2 h) fun ρ kq kx hw => by
  obtain ⟨env, rfl, hw⟩ := hw
  unfold fOp at hw
  rw [T.wp_bind] at hw
  refine ⟨env, rfl, T.wp_mono hw (fun p k => ?_) fun _ k => k⟩
  obtain ⟨c, e, k⟩ := T.wp_opt k
  exact hg cm p.1 p.2 c _ e k
theorem fl_op {op : Operator} {r : R2} {o : O2L} {gg : G2L} {f2 : Env → T (A × A)} (ho : OpR X (binaryOp op) r) (h2 : Op2L X.K r o) (hg : OpFL o gg) (h : FQ cm X F W O a b f2) : FL cm X F W O (.BinOp a op b pos) (fOpL gg f2) := DL_imp (dl_op ho h2 h) fun ρ kq kx hw => by
  obtain ⟨env, rfl, hw⟩ := hw
  unfold fOpL at hw
  rw [T.wp_bind] at hw
  refine ⟨env, rfl, T.wp_mono hw (fun p k => ?_) fun _ k => k⟩
  obtain ⟨c, e, k⟩ := T.wp_opt k
  exact hg cm p.1 p.2 c _ e k
theorem fe_cmp {op : CmpOp} {r : R2} {o : O2} {gg : G2} {f2 : Env → T (A × A)} (ho : OpR X (compareOp op) r) (h2 : Op2 X.K r o) (hg : OpF o gg) (h : FQ cm X F W O a b f2) (hm : behindInMarks op b = false := by first | exact nomark _ | with_unfolding_all rfl) : FE cm X F W O (.Compare a [op] [b] pos) (fOp gg f2) := DE_imp (d_cmp ho h2 h hm) fun ρ kq kx hw => by
  obtain ⟨env, rfl, hw⟩ := hw
  unfold fOp at hw
  rw [T.wp_bind] at hw
  refine ⟨env, rfl, T.wp_mono hw (fun p k => ?_) fun _ k => k⟩
  obtain ⟨c, e, k⟩ := T.wp_opt k
  exact hg cm p.1 p.2 c _ e k
theorem asB_wp {cm : CM} {bg : Option Addr} {a : A} {q : Bool → Prop} {k : AX → Prop} (h : (asB a).wp bg q k) : ∃ b, a = .bl b ∧ q b := by
  cases a with
  | bl b => exact ⟨b, rfl, h⟩
  | _ => exact h.elim
theorem ft_cmp {op : CmpOp} {r : R2} {o : O2} {gg : G2} {f2 : Env → T (A × A)} (ho : OpR X (compareOp op) r) (h2 : Op2 X.K r o) (hg : OpF o gg) (h : FQ cm X F W O a b f2) (hm : behindInMarks op b = false := by first | exact nomark _ | with_unfolding_all rfl) : FT cm X F W O (.Compare a [op] [b] pos) (fTst (fOp gg f2)) := DT_imp (dt_cmp ho h2 h hm) fun ρ kq kx hw => by
  obtain ⟨env, rfl, hw⟩ := hw
  unfold fTst fOp at hw
  rw [T.wp_bind, T.wp_bind] at hw
  refine ⟨env, rfl, T.wp_mono hw (fun p k => ?_) fun _ k => k⟩
  obtain ⟨c, e, k⟩ := T.wp_opt k
  obtain ⟨b, rfl, k⟩ := asB_wp (cm := cm) k
  exact hg cm p.1 p.2 _ _ e k
theorem ft_val (h : FE cm X F W O e f) (he : ∀ whole, isTrue e X.env whole = (do let v ← whole; standAt e.pos; holding [v] (truthy v)) := by intro _; rfl) : FT cm X F W O e (fTst f) := DT_imp (dt_val h he) fun ρ kq kx hw => by
  obtain ⟨env, rfl, hw⟩ := hw
  unfold fTst at hw
  rw [T.wp_bind] at hw
  refine ⟨env, rfl, T.wp_mono hw (fun p k => ?_) fun _ k => k⟩
  obtain ⟨b, rfl, k⟩ := asB_wp (cm := cm) k
  exact k
theorem ft_tru (h : FP cm X F W O e f) (he : ∀ whole, isTrue e X.env whole = (do let v ← whole; standAt e.pos; holding [v] (truthy v)) := by intro _; rfl) : FT cm X F W O e (fTru f) := DT_imp (dt_tru h he) fun ρ kq kx hw => by
  obtain ⟨env, rfl, hw⟩ := hw
  unfold fTru at hw
  rw [T.wp_bind] at hw
  refine ⟨env, rfl, T.wp_mono hw (fun p k => ?_) fun _ k => k⟩
  obtain ⟨b, e, k⟩ := T.wp_opt k
  exact f_tru cm p b _ e k
/-! ### and, or, not, if -/
theorem fw_and1 {t : Env → T Bool} (h : FT cm X F W O a t) : FW cm X F W O (.BoolOp .And [a] pos) t := dw_and1 h
theorem fw_or1 {t : Env → T Bool} (h : FT cm X F W O a t) : FW cm X F W O (.BoolOp .Or [a] pos) t := dw_or1 h
theorem wp_if {bg : Option Addr} {α : Type} {b : Bool} {s t : T α} {q : α → Prop} {k : AX → Prop} : (if b = true then s else t).wp bg q k = (if b = true then s.wp bg q k else t.wp bg q k) := by cases b <;> rfl
theorem fw_and {t u : Env → T Bool} {rest : List Expr} (ha : FT cm X F W O a t) (hb : FW cm X F W O (.BoolOp .And (b :: rest) pos) u) : FW cm X F W O (.BoolOp .And (a :: b :: rest) pos) (fAnd t u) := DW_imp (dw_and ha hb) fun ρ kq kx hw => by
  obtain ⟨env, rfl, hw⟩ := hw
  unfold fAnd at hw
  rw [T.wp_bind] at hw
  refine ⟨env, rfl, T.wp_mono hw (fun p k => ?_) fun _ k => k⟩
  cases p with
  | true => exact ⟨env, rfl, k⟩
  | false => exact k
theorem fw_or {t u : Env → T Bool} {rest : List Expr} (ha : FT cm X F W O a t) (hb : FW cm X F W O (.BoolOp .Or (b :: rest) pos) u) : FW cm X F W O (.BoolOp .Or (a :: b :: rest) pos) (fOr t u) := DW_imp (dw_or ha hb) fun ρ kq kx hw => by
  obtain ⟨env, rfl, hw⟩ := hw
  unfold fOr at hw
  rw [T.wp_bind] at hw
  refine ⟨env, rfl, T.wp_mono hw (fun p k => ?_) fun _ k => k⟩
  cases p with
  | true => exact k
  | false => exact ⟨env, rfl, k⟩
theorem ft_w {t : Env → T Bool} (h : FW cm X F W O e t) : FT cm X F W O e t := dt_w h
theorem ft_not {t : Env → T Bool} (h : FT cm X F W O a t) : FT cm X F W O (.UnaryOp .Not a pos) (fNot t) := DT_imp (dt_not h) fun ρ kq kx hw => by
  obtain ⟨env, rfl, hw⟩ := hw
  unfold fNot at hw
  rw [T.wp_bind] at hw
  exact ⟨env, rfl, hw⟩
theorem fe_not (h : FE cm X F W O a f) : FE cm X F W O (.UnaryOp .Not a pos) (fNotV f) := DE_imp (d_not h) fun ρ kq kx hw => by
  obtain ⟨env, rfl, hw⟩ := hw
  unfold fNotV at hw
  simp only [T.wp_bind] at hw
  refine ⟨env, rfl, T.wp_mono hw (fun p k => ?_) fun _ k => k⟩
  obtain ⟨b, rfl, k⟩ := asB_wp (cm := cm) k
  exact k
theorem fe_one {op : BoolOp} (h : FE cm X F W O a f) : FE cm X F W O (.BoolOp op [a] pos) f := d_one h
theorem fe_and {rest : List Expr} (ha : FE cm X F W O a f) (hb : FE cm X F W O (.BoolOp .And (b :: rest) pos) g) : FE cm X F W O (.BoolOp .And (a :: b :: rest) pos) (fAndV f g) := DE_imp (d_and ha hb) fun ρ kq kx hw => by
  obtain ⟨env, rfl, hw⟩ := hw
  unfold fAndV at hw
  simp only [T.wp_bind] at hw
  refine ⟨env, rfl, T.wp_mono hw (fun p k => ?_) fun _ k => k⟩
  obtain ⟨b, rfl, k⟩ := asB_wp (cm := cm) k
  cases b with
  | true => exact ⟨env, rfl, k⟩
  | false => exact k
theorem fe_or {rest : List Expr} (ha : FE cm X F W O a f) (hb : FE cm X F W O (.BoolOp .Or (b :: rest) pos) g) : FE cm X F W O (.BoolOp .Or (a :: b :: rest) pos) (fOrV f g) := DE_imp (d_or ha hb) fun ρ kq kx hw => by
  obtain ⟨env, rfl, hw⟩ := hw
  unfold fOrV at hw
  simp only [T.wp_bind] at hw
  refine ⟨env, rfl, T.wp_mono hw (fun p k => ?_) fun _ k => k⟩
  obtain ⟨b, rfl, k⟩ := asB_wp (cm := cm) k
  cases b with
  | true => exact k
  | false => exact ⟨env, rfl, k⟩
theorem fe_if {t : Env → T Bool} (hc : FT cm X F W O c t) (ha : FE cm X F W O a f) (hb : FE cm X F W O b g) : FE cm X F W O (.IfExp c a b pos) (fIf t f g) := DE_imp (d_if hc ha hb) fun ρ kq kx hw => by
  obtain ⟨env, rfl, hw⟩ := hw
  unfold fIf at hw
  rw [T.wp_bind] at hw
  refine ⟨env, rfl, T.wp_mono hw (fun p k => ?_) fun _ k => k⟩
  cases p with
  | true => exact ⟨env, rfl, k⟩
  | false => exact ⟨env, rfl, k⟩
/-! ### arguments, displays -/
theorem fa_nil : FA cm X F W O [] fNil := DA_imp da_nil fun ρ kq kx hw => by
  obtain ⟨env, rfl, hw⟩ := hw
  exact hw
theorem fa_cons {gs : Env → T (List A)} (h : FE cm X F W O e f) (hr : FA cm X F W O es gs) (hs : starEach (e :: es) X.env = (false, eval e X.env) :: starEach es X.env := by rfl) : FA cm X F W O (e :: es) (fCons f gs) := DA_imp (da_cons h hr hs) fun ρ kq kx hw => by
  obtain ⟨env, rfl, hw⟩ := hw
  unfold fCons at hw
  simp only [T.wp_bind] at hw
  exact ⟨env, rfl, T.wp_mono hw (fun x k => ⟨env, rfl, k⟩) fun _ k => k⟩
theorem fk_nil : FK cm X F W O [] fNil := DK_imp dk_nil fun ρ kq kx hw => by
  obtain ⟨env, rfl, hw⟩ := hw
  exact hw
theorem fk_cons {kws : List Keyword} {nm : Option Str} {kpos : Pos} {gs : Env → T (List A)} (h : FE cm X F W O e f) (hr : FK cm X F W O kws gs) : FK cm X F W O (⟨nm, e, kpos⟩ :: kws) (fCons f gs) := DK_imp (dk_cons h hr) fun ρ kq kx hw => by
  obtain ⟨env, rfl, hw⟩ := hw
  unfold fCons at hw
  simp only [T.wp_bind] at hw
  exact ⟨env, rfl, T.wp_mono hw (fun x k => ⟨env, rfl, k⟩) fun _ k => k⟩
theorem small_eq {xs ys : List A} (h : small xs = some ys) : xs.length ≤ big ∧ ys = xs := by
  unfold small at h
  split at h
  · cases h
    exact ⟨by assumption, rfl⟩
  · cases h
theorem fe_tup {x1} {gs : Env → T (List A)} (h : FA cm X F W O es gs) : FE cm X F W O (.Tuple es x1 pos) (fTup gs) := DE_imp (d_tup h) fun ρ kq kx hw => by
  obtain ⟨env, rfl, hw⟩ := hw
  unfold fTup at hw
  simp only [T.wp_bind] at hw
  refine ⟨env, rfl, T.wp_mono hw (fun xs k => ?_) fun _ k => k⟩
  obtain ⟨ys, e, k2⟩ := T.wp_opt k
  obtain ⟨hl, e2⟩ := small_eq e
  subst e2
  refine ⟨by rw [toDs_len]; exact big_line hl, ?_⟩
  rw [← toD_tup]
  exact k2
theorem fl_lst {gs : Env → T (List A)} (h : FA cm X F W O es gs) : FL cm X F W O (.List es pos) (fLst gs) := DL_imp (dl_lst h) fun ρ kq kx hw => by
  obtain ⟨env, rfl, hw⟩ := hw
  unfold fLst at hw
  simp only [T.wp_bind] at hw
  refine ⟨env, rfl, T.wp_mono hw (fun xs k => ?_) fun _ k => k⟩
  obtain ⟨ys, e, k2⟩ := T.wp_opt k
  obtain ⟨hl, e2⟩ := small_eq e
  subst e2
  exact ⟨by rw [toDs_len]; exact big_line hl, k2⟩
/-! ### subscripts, slices -/
theorem fe_ix {f2 : Env → T (A × A)} (h : FQ cm X F W O a b f2) (hs : PlainIx b := by exact fun _ _ => rfl) : FE cm X F W O (.Subscript a b pos) (fOp gIx f2) := DE_imp (d_ix h hs) fun ρ kq kx hw => by
  obtain ⟨env, rfl, hw⟩ := hw
  unfold fOp at hw
  rw [T.wp_bind] at hw
  refine ⟨env, rfl, T.wp_mono hw (fun p k => ?_) fun _ k => k⟩
  obtain ⟨c, e, k⟩ := T.wp_opt k
  exact f_ix cm p.1 p.2 c _ e k
theorem fo_none : FO cm X F W O none fNone := DO_imp do_none fun ρ kq kx hw => by
  obtain ⟨env, rfl, hw⟩ := hw
  exact hw
theorem fo_some (h : FE cm X F W O e f) : FO cm X F W O (some e) (fPart f) := DO_imp (do_some h) fun ρ kq kx hw => by
  obtain ⟨env, rfl, hw⟩ := hw
  unfold fPart at hw
  rw [T.wp_bind] at hw
  refine ⟨env, rfl, T.wp_mono hw (fun a k => ?_) fun _ k => k⟩
  cases a with
  | int i => exact k
  | _ => exact k.elim
theorem fq3 {lo hi : Option Expr} {u v : Env → T (Option Int)} (h : FE cm X F W O e f) (hl : FO cm X F W O lo u) (hh : FO cm X F W O hi v) : FQ3 cm X F W O e lo hi (fTri f u v) := DQ3_imp (dq3 h hl hh) fun ρ kq kx hw => by
  obtain ⟨env, rfl, hw⟩ := hw
  unfold fTri at hw
  simp only [T.wp_bind] at hw
  exact ⟨env, rfl, T.wp_mono hw (fun x k => ⟨env, rfl, T.wp_mono k (fun l k => ⟨env, rfl, k⟩) fun _ k => k⟩) fun _ k => k⟩
theorem fq3n (i : Nat) {x : Str} {lo hi : Option Expr} {u v : Env → T (Option Int)} (hl : FO cm X F W O lo u) (hh : FO cm X F W O hi v) (hN : X.N[i]? = some x := by rfl) (hv : Vis X.env.scope x := by first | exact Or.inl rfl | exact Or.inr (Or.inl rfl) | exact Or.inr (Or.inr rfl)) (hd : (x == ("__debug__" : Str)) = false := by decide)
    (hcd : (x == ("__classdict__" : Str)) = false := by decide) : FQ3 cm X F W O (.Name x pos) lo hi (fTri (fVar i) u v) := DQ3_imp (dq3n i hl hh hN hv hd hcd) fun ρ kq kx hw => by
  obtain ⟨env, rfl, hw⟩ := hw
  unfold fTri at hw
  simp only [T.wp_bind] at hw
  obtain ⟨a, h, k⟩ := fVar_some hw
  obtain ⟨y, e1, e2⟩ := mixAt_d (cm := cm) (O := O) (i := i) (a := a)
  have e : (mix cm O env)[i]? = some (some y) := by rw [mix_get, h]; exact congrArg some e1
  unfold w3n
  rw [e]
  refine ⟨env, rfl, T.wp_mono k (fun l k => ⟨env, rfl, T.wp_mono k (fun u k => ?_) fun _ k => k⟩) fun _ k => k⟩
  dsimp only
  rw [e]
  show kq y.d _ _ _
  rw [e2]
  exact k
theorem fe_sl {lo hi : Option Expr} {p2 : Pos} {f3 : Env → T (A × Option Int × Option Int)} (h : FQ3 cm X F W O e lo hi f3) : FE cm X F W O (.Subscript e (.Slice lo hi none p2) pos) (fSl f3) := DE_imp (d_sl h) fun ρ kq kx hw => by
  obtain ⟨env, rfl, hw⟩ := hw
  unfold fSl at hw
  rw [T.wp_bind] at hw
  refine ⟨env, rfl, T.wp_mono hw (fun p k => ?_) fun _ k => k⟩
  obtain ⟨c, e, k⟩ := T.wp_opt k
  exact f_sl cm p.1 p.2.1 p.2.2 c _ e k
theorem fl_sl {lo hi : Option Expr} {p2 : Pos} {f3 : Env → T (A × Option Int × Option Int)} (h : FQ3 cm X F W O e lo hi f3) : FL cm X F W O (.Subscript e (.Slice lo hi none p2) pos) (fSlL f3) := DL_imp (dl_sl h) fun ρ kq kx hw => by
  obtain ⟨env, rfl, hw⟩ := hw
  unfold fSlL at hw
  rw [T.wp_bind] at hw
  refine ⟨env, rfl, T.wp_mono hw (fun p k => ?_) fun _ k => k⟩
  obtain ⟨c, e, k⟩ := T.wp_opt k
  exact f_slL cm p.1 p.2.1 p.2.2 c _ e k
/-! ### calls of built-ins -/
theorem imp_1 {bg : Option Addr} {o : O1} {gg : G1} (hg : OpF1 o gg) : ∀ ρ kq kx, cE cm bg O (fG1 gg f) ρ kq kx → w1 o (cE cm bg O f) ρ kq kx := fun ρ kq kx hw => by
  obtain ⟨env, rfl, hw⟩ := hw
  unfold fG1 at hw
  rw [T.wp_bind] at hw
  refine ⟨env, rfl, T.wp_mono hw (fun p k => ?_) fun _ k => k⟩
  obtain ⟨c, e, k⟩ := T.wp_opt k
  exact hg cm p c _ e k
theorem imp_1L {bg : Option Addr} {o : O1L} {gg : G1L} (hg : OpF1L o gg) : ∀ ρ kq kx, cL cm bg O (fG1L gg f) ρ kq kx → w1L o (cE cm bg O f) ρ kq kx := fun ρ kq kx hw => by
  obtain ⟨env, rfl, hw⟩ := hw
  unfold fG1L at hw
  rw [T.wp_bind] at hw
  refine ⟨env, rfl, T.wp_mono hw (fun p k => ?_) fun _ k => k⟩
  obtain ⟨c, e, k⟩ := T.wp_opt k
  exact hg cm p c _ e k
theorem fe_cb {x : Str} {id : String} {r : List V → Hp → VK → Prop} {o : O1} {gg : G1} (hc : CallR X (.builtin id) r) (h2 : Op1 X.K (fun v => r [v]) o) (hgg : OpF1 o gg) (hm : X.mg x = none) (h : FP cm X F W O e f) (hv : bootBuiltins x = some (.builtin id) := by decide +kernel) (hg : Gl X x := by rfl) (hn : x ≠ "__name__" := by decide) (hdb : (x == ("__debug__" : Str)) = false := by decide)
    (hs : starEach [e] X.env = (false, eval e X.env) :: starEach [] X.env := by rfl) : FE cm X F W O (.Call (.Name x p) [e] [] pos) (fG1 gg f) := DE_imp (d_cb hc h2 hm h hv hg hn hdb hs) (imp_1 hgg)
theorem fe_ct {x : Str} {T' : String} {r : List V → Hp → VK → Prop} {o : O1} {gg : G1} (hc : CallR X (.type T') r) (h2 : Op1 X.K (fun v => r [v]) o) (hgg : OpF1 o gg) (hm : X.mg x = none) (h : FP cm X F W O e f) (hv : bootBuiltins x = some (.type T') := by decide +kernel) (hg : Gl X x := by rfl) (hn : x ≠ "__name__" := by decide) (hdb : (x == ("__debug__" : Str)) = false := by decide)
    (hs : starEach [e] X.env = (false, eval e X.env) :: starEach [] X.env := by rfl) : FE cm X F W O (.Call (.Name x p) [e] [] pos) (fG1 gg f) := DE_imp (d_ct hc h2 hm h hv hg hn hdb hs) (imp_1 hgg)
theorem fl_ct {x : Str} {T' : String} {r : List V → Hp → VK → Prop} {o : O1L} {gg : G1L} (hc : CallR X (.type T') r) (h2 : Op1L X.K (fun v => r [v]) o) (hgg : OpF1L o gg) (hm : X.mg x = none) (h : FP cm X F W O e f) (hv : bootBuiltins x = some (.type T') := by decide +kernel) (hg : Gl X x := by rfl) (hn : x ≠ "__name__" := by decide) (hdb : (x == ("__debug__" : Str)) = false := by decide)
    (hs : starEach [e] X.env = (false, eval e X.env) :: starEach [] X.env := by rfl) : FL cm X F W O (.Call (.Name x p) [e] [] pos) (fG1L gg f) := DL_imp (dl_ct hc h2 hm h hv hg hn hdb hs) (imp_1L hgg)
theorem fe_len (hm : X.mg "len" = none) (h : FP cm X F W O e f) (hg : Gl X "len" := by rfl) (hs : starEach [e] X.env = (false, eval e X.env) :: starEach [] X.env := by rfl) : FE cm X F W O (.Call (.Name "len" p) [e] [] pos) (fG1 gLen f) := fe_cb call_lenA op1_len f_len hm h (hg := hg) (hs := hs)
theorem fe_all (hc : X.calm = true) (hm : X.mg "all" = none) (h : FP cm X F W O e f) (hg : Gl X "all" := by rfl) (hs : starEach [e] X.env = (false, eval e X.env) :: starEach [] X.env := by rfl) : FE cm X F W O (.Call (.Name "all" p) [e] [] pos) (fG1 gAll f) := fe_cb (cr_all hc) op1_all f_all hm h (hg := hg) (hs := hs)
theorem fe_any (hc : X.calm = true) (hm : X.mg "any" = none) (h : FP cm X F W O e f) (hg : Gl X "any" := by rfl) (hs : starEach [e] X.env = (false, eval e X.env) :: starEach [] X.env := by rfl) : FE cm X F W O (.Call (.Name "any" p) [e] [] pos) (fG1 gAny f) := fe_cb (cr_any hc) op1_any f_any hm h (hg := hg) (hs := hs)
theorem fe_int (hm : X.mg "int" = none) (h : FP cm X F W O e f) (hg : Gl X "int" := by rfl) (hs : starEach [e] X.env = (false, eval e X.env) :: starEach [] X.env := by rfl) : FE cm X F W O (.Call (.Name "int" p) [e] [] pos) (fG1 gInt f) := fe_ct call_intA op1_int f_int hm h (hg := hg) (hs := hs)
theorem fe_isi {y : Str} (t : String) {ff : A → Bool} {p2 : Pos} (hf : IsF t ff) (hm : X.mg "isinstance" = none) (hm2 : X.mg y = none) (h : FP cm X F W O e f) (hv2 : bootBuiltins y = some (.type t) := by decide +kernel) (hg : Gl X "isinstance" := by rfl) (hg2 : Gl X y := by rfl)
    (hn2 : y ≠ "__name__" := by decide) (hdb2 : (y == ("__debug__" : Str)) = false := by decide)
    (hs : starEach [e, .Name y p2] X.env = (false, eval e X.env) :: starEach [.Name y p2] X.env := by rfl) : FE cm X F W O (.Call (.Name "isinstance" p) [e, .Name y p2] [] pos) (fG1 (gIsi ff) f) := DE_imp (d_isi t hm hm2 h (hv2 := hv2) (hg := hg) (hg2 := hg2) (hn2 := hn2) (hdb2 := hdb2) (hs := hs)) (imp_1 (f_isi hf))
theorem fe_isi2 {y z : Str} (t u : String) {ff gg : A → Bool} {p2 p3 p4 : Pos} {kk : Nat} (hf : IsF t ff) (hg' : IsF u gg) (hm : X.mg "isinstance" = none) (hm2 : X.mg y = none) (hm3 : X.mg z = none) (h : FP cm X F W O e f) (hv2 : bootBuiltins y = some (.type t) := by decide +kernel) (hv3 : bootBuiltins z = some (.type u) := by decide +kernel)
    (hg : Gl X "isinstance" := by rfl) (hg2 : Gl X y := by rfl) (hg3 : Gl X z := by rfl) (hn2 : y ≠ "__name__" := by decide) (hdb2 : (y == ("__debug__" : Str)) = false := by decide) (hn3 : z ≠ "__name__" := by decide) (hdb3 : (z == ("__debug__" : Str)) = false := by decide)
    (hs : starEach [e, .Tuple [.Name y p2, .Name z p3] kk p4] X.env = (false, eval e X.env) :: starEach [.Tuple [.Name y p2, .Name z p3] kk p4] X.env := by rfl) : FE cm X F W O (.Call (.Name "isinstance" p) [e, .Tuple [.Name y p2, .Name z p3] kk p4] [] pos) (fG1 (gIsi fun a => ff a || gg a) f) :=
  DE_imp (d_isi2 t u hm hm2 hm3 h (hv2 := hv2) (hv3 := hv3) (hg := hg) (hg2 := hg2) (hg3 := hg3) (hn2 := hn2) (hdb2 := hdb2) (hn3 := hn3) (hdb3 := hdb3) (hs := hs)) (imp_1 (f_isi2 hf hg'))
theorem fe_m1 {id : String} {name : Str} {apos : Pos} {r : V → List V → Hp → VK → Prop} {o : O2} {gg : G2} (slot : Slot "str" name id) (ty : typeOf (.builtin id) = pure (.type "method_descriptor")) (rule : MtR X id r) (h2 : Op2 X.K (fun x y => r x [y]) o) (hgg : OpF o gg) (ha : FE cm X F W O a f) (hb : FP cm X F W O b g)
    (hs : starEach [b] X.env = [(false, eval b X.env)] := by rfl) (hbase : attributeBase a name X.env (eval a X.env) = eval a X.env := by rfl) (hline : (apos.endLine == pos.line) = true := by rfl) : FE cm X F W O (.Call (.Attribute a name apos) [b] [] pos) (fM1 gg f g) := DE_imp (d_m1 slot ty rule h2 ha hb hs hbase hline) fun ρ kq kx hw => by
  obtain ⟨env, rfl, hw⟩ := hw
  unfold fM1 at hw
  rw [T.wp_bind] at hw
  refine ⟨env, rfl, T.wp_mono hw (fun a k => ?_) fun _ k => k⟩
  cases a with
  | str l =>
    refine ⟨trivial, env, rfl, ?_⟩
    have k : ((g env).bind fun b => T.opt (gg (.str l) b)).wp _ _ _ := k
    rw [T.wp_bind] at k
    refine T.wp_mono k (fun b k => ?_) fun _ k => k
    obtain ⟨c, e, k⟩ := T.wp_opt k
    exact hgg cm (.str l) b c _ e k
  | _ => exact k.elim
/-! ### chains, minus -/
theorem imp_chain {bg : Option Addr} {o o' : O2} {gg gg' : G2} (h1 : OpF o gg) (h2 : OpF o' gg') : ∀ ρ kq kx, cE cm bg O (fChain gg gg' f g h) ρ kq kx → wChain o o' (cE cm bg O f) (cE cm bg O g) (cE cm bg O h) ρ kq kx := fun ρ kq kx hw => by
  obtain ⟨env, rfl, hw⟩ := hw
  unfold fChain at hw
  simp only [T.wp_bind] at hw
  refine ⟨env, rfl, T.wp_mono hw (fun a k => ⟨env, rfl, T.wp_mono k (fun b k => ?_) fun _ k => k⟩) fun _ k => k⟩
  obtain ⟨c, e, k⟩ := T.wp_opt k
  obtain ⟨t, rfl, k⟩ := asB_wp (cm := cm) k
  refine h1 cm a b _ _ e ?_
  cases t with
  | false => exact k
  | true =>
    have k : ((h env).bind fun d => T.opt (gg' b d)).wp _ _ _ := k
    rw [T.wp_bind] at k
    refine ⟨env, rfl, T.wp_mono k (fun d k => ?_) fun _ k => k⟩
    obtain ⟨c, e, k⟩ := T.wp_opt k
    exact h2 cm b d c _ e k
theorem fe_chain {op op' : CmpOp} {r r' : R2} {o o' : O2} {gg gg' : G2} (ho : OpR X (compareOp op) r) (p1 : Op2 X.K r o) (g1 : OpF o gg) (ho' : OpR X (compareOp op') r') (p2 : Op2 X.K r' o') (g2 : OpF o' gg') (ha : FE cm X F W O a f) (hb : FE cm X F W O b g) (hc : FE cm X F W O c h) (hm : lastMarks [op, op'] [b, c] = false := by with_unfolding_all rfl) :
    FE cm X F W O (.Compare a [op, op'] [b, c] pos) (fChain gg gg' f g h) := DE_imp (d_chain ho p1 ho' p2 ha hb hc hm) (imp_chain g1 g2)
theorem ft_chain {op op' : CmpOp} {r r' : R2} {o o' : O2} {gg gg' : G2} (ho : OpR X (compareOp op) r) (p1 : Op2 X.K r o) (g1 : OpF o gg) (ho' : OpR X (compareOp op') r') (p2 : Op2 X.K r' o') (g2 : OpF o' gg') (ha : FE cm X F W O a f) (hb : FE cm X F W O b g) (hc : FE cm X F W O c h) (hm : lastMarks [op, op'] [b, c] = false := by with_unfolding_all rfl) :
    FT cm X F W O (.Compare a [op, op'] [b, c] pos) (fTst (fChain gg gg' f g h)) := DT_imp (dt_chain ho p1 ho' p2 ha hb hc hm) fun ρ kq kx hw => by
  refine imp_chain g1 g2 _ _ _ ?_
  obtain ⟨env, rfl, hw⟩ := hw
  unfold fTst at hw
  rw [T.wp_bind] at hw
  refine ⟨env, rfl, T.wp_mono hw (fun a k => ?_) fun _ k => k⟩
  obtain ⟨b, rfl, k⟩ := asB_wp (cm := cm) k
  exact k
theorem fe_neg (h : FE cm X F W O e f) : FE cm X F W O (.UnaryOp .USub e pos) (fNeg f) := DE_imp (d_neg h) fun ρ kq kx hw => by
  obtain ⟨env, rfl, hw⟩ := hw
  unfold fNeg at hw
  rw [T.wp_bind] at hw
  refine ⟨env, rfl, T.wp_mono hw (fun a k => ?_) fun _ k => k⟩
  cases a with
  | int i => exact k
  | _ => exact k.elim
end
end PF

/-! PF, part d: statements, targets, loops, comprehensions. -/
namespace PF
open PySem PySem.Spec PyProof.Rows L2 PD

inductive Ct where
  | nx (e : Env) | rt (a : A) | bk (e : Env) | ct (e : Env) | ex (x : AX) (e : Env)
/-- which names are a def's own behind a statement; whether what is handed back is nobody else's -/
structure Os where
  nx : List Nat
  bk : List Nat
  ct : List Nat
  ow : Bool
def rv (cm : CM) (ow : Bool) (a : A) : SV := if ow then ownD cm a else .val (toD cm a)
def endC (cm : CM) (Z : Os) (E : DEnds) : Ct → Prop
  | .nx e => E.nx (mix cm Z.nx e)
  | .rt a => E.rt (rv cm Z.ow a)
  | .bk e => E.bk (mix cm Z.bk e)
  | .ct e => E.ct (mix cm Z.ct e)
  | .ex x e => ∀ O, E.ex (toX cm x) (mix cm O e)
/-- what is raised in an expression leaves the statement -/
def T.lift {α : Type} : T α → Env → (α → T Ct) → T Ct
  | .ret a, _, k => k a
  | .exc x, e, _ => .ret (.ex x e)
  | .bad, _, _ => .bad
  | .draw b m f, e, k => .draw b m fun i => (f i).lift e k
@[simp] theorem lift_ret {α : Type} (a : α) (e : Env) (k : α → T Ct) : (T.ret a).lift e k = k a := rfl
@[simp] theorem lift_exc {α : Type} (x : AX) (e : Env) (k : α → T Ct) : (T.exc x : T α).lift e k = .ret (.ex x e) := rfl
@[simp] theorem lift_bad {α : Type} (e : Env) (k : α → T Ct) : (T.bad : T α).lift e k = .bad := rfl
theorem wp_lift {α : Type} {bg : Option Addr} (t : T α) (e : Env) (k : α → T Ct) (q : Ct → Prop) (z : AX → Prop) : (t.lift e k).wp bg q z = t.wp bg (fun a => (k a).wp bg q z) (fun x => q (.ex x e)) := by
  induction t with
  | ret a => rfl
  | exc x => rfl
  | bad => rfl
  | draw b m k ih =>
    show (_ ∧ _) = (_ ∧ _)
    simp only [ih]
def cS (cm : CM) (bg : Option Addr) (O : List Nat) (Z : Os) (f : Env → T Ct) : WS := fun E ρ => ∃ env, ρ = mix cm O env ∧ (f env).wp bg (endC cm Z E) (fun _ => False)
def cV (cm : CM) (bg : Option Addr) (O : List Nat) (ow : Bool) (f : Env → T A) : WV := fun ρ kq kx => ∃ env, ρ = mix cm O env ∧ (f env).wp bg (fun a => kq (rv cm ow a) ρ) (fun x => kx (toX cm x) ρ)
abbrev FS (cm : CM) (X : Cx) (F : Fm) (W : WX) (O : List Nat) (Z : Os) (st : Stmt) (f : Env → T Ct) : Prop := DS X F W st (cS cm F.bag O Z f)
abbrev FSs (cm : CM) (X : Cx) (F : Fm) (W : WX) (O : List Nat) (Z : Os) (st : List Stmt) (f : Env → T Ct) : Prop := DSs X F W st (cS cm F.bag O Z f)
abbrev FV (cm : CM) (X : Cx) (F : Fm) (W : WX) (O : List Nat) (ow : Bool) (e : Expr) (f : Env → T A) : Prop := DV X F W e (cV cm F.bag O ow f)
abbrev FI (cm : CM) (X : Cx) (F : Fm) (W : WX) (O : List Nat) (tg e : Expr) (f : Env → T (List A)) : Prop := DI X F W tg e (cL cm F.bag O f)
section
variable {X : Cx} {F : Fm} {W : WX} {e : Expr} {st : Stmt} {sts : List Stmt}
theorem DV_imp {w w' : WV} (h : DV X F W e w) (hw : ∀ ρ kq kx, w' ρ kq kx → w ρ kq kx) : DV X F W e w' := by
  obtain ⟨t, p, q⟩ := h.ex
  exact ⟨t, p, fun S ρ σ H Q kq kx r h' => q S ρ σ H Q kq kx r (hw _ _ _ h')⟩
theorem DS_imp {w w' : WS} (h : DS X F W st w) (hw : ∀ E ρ, w' E ρ → w E ρ) : DS X F W st w' := by
  obtain ⟨t, p, q⟩ := h.ex
  exact ⟨t, p, fun S ρ σ H D E r h' => q S ρ σ H D E r (hw _ _ h')⟩
theorem DSs_imp {w w' : WS} (h : DSs X F W sts w) (hw : ∀ E ρ, w' E ρ → w E ρ) : DSs X F W sts w' := by
  obtain ⟨t, p, q⟩ := h.ex
  exact ⟨t, p, fun S ρ σ H D E r h' => q S ρ σ H D E r (hw _ _ h')⟩
end

/-! ### the functions -/
def sq (g : Env → T Ct) : Ct → T Ct
  | .nx e => g e
  | c => .ret c
def fSeq (f g : Env → T Ct) : Env → T Ct := fun env => (f env).bind (sq g)
def fNext : Env → T Ct := fun env => .ret (.nx env)
def fIfS (c : Env → T Bool) (f g : Env → T Ct) : Env → T Ct := fun env => (c env).lift env fun b => if b then f env else g env
def fRet (f : Env → T A) : Env → T Ct := fun env => (f env).lift env fun a => .ret (.rt a)
def fRetN : Env → T Ct := fun _ => .ret (.rt .non)
def fAsg (i : Nat) (f : Env → T A) : Env → T Ct := fun env => (f env).lift env fun a => .ret (.nx (env.set i (some a)))
def fDo (f : Env → T A) : Env → T Ct := fun env => (f env).lift env fun _ => .ret (.nx env)
def fPar (i j : Nat) (f g : Env → T A) : Env → T Ct := fun env => (f env).lift env fun a => (g env).lift env fun b => .ret (.nx ((env.set i (some a)).set j (some b)))
def fAug (i : Nat) (g : G2) (f : Env → T A) : Env → T Ct := fun env => (fVar i env).bind fun a => (f env).lift env fun b => (T.opt (g a b)).bind fun c => .ret (.nx (env.set i (some c)))
def fBreak : Env → T Ct := fun env => .ret (.bk env)
def fCont : Env → T Ct := fun env => .ret (.ct env)
abbrev TgF := A → Env → Option Env
def tName (i : Nat) : TgF := fun a env => some (env.set i (some a))
def tNils : List A → Env → Option Env := fun as env => match as with
  | [] => some env
  | _ => none
def tConss (g : TgF) (u : List A → Env → Option Env) : List A → Env → Option Env := fun as env => match as with
  | a :: r => (g a env).bind (u r)
  | [] => none
def tTup (n : Nat) (u : List A → Env → Option Env) : TgF := fun a env => match a with
  | .tup xs => if xs.length = n then u xs env else none
  | _ => none
def fAsgT (f : Env → T A) (g : TgF) : Env → T Ct := fun env => (f env).lift env fun a => (T.opt (g a env)).bind fun e => .ret (.nx e)
def seqF : A → Option (List A)
  | .lst xs => some xs
  | .tup xs => some xs
  | .str l => some (l.map fun c => .str [c])
  | _ => none
def fSeqs (f : Env → T A) : Env → T (List A) := fun env => (f env).bind fun a => T.opt (seqF a)
def rangeA (n : Int) : List A := (List.range n.toNat).map fun i => .int (i : Nat)
def fRange (f : Env → T A) : Env → T (List A) := fun env => (f env).bind fun a => match a with
  | .int n => if -1000000000 < n ∧ n < 1000000000 then .ret (rangeA n) else .bad
  | _ => .bad
def zipF (xs ys : List A) : List A := (xs.zip ys).map fun q => .tup [q.1, q.2]
def fZip (f g : Env → T A) : Env → T (List A) := fun env => (f env).bind fun a => (g env).bind fun b => match a, b with
  | .lst xs, .lst ys => .ret (zipF xs ys)
  | .tup xs, .tup ys => .ret (zipF xs ys)
  | _, _ => .bad
def enumA (xs : List A) : List A := xs.zipIdx.map fun q => .tup [.int (q.2 : Nat), q.1]
def fEnum (f : Env → T A) : Env → T (List A) := fun env => (f env).bind fun a => match a with
  | .lst xs => .ret (enumA xs)
  | _ => .bad
def fForGo (g : TgF) (b : Env → T Ct) : List A → Env → T Ct
  | [], env => .ret (.nx env)
  | a :: as, env => match g a env with
    | none => .bad
    | some e => (b e).bind fun c => match c with
      | .nx e => fForGo g b as e
      | .ct e => fForGo g b as e
      | .bk e => .ret (.nx e)
      | .rt a => .ret (.rt a)
      | .ex x e => .ret (.ex x e)
def fFor (it : Env → T (List A)) (g : TgF) (b : Env → T Ct) : Env → T Ct := fun env => (it env).lift env fun items => fForGo g b items env
def fWhile (c : Env → T Bool) (b : Env → T Ct) : Nat → Env → T Ct
  | 0, _ => .bad
  | n + 1, env => (c env).lift env fun t => if t then (b env).bind fun r => match r with
      | .nx e => fWhile c b n e
      | .ct e => fWhile c b n e
      | .bk e => .ret (.nx e)
      | .rt a => .ret (.rt a)
      | .ex x e => .ret (.ex x e)
    else .ret (.nx env)
def fYes : Env → T Bool := fun _ => .ret true
def fLcGo (g : TgF) (t : Env → T Bool) (f : Env → T A) (env : Env) : List A → T (List A)
  | [] => .ret []
  | a :: as => match g a env with
    | none => .bad
    | some e => (t e).bind fun b => if b then (f e).bind fun c => (fLcGo g t f env as).bind fun r => .ret (c :: r) else fLcGo g t f env as
def free (vs : List Nat) (env : Env) : Bool := vs.all fun i => match env[i]? with
  | some (some _) => false
  | _ => true
def fLc (it : Env → T (List A)) (g : TgF) (t : Env → T Bool) (f : Env → T A) (vs : List Nat) : Env → T (List A) := fun env => if free vs env then (it env).bind fun items => (fLcGo g t f env items).calm.bind fun r => T.opt (small r) else .bad
/-- names are forgotten -/
def dropE (vs : List Nat) (env : Env) : Env := vs.foldl (fun e i => e.set i none) env
def fDrop (vs : List Nat) (f : Env → T Ct) : Env → T Ct := fun env => f (dropE vs env)

section
variable {cm : CM} {X : Cx} {F : Fm} {W : WX} {O O' : List Nat} {Z : Os} {e a b c tg iter : Expr} {es : List Expr} {f g h : Env → T A} {s t : Env → T Ct} {pos p : Pos} {st : Stmt} {rest body : List Stmt}
theorem ex_at {Z : Os} {E : DEnds} {x : AX} {env : Env} (O : List Nat) (h : endC cm Z E (.ex x env)) : E.ex (toX cm x) (mix cm O env) := h O
/-! ### values with their owner -/
theorem fv_e (h : FE cm X F W O e f) : FV cm X F W O false e f := DV_imp (dv_e h) fun ρ kq kx hw => by
  obtain ⟨env, rfl, hw⟩ := hw
  exact ⟨env, rfl, hw⟩
theorem fv_l {f : Env → T (List A)} (h : FL cm X F W O e f) : FV cm X F W O true e (fVal f) := DV_imp (dv_l h) fun ρ kq kx hw => by
  obtain ⟨env, rfl, hw⟩ := hw
  unfold fVal at hw
  rw [T.wp_bind] at hw
  exact ⟨env, rfl, hw⟩
theorem fe_v {ow : Bool} (h : FV cm X F W O ow e f) : FE cm X F W O e f := DE_imp (d_v h) fun ρ kq kx hw => by
  obtain ⟨env, rfl, hw⟩ := hw
  refine ⟨env, rfl, T.wp_mono hw (fun a k => ?_) fun _ k => k⟩
  cases ow with
  | false => exact k
  | true => cases a <;> exact k
/-! ### blocks -/
theorem fss_nil (hs : sub Z.nx O = true := by rfl) : FSs cm X F W O Z [] fNext := ⟨_, pss_nil, fun S ρ σ H D E r hw l => by
  obtain ⟨env, rfl, hw⟩ := hw
  obtain ⟨S', e, r'⟩ := frzTo hs r
  exact l.nx S' _ σ H e r' hw⟩
theorem fss_cons {O1 : List Nat} (h1 : FS cm X F W O ⟨O1, Z.bk, Z.ct, Z.ow⟩ st s) (h2 : FSs cm X F W O1 Z rest t) : FSs cm X F W O Z (st :: rest) (fSeq s t) := DSs_imp (dss_cons h1 h2) fun E ρ hw => by
  obtain ⟨env, rfl, hw⟩ := hw
  unfold fSeq at hw
  rw [T.wp_bind] at hw
  refine ⟨env, rfl, T.wp_mono hw (fun c k => ?_) fun _ k => k⟩
  cases c with
  | nx e => exact ⟨e, rfl, k⟩
  | rt a => exact k
  | bk e => exact k
  | ct e => exact k
  | ex x e => exact k
/-- names come to rest ahead of a statement -/
theorem fs_frz (hs : sub O' O = true) (h : FS cm X F W O' Z st s) : FS cm X F W O Z st s := by
  obtain ⟨t, p, q⟩ := h.ex
  refine ⟨t, p, fun S ρ σ H D E r hw l => ?_⟩
  obtain ⟨env, rfl, hw⟩ := hw
  obtain ⟨S', e, r'⟩ := frzTo hs r
  exact q S' _ σ H D E r' ⟨env, rfl, hw⟩ (l.mono e)
theorem fss_frz (hs : sub O' O = true) (h : FSs cm X F W O' Z rest s) : FSs cm X F W O Z rest s := by
  obtain ⟨t, p, q⟩ := h.ex
  refine ⟨t, p, fun S ρ σ H D E r hw l => ?_⟩
  obtain ⟨env, rfl, hw⟩ := hw
  obtain ⟨S', e, r'⟩ := frzTo hs r
  exact q S' _ σ H D E r' ⟨env, rfl, hw⟩ (l.mono e)
theorem dropE_len (vs : List Nat) : ∀ env : Env, (dropE vs env).length = env.length := by
  induction vs with
  | nil => exact fun _ => rfl
  | cons i vs ih =>
    intro env
    show (dropE vs (env.set i none)).length = _
    rw [ih, List.length_set]
theorem dropE_get (vs : List Nat) : ∀ (env : Env) (j : Nat) (a : A), (dropE vs env)[j]? = some (some a) → env[j]? = some (some a) := by
  induction vs with
  | nil => exact fun _ _ _ h => h
  | cons i vs ih =>
    intro env j a h
    have h2 := ih (env.set i none) j a h
    by_cases e : i = j
    · subst e
      rw [List.getElem?_set] at h2
      split at h2
      · split at h2 <;> cases h2
      · rename_i c
        exact absurd rfl c
    · rw [List.getElem?_set_ne e] at h2
      exact h2
theorem fs_drop (vs : List Nat) (h : FS cm X F W O Z st s) : FS cm X F W O Z st (fDrop vs s) := by
  obtain ⟨t, p, q⟩ := h.ex
  refine ⟨t, p, fun S ρ σ H D E r hw l => ?_⟩
  obtain ⟨env, rfl, hw⟩ := hw
  refine q S (mix cm O (dropE vs env)) σ H D E (r.sub ?_ rfl fun j y hy => ⟨?_, rfl⟩) ⟨_, rfl, hw⟩ l
  · rw [mix_len, mix_len, dropE_len]
  · rw [mix_get] at hy ⊢
    cases g : (dropE vs env)[j]? with
    | none => rw [g] at hy; cases hy
    | some o =>
      cases o with
      | none => rw [g] at hy; cases hy
      | some a =>
        rw [dropE_get vs env j a g]
        rw [g] at hy
        exact hy
theorem fs_pass (hz : Z.nx = O := by rfl) : FS cm X F W O Z (.Pass pos) fNext := DS_imp ds_pass fun E ρ hw => by
  obtain ⟨env, rfl, hw⟩ := hw
  have hw : E.nx (mix cm Z.nx env) := hw
  rw [hz] at hw
  exact hw
theorem fs_doc {x j pos'} (hz : Z.nx = O := by rfl) : FS cm X F W O Z (.Expr (.Constant (.str x) j pos) pos') fNext := DS_imp ds_doc fun E ρ hw => by
  obtain ⟨env, rfl, hw⟩ := hw
  have hw : E.nx (mix cm Z.nx env) := hw
  rw [hz] at hw
  exact hw
theorem fs_if {bs cs : List Stmt} {w : Env → T Bool} (hc : FT cm X F W O c w) (ha : FSs cm X F W O Z bs s) (hb : FSs cm X F W O Z cs t) : FS cm X F W O Z (.If c bs cs pos) (fIfS w s t) := DS_imp (ds_if hc ha hb) fun E ρ hw => by
  obtain ⟨env, rfl, hw⟩ := hw
  unfold fIfS at hw
  rw [wp_lift] at hw
  refine ⟨env, rfl, T.wp_mono hw (fun b k => ?_) fun x k => ex_at O k⟩
  cases b with
  | true => exact ⟨env, rfl, k⟩
  | false => exact ⟨env, rfl, k⟩
theorem fs_ret {ow : Bool} (h : FV cm X F W O ow e f) (hz : Z.ow = ow := by rfl) : FS cm X F W O Z (.Return (some e) pos) (fRet f) := DS_imp (ds_retV h) fun E ρ hw => by
  obtain ⟨env, rfl, hw⟩ := hw
  unfold fRet at hw
  rw [wp_lift] at hw
  subst hz
  exact ⟨env, rfl, T.wp_mono hw (fun a k => k) fun x k => ex_at O k⟩
theorem fs_retN : FS cm X F W O Z (.Return none pos) fRetN := DS_imp ds_retN fun E ρ hw => by
  obtain ⟨env, rfl, hw⟩ := hw
  have hw : E.rt (rv cm Z.ow .non) := hw
  cases h : Z.ow with
  | false => rw [h] at hw; exact hw
  | true => rw [h] at hw; exact hw
/-- return of a name's own list -/
theorem fs_retO (i : Nat) {x : Str} {p2 : Pos} (ho : O.contains i = true := by decide) (hz : Z.ow = true := by rfl) (hN : X.N[i]? = some x := by rfl) (hv : Vis X.env.scope x := by first | exact Or.inl rfl | exact Or.inr (Or.inl rfl) | exact Or.inr (Or.inr rfl)) (hd : (x == ("__debug__" : Str)) = false := by decide)
    (hcd : (x == ("__classdict__" : Str)) = false := by decide) : FS cm X F W O Z (.Return (some (.Name x p2)) pos) (fRet (fVar i)) := DS_imp (ds_retO i hN hv hd hcd) fun E ρ hw => by
  obtain ⟨env, rfl, hw⟩ := hw
  unfold fRet at hw
  rw [wp_lift] at hw
  obtain ⟨a, h, k⟩ := fVar_some hw
  have k : E.rt (rv cm Z.ow a) := k
  rw [hz] at k
  have e : (mix cm O env)[i]? = some (some (ownD cm a)) := by rw [mix_get, h]; exact congrArg some (mixAt_own ho)
  unfold wRetO
  rw [e]
  exact k
theorem mix_setV {i : Nat} {env : Env} {a : A} (ho : O.contains i = false) : (mix cm O env).set i (some (.val (toD cm a))) = mix cm O (env.set i (some a)) := by
  rw [← mixAt_val (cm := cm) (a := a) ho, mix_set]
theorem mix_setO {i : Nat} {env : Env} {a : A} (ho : O.contains i = false) : (mix cm O env).set i (some (ownD cm a)) = mix cm (i :: O) (env.set i (some a)) := by
  apply List.ext_getElem?
  intro j
  have e1 : (i :: O).contains i = true := by simp
  by_cases e : i = j
  · subst e
    by_cases h : i < env.length
    · rw [List.getElem?_set_self (by rw [mix_len]; exact h), mix_get, List.getElem?_set_self h]
      exact congrArg some (mixAt_own e1).symm
    · rw [List.getElem?_eq_none (by rw [List.length_set, mix_len]; omega), mix_get, List.getElem?_eq_none (by rw [List.length_set]; omega)]
      rfl
  · rw [List.getElem?_set_ne e, mix_get, mix_get, List.getElem?_set_ne e]
    have e3 : (i :: O).contains j = O.contains j := by
      rw [List.contains_cons]
      have : (j == i) = false := by simpa using fun z => e z.symm
      rw [this, Bool.false_or]
    have : mixAt cm (i :: O) j = mixAt cm O j := by
      funext x
      unfold mixAt
      rw [e3]
    rw [this]
def addO (ow : Bool) (i : Nat) (O : List Nat) : List Nat := if ow then i :: O else O
theorem mix_setR {i : Nat} {env : Env} {a : A} {ow : Bool} (ho : O.contains i = false) : (mix cm O env).set i (some (rv cm ow a)) = mix cm (addO ow i O) (env.set i (some a)) := by
  cases ow with
  | false => exact mix_setV ho
  | true => exact mix_setO ho
theorem fs_set {i : Nat} {x : Str} {pos' : Pos} {ow : Bool} (hN : X.N.Nodup) (h : FV cm X F W O ow e f) (ho : O.contains i = false := by decide) (hz : Z.nx = addO ow i O := by rfl) (hi : X.N[i]? = some x := by rfl) (hx : Loc X.env.scope x := by first | exact Or.inl rfl | exact Or.inr rfl) (hs : swapsWith e (some (.Name x pos')) pos.line X.env = pure false := by rfl)
    (hf : X.fn x = true ∨ X.env.scope.names.lookup x = some .local := by first | exact .inl rfl | exact .inr rfl | assumption) : FS cm X F W O Z (.Assign [.Name x pos'] e pos) (fAsg i f) := DS_imp (ds_set hN h hi hx hs hf) fun E ρ hw => by
  obtain ⟨env, rfl, hw⟩ := hw
  unfold fAsg at hw
  rw [wp_lift] at hw
  refine ⟨env, rfl, T.wp_mono hw (fun a k => ?_) fun x k => ex_at O k⟩
  show E.nx ((mix cm O env).set i (some (rv cm ow a)))
  rw [mix_setR ho]
  have k : E.nx (mix cm Z.nx (env.set i (some a))) := k
  rw [hz] at k
  exact k
theorem fs_expr (h : FE cm X F W O e f) (hz : Z.nx = O := by rfl) (hs : swapsWith e none pos.line X.env = pure false := by rfl) : FS cm X F W O Z (.Expr e pos) (fDo f) := DS_imp (ds_expr h hs) fun E ρ hw => by
  obtain ⟨env, rfl, hw⟩ := hw
  unfold fDo at hw
  rw [wp_lift] at hw
  refine ⟨env, rfl, T.wp_mono hw (fun a k => ?_) fun x k => ex_at O k⟩
  have k : E.nx (mix cm Z.nx env) := k
  rw [hz] at k
  exact k
theorem fs_par {i j : Nat} {x y : Str} {ow ow' : Bool} {px py pt : Pos} {kt k2 pt2} (hc : X.calm = true) (hN : X.N.Nodup) (ha : FV cm X F W O ow a f) (hb : FV cm X F W O ow' b g) (ho : O.contains i = false := by decide) (ho' : (addO ow i O).contains j = false := by decide) (hz : Z.nx = addO ow' j (addO ow i O) := by rfl)
    (hi : X.N[i]? = some x := by rfl) (hj : X.N[j]? = some y := by rfl) (hij : i ≠ j := by decide)
    (hx : X.env.scope.names.lookup x = some .local := by rfl) (hy : X.env.scope.names.lookup y = some .local := by rfl)
    (hw : swappedStores [.Tuple [.Name x px, .Name y py] kt pt] (.Tuple [a, b] k2 pt2) X.env = pure (some [x, y]) := by rfl)
    (hs : swapsWithSole [.Tuple [.Name x px, .Name y py] kt pt] (.Tuple [a, b] k2 pt2) pos.line X.env = pure false := by rfl)
    (hs1 : starEach [a, b] X.env = (false, eval a X.env) :: starEach [b] X.env := by rfl) (hs2 : starEach [b] X.env = (false, eval b X.env) :: starEach [] X.env := by rfl) :
    FS cm X F W O Z (.Assign [.Tuple [.Name x px, .Name y py] kt pt] (.Tuple [a, b] k2 pt2) pos) (fPar i j f g) := DS_imp (ds_par hc hN ha hb hi hj hij hx hy hw hs hs1 hs2) fun E ρ hw => by
  obtain ⟨env, rfl, hw⟩ := hw
  unfold fPar at hw
  rw [wp_lift] at hw
  refine ⟨env, rfl, T.wp_mono hw (fun a k => ?_) fun x k => ex_at O k⟩
  rw [wp_lift] at k
  refine ⟨env, rfl, T.wp_mono k (fun b k => ?_) fun x k => ex_at O k⟩
  show E.nx (((mix cm O env).set i (some (rv cm ow a))).set j (some (rv cm ow' b)))
  rw [mix_setR ho, mix_setR ho']
  have k : E.nx (mix cm Z.nx ((env.set i (some a)).set j (some b))) := k
  rw [hz] at k
  exact k
theorem fs_aug {i : Nat} {x : Str} {op : Operator} {r : R2} {o : O2} {gg : G2} {pos' : Pos} (hN : X.N.Nodup) (hop : OpR X (inplaceOp op) r) (h2 : Op2 X.K r o) (hg : OpF o gg) (h : FE cm X F W O e f) (ho : O.contains i = false := by decide) (hz : Z.nx = O := by rfl) (hi : X.N[i]? = some x := by rfl) (hx : Loc X.env.scope x := by first | exact Or.inl rfl | exact Or.inr rfl)
    (hf : X.fn x = true ∨ X.env.scope.names.lookup x = some .local := by first | exact .inl rfl | exact .inr rfl | assumption) : FS cm X F W O Z (.AugAssign (.Name x pos') op e pos) (fAug i gg f) := DS_imp (ds_aug hN hop h2 h hi hx hf) fun E ρ hw => by
  obtain ⟨env, rfl, hw⟩ := hw
  unfold fAug at hw
  rw [T.wp_bind] at hw
  obtain ⟨a, ha, k⟩ := fVar_some hw
  have e : (mix cm O env)[i]? = some (some (.val (toD cm a))) := by rw [mix_get, ha]; exact congrArg some (mixAt_val ho)
  unfold wAug
  rw [e]
  rw [wp_lift] at k
  refine ⟨env, rfl, T.wp_mono k (fun b k => ?_) fun x k => ex_at O k⟩
  rw [T.wp_bind] at k
  obtain ⟨c, e, k⟩ := T.wp_opt k
  refine hg cm a b c _ e ?_
  rw [mix_setV ho]
  have k : E.nx (mix cm Z.nx (env.set i (some c))) := k
  rw [hz] at k
  exact k
/-! ### targets -/
def cG (cm : CM) (O : List Nat) (g : TgF) : WG := fun d ρ k => ∃ a env env', d = toD cm a ∧ ρ = mix cm O env ∧ g a env = some env' ∧ k (mix cm O env')
def cGs (cm : CM) (O : List Nat) (g : List A → Env → Option Env) : WGs := fun d ρ k => ∃ a env env', d = toDs cm a ∧ ρ = mix cm O env ∧ g a env = some env' ∧ k (mix cm O env')
abbrev FG (cm : CM) (X : Cx) (F : Fm) (O : List Nat) (e : Expr) (g : TgF) (ts : List Nat) (tg : TG) : Prop := DG X F e (cG cm O g) ts tg
abbrev FGs (cm : CM) (X : Cx) (F : Fm) (O : List Nat) (es : List Expr) (g : List A → Env → Option Env) (ts : List Nat) (tg : TGs) : Prop := DGs X F es (cGs cm O g) ts tg
theorem DG_imp {w w' : WG} {ts : List Nat} {tg : TG} (h : DG X F e w ts tg) (hw : ∀ d ρ k, w' d ρ k → w d ρ k) : DG X F e w' ts tg := ⟨h.pg, fun S ρ σ H d v Q k r rp h' hk => h.run S ρ σ H d v Q k r rp (hw _ _ _ h') hk⟩
theorem DGs_imp {w w' : WGs} {ts : List Nat} {tg : TGs} (h : DGs X F es w ts tg) (hw : ∀ d ρ k, w' d ρ k → w d ρ k) : DGs X F es w' ts tg := ⟨h.pg, fun S ρ σ H d v Q k r rp h' hk => h.run S ρ σ H d v Q k r rp (hw _ _ _ h') hk⟩
theorem fg (i : Nat) {x : Str} (hN : X.N.Nodup) (ho : O.contains i = false := by decide) (hi : X.N[i]? = some x := by rfl) (hx : Loc X.env.scope x := by first | exact Or.inl rfl | exact Or.inr rfl) (hf : X.fn x = true ∨ X.env.scope.names.lookup x = some .local := by first | exact .inl rfl | exact .inr rfl | assumption) : FG cm X F O (.Name x pos) (tName i) [i] (gName i) := DG_imp (dg i hN hi hx hf) fun d ρ k hw => by
  obtain ⟨a, env, env', rfl, rfl, e, hk⟩ := hw
  cases e
  show k ((mix cm O env).set i (some (.val (toD cm a))))
  rw [mix_setV ho]
  exact hk
theorem fgs_nil : FGs cm X F O [] tNils [] gNil := DGs_imp dgs_nil fun d ρ k hw => by
  obtain ⟨as, env, env', rfl, rfl, e, hk⟩ := hw
  cases as with
  | nil =>
    cases e
    exact hk
  | cons a r => cases e
theorem fgs_cons {w : TgF} {u : List A → Env → Option Env} {ts us : List Nat} {gg : TG} {gs : TGs} (h : FG cm X F O e w ts gg) (hs : FGs cm X F O es u us gs) (hh : (assignEach (e :: es) X.env).map (·.2) = assign e X.env :: (assignEach es X.env).map (·.2) := by rfl) : FGs cm X F O (e :: es) (tConss w u) (ts ++ us) (gCons gg gs) := DGs_imp (dgs_cons h hs hh) fun d ρ k hw => by
  obtain ⟨as, env, env', rfl, rfl, e, hk⟩ := hw
  cases as with
  | nil => cases e
  | cons a r =>
    have e : (w a env).bind (u r) = some env' := e
    cases h1 : w a env with
    | none => rw [h1] at e; cases e
    | some e1 =>
      rw [h1] at e
      exact ⟨a, env, e1, rfl, rfl, h1, r, e1, env', rfl, rfl, e, hk⟩
theorem fg_tup (K : PySem.W.Frag) (n : Nat) {kk : Nat} {u : List A → Env → Option Env} {us : List Nat} {gs : TGs} (hc : X.calm = true) (h : FGs cm X F O es u us gs) (hK : X.K = K := by rfl) (hn : (assignEach es X.env).length = n := by rfl) (hst : (assignEach es X.env).findIdx? (·.1) = none := by rfl) : FG cm X F O (.Tuple es kk pos) (tTup n u) us (gTup K n gs) := DG_imp (dg_tup K n hc h hK hn hst) fun d ρ k hw => by
  obtain ⟨a, env, env', rfl, rfl, e, hk⟩ := hw
  unfold tTup at e
  split at e
  · rename_i xs
    split at e
    · rename_i hl
      rw [toD_tup]
      exact ⟨by rw [toDs_len]; exact hl, xs, env, env', rfl, rfl, e, hk⟩
    · cases e
  · cases e
theorem fs_asg {tgt : Expr} {gt : TgF} {ts : List Nat} {gg : TG} (h : FE cm X F W O e f) (hg : FG cm X F O tgt gt ts gg) (hz : Z.nx = O := by rfl) (hs : swapsWithSole [tgt] e pos.line X.env = pure false := by rfl) (hw : swappedStores [tgt] e X.env = pure none := by rfl)
    (h1 : (assignEach [tgt] X.env).map (·.2) = [assign tgt X.env] := by rfl) : FS cm X F W O Z (.Assign [tgt] e pos) (fAsgT f gt) := DS_imp (ds_asg h hg hs hw h1) fun E ρ hw => by
  obtain ⟨env, rfl, hw⟩ := hw
  unfold fAsgT at hw
  rw [wp_lift] at hw
  refine ⟨env, rfl, T.wp_mono hw (fun a k => ?_) fun x k => ex_at O k⟩
  rw [T.wp_bind] at k
  obtain ⟨e', h', k⟩ := T.wp_opt k
  refine ⟨a, env, e', rfl, rfl, h', ?_⟩
  have k : E.nx (mix cm Z.nx e') := k
  rw [hz] at k
  exact k
/-! ### what is walked -/
theorem signs_A (l : List Nat) : PD.signs (tx l) = toDs cm (l.map fun c => .str [c]) := by
  rw [tx_signs, toDs_map, List.map_map]
  rfl
theorem fi_seq (h : FE cm X F W O e f) : FI cm X F W O tg e (fSeqs f) := DI_imp (di_seq h) fun ρ kq kx hw => by
  obtain ⟨env, rfl, hw⟩ := hw
  unfold fSeqs at hw
  rw [T.wp_bind] at hw
  refine ⟨env, rfl, T.wp_mono hw (fun a k => ?_) fun x k => k⟩
  obtain ⟨c, e, k⟩ := T.wp_opt k
  unfold seqF at e
  split at e
  · cases e
    rw [toD_lst]
    exact k
  · cases e
    rw [toD_tup]
    exact k
  · rename_i l
    cases e
    show kq (PD.signs (tx l)) _
    rw [signs_A (cm := cm)]
    exact k
  · cases e
theorem range_A (n : Int) : rangeD n = toDs cm (rangeA n) := by
  unfold rangeD rangeA
  rw [toDs_map, List.map_map]
  rfl
theorem fi_range (hm : X.mg "range" = none) (h : FE cm X F W O e f) (hg : Gl X "range" := by rfl) (hs : starEach [e] X.env = [(false, eval e X.env)] := by rfl) : FI cm X F W O tg (.Call (.Name "range" p) [e] [] pos) (fRange f) := DI_imp (di_range hm h hg hs) fun ρ kq kx hw => by
  obtain ⟨env, rfl, hw⟩ := hw
  unfold fRange at hw
  rw [T.wp_bind] at hw
  refine ⟨env, rfl, T.wp_mono hw (fun a k => ?_) fun x k => k⟩
  split at k
  · rename_i n
    split at k
    · rename_i hn
      refine ⟨⟨by omega, by omega⟩, ?_⟩
      rw [range_A (cm := cm)]
      exact k
    · exact k.elim
  · exact k.elim
theorem zip_F (xs ys : List A) : pairs (toDs cm xs) (toDs cm ys) = toDs cm (zipF xs ys) := by
  unfold pairs zipF
  rw [toDs_map, toDs_map, toDs_map, List.map_map, List.zip_map, List.map_map]
  apply List.map_congr_left
  intro q _
  show D.tup [toD cm q.1, toD cm q.2] = toD cm (.tup [q.1, q.2])
  rw [toD_tup]
  rfl
theorem fi_zip {elts : List Expr} {kk : Nat} {tpos : Pos} (hm : X.mg "zip" = none) (ha : FE cm X F W O a f) (hb : FE cm X F W O b g) (hg : Gl X "zip" := by rfl) (hs : starEach [a, b] X.env = (false, eval a X.env) :: starEach [b] X.env := by rfl) (hs2 : starEach [b] X.env = (false, eval b X.env) :: starEach [] X.env := by rfl)
    (hpl : (backTo pos (starEach [b] X.env)).any (·.1) = false := by rfl) : FI cm X F W O (.Tuple elts kk tpos) (.Call (.Name "zip" p) [a, b] [] pos) (fZip f g) := DI_imp (di_zipA hm ha hb hg hs hs2 hpl) fun ρ kq kx hw => by
  obtain ⟨env, rfl, hw⟩ := hw
  unfold fZip at hw
  rw [T.wp_bind] at hw
  refine ⟨env, rfl, T.wp_mono hw (fun a k1 => ?_) fun x k => k⟩
  rw [T.wp_bind] at k1
  refine ⟨env, rfl, T.wp_mono k1 (fun b k => ?_) fun x k => k⟩
  clear k1
  split at k
  · rename_i xs ys
    rw [toD_lst, toD_lst]
    show kq (pairs (toDs cm xs) (toDs cm ys)) _
    rw [zip_F]
    exact k
  · rename_i xs ys
    rw [toD_tup, toD_tup]
    show kq (pairs (toDs cm xs) (toDs cm ys)) _
    rw [zip_F]
    exact k
  · exact k.elim
theorem enum_A (xs : List A) : enumD (toDs cm xs) = toDs cm (enumA xs) := by
  unfold enumD enumA
  rw [toDs_map, toDs_map, List.map_map, List.zipIdx_map, List.map_map]
  apply List.map_congr_left
  intro q _
  show D.tup [.int (q.2 : Nat), toD cm q.1] = toD cm (.tup [.int (q.2 : Nat), q.1])
  rw [toD_tup]
  rfl
theorem fi_enum {elts : List Expr} {kk : Nat} {tpos : Pos} (hm : X.mg "enumerate" = none) (ha : FE cm X F W O e f) (hg : Gl X "enumerate" := by rfl) (hs : starEach [e] X.env = [(false, eval e X.env)] := by rfl) : FI cm X F W O (.Tuple elts kk tpos) (.Call (.Name "enumerate" p) [e] [] pos) (fEnum f) := DI_imp (di_enum hm ha hg hs) fun ρ kq kx hw => by
  obtain ⟨env, rfl, hw⟩ := hw
  unfold fEnum at hw
  rw [T.wp_bind] at hw
  refine ⟨env, rfl, T.wp_mono hw (fun a k => ?_) fun x k => k⟩
  split at k
  · rename_i xs
    rw [toD_lst]
    show kq (enumD (toDs cm xs)) _
    rw [enum_A]
    exact k
  · exact k.elim
/-! ### for, while -/
theorem imp_for {bg : Option Addr} {gt : TgF} {E : DEnds} (hn : Z.nx = O) : ∀ (items : List A) (env : Env), (fForGo gt s items env).wp bg (endC cm Z E) (fun _ => False) →
    forGo (cG cm O gt) (cS cm bg O ⟨O, O, O, Z.ow⟩ s) E (toDs cm items) (mix cm O env)
  | [], env, hw => by
    have hw : E.nx (mix cm Z.nx env) := hw
    rw [hn] at hw
    exact hw
  | a :: as, env, hw => by
    unfold fForGo at hw
    unfold toDs
    split at hw
    · exact hw.elim
    · rename_i e he
      refine ⟨a, env, e, rfl, rfl, he, e, rfl, ?_⟩
      rw [T.wp_bind] at hw
      refine T.wp_mono hw (fun c k => ?_) fun _ k => k
      cases c with
      | nx e => exact imp_for hn as e k
      | ct e => exact imp_for hn as e k
      | bk e =>
        have k : E.nx (mix cm Z.nx e) := k
        rw [hn] at k
        exact k
      | rt a => exact k
      | ex x e => exact k
theorem fs_for {w : Env → T (List A)} {gt : TgF} {ts : List Nat} {gg : TG} (hp : PassesOwn (model X.prog X.w) X.A X.env X.xe) (hc : X.calm = true) (hi : FI cm X F W O tg iter w) (hg : FG cm X F O tg gt ts gg) (hb : FSs cm X F W O ⟨O, O, O, Z.ow⟩ body s)
    (hz : Z.nx = O := by rfl) (hsw : ∀ x, foldedSetIterable iter X.env x = pure x := by intro _; rfl) : FS cm X F W O Z (.For tg iter body [] pos) (fFor w gt s) := DS_imp (ds_for hp hc hi hg hb hsw) fun E ρ hw => by
  obtain ⟨env, rfl, hw⟩ := hw
  unfold fFor at hw
  rw [wp_lift] at hw
  exact ⟨env, rfl, T.wp_mono hw (fun a k => imp_for hz a env k) fun x k => ex_at O k⟩
theorem fs_while (n : Nat) {w : Env → T Bool} (hp : PassesOwn (model X.prog X.w) X.A X.env X.xe) (hc : FT cm X F W O c w) (hb : FSs cm X F W O ⟨O, O, O, Z.ow⟩ body s) (hz : Z.nx = O := by rfl) : FS cm X F W O Z (.While c body [] pos) (fWhile w s n) := DS_imp (ds_while hp hc hb) fun E ρ hw => by
  obtain ⟨env, rfl, hw⟩ := hw
  refine ⟨fun m ρ => ∃ env, ρ = mix cm O env ∧ (fWhile w s m env).wp F.bag (endC cm Z E) (fun _ => False), ⟨n, env, rfl, hw⟩, ?_⟩
  rintro m ρ ⟨env, rfl, hw⟩
  cases m with
  | zero => exact hw.elim
  | succ m =>
    unfold fWhile at hw
    rw [wp_lift] at hw
    refine ⟨env, rfl, T.wp_mono hw (fun b k => ?_) fun x k => ex_at O k⟩
    cases b with
    | false =>
      have k : E.nx (mix cm Z.nx env) := k
      rw [hz] at k
      exact k
    | true =>
      refine ⟨env, rfl, ?_⟩
      have k : ((s env).bind fun r => match r with
        | .nx e => fWhile w s m e
        | .ct e => fWhile w s m e
        | .bk e => .ret (.nx e)
        | .rt a => .ret (.rt a)
        | .ex x e => .ret (.ex x e)).wp F.bag (endC cm Z E) (fun _ => False) := k
      rw [T.wp_bind] at k
      refine T.wp_mono k (fun c k => ?_) fun _ k => k
      cases c with
      | nx e => exact ⟨m, Nat.lt_succ_self m, e, rfl, k⟩
      | ct e => exact ⟨m, Nat.lt_succ_self m, e, rfl, k⟩
      | bk e =>
        have k : E.nx (mix cm Z.nx e) := k
        rw [hz] at k
        exact k
      | rt a => exact k
      | ex x e => exact k
end
end PF

/-! PF, part e: comprehensions, lists that grow, defs, calls, the law. -/
namespace PF
open PySem PySem.Spec PyProof.Rows L2 PD

section
variable {cm : CM} {X : Cx} {F : Fm} {W : WX} {O : List Nat} {Z : Os} {e a b c tg iter elt : Expr} {es ifs : List Expr} {f g : Env → T A} {s t : Env → T Ct} {pos p : Pos} {scope : Scope}
theorem toDs_cons (a : A) (as : List A) : toDs cm (a :: as) = toD cm a :: toDs cm as := by rw [toDs_map, toDs_map, List.map_cons]
theorem T.wp_some {α : Type} {bg : Option Addr} {t : T α} {q : α → Prop} (h : t.wp bg q (fun _ => False)) : ∃ a, q a := by
  induction t with
  | ret a => exact ⟨a, h⟩
  | exc x => exact h.elim
  | bad => exact h.elim
  | draw b m k ih => exact ih 0 (h.2 0 (Int.le_refl 0) h.1.2.1)
theorem T.wp_calm0 {α : Type} {bg : Option Addr} {t : T α} {q : α → Prop} {k : AX → Prop} (h : t.calm.wp bg q k) : t.wp bg q (fun _ => False) := T.wp_calm h
/-! ### comprehensions -/
theorem wipe_free : ∀ {vs : List Nat} {env : Env}, free vs env = true → wipeD (mix cm O env) vs = mix cm O env
  | [], env, _ => rfl
  | v :: vs, env, h => by
    unfold free at h
    rw [List.all_cons, Bool.and_eq_true] at h
    unfold wipeD
    rw [wipe_free (vs := vs) h.2]
    apply List.ext_getElem?
    intro j
    by_cases e : v = j
    · subst e
      by_cases hl : v < (mix cm O env).length
      · rw [List.getElem?_set_self hl, mix_get]
        cases g : env[v]? with
        | none =>
          rw [mix_len] at hl
          rw [List.getElem?_eq_none_iff] at g
          omega
        | some o =>
          cases o with
          | none => rfl
          | some a => rw [g] at h; cases h.1
      · rw [List.getElem?_eq_none (by rw [List.length_set]; omega), List.getElem?_eq_none (by omega)]
    · rw [List.getElem?_set_ne e]
theorem imp_lc {bg : Option Addr} {gt : TgF} {wt : Env → T Bool} {kx : KX} {env : Env} : ∀ (items acc : List A) (k : List D → Prop), (fLcGo gt wt f env items).wp bg (fun r => (acc ++ r).length ≤ big ∧ k (toDs cm (acc ++ r))) (fun _ => False) →
    lcGo (cG cm O gt) (cT cm bg O wt) (cE cm bg O f) (mix cm O env) kx (toDs cm items) (toDs cm acc) k
  | [], acc, k, hw => by
    obtain ⟨_, h2⟩ := hw
    rw [List.append_nil] at h2
    exact h2
  | a :: as, acc, k, hw => by
    unfold fLcGo at hw
    rw [toDs_cons]
    split at hw
    · exact hw.elim
    · rename_i e he
      refine ⟨a, env, e, rfl, rfl, he, e, rfl, ?_⟩
      rw [T.wp_bind] at hw
      refine T.wp_mono hw (fun b k1 => ⟨rfl, ?_⟩) fun _ k => k
      cases b with
      | true =>
        refine ⟨e, rfl, ?_⟩
        have k1 : ((f e).bind fun c => (fLcGo gt wt f env as).bind fun r => T.ret (c :: r)).wp bg (fun r => (acc ++ r).length ≤ big ∧ k (toDs cm (acc ++ r))) (fun _ => False) := k1
        rw [T.wp_bind] at k1
        refine T.wp_mono k1 (fun c k2 => ⟨rfl, ?_, ?_⟩) fun _ k => k
        · rw [T.wp_bind] at k2
          obtain ⟨r, hr, _⟩ := T.wp_some k2
          rw [List.length_append, List.length_cons] at hr
          rw [toDs_len]
          have hr : acc.length + (r.length + 1) ≤ 10000000 := hr
          omega
        · rw [T.wp_bind] at k2
          have e1 : toDs cm acc ++ [toD cm c] = toDs cm (acc ++ [c]) := by rw [toDs_app]; rfl
          rw [e1]
          refine imp_lc as (acc ++ [c]) k (T.wp_mono k2 (fun r k3 => ?_) fun _ k => k)
          have e2 : acc ++ [c] ++ r = acc ++ c :: r := by simp
          rw [e2]
          exact k3
      | false => exact imp_lc as acc k k1
theorem imp_Lc {bg : Option Addr} {it : Env → T (List A)} {gt : TgF} {wt : Env → T Bool} {vs : List Nat} : ∀ ρ kq kx, cL cm bg O (fLc it gt wt f vs) ρ kq kx → wLc (cL cm bg O it) (cG cm O gt) (cT cm bg O wt) (cE cm bg O f) vs ρ kq kx := fun ρ kq kx hw => by
  obtain ⟨env, rfl, hw⟩ := hw
  unfold fLc at hw
  split at hw
  · rename_i hv
    rw [T.wp_bind] at hw
    refine ⟨env, rfl, T.wp_mono hw (fun items k => ?_) fun x k => k⟩
    dsimp only
    rw [wipe_free hv]
    rw [T.wp_bind] at k
    have k := T.wp_calm0 k
    refine imp_lc items [] _ (T.wp_mono k (fun r k => ?_) fun _ k => k)
    obtain ⟨ys, e, k2⟩ := T.wp_opt k
    obtain ⟨hl, e2⟩ := small_eq e
    subst e2
    exact ⟨hl, k2⟩
  · exact hw.elim
abbrev FTs (cm : CM) (X : Cx) (F : Fm) (W : WX) (O : List Nat) (es : List Expr) (f : Env → T Bool) : Prop := DTs X F W es (cT cm F.bag O f)
theorem fts_nil : FTs cm X F W O [] fYes := by
  obtain ⟨t, p, q⟩ := (dts_nil (X := X) (F := F) (W := W)).ex
  refine ⟨t, p, fun S ρ σ H Q kq kx r hw => q S ρ σ H Q kq kx r ?_⟩
  obtain ⟨env, rfl, hw⟩ := hw
  exact hw
theorem fts_one {w : Env → T Bool} (h : FT cm X F W O c w) : FTs cm X F W O [c] w := dts_one h
theorem fl_lc {own : List (Str × Nat)} {w : Env → T (List A)} {gt : TgF} {ts : List Nat} {gg : TG} {wt : Env → T Bool} (hc : X.calm = true) (hN : X.N.Nodup) (hi : FI cm X F W O tg iter w) (ok : BlkOk X.N X.env.scope scope own)
    (hg : ∀ (s : Shared) (H : Hp) (C : Addr) (cl : List (Str × Addr)) (fp : List Addr), FG cm (X.blk s H scope (compEnvC scope cl C X.env) fp) F O tg gt ts gg) (ht : ∀ (s : Shared) (H : Hp) (C : Addr) (cl : List (Str × Addr)) (fp : List Addr), FTs cm (X.blk s H scope (compEnvC scope cl C X.env) fp) F W0 O ifs wt)
    (he : ∀ (s : Shared) (H : Hp) (C : Addr) (cl : List (Str × Addr)) (fp : List Addr), FE cm (X.blk s H scope (compEnvC scope cl C X.env) fp) F W0 O elt f) (hts : ∀ j ∈ ts, j ∈ own.map (·.2) := by decide) (hs : ∀ x, foldedSetIterable iter X.env x = pure x := by intro _; rfl) :
    FL cm X F W O (.ListComp elt [⟨tg, iter, ifs, 0⟩] scope pos) (fLc w gt wt f (own.map (·.2))) := DL_imp (dl_lc hc hN hi ok hg ht he hts hs) imp_Lc
theorem fs_setLc {i : Nat} {y : Str} {py spos : Pos} {own : List (Str × Nat)} {w : Env → T (List A)} {gt : TgF} {ts : List Nat} {gg : TG} {wt : Env → T Bool} (hc : X.calm = true) (hN : X.N.Nodup) (hi : FI cm X F W O tg iter w) (ok : BlkOk X.N X.env.scope scope own)
    (hg : ∀ (s : Shared) (H : Hp) (C : Addr) (cl : List (Str × Addr)) (fp : List Addr), FG cm (X.blk s H scope (compEnvC scope cl C X.env) fp) F O tg gt ts gg) (ht : ∀ (s : Shared) (H : Hp) (C : Addr) (cl : List (Str × Addr)) (fp : List Addr), FTs cm (X.blk s H scope (compEnvC scope cl C X.env) fp) F W0 O ifs wt)
    (he : ∀ (s : Shared) (H : Hp) (C : Addr) (cl : List (Str × Addr)) (fp : List Addr), FE cm (X.blk s H scope (compEnvC scope cl C X.env) fp) F W0 O elt f) (ho : O.contains i = false := by decide) (hz : Z.nx = i :: O := by rfl) (hy : X.N[i]? = some y := by rfl) (hyl : X.env.scope.names.lookup y = some .local := by rfl)
    (hsw : swapsWith (.ListComp elt [⟨tg, iter, ifs, 0⟩] scope pos) (some (.Name y py)) spos.line X.env = pure true := by exact sw_true rfl rfl rfl (by decide +kernel)) (hts : ∀ j ∈ ts, j ∈ own.map (·.2) := by decide) (hs : ∀ x, foldedSetIterable iter X.env x = pure x := by intro _; rfl) :
    FS cm X F W O Z (.Assign [.Name y py] (.ListComp elt [⟨tg, iter, ifs, 0⟩] scope pos) spos) (fAsg i (fVal (fLc w gt wt f (own.map (·.2))))) := DS_imp (ds_setLc hc hN hi ok hg ht he hy hyl hsw hts hs) fun E ρ hw => by
  obtain ⟨env, rfl, hw⟩ := hw
  unfold fAsg fVal at hw
  rw [wp_lift, T.wp_bind] at hw
  refine imp_Lc _ _ _ ⟨env, rfl, T.wp_mono hw (fun a k => ?_) fun x k => ex_at O k⟩
  show E.nx ((mix cm O env).set i (some (ownD cm (.lst a))))
  rw [mix_setO ho]
  have k : E.nx (mix cm Z.nx (env.set i (some (.lst a)))) := k
  rw [hz] at k
  exact k
/-! ### lists that grow -/
def fApp (i : Nat) (f : Env → T A) : Env → T Ct := fun env => match env[i]? with
  | some (some (.lst xs)) => (f env).lift env fun a => if xs.length < big then .ret (.nx (env.set i (some (.lst (xs ++ [a]))))) else .bad
  | _ => .bad
def fIns (i : Nat) (f g : Env → T A) : Env → T Ct := fun env => match env[i]? with
  | some (some (.lst xs)) => (f env).lift env fun n => (g env).lift env fun a => match n with
    | .int n => if xs.length < big ∧ 0 ≤ n ∧ n < 2 ^ 62 then .ret (.nx (env.set i (some (.lst (xs.take n.toNat ++ [a] ++ xs.drop n.toNat))))) else .bad
    | _ => .bad
  | _ => .bad
theorem mix_own {i : Nat} {env : Env} {xs : List A} (ho : O.contains i = true) (h : env[i]? = some (some (.lst xs))) : (mix cm O env)[i]? = some (some (.own (toDs cm xs))) := by
  rw [mix_get, h]
  exact congrArg some (mixAt_own ho)
theorem mix_setC {i : Nat} {env : Env} {a : A} (ho : O.contains i = true) : (mix cm O env).set i (some (ownD cm a)) = mix cm O (env.set i (some a)) := by
  rw [← mixAt_own (cm := cm) (a := a) ho, mix_set]
theorem fs_append (i : Nat) {x : Str} {p2 apos cpos : Pos} (h : FE cm X F W O e f) (ho : O.contains i = true := by decide) (hz : Z.nx = O := by rfl) (hN : X.N[i]? = some x := by rfl) (hv : Vis X.env.scope x := by first | exact Or.inl rfl | exact Or.inr (Or.inl rfl) | exact Or.inr (Or.inr rfl)) (hd : (x == ("__debug__" : Str)) = false := by decide)
    (hcd : (x == ("__classdict__" : Str)) = false := by decide)
    (hsw : swapsWith (.Call (.Attribute (.Name x p2) "append" apos) [e] [] cpos) none pos.line X.env = pure false := by rfl)
    (hbase : attributeBase (.Name x p2) "append" X.env (eval (.Name x p2) X.env) = eval (.Name x p2) X.env := by rfl)
    (hfew : ((backTo cpos (starEach [e] X.env)).all (fun x => !x.1) && (backToKw cpos (keywordEach [] X.env)).all (fun x => x.1.isSome)
      && decide (([e] : List Expr).length + ([] : List Keyword).length + (if ([] : List Keyword).isEmpty then 0 else 1) < 30)) = true := by rfl)
    (hline : (apos.endLine == cpos.line) = true := by rfl) (hs : starEach [e] X.env = (false, eval e X.env) :: starEach [] X.env := by rfl) :
    FS cm X F W O Z (.Expr (.Call (.Attribute (.Name x p2) "append" apos) [e] [] cpos) pos) (fApp i f) := DS_imp (ds_append i h hN hv hd hcd hsw hbase hfew hline hs) fun E ρ hw => by
  obtain ⟨env, rfl, hw⟩ := hw
  unfold fApp at hw
  split at hw
  · rename_i xs h
    rw [wp_lift] at hw
    unfold wApp
    rw [mix_own ho h]
    refine ⟨env, rfl, T.wp_mono hw (fun a k => ?_) fun x k => ex_at O k⟩
    dsimp only
    rw [mix_own ho h]
    split at k
    · rename_i hl
      refine ⟨by rw [toDs_len]; exact hl, ?_⟩
      have e1 : toDs cm xs ++ [toD cm a] = toDs cm (xs ++ [a]) := by rw [toDs_app]; rfl
      rw [e1]
      show E.nx ((mix cm O env).set i (some (ownD cm (.lst (xs ++ [a])))))
      rw [mix_setC ho]
      have k : E.nx (mix cm Z.nx (env.set i (some (.lst (xs ++ [a]))))) := k
      rw [hz] at k
      exact k
    · exact k.elim
  · exact hw.elim
theorem fs_insert (i : Nat) {x : Str} {p2 apos cpos : Pos} (h : FE cm X F W O e f) (h' : FE cm X F W O b g) (ho : O.contains i = true := by decide) (hz : Z.nx = O := by rfl) (hN : X.N[i]? = some x := by rfl) (hv : Vis X.env.scope x := by first | exact Or.inl rfl | exact Or.inr (Or.inl rfl) | exact Or.inr (Or.inr rfl)) (hd : (x == ("__debug__" : Str)) = false := by decide)
    (hcd : (x == ("__classdict__" : Str)) = false := by decide)
    (hsw : swapsWith (.Call (.Attribute (.Name x p2) "insert" apos) [e, b] [] cpos) none pos.line X.env = pure false := by rfl)
    (hbase : attributeBase (.Name x p2) "insert" X.env (eval (.Name x p2) X.env) = eval (.Name x p2) X.env := by rfl)
    (hfew : ((backTo cpos (starEach [e, b] X.env)).all (fun x => !x.1) && (backToKw cpos (keywordEach [] X.env)).all (fun x => x.1.isSome)
      && decide (([e, b] : List Expr).length + ([] : List Keyword).length + (if ([] : List Keyword).isEmpty then 0 else 1) < 30)) = true := by rfl)
    (hline : (apos.endLine == cpos.line) = true := by rfl) (hs : starEach [e, b] X.env = (false, eval e X.env) :: starEach [b] X.env := by rfl) (hs2 : starEach [b] X.env = (false, eval b X.env) :: starEach [] X.env := by rfl) (hpl : (backTo cpos (starEach [b] X.env)).any (·.1) = false := by rfl) :
    FS cm X F W O Z (.Expr (.Call (.Attribute (.Name x p2) "insert" apos) [e, b] [] cpos) pos) (fIns i f g) := DS_imp (ds_insert i h h' hN hv hd hcd hsw hbase hfew hline hs hs2 hpl) fun E ρ hw => by
  obtain ⟨env, rfl, hw⟩ := hw
  unfold fIns at hw
  split at hw
  · rename_i xs h
    rw [wp_lift] at hw
    unfold wIns
    rw [mix_own ho h]
    refine ⟨env, rfl, T.wp_mono hw (fun n k1 => ?_) fun x k => ex_at O k⟩
    rw [wp_lift] at k1
    refine ⟨env, rfl, T.wp_mono k1 (fun a k => ?_) fun x k => ex_at O k⟩
    clear k1
    dsimp only
    rw [mix_own ho h]
    split at k
    · rename_i n
      split at k
      · rename_i hl
        refine ⟨⟨by rw [toDs_len]; exact hl.1, hl.2.1, by omega⟩, ?_⟩
        have e1 : (toDs cm xs).take n.toNat ++ [toD cm a] ++ (toDs cm xs).drop n.toNat = toDs cm (xs.take n.toNat ++ [a] ++ xs.drop n.toNat) := by simp [toDs_map]
        rw [e1]
        show E.nx ((mix cm O env).set i (some (ownD cm (.lst (xs.take n.toNat ++ [a] ++ xs.drop n.toNat)))))
        rw [mix_setC ho]
        have k : E.nx (mix cm Z.nx (env.set i (some (.lst (xs.take n.toNat ++ [a] ++ xs.drop n.toNat))))) := k
        rw [hz] at k
        exact k
      · exact k.elim
    · exact k.elim
  · exact hw.elim
theorem fs_break (hs : sub Z.bk O = true := by rfl) : FS cm X F W O Z (.Break pos) fBreak := ⟨_, ps_break, fun S ρ σ H D E r hw l => by
  obtain ⟨env, rfl, hw⟩ := hw
  obtain ⟨S', e, r'⟩ := frzTo hs r
  exact l.bk S' _ σ H e r' hw⟩
theorem fs_cont (hs : sub Z.ct O = true := by rfl) : FS cm X F W O Z (.Continue pos) fCont := ⟨_, ps_continue, fun S ρ σ H D E r hw l => by
  obtain ⟨env, rfl, hw⟩ := hw
  obtain ⟨S', e, r'⟩ := frzTo hs r
  exact l.ct S' _ σ H e r' hw⟩
end
end PF

/-! PF, part f: defs as plain functions, calls, the law. -/
namespace PF
open PySem PySem.Spec PyProof.Rows L2 PD

/-- the slots as a def begins -/
def startE (n : Nat) (as : List A) : Env := as.map some ++ List.replicate (n - as.length) none
def finC : Ct → T A
  | .nx _ => .ret .non
  | .rt a => .ret a
  | .ex x _ => .exc x
  | .bk _ => .bad
  | .ct _ => .bad
def T.fin : T Ct → T A
  | .ret c => finC c
  | .exc _ => .bad
  | .bad => .bad
  | .draw b m k => .draw b m fun i => (k i).fin
@[simp] theorem fin_nx (e : Env) : (T.ret (.nx e)).fin = .ret .non := rfl
@[simp] theorem fin_rt (a : A) : (T.ret (.rt a)).fin = .ret a := rfl
@[simp] theorem fin_ex (x : AX) (e : Env) : (T.ret (.ex x e)).fin = .exc x := rfl
@[simp] theorem fin_bad : (T.bad : T Ct).fin = .bad := rfl
theorem wp_fin {bg : Option Addr} (t : T Ct) (q : A → Prop) (z : AX → Prop) : t.fin.wp bg q z = t.wp bg (fun c => (finC c).wp bg q z) (fun _ => False) := by
  induction t with
  | ret c => rfl
  | exc x => rfl
  | bad => rfl
  | draw b m k ih =>
    show (_ ∧ _) = (_ ∧ _)
    simp only [ih]
/-- a def with n slots -/
def fdef (n : Nat) (b : Env → T Ct) : List A → T A := fun as => (b (startE n as)).fin
/-- the promise of a def that is a plain function -/
def spF (cm : CM) (np : Nat) (ow : Bool) (f : List A → T A) : SpD := fun β ds kq kx => ∃ as : List A, as.length = np ∧ ds = toDs cm as ∧ (f as).wp β (fun a => kq (rv cm ow a)) (fun x => kx (toX cm x))
theorem start_mix {cm : CM} {N : List Str} (as : List A) : startD N (toDs cm as) = mix cm [] (startE N.length as) := by
  have key : ∀ (x : Option A) (i : Nat), mixAt cm [] i x = x.map fun a => .val (toD cm a) := fun x i => by
    cases x <;> rfl
  apply List.ext_getElem?
  intro j
  rw [mix_get]
  unfold startD startE
  by_cases h : j < as.length
  · rw [List.getElem?_append_left (by simpa [toDs_len] using h), List.getElem?_append_left (by simpa using h), toDs_map, List.map_map, List.getElem?_map, List.getElem?_map, List.getElem?_eq_getElem h]
    rfl
  · rw [List.getElem?_append_right (by simpa [toDs_len] using h), List.getElem?_append_right (by simpa using h)]
    simp only [List.length_map, toDs_len, List.getElem?_replicate]
    split <;> rfl
section
variable {P : Program} {w : World} {K : PySem.W.Frag} {mg : Str → Option Value} {base : Heap} {cm : CM}
/-- THE RULE for a def -/
theorem okF {x qual : Str} {st : Stmt} {f : Addr} {fd : FuncData} {N ps : List Str} {k : Nat} {ow : Bool} {body : Env → T Ct} (F : Fun K x qual st f fd) (S : FnScope N ps (defScope st))
    (h : ∀ (cdv : Value) (A : Around) (outer : List PySem.Env) (s : Shared) (H : Hp) (E : XK) (Fm : Fm), Room k (cxD P w K mg base N qual (defScope st) f cdv A outer s H E).A →
      FSs cm (cxD P w K mg base N qual (defScope st) f cdv A outer s H E) Fm (wxD E) [] ⟨[], [], [], ow⟩ (defBody st) body) : FnOk P w K mg base (L2.CX P w) (k + 1) f fd ps (spD K (spF cm ps.length ow (fdef N.length body))) := by
  refine okD F S (fun β ds kq kx hs => ?_) (fun cdv A outer s H E Fm hr => ⟨_, h cdv A outer s H E Fm hr, fun ds kq kx hs => ?_⟩)
  · obtain ⟨as, hl, rfl, _⟩ := hs
    rw [toDs_len, hl]
  · obtain ⟨as, hl, rfl, hs⟩ := hs
    unfold fdef at hs
    rw [wp_fin] at hs
    have key : (body (startE N.length as)).wp Fm.bag (endC cm ⟨[], [], [], ow⟩ (endsOf kq kx)) (fun _ => False) := T.wp_mono hs (fun c k => by
      cases c with
      | nx e =>
        have k : kq (rv cm ow .non) := k
        cases ow <;> exact k
      | rt a => exact k
      | bk e => exact k.elim
      | ct e => exact k.elim
      | ex x e => exact fun _ => k) fun _ k => k
    exact ⟨_, start_mix as, key⟩
theorem okF_no {k : Nat} {f : Addr} {fd : FuncData} {ps : List Str} {np : Nat} {ow : Bool} : FnOk P w K mg base (L2.CX P w) k f fd ps (spD K (spF cm np ow fun _ => .bad)) := fnOk_no fun β ds kq kx ⟨_, _, _, h⟩ => h
theorem okF_imp {k : Nat} {f : Addr} {fd : FuncData} {ps : List Str} {sp sp' : SpD} (F : FnOk P w K mg base (L2.CX P w) k f fd ps (spD K sp)) (h : ∀ β ds kq kx, sp' β ds kq kx → sp β ds kq kx) : FnOk P w K mg base (L2.CX P w) k f fd ps (spD K sp') := F.imp fun vs H Q E hs => by
  obtain ⟨S, β, ds, kq, kx, a, b, c, d, r⟩ := hs
  exact ⟨S, β, ds, kq, kx, a, b, c, h _ _ _ _ d, r⟩
/-- the draw -/
def fDraw : List A → T A
  | [.ref b, .int m] => if 0 < m ∧ m < 1073741824 then .draw b m fun i => .ret (.int i) else .bad
  | _ => .bad
theorem draw_F {β : Option Addr} {ds : List D} {kq : SV → Prop} {kx : DX → Prop} (h : spF cm 2 false fDraw β ds kq kx) : spDraw β ds kq kx := by
  obtain ⟨as, hl, rfl, h⟩ := h
  unfold fDraw at h
  split at h
  · rename_i b m
    split at h
    · rename_i hm
      exact ⟨b, m, h.1.1, rfl, hm.1, hm.2, h.2⟩
    · exact h.elim
  · exact h.elim
end

/-! ### calls -/
def fCall (f : List A → T A) (u : Env → T (List A)) : Env → T A := fun env => (u env).bind f
/-- a call with keywords, defaults: the parameters take, of all values, those at idx -/
def fCallK (n m : Nat) (idx : List Nat) (dd : List A) (f : List A → T A) (u uk : Env → T (List A)) : Env → T A := fun env => (u env).bind fun as => (uk env).bind fun zs => if as.length = n ∧ zs.length = m then f (pick idx (as ++ zs ++ dd)) else .bad
section
variable {cm : CM} {X : Cx} {F : Fm} {W : WX} {O : List Nat} {k n m np : Nat} {f : Addr} {fd : FuncData} {ps ks : List Str} {ow : Bool} {ff : List A → T A} {dvs : List V} {dd : List A} {us : List Value} {x : Str} {p pos : Pos} {e : Expr} {es : List Expr} {kws : List Keyword} {idx : List Nat} {u uk : Env → T (List A)}
theorem toDs_pick (xs : List A) : ∀ idx : List Nat, toDs cm (pick idx xs) = pick idx (toDs cm xs)
  | [] => rfl
  | i :: idx => by
    have ih := toDs_pick xs idx
    unfold pick at ih ⊢
    cases h : xs[i]? with
    | none =>
      have h2 : (toDs cm xs)[i]? = none := by rw [toDs_get, h]; rfl
      rw [List.filterMap_cons_none h, List.filterMap_cons_none h2]
      exact ih
    | some a =>
      have h2 : (toDs cm xs)[i]? = some (toD cm a) := by rw [toDs_get, h]; rfl
      rw [List.filterMap_cons_some h, List.filterMap_cons_some h2, toDs_cons, ih]
theorem fv_call (G : FnOk X.prog X.w X.K X.mg X.base (L2.CX X.prog X.w) k f fd ps (spD X.K (spF cm np ow ff))) (hr : Room k X.A) (hm : X.mg x = some (.ref f)) (hk : PySem.W.keepIn X.K (.ref f) = true) (hb : Bd X.K fd ps n ks idx us) (hv : Vals dvs us) (hd : ∀ S, Reps X.K S (toDs cm dd) dvs) (hx : Snk X W) (ha : FA cm X F W O (e :: es) u) (hkw : FK cm X F W O kws uk)
    (hnp : idx.length = np := by rfl) (hml : ks.length = m := by rfl) (hall' : (idx.all fun i => decide (i < n + ks.length + dd.length)) = true := by decide) (hg : Gl X x := by rfl) (hall : (backToKw pos (keywordEach kws X.env)).all (·.1.isSome) = true := by rfl) (hks : (backToKw pos (keywordEach kws X.env)).filterMap (·.1) = ks := by rfl) (hdb : (x == ("__debug__" : Str)) = false := by decide)
    (he : starEach (e :: es) X.env = (false, eval e X.env) :: starEach es X.env := by rfl) (hpl : ((backTo pos (starEach (e :: es) X.env)).any (·.1) || (backToKw pos (keywordEach kws X.env)).any (·.1.isNone)) = false := by rfl) :
    FV cm X F W O ow (.Call (.Name x p) (e :: es) kws pos) (fCallK n m idx dd ff u uk) := DV_imp (dv_callW G hr hm hk hb hv hd hx ha hkw hg hall hks hdb he hpl) fun ρ kq kx hw => by
  subst hml
  obtain ⟨env, rfl, hw⟩ := hw
  unfold fCallK at hw
  rw [T.wp_bind] at hw
  refine ⟨env, rfl, T.wp_mono hw (fun as k1 => ?_) fun x k => k⟩
  rw [T.wp_bind] at k1
  refine ⟨env, rfl, T.wp_mono k1 (fun zs k2 => ?_) fun x k => k⟩
  split at k2
  · rename_i hl
    refine ⟨⟨by rw [toDs_len]; exact hl.1, by rw [toDs_len]; exact hl.2⟩, _, ?_, ?_, k2⟩
    · rw [← hnp]
      have key : ∀ (idx : List Nat) (xs : List A), (idx.all fun i => decide (i < xs.length)) = true → (pick idx xs).length = idx.length := fun idx xs => by
        induction idx with
        | nil => exact fun _ => rfl
        | cons i idx ih =>
          intro h
          rw [List.all_cons, Bool.and_eq_true] at h
          have hi := of_decide_eq_true h.1
          unfold pick
          rw [List.filterMap_cons_some (List.getElem?_eq_getElem hi), List.length_cons, List.length_cons]
          exact congrArg Nat.succ (ih h.2)
      refine key idx _ ?_
      rw [List.length_append, List.length_append, hl.1, hl.2]
      exact hall'
    · rw [toDs_pick, toDs_app, toDs_app]
  · exact k2.elim
theorem fv_call0 (G : FnOk X.prog X.w X.K X.mg X.base (L2.CX X.prog X.w) k f fd ps (spD X.K (spF cm np ow ff))) (hr : Room k X.A) (hm : X.mg x = some (.ref f)) (hk : PySem.W.keepIn X.K (.ref f) = true) (hb : Bd X.K fd ps n ks idx us) (hv : Vals dvs us) (hd : ∀ S, Reps X.K S (toDs cm dd) dvs) (hx : Snk X W) (hkw : FK cm X F W O kws uk)
    (hnp : idx.length = np := by rfl) (hml : ks.length = m := by rfl) (hall' : (idx.all fun i => decide (i < n + ks.length + dd.length)) = true := by decide) (hg : Gl X x := by rfl) (hall : (backToKw pos (keywordEach kws X.env)).all (·.1.isSome) = true := by rfl) (hks : (backToKw pos (keywordEach kws X.env)).filterMap (·.1) = ks := by rfl) (hdb : (x == ("__debug__" : Str)) = false := by decide)
    (hpl : ((backTo pos (starEach [] X.env)).any (·.1) || (backToKw pos (keywordEach kws X.env)).any (·.1.isNone)) = false := by rfl) :
    FV cm X F W O ow (.Call (.Name x p) [] kws pos) (fCallK n m idx dd ff fNil uk) := DV_imp (dv_callW0 G hr hm hk hb hv hd hx hkw hg hall hks hdb hpl) fun ρ kq kx hw => by
  subst hml
  obtain ⟨env, rfl, hw⟩ := hw
  unfold fCallK at hw
  rw [T.wp_bind] at hw
  have k1 : ((uk env).bind fun zs => if ([] : List A).length = n ∧ zs.length = ks.length then ff (pick idx ([] ++ zs ++ dd)) else .bad).wp F.bag (fun a => kq (rv cm ow a) (mix cm O env)) (fun x => kx (toX cm x) (mix cm O env)) := hw
  rw [T.wp_bind] at k1
  refine ⟨env, rfl, T.wp_mono k1 (fun zs k2 => ?_) fun x k => k⟩
  split at k2
  · rename_i hl
    refine ⟨⟨hl.1, by rw [toDs_len]; exact hl.2⟩, _, ?_, ?_, k2⟩
    · rw [← hnp]
      have key : ∀ (idx : List Nat) (xs : List A), (idx.all fun i => decide (i < xs.length)) = true → (pick idx xs).length = idx.length := fun idx xs => by
        induction idx with
        | nil => exact fun _ => rfl
        | cons i idx ih =>
          intro h
          rw [List.all_cons, Bool.and_eq_true] at h
          have hi := of_decide_eq_true h.1
          unfold pick
          rw [List.filterMap_cons_some (List.getElem?_eq_getElem hi), List.length_cons, List.length_cons]
          exact congrArg Nat.succ (ih h.2)
      refine key idx _ ?_
      rw [List.length_append, List.length_append, hl.1, hl.2]
      exact hall'
    · rw [toDs_pick, toDs_app, toDs_app]
      rfl
  · exact k2.elim
end
/-! ### the law -/
/-- the law's slots behind its bag -/
def startB (n : Nat) (b : Addr) : Env := (List.replicate n none).set 1 (some (.ref b))
theorem startB_mix {cm : CM} {N : List Str} {b : Addr} : startL N b = mix cm [] (startB N.length b) := by
  unfold startL startB
  rw [← mix_set]
  have e : mix cm [] (List.replicate N.length none) = List.replicate N.length none := by
    apply List.ext_getElem?
    intro j
    rw [mix_get, List.getElem?_replicate, List.getElem?_replicate]
    split <;> rfl
  rw [e]
  rfl
section
variable {P : Program} {w : World} {K : PySem.W.Frag} {mg : Str → Option Value} {base : Heap} {cm : CM}
theorem okF_law {sn : Str} {N : List Str} {st : Stmt} {f : Addr} {fd : FuncData} {k : Nat} {body : Env → T Ct} (F : Fun K "law" "law" st f fd) (S : FnScope N [sn] (defScope st)) (hN : 2 ≤ N.length)
    (hbody : ∀ (cdv : Value) (A : Around) (outer : List PySem.Env) (s : Shared) (H : Hp) (E : XK), Room k (cxD P w K mg base N "law" (defScope st) f cdv A outer s H E).A →
      ∃ st0 rest, defBody st = st0 :: rest ∧ PS (cxD P w K mg base N "law" (defScope st) f cdv A outer s H E) st0 (tAsg (tCallSD (spBag K) [] (fun _ _ _ _ => False) (tCons (tVar 0) tNil)) (gName 1)) ∧
        ∀ Fm, FSs cm (cxD P w K mg base N "law" (defScope st) f cdv A outer s H E) Fm (wxD E) [] ⟨[], [], [], false⟩ rest body)
    (law : ∀ b : Addr, (body (startB N.length b)).fin.wp (some b) (fun a => a = .bl true) (fun _ => False)) : FnOk P w K mg base (L2.CX P w) (k + 1) f fd [sn] (spLaw K) :=
  ok_law F S hN fun cdv A outer s H E hr => by
    obtain ⟨st0, rest, hb, h0, h1⟩ := hbody cdv A outer s H E hr
    refine ⟨st0, rest, hb, h0, fun Fm => ⟨_, h1 Fm, fun b hb => ?_⟩⟩
    have hs := law b
    rw [wp_fin] at hs
    refine ⟨_, startB_mix, ?_⟩
    rw [hb]
    exact T.wp_mono hs (fun c k => by
      cases c with
      | nx e => cases k
      | rt a =>
        have k : a = .bl true := k
        subst k
        rfl
      | bk e => exact k.elim
      | ct e => exact k.elim
      | ex x e => exact k.elim) fun _ k => k
end
end PF

/-! PF, part g: plain laws. -/
namespace PF
open PySem PySem.Spec PyProof.Rows L2 PD
@[simp] theorem wp_ret {α : Type} {bg : Option Addr} (a : α) (q : α → Prop) (e : AX → Prop) : (T.ret a).wp bg q e = q a := rfl
@[simp] theorem wp_exc {α : Type} {bg : Option Addr} (x : AX) (q : α → Prop) (e : AX → Prop) : (T.exc x : T α).wp bg q e = e x := rfl
@[simp] theorem wp_bad {α : Type} {bg : Option Addr} (q : α → Prop) (e : AX → Prop) : (T.bad : T α).wp bg q e = False := rfl
@[simp] theorem finC_rt (a : A) : finC (.rt a) = .ret a := rfl
@[simp] theorem finC_nx (e : Env) : finC (.nx e) = .ret .non := rfl
@[simp] theorem finC_ex (x : AX) (e : Env) : finC (.ex x e) = .exc x := rfl
/-! ### the functions at a state -/
section
variable (env : Env) (f g h : Env → T A) (s t : Env → T Ct) (w u : Env → T Bool) (fs gs : Env → T (List A))
@[simp] theorem e_C (a : A) : fC a env = .ret a := rfl
@[simp] theorem e_Var (i : Nat) : fVar i env = match env[i]? with | some (some a) => .ret a | _ => .bad := rfl
@[simp] theorem e_Pair : fPair f g env = (f env).bind fun a => (g env).bind fun b => .ret (a, b) := rfl
@[simp] theorem e_Op (o : G2) (p : Env → T (A × A)) : fOp o p env = (p env).bind fun p => T.opt (o p.1 p.2) := rfl
@[simp] theorem e_OpL (o : G2L) (p : Env → T (A × A)) : fOpL o p env = (p env).bind fun p => T.opt (o p.1 p.2) := rfl
@[simp] theorem e_asB (b : Bool) : asB (.bl b) = .ret b := rfl
@[simp] theorem e_Tst : fTst f env = (f env).bind asB := rfl
@[simp] theorem e_Tru : fTru f env = (f env).bind fun a => T.opt (truF a) := rfl
@[simp] theorem e_And : fAnd w u env = (w env).bind fun b => if b then u env else .ret false := rfl
@[simp] theorem e_Or : fOr w u env = (w env).bind fun b => if b then .ret true else u env := rfl
@[simp] theorem e_Not : fNot w env = (w env).bind fun b => .ret (!b) := rfl
@[simp] theorem e_If : fIf w f g env = (w env).bind fun b => if b then f env else g env := rfl
@[simp] theorem e_AndV : fAndV f g env = (f env).bind fun a => (asB a).bind fun b => if b then g env else .ret (.bl false) := rfl
@[simp] theorem e_OrV : fOrV f g env = (f env).bind fun a => (asB a).bind fun b => if b then .ret (.bl true) else g env := rfl
@[simp] theorem e_NotV : fNotV f env = (f env).bind fun a => (asB a).bind fun b => .ret (.bl (!b)) := rfl
@[simp] theorem e_Nil : fNil env = .ret [] := rfl
@[simp] theorem e_Cons : fCons f fs env = (f env).bind fun a => (fs env).bind fun r => .ret (a :: r) := rfl
@[simp] theorem e_Tup : fTup fs env = (fs env).bind fun xs => (T.opt (small xs)).bind fun xs => .ret (.tup xs) := rfl
@[simp] theorem e_Lst : fLst fs env = (fs env).bind fun xs => T.opt (small xs) := rfl
@[simp] theorem e_Val : fVal fs env = (fs env).bind fun xs => .ret (.lst xs) := rfl
@[simp] theorem e_G1 (o : G1) : fG1 o f env = (f env).bind fun a => T.opt (o a) := rfl
@[simp] theorem e_G1L (o : G1L) : fG1L o f env = (f env).bind fun a => T.opt (o a) := rfl
@[simp] theorem e_None : fNone env = .ret none := rfl
@[simp] theorem e_Part : fPart f env = (f env).bind fun a => match a with | .int i => .ret (some i) | _ => .bad := rfl
@[simp] theorem e_Tri (p q : Env → T (Option Int)) : fTri f p q env = (f env).bind fun a => (p env).bind fun l => (q env).bind fun u => .ret (a, l, u) := rfl
@[simp] theorem e_Sl (p : Env → T (A × Option Int × Option Int)) : fSl p env = (p env).bind fun p => T.opt (gSl p.1 p.2.1 p.2.2) := rfl
@[simp] theorem e_SlL (p : Env → T (A × Option Int × Option Int)) : fSlL p env = (p env).bind fun p => T.opt (gSlL p.1 p.2.1 p.2.2) := rfl
@[simp] theorem e_Chain (o o' : G2) : fChain o o' f g h env = (f env).bind fun a => (g env).bind fun b => (T.opt (o a b)).bind fun c => (asB c).bind fun t => if t then (h env).bind fun d => T.opt (o' b d) else .ret (.bl false) := rfl
@[simp] theorem e_Neg : fNeg f env = (f env).bind fun a => match a with | .int i => .ret (.int (-i)) | _ => .bad := rfl
@[simp] theorem e_M1 (o : G2) : fM1 o f g env = (f env).bind fun a => match a with | .str _ => (g env).bind fun b => T.opt (o a b) | _ => .bad := rfl
@[simp] theorem e_Seq : fSeq s t env = (s env).bind (sq t) := rfl
@[simp] theorem e_sq (e : Env) : sq t (.nx e) = t e := rfl
@[simp] theorem e_sq_rt (a : A) : sq t (.rt a) = .ret (.rt a) := rfl
@[simp] theorem e_sq_ex (x : AX) (e : Env) : sq t (.ex x e) = .ret (.ex x e) := rfl
@[simp] theorem e_sq_bk (e : Env) : sq t (.bk e) = .ret (.bk e) := rfl
@[simp] theorem e_sq_ct (e : Env) : sq t (.ct e) = .ret (.ct e) := rfl
@[simp] theorem e_Next : fNext env = .ret (.nx env) := rfl
@[simp] theorem e_IfS : fIfS w s t env = (w env).lift env fun b => if b then s env else t env := rfl
@[simp] theorem e_Ret : fRet f env = (f env).lift env fun a => .ret (.rt a) := rfl
@[simp] theorem e_RetN : fRetN env = .ret (.rt .non) := rfl
@[simp] theorem e_Asg (i : Nat) : fAsg i f env = (f env).lift env fun a => .ret (.nx (env.set i (some a))) := rfl
@[simp] theorem e_Do : fDo f env = (f env).lift env fun _ => .ret (.nx env) := rfl
@[simp] theorem e_Par (i j : Nat) : fPar i j f g env = (f env).lift env fun a => (g env).lift env fun b => .ret (.nx ((env.set i (some a)).set j (some b))) := rfl
@[simp] theorem e_Aug (i : Nat) (o : G2) : fAug i o f env = (fVar i env).bind fun a => (f env).lift env fun b => (T.opt (o a b)).bind fun c => .ret (.nx (env.set i (some c))) := rfl
@[simp] theorem e_AsgT (k : TgF) : fAsgT f k env = (f env).lift env fun a => (T.opt (k a env)).bind fun e => .ret (.nx e) := rfl
@[simp] theorem e_tName (i : Nat) (a : A) : tName i a env = some (env.set i (some a)) := rfl
@[simp] theorem e_tNils : tNils [] env = some env := rfl
@[simp] theorem e_tConss (k : TgF) (v : List A → Env → Option Env) (a : A) (r : List A) : tConss k v (a :: r) env = (k a env).bind (v r) := rfl
@[simp] theorem e_tTup (n : Nat) (v : List A → Env → Option Env) (xs : List A) : tTup n v (.tup xs) env = if xs.length = n then v xs env else none := rfl
@[simp] theorem e_Seqs : fSeqs f env = (f env).bind fun a => T.opt (seqF a) := rfl
@[simp] theorem e_Range (n : Int) : fRange (fC (.int n)) env = if -1000000000 < n ∧ n < 1000000000 then .ret (rangeA n) else .bad := rfl
theorem e_RangeF : fRange f env = (f env).bind fun a => match a with | .int n => if -1000000000 < n ∧ n < 1000000000 then .ret (rangeA n) else .bad | _ => .bad := rfl
@[simp] theorem e_For (k : TgF) : fFor fs k s env = (fs env).lift env fun items => fForGo k s items env := rfl
@[simp] theorem e_Drop (vs : List Nat) : fDrop vs s env = s (dropE vs env) := rfl
@[simp] theorem e_CallK (n m : Nat) (idx : List Nat) (dd : List A) (ff : List A → T A) : fCallK n m idx dd ff fs gs env = (fs env).bind fun as => (gs env).bind fun zs => if as.length = n ∧ zs.length = m then ff (pick idx (as ++ zs ++ dd)) else .bad := rfl
end
@[simp] theorem seqF_lst (xs : List A) : seqF (.lst xs) = some xs := rfl
@[simp] theorem seqF_tup (xs : List A) : seqF (.tup xs) = some xs := rfl
@[simp] theorem seqF_str (l : List Nat) : seqF (.str l) = some (l.map fun c => .str [c]) := rfl
@[simp] theorem pick_nil {α : Type} (xs : List α) : pick [] xs = [] := rfl
@[simp] theorem pick_cons {α : Type} (i : Nat) (r : List Nat) (xs : List α) (a : α) (h : xs[i]? = some a) : pick (i :: r) xs = a :: pick r xs := by
  unfold pick
  rw [List.filterMap_cons_some h]
@[simp] theorem gI_int (f : Int → Int → A) (i j : Int) : gI f (.int i) (.int j) = some (f i j) := rfl
@[simp] theorem gIC_int (C : Int → Int → Bool) (f : Int → Int → A) (i j : Int) : gIC C f (.int i) (.int j) = if C i j then some (f i j) else none := rfl
@[simp] theorem gAdd_int (i j : Int) : gAdd (.int i) (.int j) = some (.int (i + j)) := rfl
@[simp] theorem gAdd_str (a b : List Nat) : gAdd (.str a) (.str b) = if a.length + b.length ≤ big then some (.str (a ++ b)) else none := rfl
@[simp] theorem gAdd_tup (a b : List A) : gAdd (.tup a) (.tup b) = if a.length + b.length ≤ big then some (.tup (a ++ b)) else none := rfl
@[simp] theorem gCat_lst (a b : List A) : gCat (.lst a) (.lst b) = if a.length + b.length ≤ big then some (a ++ b) else none := rfl
@[simp] theorem gRep_lst (a : List A) (n : Int) : gRep (.lst a) (.int n) = if (0 ≤ n ∧ n < 1000000) ∧ a.length * n.toNat ≤ big then some (List.replicate n.toNat a).flatten else none := rfl
@[simp] theorem gIx_lst (xs : List A) (i : Int) : gIx (.lst xs) (.int i) = atI xs i := rfl
@[simp] theorem gIx_tup (xs : List A) (i : Int) : gIx (.tup xs) (.int i) = atI xs i := rfl
@[simp] theorem gIx_str (l : List Nat) (i : Int) : gIx (.str l) (.int i) = if l.length ≤ big then (atI l i).map fun c => .str [c] else none := rfl
@[simp] theorem gLen_str (l : List Nat) : gLen (.str l) = if l.length ≤ big then some (.int l.length) else none := rfl
@[simp] theorem gLen_lst (l : List A) : gLen (.lst l) = some (.int l.length) := rfl
@[simp] theorem gLen_tup (l : List A) : gLen (.tup l) = some (.int l.length) := rfl
@[simp] theorem gAll_lst (l : List A) : gAll (.lst l) = (blsF l).map fun bs => .bl (bs.all id) := rfl
@[simp] theorem gAny_lst (l : List A) : gAny (.lst l) = (blsF l).map fun bs => .bl (bs.any id) := rfl
@[simp] theorem blsF_nil : blsF [] = some [] := rfl
@[simp] theorem blsF_cons (b : Bool) (r : List A) : blsF (.bl b :: r) = (blsF r).map (b :: ·) := rfl
@[simp] theorem gInt_int (i : Int) : gInt (.int i) = some (.int i) := rfl
@[simp] theorem gList_lst (l : List A) : gList (.lst l) = some l := rfl
@[simp] theorem gList_tup (l : List A) : gList (.tup l) = some l := rfl
@[simp] theorem gTuple_lst (l : List A) : gTuple (.lst l) = some (.tup l) := rfl
@[simp] theorem gTuple_tup (l : List A) : gTuple (.tup l) = some (.tup l) := rfl
@[simp] theorem gSl_str (l : List Nat) (lo hi : Option Int) : gSl (.str l) lo hi = if l.length ≤ big then some (.str (cutL l lo hi)) else none := rfl
@[simp] theorem gSl_tup (l : List A) (lo hi : Option Int) : gSl (.tup l) lo hi = some (.tup (cutL l lo hi)) := rfl
@[simp] theorem gSlL_lst (l : List A) (lo hi : Option Int) : gSlL (.lst l) lo hi = some (cutL l lo hi) := rfl
@[simp] theorem gIn_str (neg : Bool) (c : Nat) (y : List Nat) : gInG neg (.str [c]) (.str y) = some (.bl (if neg then !decide (c ∈ y) else decide (c ∈ y))) := rfl
theorem gIn_lst (neg : Bool) (a : A) (xs : List A) : gInG neg a (.lst xs) = if okd 60 a && xs.all (okd 60) then some (.bl (if neg then !mem a xs else mem a xs)) else none := rfl
theorem gIn_tup (neg : Bool) (a : A) (xs : List A) : gInG neg a (.tup xs) = if okd 60 a && xs.all (okd 60) then some (.bl (if neg then !mem a xs else mem a xs)) else none := rfl
@[simp] theorem small_nil : small [] = some [] := rfl
theorem small_of {xs : List A} (h : xs.length ≤ big) : small xs = some xs := by
  unfold small
  rw [if_pos h]
@[simp] theorem small_1 (a : A) : small [a] = some [a] := small_of (by simp [big])
@[simp] theorem small_2 (a b : A) : small [a, b] = some [a, b] := small_of (by simp [big])
@[simp] theorem small_3 (a b c : A) : small [a, b, c] = some [a, b, c] := small_of (by simp [big])
@[simp] theorem small_4 (a b c d : A) : small [a, b, c, d] = some [a, b, c, d] := small_of (by simp [big])
@[simp] theorem small_5 (a b c d e : A) : small [a, b, c, d, e] = some [a, b, c, d, e] := small_of (by simp [big])
@[simp] theorem small_6 (a b c d e f : A) : small [a, b, c, d, e, f] = some [a, b, c, d, e, f] := small_of (by simp [big])
@[simp] theorem small_7 (a b c d e f g : A) : small [a, b, c, d, e, f, g] = some [a, b, c, d, e, f, g] := small_of (by simp [big])
@[simp] theorem small_8 (a b c d e f g h : A) : small [a, b, c, d, e, f, g, h] = some [a, b, c, d, e, f, g, h] := small_of (by simp [big])
@[simp] theorem big_eq : big = 10000000 := rfl
@[simp] theorem atI_0 {α : Type} (a : α) (r : List α) : atI (a :: r) 0 = some a := PD.atI_hd a r
@[simp] theorem atI_nil {α : Type} (i : Int) : atI ([] : List α) i = none := by
  unfold atI
  cases ixN ([] : List α).length i <;> rfl
theorem atI_nat' {α : Type} (xs : List α) (n : Nat) : atI xs (n : Int) = xs[n]? := by
  unfold atI ixN
  rw [if_pos (by omega)]
  by_cases h : n < xs.length
  · rw [if_pos (by omega)]
    rfl
  · rw [if_neg (by omega), List.getElem?_eq_none (by omega)]
    rfl
@[simp] theorem atI_cast {α : Type} (xs : List α) (n : Nat) : atI xs (n : Int) = xs[n]? := atI_nat' xs n
@[simp] theorem atI_1 {α : Type} (xs : List α) : atI xs 1 = xs[1]? := atI_nat' xs 1
@[simp] theorem atI_2 {α : Type} (xs : List α) : atI xs 2 = xs[2]? := atI_nat' xs 2
@[simp] theorem atI_3 {α : Type} (xs : List α) : atI xs 3 = xs[3]? := atI_nat' xs 3
@[simp] theorem atI_last {α : Type} (xs : List α) : atI xs (-1) = xs.getLast? := by
  unfold atI ixN
  rw [if_neg (by decide), List.getLast?_eq_getElem?]
  by_cases h : xs.length = 0
  · rw [if_neg (by omega)]
    have e : xs = [] := List.length_eq_zero_iff.mp h
    rw [e]
    rfl
  · rw [if_pos (by omega)]
    show xs[(-1 + (xs.length : Int)).toNat]? = _
    rw [show (-1 + (xs.length : Int)).toNat = xs.length - 1 by omega]
theorem atI_of {α : Type} {xs : List α} {i : Int} (h : 0 ≤ i) : atI xs i = xs[i.toNat]? := by
  obtain ⟨n, rfl⟩ := Int.eq_ofNat_of_zero_le h
  exact atI_nat' xs n
@[simp] theorem cut_tail {α : Type} (xs : List α) : cutL xs (some 1) none = xs.tail := by
  rw [show (1 : Int) = ((1 : Nat) : Int) from rfl, PD.cut_from, List.drop_one]
@[simp] theorem cut_init {α : Type} (xs : List α) : cutL xs none (some (-1)) = xs.dropLast := PD.cut_neg1 xs
@[simp] theorem cut_whole {α : Type} (xs : List α) : cutL xs none none = xs := PD.cut_all xs
theorem cut_drop {α : Type} (xs : List α) {k : Int} (h : 0 ≤ k) : cutL xs (some k) none = xs.drop k.toNat := PD.cut_fromI xs h
theorem cut_take {α : Type} (xs : List α) {k : Int} (h : 0 ≤ k) : cutL xs none (some k) = xs.take k.toNat := PD.cut_toI xs h
theorem cut_mid {α : Type} (xs : List α) {i j : Int} (h : 0 ≤ i) (h2 : 0 ≤ j) : cutL xs (some i) (some j) = (xs.drop i.toNat).take (j.toNat - i.toNat) := by
  obtain ⟨n, rfl⟩ := Int.eq_ofNat_of_zero_le h
  obtain ⟨m, rfl⟩ := Int.eq_ofNat_of_zero_le h2
  unfold cutL
  rw [HT.sIx_nat, HT.sIx_nat]
  simp only [Int.toNat_natCast]
  by_cases a : n ≤ xs.length
  · rw [Nat.min_eq_left a]
    by_cases b : m ≤ xs.length
    · rw [Nat.min_eq_left b]
    · rw [Nat.min_eq_right (show xs.length ≤ m by omega)]
      rw [List.take_of_length_le (by rw [List.length_drop]; omega), List.take_of_length_le (by rw [List.length_drop]; omega)]
  · rw [Nat.min_eq_right (show xs.length ≤ n by omega), List.drop_length, List.drop_of_length_le (by omega), List.take_nil, List.take_nil]
@[simp] theorem pos_1 (n : Nat) : ((n : Int) + 1 = 0) = False := eq_false (by omega)
@[simp] theorem pos_2 (n : Nat) : ((n : Int) + 1 + 1 = 0) = False := eq_false (by omega)
@[simp] theorem pos_3 (n : Nat) : ((n : Int) + 1 + 1 + 1 = 0) = False := eq_false (by omega)
@[simp] theorem pos_21 (n : Nat) : ((n : Int) + 1 + 1 = 1) = False := eq_false (by omega)
@[simp] theorem pos_10 (n : Nat) : ((n : Int) + 1 = 1) = (n = 0) := propext (by omega)
@[simp] theorem cast_0 (n : Nat) : ((n : Int) = 0) = (n = 0) := propext (by omega)
/-! ### alphabets -/
def low : List Nat := [97, 98, 99, 100, 101, 102, 103, 104, 105, 106, 107, 108, 109, 110, 111, 112, 113, 114, 115, 116, 117, 118, 119, 120, 121, 122]
def upp : List Nat := [65, 66, 67, 68, 69, 70, 71, 72, 73, 74, 75, 76, 77, 78, 79, 80, 81, 82, 83, 84, 85, 86, 87, 88, 89, 90]
def dig : List Nat := [48, 49, 50, 51, 52, 53, 54, 55, 56, 57]
/-- all signs of l are among S -/
def inL (S l : List Nat) : Bool := l.all fun c => decide (c ∈ S)
theorem all_inL (S l : List Nat) : (l.map fun c => decide (c ∈ S)).all id = inL S l := by
  unfold inL
  rw [List.all_map]
  rfl
@[simp] theorem all_inL' (S l : List Nat) : (l.all fun x => decide (x ∈ S)) = inL S l := rfl
@[simp] theorem inL_nil (S : List Nat) : inL S [] = true := rfl
@[simp] theorem inL_cons (S : List Nat) (c : Nat) (l : List Nat) : inL S (c :: l) = (decide (c ∈ S) && inL S l) := rfl
theorem inL_of {ok l : List Nat} (h : ∀ c ∈ l, c ∈ ok) : inL ok l = true := by
  unfold inL
  rw [List.all_eq_true]
  exact fun c hc => decide_eq_true (h c hc)
theorem inL_no {ok l : List Nat} {c : Nat} (h : c ∈ l) (h2 : c ∉ ok) : inL ok l = false := by
  cases e : inL ok l with
  | false => rfl
  | true =>
    unfold inL at e
    rw [List.all_eq_true] at e
    exact absurd (of_decide_eq_true (e c h)) h2
/-! ### isinstance -/
section
variable (f : A → Bool)
@[simp] theorem isi_non : gIsi f .non = some (.bl (f .non)) := rfl
@[simp] theorem isi_bl (x : Bool) : gIsi f (.bl x) = some (.bl (f (.bl x))) := rfl
@[simp] theorem isi_int (x : Int) : gIsi f (.int x) = some (.bl (f (.int x))) := rfl
@[simp] theorem isi_str (x : List Nat) : gIsi f (.str x) = some (.bl (f (.str x))) := rfl
@[simp] theorem isi_tup (x : List A) : gIsi f (.tup x) = some (.bl (f (.tup x))) := rfl
@[simp] theorem isi_lst (x : List A) : gIsi f (.lst x) = some (.bl (f (.lst x))) := rfl
@[simp] theorem isi_dic (x y : List A) : gIsi f (.dic x y) = some (.bl (f (.dic x y))) := rfl
end
theorem isi_of (f : A → Bool) {a : A} (h : plainK a = true) : gIsi f a = some (.bl (f a)) := by
  unfold gIsi
  rw [if_pos h]
/-! ### equality -/
@[simp] theorem okd_non (n : Nat) : okd n .non = true := by cases n <;> rfl
@[simp] theorem okd_bl (n : Nat) (b : Bool) : okd n (.bl b) = true := by cases n <;> rfl
@[simp] theorem okd_int (n : Nat) (b : Int) : okd n (.int b) = true := by cases n <;> rfl
@[simp] theorem okd_str (n : Nat) (b : List Nat) : okd n (.str b) = true := by cases n <;> rfl
@[simp] theorem okd_tup (n : Nat) (xs : List A) : okd (n + 1) (.tup xs) = xs.all (okd n) := rfl
@[simp] theorem okd_lst (n : Nat) (xs : List A) : okd (n + 1) (.lst xs) = xs.all (okd n) := rfl
@[simp] theorem gEq_str (a b : List Nat) : gEq (.str a) (.str b) = some (.bl (decide (a = b))) := rfl
@[simp] theorem gNe_str (a b : List Nat) : gNe (.str a) (.str b) = some (.bl (!decide (a = b))) := rfl
@[simp] theorem gEq_int (a b : Int) : gEq (.int a) (.int b) = some (.bl (decide (a = b))) := rfl
@[simp] theorem gNe_int (a b : Int) : gNe (.int a) (.int b) = some (.bl (!decide (a = b))) := rfl
@[simp] theorem gEq_bl (a b : Bool) : gEq (.bl a) (.bl b) = some (.bl (a == b)) := rfl
@[simp] theorem gNe_bl (a b : Bool) : gNe (.bl a) (.bl b) = some (.bl (!(a == b))) := rfl
theorem gEq_of {a b : A} (ha : okd 60 a = true) (hb : okd 60 b = true) : gEq a b = some (.bl (eqv a b)) := by
  unfold gEq
  rw [ha, hb]
  rfl
theorem gNe_of {a b : A} (ha : okd 60 a = true) (hb : okd 60 b = true) : gNe a b = some (.bl (!eqv a b)) := by
  unfold gNe
  rw [ha, hb]
  rfl
@[simp] theorem eqv_non : eqv .non .non = true := rfl
@[simp] theorem eqv_str (a b : List Nat) : eqv (.str a) (.str b) = decide (a = b) := rfl
@[simp] theorem eqv_int (a b : Int) : eqv (.int a) (.int b) = decide (a = b) := rfl
@[simp] theorem eqv_bl (a b : Bool) : eqv (.bl a) (.bl b) = (a == b) := rfl
@[simp] theorem eqv_lst (a b : List A) : eqv (.lst a) (.lst b) = eqvs a b := rfl
@[simp] theorem eqv_tup (a b : List A) : eqv (.tup a) (.tup b) = eqvs a b := rfl
@[simp] theorem eqvs_nil : eqvs [] [] = true := rfl
@[simp] theorem eqvs_nc (a : A) (r : List A) : eqvs [] (a :: r) = false := rfl
@[simp] theorem eqvs_cn (a : A) (r : List A) : eqvs (a :: r) [] = false := rfl
@[simp] theorem eqvs_cons (a b : A) (r s : List A) : eqvs (a :: r) (b :: s) = (eqv a b && eqvs r s) := rfl
mutual
theorem eqv_refl : ∀ (n : Nat) (a : A), okd n a = true → eqv a a = true
  | n, .non, h => rfl
  | n, .bl b, h => by simp
  | n, .int b, h => by simp
  | n, .str b, h => by simp
  | 0, .tup xs, h => by unfold okd at h; cases h
  | 0, .lst xs, h => by unfold okd at h; cases h
  | n + 1, .tup xs, h => eqvs_refl n xs h
  | n + 1, .lst xs, h => eqvs_refl n xs h
  | n, .ty _, h => by cases n <;> unfold okd at h <;> cases h
  | n, .ref _, h => by cases n <;> unfold okd at h <;> cases h
  | n, .dic _ _, h => by cases n <;> unfold okd at h <;> cases h
  | n, .obj _ _ _, h => by cases n <;> unfold okd at h <;> cases h
theorem eqvs_refl : ∀ (n : Nat) (xs : List A), xs.all (okd n) = true → eqvs xs xs = true
  | n, [], h => rfl
  | n, x :: xs, h => by
    rw [List.all_cons, Bool.and_eq_true] at h
    rw [eqvs_cons, eqv_refl n x h.1, eqvs_refl n xs h.2]
    rfl
end
/-! ### joining of ways -/
@[simp] theorem ite_and (b c : Bool) : (if b = true then T.ret (A.bl c) else T.ret (A.bl false)) = T.ret (A.bl (b && c)) := by cases b <;> rfl
@[simp] theorem ite_or (b c : Bool) : (if b = true then T.ret (A.bl true) else T.ret (A.bl c)) = T.ret (A.bl (b || c)) := by cases b <;> rfl
@[simp] theorem ite_andB (b c : Bool) : (if b = true then T.ret c else T.ret false) = T.ret (b && c) := by cases b <;> rfl
@[simp] theorem ite_orB (b c : Bool) : (if b = true then T.ret true else T.ret c) = T.ret (b || c) := by cases b <;> rfl
theorem bind_ite {α β : Type} (b : Prop) [Decidable b] (s t : T α) (f : α → T β) : (if b then s else t).bind f = if b then s.bind f else t.bind f := by
  split <;> rfl
theorem lift_ite {α : Type} (b : Prop) [Decidable b] (s t : T α) (e : Env) (f : α → T Ct) : (if b then s else t).lift e f = if b then s.lift e f else t.lift e f := by
  split <;> rfl
theorem fin_ite (b : Prop) [Decidable b] (s t : T Ct) : (if b then s else t).fin = if b then s.fin else t.fin := by
  split <;> rfl
@[simp] theorem calm_ret {α : Type} (a : α) : (T.ret a).calm = .ret a := rfl
/-! ### comprehensions -/
theorem lcGo_map {gt : TgF} {f : Env → T A} {env : Env} {β : Type} (φ h : β → A) (l : List β) (H : ∀ b ∈ l, ∃ e, gt (φ b) env = some e ∧ f e = .ret (h b)) : fLcGo gt fYes f env (l.map φ) = .ret (l.map h) := by
  induction l with
  | nil => rfl
  | cons b l ih =>
    rw [List.map_cons]
    unfold fLcGo
    obtain ⟨e, h1, h2⟩ := H b (List.mem_cons_self ..)
    rw [h1]
    show (f e).bind _ = _
    rw [h2, T.ret_bind, ih fun c hc => H c (List.mem_cons_of_mem _ hc)]
    rfl
theorem lcGo_filter {gt : TgF} {w : Env → T Bool} {f : Env → T A} {env : Env} {β : Type} (φ h : β → A) (t : β → Bool) (l : List β) (H : ∀ b ∈ l, ∃ e, gt (φ b) env = some e ∧ w e = .ret (t b) ∧ (t b = true → f e = .ret (h b))) : fLcGo gt w f env (l.map φ) = .ret ((l.filter t).map h) := by
  induction l with
  | nil => rfl
  | cons b l ih =>
    rw [List.map_cons]
    unfold fLcGo
    obtain ⟨e, h1, h2, h3⟩ := H b (List.mem_cons_self ..)
    have ih := ih fun c hc => H c (List.mem_cons_of_mem _ hc)
    rw [h1]
    show (w e).bind _ = _
    rw [h2, T.ret_bind]
    cases ht : t b with
    | true =>
      rw [if_pos rfl, h3 ht, T.ret_bind, ih, List.filter_cons_of_pos ht]
      rfl
    | false =>
      rw [if_neg Bool.false_ne_true, ih, List.filter_cons_of_neg (by rw [ht]; exact Bool.false_ne_true)]
theorem lc_map {it : Env → T (List A)} {gt : TgF} {f : Env → T A} {vs : List Nat} {env : Env} {β : Type} (φ h : β → A) (l : List β) (hi : it env = .ret (l.map φ)) (hv : free vs env = true) (hl : l.length ≤ big) (H : ∀ b ∈ l, ∃ e, gt (φ b) env = some e ∧ f e = .ret (h b)) : fLc it gt fYes f vs env = .ret (l.map h) := by
  unfold fLc
  rw [if_pos hv, hi, T.ret_bind, lcGo_map φ h l H, calm_ret, T.ret_bind, small_of (by simpa using hl)]
  rfl
theorem lc_filter {it : Env → T (List A)} {gt : TgF} {w : Env → T Bool} {f : Env → T A} {vs : List Nat} {env : Env} {β : Type} (φ h : β → A) (t : β → Bool) (l : List β) (hi : it env = .ret (l.map φ)) (hv : free vs env = true) (hl : l.length ≤ big) (H : ∀ b ∈ l, ∃ e, gt (φ b) env = some e ∧ w e = .ret (t b) ∧ (t b = true → f e = .ret (h b))) : fLc it gt w f vs env = .ret ((l.filter t).map h) := by
  unfold fLc
  rw [if_pos hv, hi, T.ret_bind, lcGo_filter φ h t l H, calm_ret, T.ret_bind, small_of (by
    rw [List.length_map]
    exact Nat.le_trans (List.length_filter_le t l) hl)]
  rfl
/-- all signs of a text are among others -/
theorem lc_in {it : Env → T A} {i : Nat} {S l : List Nat} {env : Env} (h : it env = .ret (.str l)) (hi : i < env.length) (hv : free [i] env = true) (hl : l.length ≤ big) :
    fLc (fSeqs it) (tName i) fYes (fOp gIn (fPair (fVar i) (fC (.str S)))) [i] env = .ret (l.map fun c => .bl (decide (c ∈ S))) :=
  lc_map (fun c => .str [c]) _ l (by rw [e_Seqs, h]; rfl) hv hl fun c _ => ⟨_, rfl, by simp [List.getElem?_set_self hi]⟩
theorem all_id {α : Type} (f : α → Bool) (l : List α) : (l.map f).all id = l.all f := by
  rw [List.all_map]
  rfl
theorem any_id {α : Type} (f : α → Bool) (l : List α) : (l.map f).any id = l.any f := by
  rw [List.any_map]
  rfl
/-! ### loops -/
theorem wp_for {bg : Option Addr} {g : TgF} {b : Env → T Ct} {q : Ct → Prop} {z : AX → Prop} (I : Env → Prop) : ∀ (items : List A) (env : Env), I env →
    (∀ a ∈ items, ∀ e, I e → ∃ e', g a e = some e' ∧ (b e').wp bg (fun c => match c with | .nx e => I e | .ct e => I e | .bk e => q (.nx e) | .rt a => q (.rt a) | .ex x e => q (.ex x e)) z) →
    (∀ e, I e → q (.nx e)) → (fForGo g b items env).wp bg q z
  | [], env, h, _, hn => hn env h
  | a :: as, env, h, hs, hn => by
    unfold fForGo
    obtain ⟨e', h1, h2⟩ := hs a (List.mem_cons_self ..) env h
    rw [h1]
    show ((b e').bind _).wp bg q z
    rw [T.wp_bind]
    refine T.wp_mono h2 (fun c k => ?_) fun _ k => k
    cases c with
    | nx e => exact wp_for I as e k (fun a ha => hs a (List.mem_cons_of_mem _ ha)) hn
    | ct e => exact wp_for I as e k (fun a ha => hs a (List.mem_cons_of_mem _ ha)) hn
    | bk e => exact k
    | rt a => exact k
    | ex x e => exact k
theorem wp_seq {bg : Option Addr} {s t : Env → T Ct} {env : Env} {q : Ct → Prop} {z : AX → Prop} : (fSeq s t env).wp bg q z = (s env).wp bg (fun c => (sq t c).wp bg q z) z := T.wp_bind _ _ _ _
theorem wp_draw {b : Addr} {m : Int} {α : Type} {k : Int → T α} {q : α → Prop} {z : AX → Prop} (h0 : 0 < m) (h1 : m < 1073741824) (h : ∀ i, 0 ≤ i → i < m → (k i).wp (some b) q z) : (T.draw b m k).wp (some b) q z := ⟨⟨rfl, h0, h1⟩, h⟩
theorem fDraw_eq {b : Addr} {m : Int} (h0 : 0 < m) (h1 : m < 1073741824) : fDraw [.ref b, .int m] = .draw b m fun i => .ret (.int i) := by
  unfold fDraw
  dsimp only
  rw [if_pos ⟨h0, h1⟩]
theorem wp_fDraw {b : Addr} {m : Int} {q : A → Prop} {z : AX → Prop} (h0 : 0 < m) (h1 : m < 1073741824) (h : ∀ i, 0 ≤ i → i < m → q (.int i)) : (fDraw [.ref b, .int m]).wp (some b) q z := by
  rw [fDraw_eq h0 h1]
  exact wp_draw h0 h1 h
end PF

/-! PF, part h: what laws' helpers do: a drawn item, the same, drawn words. -/
namespace PF
open PySem PySem.Spec PyProof.Rows L2 PD
/-! ### a drawn item -/
def ofF : List A → T A := fdef 2 (fSeq (fRet (fOp gIx (fPair (fVar 1) (fCallK 2 0 [0, 1] [] fDraw (fCons (fVar 0) (fCons (fG1 gLen (fVar 1)) (fNil))) (fNil))))) (fNext))
theorem wp_of {b : Addr} {x : A} {xs : List A} {q : A → Prop} {z : AX → Prop} (hx : seqF x = some xs) (h0 : 0 < xs.length) (h1 : xs.length ≤ big) (h : ∀ y ∈ xs, q y) : (ofF [.ref b, x]).wp (some b) q z := by
  unfold ofF fdef
  have hl : gLen x = some (.int xs.length) := by
    cases x <;> cases hx
    · rename_i l
      rw [List.length_map] at h1
      simp at h1
      simp [h1]
    · rfl
    · rfl
  have hi : ∀ i : Int, 0 ≤ i → i < xs.length → ∃ y ∈ xs, gIx x (.int i) = some y := fun i a c => by
    obtain ⟨n, rfl⟩ := Int.eq_ofNat_of_zero_le a
    have hn : n < xs.length := by omega
    refine ⟨xs[n], List.getElem_mem hn, ?_⟩
    cases x <;> cases hx
    · rename_i l
      rw [List.length_map] at h1 hn
      simp at h1
      rw [gIx_str, atI_nat', List.getElem?_eq_getElem hn]
      simp [h1]
    · rw [gIx_tup, atI_nat', List.getElem?_eq_getElem hn]
    · rw [gIx_lst, atI_nat', List.getElem?_eq_getElem hn]
  rw [wp_fin]
  simp [startE, hl, pick_cons, T.wp_bind, wp_lift]
  refine wp_fDraw (by omega) (by simp at h1; omega) fun i a c => ?_
  obtain ⟨y, hy, e⟩ := hi i a c
  simp [e]
  exact h y hy
/-! ### the same -/
def sameB (self : List A → T A) : Env → T Ct :=
    fSeq (fIfS (fTst (fG1 (gIsi fun a => isList a || isTuple a) (fVar 1))) (fSeq (fIfS (fOr (fTst (fOp gNe (fPair (fG1 (gIsi isList) (fVar 0)) (fG1 (gIsi isList) (fVar 1))))) (fTst (fOp gNe (fPair (fG1 (gIsi isTuple) (fVar 0)) (fG1 (gIsi isTuple) (fVar 1)))))) (fSeq (fRet (fC (.bl false)))
    (fNext)) (fNext))
    (fSeq (fRet (fAndV (fOp gEq (fPair (fG1 gLen (fVar 0)) (fG1 gLen (fVar 1)))) (fG1 gAll (fVal (fLc (fZip (fVar 0) (fVar 1)) (tTup 2 (tConss (tName 2) (tConss (tName 3) (tNils)))) (fYes) (fCallK 2 0 [0, 1] [] self (fCons (fVar 2) (fCons (fVar 3) (fNil))) (fNil)) [2, 3])))))
    (fNext))) (fNext))
    (fSeq (fIfS (fOr (fTst (fOp (gIsN false) (fPair (fVar 1) (fC .non)))) (fTst (fOp (gIsN false) (fPair (fVar 0) (fC .non))))) (fSeq (fRet (fAndV (fOp (gIsN false) (fPair (fVar 1) (fC .non))) (fOp (gIsN false) (fPair (fVar 0) (fC .non)))))
    (fNext)) (fNext))
    (fSeq (fIfS (fOr (fTst (fOp gNe (fPair (fG1 (gIsi isBool) (fVar 0)) (fG1 (gIsi isBool) (fVar 1))))) (fTst (fOp gNe (fPair (fG1 (gIsi isInt) (fVar 0)) (fG1 (gIsi isInt) (fVar 1)))))) (fSeq (fRet (fC (.bl false)))
    (fNext)) (fNext))
    (fSeq (fRet (fAndV (fOp gEq (fPair (fG1 (gIsi isStr) (fVar 0)) (fG1 (gIsi isStr) (fVar 1)))) (fOp gEq (fPair (fVar 0) (fVar 1)))))
    (fNext))))
def sameF : Nat → List A → T A
  | 0 => fun _ => .bad
  | n + 1 => fdef 4 (sameB (sameF n))
/-- what may be compared by it: plain, not too deep, not too long -/
def oks : Nat → A → Bool
  | _ + 1, .non => true
  | _ + 1, .bl _ => true
  | _ + 1, .int _ => true
  | _ + 1, .str _ => true
  | n + 1, .tup xs => decide (xs.length ≤ big) && xs.all (oks n)
  | n + 1, .lst xs => decide (xs.length ≤ big) && xs.all (oks n)
  | _, _ => false
theorem zipF_self (xs : List A) : zipF xs xs = xs.map fun x => .tup [x, x] := by
  unfold zipF
  rw [List.zip_eq_zipWith]
  induction xs with
  | nil => rfl
  | cons x xs ih => rw [List.zipWith_cons_cons, List.map_cons, List.map_cons, ih]
theorem same_all {n : Nat} {c : A} {xs : List A} (hl : xs.length ≤ big) (H : ∀ x ∈ xs, sameF n [x, x] = .ret (.bl true)) (hc : fZip (fVar 0) (fVar 1) [some c, some c, none, none] = .ret (zipF xs xs)) :
    fLc (fZip (fVar 0) (fVar 1)) (tTup 2 (tConss (tName 2) (tConss (tName 3) (tNils)))) (fYes) (fCallK 2 0 [0, 1] [] (sameF n) (fCons (fVar 2) (fCons (fVar 3) (fNil))) (fNil)) [2, 3] [some c, some c, none, none] = .ret (xs.map fun _ => .bl true) :=
  lc_map (fun x => .tup [x, x]) _ xs (by rw [hc, zipF_self]) rfl hl fun x hx => ⟨_, rfl, by simp [pick_cons, H x hx]⟩
theorem same_refl : ∀ (n : Nat) (a : A), oks n a = true → sameF n [a, a] = .ret (.bl true)
  | 0, a, h => by cases a <;> unfold oks at h <;> cases h
  | n + 1, .non, h => by unfold sameF fdef sameB; simp [startE, isList, isTuple, gIsN]
  | n + 1, .bl b, h => by unfold sameF fdef sameB; simp [startE, isList, isTuple, isBool, isInt, isStr, gIsN]
  | n + 1, .int i, h => by unfold sameF fdef sameB; simp [startE, isList, isTuple, isBool, isInt, isStr, gIsN]
  | n + 1, .str s, h => by unfold sameF fdef sameB; simp [startE, isList, isTuple, isBool, isInt, isStr, gIsN]
  | n + 1, .tup xs, h => by
    unfold oks at h
    rw [Bool.and_eq_true, decide_eq_true_eq, List.all_eq_true] at h
    have e := same_all (n := n) (c := .tup xs) h.1 (fun x hx => same_refl n x (h.2 x hx)) rfl
    unfold sameF fdef sameB
    simp [startE, isList, isTuple, isBool, isInt, isStr, gIsN, e]
  | n + 1, .lst xs, h => by
    unfold oks at h
    rw [Bool.and_eq_true, decide_eq_true_eq, List.all_eq_true] at h
    have e := same_all (n := n) (c := .lst xs) h.1 (fun x hx => same_refl n x (h.2 x hx)) rfl
    unfold sameF fdef sameB
    simp [startE, isList, isTuple, isBool, isInt, isStr, gIsN, e]
  | n + 1, .ty _, h => by unfold oks at h; cases h
  | n + 1, .ref _, h => by unfold oks at h; cases h
  | n + 1, .dic _ _, h => by unfold oks at h; cases h
  | n + 1, .obj _ _ _, h => by unfold oks at h; cases h
theorem same_eq {n : Nat} {a b : A} (h : oks n a = true) (e : a = b) : sameF n [a, b] = .ret (.bl true) := by
  subst e
  exact same_refl n a h
/-! ### comprehensions with draws -/
theorem wp_calm_of {α : Type} {bg : Option Addr} {t : T α} {q : α → Prop} {z : AX → Prop} (h : t.wp bg q (fun _ => False)) : t.calm.wp bg q z := by
  induction t with
  | ret a => exact h
  | exc x => exact h.elim
  | bad => exact h.elim
  | draw b m k ih => exact ⟨h.1, fun i a c => ih i (h.2 i a c)⟩
inductive All2 {α β : Type} (P : α → β → Prop) : List α → List β → Prop
  | nil : All2 P [] []
  | cons {a : α} {b : β} {as : List α} {bs : List β} (h : P a b) (t : All2 P as bs) : All2 P (a :: as) (b :: bs)
theorem All2.len {α β : Type} {P : α → β → Prop} {as : List α} {bs : List β} (h : All2 P as bs) : bs.length = as.length := by
  induction h with
  | nil => rfl
  | cons _ _ ih => exact congrArg Nat.succ ih
theorem wp_lcGo {bg : Option Addr} {g : TgF} {f : Env → T A} {env : Env} (P : A → A → Prop) : ∀ (items : List A) (q : List A → Prop), (∀ a ∈ items, ∃ e, g a env = some e ∧ (f e).wp bg (P a) (fun _ => False)) → (∀ rs, All2 P items rs → q rs) → (fLcGo g fYes f env items).wp bg q (fun _ => False)
  | [], q, _, hq => hq [] .nil
  | a :: as, q, H, hq => by
    unfold fLcGo
    obtain ⟨e, h1, h2⟩ := H a (List.mem_cons_self ..)
    rw [h1]
    show ((f e).bind _).wp bg q _
    rw [T.wp_bind]
    refine T.wp_mono h2 (fun c hc => ?_) fun _ k => k
    rw [T.wp_bind]
    exact wp_lcGo P as _ (fun a ha => H a (List.mem_cons_of_mem _ ha)) fun rs h => hq (c :: rs) (.cons hc h)
theorem wp_lc {bg : Option Addr} {it : Env → T (List A)} {g : TgF} {f : Env → T A} {vs : List Nat} {env : Env} {q : List A → Prop} {z : AX → Prop} (P : A → A → Prop) (items : List A) (hi : it env = .ret items) (hv : free vs env = true) (hl : items.length ≤ big)
    (H : ∀ a ∈ items, ∃ e, g a env = some e ∧ (f e).wp bg (P a) (fun _ => False)) (hq : ∀ rs, All2 P items rs → q rs) : (fLc it g fYes f vs env).wp bg q z := by
  unfold fLc
  rw [if_pos hv, hi, T.ret_bind, T.wp_bind]
  refine wp_calm_of (wp_lcGo P items _ H fun rs h => ?_)
  rw [small_of (by rw [h.len]; exact hl)]
  exact hq rs h
theorem rangeA_len (n : Int) : (rangeA n).length = n.toNat := by simp [rangeA]
/-- n drawn signs of S -/
theorem wp_signs {b : Addr} {bi ni k : Nat} {n : Int} {S : List Nat} {env : Env} {q : List A → Prop} {z : AX → Prop} (hb : env[bi]? = some (some (.ref b))) (hn : env[ni]? = some (some (.int n))) (hk : k ≠ bi) (hv : free [k] env = true) (h0 : 0 < S.length) (h1 : S.length ≤ big) (hl : n ≤ 1000000) (hl' : -1000000 ≤ n)
    (hq : ∀ l : List Nat, l.length = n.toNat → (∀ c ∈ l, c ∈ S) → q (l.map fun c => .str [c])) :
    (fLc (fRange (fVar ni)) (tName k) fYes (fCallK 2 0 [0, 1] [] ofF (fCons (fVar bi) (fCons (fC (.str S)) fNil)) fNil) [k] env).wp (some b) q z := by
  refine wp_lc (fun _ c => ∃ x ∈ S, c = .str [x]) (rangeA n) ?_ hv (by rw [rangeA_len]; simp; omega) (fun a ha => ⟨_, rfl, ?_⟩) fun rs h => ?_
  · rw [e_RangeF]
    simp [hn]
    omega
  · have e : (env.set k (some a))[bi]? = some (some (.ref b)) := by rw [List.getElem?_set_ne hk, hb]
    simp [e, pick_cons]
    refine wp_of (xs := S.map fun c => .str [c]) rfl (by simpa using h0) (by simpa using h1) fun y hy => ?_
    obtain ⟨c, hc, rfl⟩ := List.mem_map.mp hy
    exact ⟨c, hc, rfl⟩
  · have key : ∀ (ds cs : List A), All2 (fun _ c => ∃ x ∈ S, c = A.str [x]) ds cs → ∃ l : List Nat, l.length = ds.length ∧ (∀ c ∈ l, c ∈ S) ∧ cs = l.map fun c => .str [c] := by
      intro ds cs h
      induction h with
      | nil => exact ⟨[], rfl, (fun c hc => absurd hc List.not_mem_nil), rfl⟩
      | cons h _ ih =>
        obtain ⟨x, hx, rfl⟩ := h
        obtain ⟨l, e1, e2, rfl⟩ := ih
        refine ⟨x :: l, congrArg Nat.succ e1, fun c hc => ?_, rfl⟩
        rcases List.mem_cons.mp hc with e | hc
        · rw [e]
          exact hx
        · exact e2 c hc
    obtain ⟨l, e1, e2, rfl⟩ := key _ _ h
    rw [rangeA_len] at e1
    exact hq l e1 e2
theorem joinL_signs (l : List Nat) : joinL [] (l.map fun c => [c]) = l := by
  induction l with
  | nil => rfl
  | cons c l ih =>
    cases l with
    | nil => rfl
    | cons d l =>
      rw [List.map_cons, List.map_cons] at *
      unfold joinL
      rw [ih]
      simp
theorem join_signs {l : List Nat} (h : l.length ≤ big) : gJoin (.str []) (.lst (l.map fun c => .str [c])) = some (.str l) := by
  unfold gJoin
  dsimp only
  rw [show stsF (l.map fun c => A.str [c]) = some (l.map fun c => [c]) from stsF_map (fun c => [c]) l]
  dsimp only
  have e : ((l.map fun c => [c]).map (·.length)).sum = l.length := by
    rw [List.map_map]
    clear h
    induction l with
    | nil => rfl
    | cons c l ih =>
      rw [List.map_cons, List.sum_cons, ih, List.length_cons]
      show 1 + _ = _
      omega
  rw [e, if_pos (by simp at h ⊢; exact h), joinL_signs]
/-! ### a law's statements one by one -/
theorem wp_step {bg : Option Addr} {s t : Env → T Ct} {env : Env} {q : Ct → Prop} {z : AX → Prop} (h : (s env).wp bg (fun c => match c with | .nx e => (t e).wp bg q z | .rt a => q (.rt a) | .bk e => q (.bk e) | .ct e => q (.ct e) | .ex x e => q (.ex x e)) z) : (fSeq s t env).wp bg q z := by
  rw [wp_seq]
  refine T.wp_mono h (fun c k => ?_) fun _ k => k
  cases c <;> exact k
theorem wp_cut {bg : Option Addr} {s t : Env → T Ct} {env : Env} {q : Ct → Prop} {z : AX → Prop} (h : ∀ N : Env → Prop, (∀ e, (t e).wp bg q z → N e) → (s env).wp bg (fun c => match c with | .nx e => N e | .rt a => q (.rt a) | .bk e => q (.bk e) | .ct e => q (.ct e) | .ex x e => q (.ex x e)) z) : (fSeq s t env).wp bg q z := wp_step (h _ fun _ k => k)
@[simp] theorem forGo_nil (g : TgF) (b : Env → T Ct) (env : Env) : fForGo g b [] env = .ret (.nx env) := rfl
theorem wp_forGo_cons {bg : Option Addr} {g : TgF} {b : Env → T Ct} {a : A} {as : List A} {env e : Env} {q : Ct → Prop} {z : AX → Prop} (hg : g a env = some e) (h : (b e).wp bg (fun c => match c with | .nx e => (fForGo g b as e).wp bg q z | .ct e => (fForGo g b as e).wp bg q z | .bk e => q (.nx e) | .rt a => q (.rt a) | .ex x e => q (.ex x e)) z) : (fForGo g b (a :: as) env).wp bg q z := by
  unfold fForGo
  rw [hg]
  show ((b e).bind _).wp bg q z
  rw [T.wp_bind]
  refine T.wp_mono h (fun c k => ?_) fun _ k => k
  cases c <;> exact k
end PF

/-! PF, part i: what holds of all ends of a tree, sealed (so that nothing is run by accident). -/
namespace PF
open PySem PySem.Spec PyProof.Rows L2 PD
@[simp] theorem e_Zip (f g : Env → T A) (env : Env) : fZip f g env = (f env).bind fun a => (g env).bind fun b => match a, b with | .lst xs, .lst ys => .ret (zipF xs ys) | .tup xs, .tup ys => .ret (zipF xs ys) | _, _ => .bad := rfl
@[simp] theorem e_Enum (f : Env → T A) (env : Env) : fEnum f env = (f env).bind fun a => match a with | .lst xs => .ret (enumA xs) | _ => .bad := rfl
theorem range_of {f : Env → T A} {env : Env} {n : Int} (h : f env = .ret (.int n)) (h1 : -1000000000 < n) (h2 : n < 1000000000) : fRange f env = .ret (rangeA n) := by
  rw [e_RangeF, h]
  show (if -1000000000 < n ∧ n < 1000000000 then T.ret (rangeA n) else T.bad) = _
  rw [if_pos ⟨h1, h2⟩]
/-- all ends of the tree are so -/
@[irreducible] def W {α : Type} (b : Addr) (t : T α) (q : α → Prop) (z : AX → Prop) : Prop := t.wp (some b) q z
abbrev Z0 : AX → Prop := fun _ => False
section
variable {α β : Type} {b : Addr} {z : AX → Prop}
theorem W_eq (t : T α) (q : α → Prop) (z : AX → Prop) : W b t q z = t.wp (some b) q z := by unfold W; rfl
@[simp] theorem W_ret (a : α) (q : α → Prop) (z : AX → Prop) : W b (T.ret a) q z = q a := by rw [W_eq]; rfl
@[simp] theorem W_exc (x : AX) (q : α → Prop) (z : AX → Prop) : W b (T.exc x) q z = z x := by rw [W_eq]; rfl
@[simp] theorem W_bad (q : α → Prop) (z : AX → Prop) : W b T.bad q z = False := by rw [W_eq]; rfl
theorem W_mono {t : T α} {q q' : α → Prop} {z' : AX → Prop} (h : W b t q z) (hq : ∀ a, q a → q' a) (hz : ∀ x, z x → z' x) : W b t q' z' := by
  rw [W_eq] at *
  exact T.wp_mono h hq hz
theorem W_bind (t : T α) (f : α → T β) (q : β → Prop) (z : AX → Prop) : W b (t.bind f) q z = W b t (fun a => W b (f a) q z) z := by
  simp only [W_eq]
  exact T.wp_bind _ _ _ _
theorem W_lift (t : T α) (e : Env) (k : α → T Ct) (q : Ct → Prop) (z : AX → Prop) : W b (t.lift e k) q z = W b t (fun a => W b (k a) q z) (fun x => q (.ex x e)) := by
  simp only [W_eq]
  exact wp_lift _ _ _ _ _
theorem W_ite (c : Prop) [Decidable c] (s t : T α) (q : α → Prop) : W b (if c then s else t) q z = if c then W b s q z else W b t q z := by split <;> rfl
theorem W_fin (t : T Ct) (q : A → Prop) (z : AX → Prop) : W b t.fin q z = W b t (fun c => W b (finC c) q z) Z0 := by
  simp only [W_eq]
  exact wp_fin _ _ _
theorem W_opt {o : Option α} {q : α → Prop} {a : α} (h : o = some a) (hq : q a) : W b (T.opt o) q z := by
  rw [h]
  simp [hq]
theorem W_for {g : TgF} {bd : Env → T Ct} {q : Ct → Prop} (I : Env → Prop) (items : List A) (env : Env) (h : I env)
    (hs : ∀ a ∈ items, ∀ e, I e → ∃ e', g a e = some e' ∧ W b (bd e') (fun c => match c with | .nx e => I e | .ct e => I e | .bk e => q (.nx e) | .rt a => q (.rt a) | .ex x e => q (.ex x e)) z)
    (hn : ∀ e, I e → q (.nx e)) : W b (fForGo g bd items env) q z := by
  rw [W_eq]
  refine wp_for I items env h (fun a ha e he => ?_) hn
  obtain ⟨e', h1, h2⟩ := hs a ha e he
  rw [W_eq] at h2
  exact ⟨e', h1, h2⟩
theorem W_cut {s t : Env → T Ct} {env : Env} {q : Ct → Prop} (h : ∀ N : Env → Prop, (∀ e, W b (t e) q z → N e) → W b (s env) (fun c => match c with | .nx e => N e | .rt a => q (.rt a) | .bk e => q (.bk e) | .ct e => q (.ct e) | .ex x e => q (.ex x e)) z) : W b (fSeq s t env) q z := by
  rw [W_eq]
  refine wp_cut fun N hN => ?_
  have := h N fun e he => hN e (by rw [W_eq] at he; exact he)
  rw [W_eq] at this
  exact this
theorem W_step {s t : Env → T Ct} {env : Env} {q : Ct → Prop} (h : W b (s env) (fun c => match c with | .nx e => W b (t e) q z | .rt a => q (.rt a) | .bk e => q (.bk e) | .ct e => q (.ct e) | .ex x e => q (.ex x e)) z) : W b (fSeq s t env) q z := W_cut fun N hN => W_mono h (fun c k => by
  cases c with
  | nx e => exact hN e k
  | _ => exact k) fun _ k => k
theorem W_forGo_cons {g : TgF} {bd : Env → T Ct} {a : A} {as : List A} {env e : Env} {q : Ct → Prop} (hg : g a env = some e) (h : ∀ N : Env → Prop, (∀ e, W b (fForGo g bd as e) q z → N e) → W b (bd e) (fun c => match c with | .nx e => N e | .ct e => N e | .bk e => q (.nx e) | .rt a => q (.rt a) | .ex x e => q (.ex x e)) z) : W b (fForGo g bd (a :: as) env) q z := by
  have h := h (fun e => W b (fForGo g bd as e) q z) fun _ k => k
  rw [W_eq] at *
  refine wp_forGo_cons hg (T.wp_mono h (fun c k => ?_) fun _ k => k)
  cases c <;> first | exact k | (dsimp only at k; rw [W_eq] at k; exact k)
theorem W_draw {m : Int} {k : Int → T α} {q : α → Prop} (h0 : 0 < m) (h1 : m < 1073741824) (h : ∀ i, 0 ≤ i → i < m → W b (k i) q z) : W b (T.draw b m k) q z := by
  rw [W_eq]
  refine wp_draw h0 h1 fun i a c => ?_
  have := h i a c
  rw [W_eq] at this
  exact this
theorem W_fDraw {m : Int} {q : A → Prop} (h0 : 0 < m) (h1 : m < 1073741824) (h : ∀ i, 0 ≤ i → i < m → q (.int i)) : W b (fDraw [.ref b, .int m]) q z := by
  rw [W_eq]
  exact wp_fDraw h0 h1 h
theorem W_of {x : A} {xs : List A} {q : A → Prop} (hx : seqF x = some xs) (h0 : 0 < xs.length) (h1 : xs.length ≤ big) (h : ∀ y ∈ xs, q y) : W b (ofF [.ref b, x]) q z := by
  rw [W_eq]
  exact wp_of hx h0 h1 h
theorem W_lc {it : Env → T (List A)} {g : TgF} {f : Env → T A} {vs : List Nat} {env : Env} {q : List A → Prop} (P : A → A → Prop) (items : List A) (hi : it env = .ret items) (hv : free vs env = true) (hl : items.length ≤ big)
    (H : ∀ a ∈ items, ∃ e, g a env = some e ∧ W b (f e) (P a) Z0) (hq : ∀ rs, All2 P items rs → q rs) : W b (fLc it g fYes f vs env) q z := by
  rw [W_eq]
  refine wp_lc P items hi hv hl (fun a ha => ?_) hq
  obtain ⟨e, h1, h2⟩ := H a ha
  rw [W_eq] at h2
  exact ⟨e, h1, h2⟩
theorem W_signs {bi ni k : Nat} {n : Int} {S : List Nat} {env : Env} {q : List A → Prop} (hb : env[bi]? = some (some (.ref b))) (hn : env[ni]? = some (some (.int n))) (hk : k ≠ bi) (hv : free [k] env = true) (h0 : 0 < S.length) (h1 : S.length ≤ big) (hl : n ≤ 1000000) (hl' : -1000000 ≤ n)
    (hq : ∀ l : List Nat, l.length = n.toNat → (∀ c ∈ l, c ∈ S) → q (l.map fun c => .str [c])) :
    W b (fLc (fRange (fVar ni)) (tName k) fYes (fCallK 2 0 [0, 1] [] ofF (fCons (fVar bi) (fCons (fC (.str S)) fNil)) fNil) [k] env) q z := by
  rw [W_eq]
  exact wp_signs hb hn hk hv h0 h1 hl hl' hq
end
end PF

/-! PF, part j: {'a': 1, ..}.get(e) of written texts and ints. -/
namespace PF
open PySem PySem.Spec PyProof.Rows L2 PD
/-- what a written dict tells of a text -/
def look (ks : List (List Nat × Int)) (l : List Nat) : Option Int := ks.foldl (fun r kv => if kv.1 = l then some kv.2 else r) none
def gGetC (ks : List (List Nat × Int)) : G1
  | .str l => some (match look ks l with | some i => .int i | none => .non)
  | _ => none
def gGetD (ks : List (List Nat × Int)) : G2 := fun a d => match a with
  | .str l => some (match look ks l with | some i => .int i | none => d)
  | _ => none
abbrev trsC (ks : List (List Nat × Int)) : List (TE × TE) := ks.map fun kv => (tC (.str (tx kv.1)), tC (.int kv.2))
theorem tPairs_c (ks : List (List Nat × Int)) {σ : L2.St} {H : Hp} {Q : List (V × V) → Hp → Prop} (h : Q (ks.map fun kv => (.str (tx kv.1), .int kv.2)) H) : tPairs (trsC ks) σ H Q := by
  induction ks generalizing Q with
  | nil => exact h
  | cons kv ks ih => exact ih h
def kvC (ks : List (List Nat × Int)) : List (Key × V) := ks.map fun kv => (.inr (tx kv.1), .int kv.2)
theorem look_c (ks : List (List Nat × Int)) (l : List Nat) : valV (mergeK [] (kvC ks)) (.inr (tx l)) = (look ks l).map V.int := by
  have key : ∀ (ks : List (List Nat × Int)) (acc : List (Key × V)) (r : Option Int), valV acc (.inr (tx l)) = r.map V.int → valV (mergeK acc (kvC ks)) (.inr (tx l)) = (ks.foldl (fun r kv => if kv.1 = l then some kv.2 else r) r).map V.int := by
    intro ks
    induction ks with
    | nil => exact fun acc r h => h
    | cons kv ks ih =>
      intro acc r h
      refine ih _ _ ?_
      rw [valV_put]
      dsimp only
      by_cases e : kv.1 = l
      · rw [if_pos (by rw [e]), if_pos e]
        rfl
      · rw [if_neg (fun z => e (tx_inj.mp (Sum.inr.inj z)).symm), if_neg e]
        exact h
  exact key ks [] none rfl
section
variable {cm : CM} {X : Cx} {F : Fm} {W : WX} {O : List Nat} {e e2 : Expr} {f g : Env → T A} {pos dpos apos : Pos} {keys : List (Option Expr)} {values : List Expr}
theorem run_disp {ks : List (List Nat × Int)} (hks : ks.length ≤ 15) {K : PySem.W.Frag} {S H : Hp} {ρ : DSt} {σ : L2.St} {Q : VK} (r : R K F S ρ σ H) (h : ∀ p H', Go K F σ S ρ H S ρ H' → H p = none → Loose F S ρ σ p → H' p = some (.dK (mergeK [] (kvC ks))) → Q (.ref p) H') : tDisp (trsC ks) σ H Q := by
  intro p hp
  refine tPairs_c ks ⟨upd_same, kvC ks, ?_, by unfold kvC; simpa using hks, ?_⟩
  · unfold kvC
    rw [List.map_map]
    rfl
  · have e : upd (upd H p (.dK [])) p (.dK (mergeK [] (kvC ks))) = upd H p (.dK (mergeK [] (kvC ks))) := by
      funext a
      by_cases z : a = p
      · subst z; rw [upd_same, upd_same]
      · rw [upd_ne z, upd_ne z, upd_ne z]
    rw [e]
    exact h p _ (Go.temp r hp) hp (r.loose hp) upd_same
theorem fe_dget1 (ks : List (List Nat × Int)) (hu : X.A.units + 1 < cLine) (hp : PPs X dpos keys values (trsC ks)) (h : FE cm X F W O e f) (hks : (ks.length ≤ 15) := by decide) (hall : keys.all (·.isSome) = true := by rfl) (hl : keys.length = values.length := by rfl) (h0 : keys ≠ [] := by exact fun z => nomatch z) (h15 : keys.length ≤ 15 := by decide)
    (hbase : attributeBase (.Dict keys values dpos) "get" X.env (eval (.Dict keys values dpos) X.env) = eval (.Dict keys values dpos) X.env := by rfl)
    (hfew : ((backTo pos (starEach [e] X.env)).all (fun x => !x.1) && (backToKw pos (keywordEach [] X.env)).all (fun x => x.1.isSome)
      && decide (([e] : List Expr).length + ([] : List Keyword).length + (if ([] : List Keyword).isEmpty then 0 else 1) < 30)) = true := by rfl)
    (hline : (apos.endLine == pos.line) = true := by rfl) (htr : backTo pos (starEach [e] X.env) = [(false, eval e X.env)] := by rfl) :
    FE cm X F W O (.Call (.Attribute (.Dict keys values dpos) "get" apos) [e] [] pos) (fG1 (gGetC ks) f) := by
  obtain ⟨t, q1, q⟩ := h.ex
  refine ⟨_, pe_dget1 hu (pe_disp hp hall hl h0 h15) q1 ⟨hbase, hfew, hline, htr⟩, fun S ρ σ H Q kq kx r hw hk hx => ?_⟩
  refine run_disp hks r fun p H1 g1 hp lo hH1 => ⟨p, rfl, .inl ⟨_, .inl hH1⟩, ?_⟩
  obtain ⟨env, rfl, hw⟩ := hw
  unfold fG1 at hw
  rw [T.wp_bind] at hw
  refine q S _ σ H1 _ (fun d ρ' => ∃ a, d = toD cm a ∧ ∃ c, gGetC ks a = some c ∧ kq (toD cm c) ρ') kx g1.r ⟨env, rfl, T.wp_mono hw (fun a k => ?_) fun _ k => k⟩ (fun S2 ρ2 H2 d v g2 rp k => ?_) (hx.mono g1.ex)
  · obtain ⟨c, e, k⟩ := T.wp_opt k
    exact ⟨a, rfl, c, e, k⟩
  · obtain ⟨a, rfl, c, e, k⟩ := k
    unfold gGetC at e
    split at e
    · rename_i l
      cases e
      cases rp
      obtain ⟨_, hp2⟩ := g2.kp p _ lo hH1
      refine ⟨_, .inl ⟨_, .inr (tx l), .inl hp2, rfl, rfl⟩, ?_⟩
      rw [look_c]
      cases hlk : look ks l with
      | none =>
        rw [hlk] at k
        exact hk S2 ρ2 H2 _ _ (g1.trans g2) .non k
      | some i =>
        rw [hlk] at k
        exact hk S2 ρ2 H2 _ _ (g1.trans g2) (.int i) k
    · cases e
theorem fe_dget2 (ks : List (List Nat × Int)) (hu : X.A.units + 1 < cLine) (hp : PPs X dpos keys values (trsC ks)) (h : FE cm X F W O e f) (h' : FE cm X F W O e2 g) (hks : (ks.length ≤ 15) := by decide) (hall : keys.all (·.isSome) = true := by rfl) (hl : keys.length = values.length := by rfl) (h0 : keys ≠ [] := by exact fun z => nomatch z) (h15 : keys.length ≤ 15 := by decide)
    (hbase : attributeBase (.Dict keys values dpos) "get" X.env (eval (.Dict keys values dpos) X.env) = eval (.Dict keys values dpos) X.env := by rfl)
    (hfew : ((backTo pos (starEach [e, e2] X.env)).all (fun x => !x.1) && (backToKw pos (keywordEach [] X.env)).all (fun x => x.1.isSome)
      && decide (([e, e2] : List Expr).length + ([] : List Keyword).length + (if ([] : List Keyword).isEmpty then 0 else 1) < 30)) = true := by rfl)
    (hline : (apos.endLine == pos.line) = true := by rfl) (htr : backTo pos (starEach [e, e2] X.env) = [(false, eval e X.env), (false, eval e2 X.env)] := by rfl) :
    FE cm X F W O (.Call (.Attribute (.Dict keys values dpos) "get" apos) [e, e2] [] pos) (fOp (gGetD ks) (fPair f g)) := by
  obtain ⟨t, q1, q⟩ := h.ex
  obtain ⟨t', q1', q'⟩ := h'.ex
  refine ⟨_, pe_dget2 hu (pe_disp hp hall hl h0 h15) q1 q1' ⟨hbase, hfew, hline, htr⟩, fun S ρ σ H Q kq kx r hw hk hx => ?_⟩
  refine run_disp hks r fun p H1 g1 hp lo hH1 => ⟨p, rfl, .inl ⟨_, .inl hH1⟩, ?_⟩
  obtain ⟨env, rfl, hw⟩ := hw
  unfold fOp fPair at hw
  simp only [T.wp_bind] at hw
  refine q S _ σ H1 _ (fun d ρ' => ∃ a, d = toD cm a ∧ ρ' = mix cm O env ∧ (g env).wp F.bag (fun b => ∃ c, gGetD ks a b = some c ∧ kq (toD cm c) ρ') (fun x => kx (toX cm x) ρ')) kx g1.r ⟨env, rfl, T.wp_mono hw (fun a k => ?_) fun _ k => k⟩ (fun S2 ρ2 H2 d v g2 rp k => ?_) (hx.mono g1.ex)
  · exact ⟨a, rfl, rfl, T.wp_mono k (fun b k => T.wp_opt k) fun _ k => k⟩
  · obtain ⟨a, rfl, rfl, k⟩ := k
    refine q' S2 _ σ H2 _ (fun d ρ' => ∃ b, d = toD cm b ∧ ∃ c, gGetD ks a b = some c ∧ kq (toD cm c) ρ') kx g2.r ⟨env, rfl, T.wp_mono k (fun b k => ⟨b, rfl, k⟩) fun _ k => k⟩ (fun S3 ρ3 H3 d u g3 rp3 k => ?_) (hx.mono (g1.ex.trans g2.ex))
    obtain ⟨b, rfl, c, e, k⟩ := k
    unfold gGetD at e
    split at e
    · rename_i l
      cases e
      cases rp
      obtain ⟨lo2, hp2⟩ := g2.kp p _ lo hH1
      obtain ⟨_, hp3⟩ := g3.kp p _ lo2 hp2
      refine ⟨_, .inl ⟨_, .inr (tx l), .inl hp3, rfl, rfl⟩, ?_⟩
      rw [look_c]
      cases hlk : look ks l with
      | none =>
        rw [hlk] at k
        exact hk S3 ρ3 H3 _ _ ((g1.trans g2).trans g3) rp3 k
      | some i =>
        rw [hlk] at k
        exact hk S3 ρ3 H3 _ _ ((g1.trans g2).trans g3) (.int i) k
    · cases e
theorem pps_nilC {p : Pos} : PPs X p [] [] (trsC []) := pps_nil
theorem pps_consC {p p1 p2 : Pos} {x : Str} {l : List Nat} {i : Int} {j1 j2} {r : List (List Nat × Int)} {ks : List (Option Expr)} {vs : List Expr} (hl : x = tx l) (h : PPs X p ks vs (trsC r)) : PPs X p (some (.Constant (.str x) j1 p1) :: ks) (.Constant (.int i) j2 p2 :: vs) (trsC ((l, i) :: r)) := by
  subst hl
  exact pps_cons pe_str pe_int h
end
end PF

/-! PF, part k: (*xs, y), range(a, b), comprehensions of two clauses, .clear(). -/
namespace PF
open PySem PySem.Spec PyProof.Rows L2 PD

/-! ### the state within a comprehension, seen from without -/
structure InS (ρo : DSt) (σ : L2.St) (ρ' : DSt) (σ' : L2.St) : Prop where
  ls : σ'.length = σ.length
  lr : ρ'.length = ρo.length
  kn : ∀ (j : Nat) y, ρo[j]? = some (some y) → ρ'[j]? = some (some y) ∧ σ'[j]? = σ[j]?
  ow : ∀ (i : Nat) (a : Addr), OwnAt ρ' σ' i a → OwnAt ρo σ i a
section
variable {K : PySem.W.Frag} {F : Fm} {S S' H H' : Hp} {ρ ρ1 ρ2 : DSt} {σ σ1 σ2 : L2.St}
theorem InS.refl : InS ρ σ ρ σ := ⟨rfl, rfl, fun _ _ h => ⟨h, rfl⟩, fun _ _ h => h⟩
theorem InS.trans (a : InS ρ σ ρ1 σ1) (b : InS ρ1 σ1 ρ2 σ2) : InS ρ σ ρ2 σ2 :=
  ⟨b.ls.trans a.ls, b.lr.trans a.lr, fun j y h => by
    obtain ⟨h1, h2⟩ := a.kn j y h
    obtain ⟨h3, h4⟩ := b.kn j y h1
    exact ⟨h3, h4.trans h2⟩, fun i a' h => a.ow i a' (b.ow i a' h)⟩
theorem InS.loose {p : Addr} (a : InS ρ σ ρ1 σ1) (l : Loose F S ρ σ p) : Loose F S ρ1 σ1 p := ⟨l.h0, l.s, fun i h => l.ap i (a.ow i p h)⟩
theorem InS.looseB {p : Addr} (a : InS ρ σ ρ1 σ1) (l : Loose F S ρ1 σ1 p) : Loose F S ρ σ p := ⟨l.h0, l.s, fun i h => by
  obtain ⟨⟨ds, h1⟩ | ⟨ds, h1⟩, h2⟩ := h
  · obtain ⟨q1, q2⟩ := a.kn i _ h1
    exact l.ap i ⟨.inl ⟨ds, q1⟩, by rw [q2]; exact h2⟩
  · obtain ⟨q1, q2⟩ := a.kn i _ h1
    exact l.ap i ⟨.inr ⟨ds, q1⟩, by rw [q2]; exact h2⟩⟩
theorem InS.rB (a : InS ρ σ ρ1 σ1) (r : R K F S ρ1 σ1 H) : R K F S ρ σ H := r.sub a.lr.symm a.ls.symm fun j y h => ⟨(a.kn j y h).1, (a.kn j y h).2.symm⟩
theorem InS.go (a : InS ρ σ ρ1 σ1) (g : Go K F σ1 S ρ1 H S' ρ1 H') : Go K F σ S ρ H S' ρ H' := ⟨g.ex, a.rB g.r, fun p o l h => by
  obtain ⟨l2, h2⟩ := g.kp p o (a.loose l) h
  exact ⟨a.looseB l2, h2⟩, g.up⟩
theorem InS.tgt {ts : List Nat} (t : Tgt ρ σ ρ1 σ1 ts) (h : ∀ (j : Nat) y, ρ[j]? = some (some y) → j ∉ ts) : InS ρ σ ρ1 σ1 := by
  refine ⟨t.ls, t.lr, fun j y hy => ?_, fun i a hi => ?_⟩
  · obtain ⟨h1, h2⟩ := t.ne j (h j y hy)
    exact ⟨by rw [h2]; exact hy, h1⟩
  · obtain ⟨⟨ds, q1⟩ | ⟨ds, q1⟩, q2⟩ := hi
    · rcases t.own i _ q1 with ⟨d, z⟩ | ⟨z1, z2⟩
      · cases z
      · exact ⟨.inl ⟨ds, z1⟩, by rw [← z2]; exact q2⟩
    · rcases t.own i _ q1 with ⟨d, z⟩ | ⟨z1, z2⟩
      · cases z
      · exact ⟨.inr ⟨ds, z1⟩, by rw [← z2]; exact q2⟩
theorem InS.wipe {vs : List Nat} (h : ∀ (j : Nat) y, ρ[j]? = some (some y) → j ∉ vs) : InS ρ σ ρ (wipe σ vs) := by
  refine ⟨wipe_length _ _, rfl, fun j y hy => ⟨hy, wipe_ne (h j y hy)⟩, fun i a hi => ?_⟩
  obtain ⟨⟨ds, q1⟩ | ⟨ds, q1⟩, q2⟩ := hi
  · exact ⟨.inl ⟨ds, q1⟩, by rw [← wipe_ne (h i _ q1)]; exact q2⟩
  · exact ⟨.inr ⟨ds, q1⟩, by rw [← wipe_ne (h i _ q1)]; exact q2⟩
theorem InS.r (a : InS ρ σ ρ (L2.wipe σ vs)) (r : R K F S ρ σ H) (h : ∀ (j : Nat) y, ρ[j]? = some (some y) → j ∉ vs) : R K F S ρ (L2.wipe σ vs) H := r.sub rfl (wipe_length _ _) fun j y hy => ⟨hy, wipe_ne (h j y hy)⟩
theorem free_not {cm : CM} {O vs : List Nat} {env : Env} (h : free vs env = true) : ∀ (j : Nat) y, (mix cm O env)[j]? = some (some y) → j ∉ vs := fun j y hy hj => by
  unfold free at h
  rw [List.all_eq_true] at h
  have := h j hj
  rw [mix_get] at hy
  cases g : env[j]? with
  | none => rw [g] at hy; cases hy
  | some o =>
    cases o with
    | none => rw [g] at hy; cases hy
    | some a => rw [g] at this; cases this
end
/-! ### comprehensions of two clauses -/
def fLc2Go (g : TgF) (t : Env → T Bool) (it1 : Env → T (List A)) (g1 : TgF) (t1 : Env → T Bool) (f : Env → T A) (vs1 : List Nat) (env : Env) : List A → T (List A)
  | [] => .ret []
  | a :: as => match g a env with
    | none => .bad
    | some e => (t e).bind fun b => if b then (if free vs1 e then (it1 e).bind fun items1 => (fLcGo g1 t1 f e items1).bind fun r1 => (fLc2Go g t it1 g1 t1 f vs1 env as).bind fun r => .ret (r1 ++ r) else .bad) else fLc2Go g t it1 g1 t1 f vs1 env as
def fLc2 (it : Env → T (List A)) (g : TgF) (t : Env → T Bool) (it1 : Env → T (List A)) (g1 : TgF) (t1 : Env → T Bool) (f : Env → T A) (vs vs1 : List Nat) : Env → T (List A) := fun env => if free vs env then (it env).bind fun items => (fLc2Go g t it1 g1 t1 f vs1 env items).calm.bind fun r => T.opt (small r) else .bad
/-- one loop over what is walked, the heap alone told -/
theorem loop_it {J : It} {n : Nat} {G : Hp → Prop} {Y : Nat → Hp → V → Hp → Prop} (w : Walk J n G Y) {H1 : Hp} {Qd : Hp → Prop} {body : V → Hp → (Hp → Prop) → Prop} (Pv : Nat → Hp → Prop) (h0 : Pv 0 H1) (hG : ∀ i H, i ≤ n → Pv i H → G H)
    (hs : ∀ i x H H', i < n → Pv i H → Y i H x H' → body x H' (Pv (i + 1))) (hd : ∀ H, Pv n H → Qd H) :
    ∃ W : Nat → Nat → Hp → Prop, (∃ m, W 0 m H1) ∧ ∀ i m H, W i m H → (J.stop i H ∧ Qd H) ∨ (J.go i H ∧ ∃ Nx : Hp → Prop, (∀ H', Nx H' → ∃ m', m' < m ∧ W (i + 1) m' H') ∧ ∀ x H', J.yld i H x H' → body x H' Nx) := by
  refine ⟨fun i m H => m = n - i ∧ i ≤ n ∧ Pv i H, ⟨n, by simp, Nat.zero_le _, h0⟩, ?_⟩
  rintro i m H ⟨rfl, hi, p⟩
  have q := hG i H hi p
  by_cases hlt : i < n
  · exact .inr ⟨w.goes i H hlt q, Pv (i + 1), fun H' p' => ⟨n - (i + 1), by omega, rfl, hlt, p'⟩, fun x H' y => hs i x H H' hlt p (w.yields i H x H' hlt q y)⟩
  · have e : i = n := by omega
    subst e
    exact .inl ⟨w.stops H q, hd H p⟩
theorem run_lc2 {cm : CM} {K : PySem.W.Frag} {F : Fm} {W : WX} {O : List Nat} {wi wi1 : TI} {it it1 : Env → T (List A)} {g g1 : TG} {gt gt1 : TgF} {ts ts1 vs vs1 : List Nat} {tt tt1 : TT} {wt wt1 : Env → T Bool} {te : TE} {f : Env → T A}
    (hi : RunI K F W wi (cL cm F.bag O it)) (hg : RunG K F g (cG cm O gt) ts) (ht : RunT K F W0 tt (cT cm F.bag O wt)) (hi1 : RunI K F W0 wi1 (cL cm F.bag O it1)) (hg1 : RunG K F g1 (cG cm O gt1) ts1) (ht1 : RunT K F W0 tt1 (cT cm F.bag O wt1)) (he : RunE K F W0 te (cE cm F.bag O f))
    (hts : ∀ j ∈ ts, j ∈ vs) (hts1 : ∀ j ∈ ts1, j ∈ vs1) : RunL K F W (tLc2 wi g tt wi1 g1 tt1 te vs vs1) (cL cm F.bag O (fLc2 it gt wt it1 gt1 wt1 f vs vs1)) := fun S ρ σ H Q kq kx r hw hk hx => by
  obtain ⟨env, rfl, hw⟩ := hw
  unfold fLc2 at hw
  split at hw
  · rename_i hv
    rw [T.wp_bind] at hw
    refine hi S (mix cm O env) σ H _ (fun items ρ' => ∃ as, items = toDs cm as ∧ ρ' = mix cm O env ∧ (fLc2Go gt wt it1 gt1 wt1 f vs1 env as).wp F.bag (fun r => ([] ++ r : List A).length ≤ big ∧ kq (toDs cm ([] ++ r)) (mix cm O env)) (fun _ => False)) kx r ⟨env, rfl, T.wp_mono hw (fun items k => ?_) fun x k => k⟩ (fun S1 ρ1 H1 items J ga src k => ?_) hx
    · refine ⟨items, rfl, rfl, ?_⟩
      rw [T.wp_bind] at k
      refine T.wp_mono (T.wp_calm0 k) (fun r k => ?_) fun _ k => k
      obtain ⟨ys, e, k2⟩ := T.wp_opt k
      obtain ⟨hl, e2⟩ := small_eq e
      subst e2
      exact ⟨hl, k2⟩
    · obtain ⟨as, rfl, rfl, k⟩ := k
      obtain ⟨n, G, Y, wk, hn, hG, hY⟩ := src
      intro D hD
      have fn := free_not (cm := cm) (O := O) hv
      have l1 : Loose F S1 (mix cm O env) σ D := ga.r.loose hD
      have iw : InS (mix cm O env) σ (mix cm O env) (L2.wipe σ vs) := InS.wipe fn
      refine loop_it (body := fun x H' Nx => g x (L2.wipe σ vs) H' fun σ2 H2 => L2.wipe σ2 vs = L2.wipe σ vs ∧ tt σ2 H2 fun b H3 =>
          if b = true then wi1 σ2 H3 fun J1 H4 => ∃ W1 : Nat → Nat → Hp → Prop, (∃ m, W1 0 m H4) ∧ ∀ j k H, W1 j k H →
            (J1.stop j H ∧ Nx H) ∨ (J1.go j H ∧ ∃ Nx1 : Hp → Prop, (∀ H', Nx1 H' → ∃ k', k' < k ∧ W1 (j + 1) k' H') ∧ ∀ x H', J1.yld j H x H' → g1 x (L2.wipe σ2 vs1) H' fun σ3 H5 => L2.wipe σ3 vs1 = L2.wipe σ2 vs1 ∧ tt1 σ3 H5 fun b H6 =>
              if b = true then te σ3 H6 fun y H7 => ∃ acc, H7 D = some (.lst acc) ∧ acc.length < sizeLine ∧ Nx1 (upd H7 D (.lst (acc ++ [y]))) else Nx1 H6)
          else Nx H3)
        wk (fun i H' => ∃ S' acc xs, Go K F σ S1 (mix cm O env) H1 S' (mix cm O env) H' ∧ Loose F S' (mix cm O env) σ D ∧ H' D = some (.lst xs) ∧ Reps K S' (toDs cm acc) xs ∧ (fLc2Go gt wt it1 gt1 wt1 f vs1 env (as.drop i)).wp F.bag (fun r => (acc ++ r).length ≤ big ∧ kq (toDs cm (acc ++ r)) (mix cm O env)) (fun _ => False))
        ⟨S1, [], [], Go.temp ga.r hD, l1, upd_same, Reps.nil, k⟩ ?_ ?_ ?_
      · rintro i H' hi' ⟨S', acc, xs, g2, _⟩
        exact hG H' (g2.ex.trans g2.r.fz)
      · rintro i x H' H2 hi' ⟨S', acc, xs, g2, l2, hD2, ra, k2⟩ y
        rw [hn, toDs_len] at hi'
        have hd : (toDs cm as)[i]? = some (toD cm as[i]) := by rw [toDs_get, List.getElem?_eq_getElem hi']; rfl
        have r2 : R K F S' (mix cm O env) (L2.wipe σ vs) H' := iw.r g2.r fn
        obtain ⟨S3, g3, r3⟩ := SrcOk.turn (S1 := S1) r2 (hY S' H' i _ x H2 g2.ex g2.r.fz hd y)
        rw [List.drop_eq_getElem_cons hi'] at k2
        unfold fLc2Go at k2
        split at k2
        · exact k2.elim
        · rename_i e hge
          refine hg S3 (mix cm O env) (L2.wipe σ vs) H2 _ x _ (fun ρ' => ρ' = mix cm O e) g3.r r3 ⟨as[i], env, e, rfl, rfl, hge, rfl⟩ fun ρ4 σ4 r4 tg e4 => ?_
          subst e4
          have i4 : InS (mix cm O env) σ (mix cm O e) σ4 := iw.trans (InS.tgt tg fun j y hy hj => fn j y hy (hts j hj))
          have hwipe : L2.wipe σ4 vs = L2.wipe σ vs := by
            rw [wipe_eq (σ' := σ4) (σ := L2.wipe σ vs) tg.ls fun j hj => (tg.ne j fun z => hj (hts j z)).1]
            exact wipe_eq (wipe_length _ _) fun j hj => wipe_ne hj
          refine ⟨hwipe, ?_⟩
          have g23 : Go K F σ S1 (mix cm O env) H1 S3 (mix cm O env) H2 := g2.trans (iw.go g3)
          obtain ⟨l3, hD3⟩ := (iw.go g3).kp D _ l2 hD2
          rw [T.wp_bind] at k2
          refine ht S3 (mix cm O e) σ4 H2 _ (fun b ρ' => ρ' = mix cm O e ∧ (if b = true then (if free vs1 e then (it1 e).bind fun items1 => (fLcGo gt1 wt1 f e items1).bind fun r1 => (fLc2Go gt wt it1 gt1 wt1 f vs1 env (as.drop (i + 1))).bind fun r => .ret (r1 ++ r) else .bad) else fLc2Go gt wt it1 gt1 wt1 f vs1 env (as.drop (i + 1))).wp F.bag (fun r => (acc ++ r).length ≤ big ∧ kq (toDs cm (acc ++ r)) (mix cm O env)) (fun _ => False)) (fun _ _ => False) r4 ⟨e, rfl, T.wp_mono k2 (fun b k => ⟨rfl, k⟩) fun _ k => k⟩ (fun S4 ρ5 H4 b g4 k5 => ?_) xl0
          obtain ⟨rfl, k5⟩ := k5
          have g24 : Go K F σ S1 (mix cm O env) H1 S4 (mix cm O env) H4 := g23.trans (i4.go g4)
          obtain ⟨l4, hD4⟩ := (i4.go g4).kp D _ l3 hD3
          have ra4 : Reps K S4 (toDs cm acc) xs := ra.mono (g3.ex.trans g4.ex)
          cases b with
          | false => exact iteF ⟨S4, acc, xs, g24, l4, hD4, ra4, k5⟩
          | true =>
            refine iteT ?_
            have k5 : (if free vs1 e then (it1 e).bind fun items1 => (fLcGo gt1 wt1 f e items1).bind fun r1 => (fLc2Go gt wt it1 gt1 wt1 f vs1 env (as.drop (i + 1))).bind fun r => .ret (r1 ++ r) else .bad).wp F.bag (fun r => (acc ++ r).length ≤ big ∧ kq (toDs cm (acc ++ r)) (mix cm O env)) (fun _ => False) := k5
            split at k5
            · rename_i hv1
              have fn1 := free_not (cm := cm) (O := O) hv1
              rw [T.wp_bind] at k5
              refine hi1 S4 (mix cm O e) σ4 H4 _ (fun items ρ' => ∃ bs, items = toDs cm bs ∧ ρ' = mix cm O e ∧ (fLcGo gt1 wt1 f e bs).wp F.bag (fun r1 => (fLc2Go gt wt it1 gt1 wt1 f vs1 env (as.drop (i + 1))).wp F.bag (fun r => (acc ++ r1 ++ r).length ≤ big ∧ kq (toDs cm (acc ++ r1 ++ r)) (mix cm O env)) (fun _ => False)) (fun _ => False)) (fun _ _ => False) g4.r ⟨e, rfl, T.wp_mono k5 (fun bs k => ⟨bs, rfl, rfl, ?_⟩) fun _ k => k⟩ (fun S5 ρ6 H5 items1 J1 g5 src1 k6 => ?_) xl0
              · rw [T.wp_bind] at k
                refine T.wp_mono k (fun r1 k => ?_) fun _ k => k
                rw [T.wp_bind] at k
                refine T.wp_mono k (fun r k => ?_) fun _ k => k
                have k : (acc ++ (r1 ++ r)).length ≤ big ∧ kq (toDs cm (acc ++ (r1 ++ r))) (mix cm O env) := k
                rw [← List.append_assoc] at k
                exact k
              · obtain ⟨bs, rfl, rfl, k6⟩ := k6
                obtain ⟨n1, G1, Y1, wk1, hn1, hG1, hY1⟩ := src1
                have g25 : Go K F σ S1 (mix cm O env) H1 S5 (mix cm O env) H5 := g24.trans (i4.go g5)
                obtain ⟨l5, hD5⟩ := (i4.go g5).kp D _ l4 hD4
                have iw1 : InS (mix cm O e) σ4 (mix cm O e) (L2.wipe σ4 vs1) := InS.wipe fn1
                refine loop_it (body := fun x H' Nx1 => g1 x (L2.wipe σ4 vs1) H' fun σ3 H5 => L2.wipe σ3 vs1 = L2.wipe σ4 vs1 ∧ tt1 σ3 H5 fun b H6 =>
                    if b = true then te σ3 H6 fun y H7 => ∃ acc, H7 D = some (.lst acc) ∧ acc.length < sizeLine ∧ Nx1 (upd H7 D (.lst (acc ++ [y]))) else Nx1 H6)
                  wk1 (fun j H' => ∃ S' acc1 xs1, (Ex S5 S' ∧ R K F S' (mix cm O e) σ4 H') ∧ Go K F σ S1 (mix cm O env) H1 S' (mix cm O env) H' ∧ Loose F S' (mix cm O env) σ D ∧ H' D = some (.lst xs1) ∧ Reps K S' (toDs cm acc1) xs1 ∧ (fLcGo gt1 wt1 f e (bs.drop j)).wp F.bag (fun r1 => (fLc2Go gt wt it1 gt1 wt1 f vs1 env (as.drop (i + 1))).wp F.bag (fun r => (acc1 ++ r1 ++ r).length ≤ big ∧ kq (toDs cm (acc1 ++ r1 ++ r)) (mix cm O env)) (fun _ => False)) (fun _ => False))
                  ⟨S5, acc, xs, ⟨Ex.refl S5, g5.r⟩, g25, l5, hD5, ra4.mono g5.ex, k6⟩ ?_ ?_ ?_
                · rintro j H' hj ⟨S', acc1, xs1, h1, _⟩
                  exact hG1 H' (h1.1.trans h1.2.fz)
                · rintro j x1 H' H6 hj ⟨S', acc1, xs1, h1, h2, l6, hD6, ra6, k7⟩ y1
                  rw [hn1, toDs_len] at hj
                  have hd1 : (toDs cm bs)[j]? = some (toD cm bs[j]) := by rw [toDs_get, List.getElem?_eq_getElem hj]; rfl
                  have r7 : R K F S' (mix cm O e) (L2.wipe σ4 vs1) H' := iw1.r h1.2 fn1
                  obtain ⟨S7, g7, r7'⟩ := SrcOk.turn (S1 := S5) r7 (hY1 S' H' j _ x1 H6 h1.1 h1.2.fz hd1 y1)
                  rw [List.drop_eq_getElem_cons hj] at k7
                  unfold fLcGo at k7
                  split at k7
                  · exact k7.elim
                  · rename_i e1 hge1
                    refine hg1 S7 (mix cm O e) (L2.wipe σ4 vs1) H6 _ x1 _ (fun ρ' => ρ' = mix cm O e1) g7.r r7' ⟨bs[j], e, e1, rfl, rfl, hge1, rfl⟩ fun ρ8 σ8 r8 tg8 e8 => ?_
                    subst e8
                    have i8 : InS (mix cm O e) σ4 (mix cm O e1) σ8 := iw1.trans (InS.tgt tg8 fun j y hy hj => fn1 j y hy (hts1 j hj))
                    have hwipe1 : L2.wipe σ8 vs1 = L2.wipe σ4 vs1 := by
                      rw [wipe_eq (σ' := σ8) (σ := L2.wipe σ4 vs1) tg8.ls fun j hj => (tg8.ne j fun z => hj (hts1 j z)).1]
                      exact wipe_eq (wipe_length _ _) fun j hj => wipe_ne hj
                    refine ⟨hwipe1, ?_⟩
                    have a7 := iw1.go g7
                    have o7 := i4.go a7
                    obtain ⟨l7, hD7⟩ := o7.kp D _ l6 hD6
                    rw [T.wp_bind] at k7
                    refine ht1 S7 (mix cm O e1) σ8 H6 _ (fun b ρ' => ρ' = mix cm O e1 ∧ (if b = true then (f e1).bind fun c => (fLcGo gt1 wt1 f e (bs.drop (j + 1))).bind fun r => .ret (c :: r) else fLcGo gt1 wt1 f e (bs.drop (j + 1))).wp F.bag (fun r1 => (fLc2Go gt wt it1 gt1 wt1 f vs1 env (as.drop (i + 1))).wp F.bag (fun r => (acc1 ++ r1 ++ r).length ≤ big ∧ kq (toDs cm (acc1 ++ r1 ++ r)) (mix cm O env)) (fun _ => False)) (fun _ => False)) (fun _ _ => False) r8 ⟨e1, rfl, T.wp_mono k7 (fun b k => ⟨rfl, k⟩) fun _ k => k⟩ (fun S9 ρ9 H9 b g9 k9 => ?_) xl0
                    obtain ⟨rfl, k9⟩ := k9
                    have a9 := a7.trans (i8.go g9)
                    have o9 := o7.trans (i4.go (i8.go g9))
                    obtain ⟨l9, hD9⟩ := (i4.go (i8.go g9)).kp D _ l7 hD7
                    cases b with
                    | false => exact iteF ⟨S9, acc1, xs1, ⟨h1.1.trans a9.ex, a9.r⟩, h2.trans o9, l9, hD9, ra6.mono (g7.ex.trans g9.ex), k9⟩
                    | true =>
                      refine iteT ?_
                      have k9 : ((f e1).bind fun c => (fLcGo gt1 wt1 f e (bs.drop (j + 1))).bind fun r => .ret (c :: r)).wp F.bag (fun r1 => (fLc2Go gt wt it1 gt1 wt1 f vs1 env (as.drop (i + 1))).wp F.bag (fun r => (acc1 ++ r1 ++ r).length ≤ big ∧ kq (toDs cm (acc1 ++ r1 ++ r)) (mix cm O env)) (fun _ => False)) (fun _ => False) := k9
                      rw [T.wp_bind] at k9
                      refine he S9 (mix cm O e1) σ8 H9 _ (fun d ρ' => ρ' = mix cm O e1 ∧ ∃ c, d = toD cm c ∧ (fLcGo gt1 wt1 f e (bs.drop (j + 1))).wp F.bag (fun r1 => (fLc2Go gt wt it1 gt1 wt1 f vs1 env (as.drop (i + 1))).wp F.bag (fun r => (acc1 ++ [c] ++ r1 ++ r).length ≤ big ∧ kq (toDs cm (acc1 ++ [c] ++ r1 ++ r)) (mix cm O env)) (fun _ => False)) (fun _ => False)) (fun _ _ => False) g9.r ⟨e1, rfl, T.wp_mono k9 (fun c k => ⟨rfl, c, rfl, ?_⟩) fun _ k => k⟩ (fun S10 ρ10 H10 d v g10 rc k10 => ?_) xl0
                      · rw [T.wp_bind] at k
                        refine T.wp_mono k (fun r1 k => ?_) fun _ k => k
                        have e2 : ∀ r, acc1 ++ [c] ++ r1 ++ r = acc1 ++ (c :: r1) ++ r := fun r => by simp
                        simp only [e2]
                        exact k
                      · obtain ⟨rfl, c, rfl, k10⟩ := k10
                        have a10 := a9.trans (i8.go g10)
                        have o10 := o9.trans (i4.go (i8.go g10))
                        obtain ⟨l10, hD10⟩ := (i4.go (i8.go g10)).kp D _ l9 hD9
                        have ra10 : Reps K S10 (toDs cm acc1) xs1 := ra6.mono ((g7.ex.trans g9.ex).trans g10.ex)
                        refine ⟨xs1, hD10, ?_, S10, acc1 ++ [c], xs1 ++ [v], ?_, (h2.trans o10).chg l10 hD, l10, upd_same, ?_, k10⟩
                        · obtain ⟨r1, k11⟩ := T.wp_some k10
                          obtain ⟨r, hr, _⟩ := T.wp_some k11
                          rw [ra10.1, toDs_len]
                          simp only [List.length_append, List.length_singleton] at hr
                          rw [sizeLine_eq]
                          have hr : acc1.length + 1 + r1.length + r.length ≤ 10000000 := hr
                          omega
                        · exact ⟨h1.1.trans a10.ex, a10.r.chg (i4.loose l10)⟩
                        · rw [toDs_app]
                          exact ra10.append (Reps.one rc)
                · rintro H' ⟨S', acc1, xs1, h1, h2, l6, hD6, ra6, k7⟩
                  rw [hn1, toDs_len, List.drop_length] at k7
                  have k7 : (fLc2Go gt wt it1 gt1 wt1 f vs1 env (as.drop (i + 1))).wp F.bag (fun r => (acc1 ++ [] ++ r).length ≤ big ∧ kq (toDs cm (acc1 ++ [] ++ r)) (mix cm O env)) (fun _ => False) := k7
                  rw [List.append_nil] at k7
                  exact ⟨S', acc1, xs1, h2, l6, hD6, ra6, k7⟩
            · exact k5.elim
      · rintro H' ⟨S', acc, xs, g2, l2, hD2, ra, k2⟩
        rw [hn, toDs_len, List.drop_length] at k2
        have k2 : (acc ++ []).length ≤ big ∧ kq (toDs cm (acc ++ [])) (mix cm O env) := k2
        rw [List.append_nil] at k2
        exact hk S' _ H' (toDs cm acc) D xs (ga.trans g2) (ga.up D hD) l2 hD2 ra k2.2
  · exact hw.elim
end PF

/-! PF, part l: rules over part k. -/
namespace PF
open PySem PySem.Spec PyProof.Rows L2 PD
def tI_ (K : PySem.W.Frag) (F : Fm) (W : WX) (w : WA) : TI := fun σ H Q => ∃ S ρ kq kx, R K F S ρ σ H ∧ w ρ kq kx ∧ (∀ S' ρ' H' items J, Go K F σ S ρ H S' ρ' H' → SrcOk K S' J items → kq items ρ' → Q J H') ∧ XL K F W σ S kx
theorem run_tI {K : PySem.W.Frag} {F : Fm} {W : WX} {w : WA} : RunI K F W (tI_ K F W w) w := fun S ρ σ H Q kq kx r hw hk hx => ⟨S, ρ, kq, kx, r, hw, hk, hx⟩
theorem DI_pi {X : Cx} {F : Fm} {W : WX} {tg e : Expr} {w : WA} (h : DI X F W tg e w) : PI X tg e (tI_ X.K F W w) := by
  obtain ⟨wi, p, q⟩ := h.ex
  refine ⟨fun pins s σ H Q I hq => p.run pins s σ H Q I ?_⟩
  obtain ⟨S, ρ, kq, kx, r, hw, hk, hx⟩ := hq
  exact q S ρ σ H Q kq kx r hw hk hx
def listF : A → Option (List A)
  | .lst xs => some xs
  | .tup xs => some xs
  | _ => none
def fStar (f : Env → T A) (gs : Env → T (List A)) : Env → T (List A) := fun env => (f env).bind fun a => (T.opt (listF a)).bind fun xs => (gs env).bind fun r => .ret (xs ++ r)
def rangeB (i j : Int) : List A := (List.range (j - i).toNat).map fun k => .int (i + (k : Nat))
def fRange2 (f g : Env → T A) : Env → T (List A) := fun env => (f env).bind fun a => (g env).bind fun b => match a, b with
  | .int i, .int j => if (-1000000000 < i ∧ i < 1000000000) ∧ -1000000000 < j ∧ j < 1000000000 then .ret (rangeB i j) else .bad
  | _, _ => .bad
def fTmp (f : Env → T A) : Env → T A := fun env => (f env).bind fun a => match a with
  | .lst _ => .ret .non
  | _ => .bad
def fTmpA (f g : Env → T A) : Env → T A := fun env => (f env).bind fun a => match a with
  | .lst xs => (g env).bind fun _ => if xs.length < big then .ret .non else .bad
  | _ => .bad
section
variable {cm : CM} {X : Cx} {F : Fm} {W : WX} {O : List Nat} {Z : Os} {e a b c tg iter elt tg1 iter1 : Expr} {es ifs ifs1 : List Expr} {f g : Env → T A} {pos p apos : Pos} {scope : Scope}
theorem fa_star {gs : Env → T (List A)} (h : FP cm X F W O e f) (hr : FA cm X F W O es gs) (hs : starEach (.Starred e p :: es) X.env = (true, eval e X.env) :: starEach es X.env := by rfl) : FA cm X F W O (.Starred e p :: es) (fStar f gs) := by
  obtain ⟨t, p1, q1⟩ := h.ex
  obtain ⟨t2, p2, q2⟩ := hr.ex
  refine ⟨_, StX.pa_star p1 p2 hs, fun S ρ σ H Q kq kx r hw hk hx => ?_⟩
  obtain ⟨env, rfl, hw⟩ := hw
  unfold fStar at hw
  simp only [T.wp_bind] at hw
  refine q1 S _ σ H _ (fun d ρ' => ∃ a xs, d = toD cm a ∧ ρ' = mix cm O env ∧ listF a = some xs ∧ (gs env).wp F.bag (fun r => kq (toDs cm (xs ++ r)) ρ') (fun x => kx (toX cm x) ρ')) kx r ⟨env, rfl, T.wp_mono hw (fun a k => ?_) fun _ k => k⟩ (fun S1 ρ1 H1 d v g1 rp k => ?_) hx
  · obtain ⟨xs, e, k⟩ := T.wp_opt k
    exact ⟨a, xs, rfl, rfl, e, k⟩
  · obtain ⟨a, xs, rfl, rfl, e, k⟩ := k
    have key : ∃ p vs, v = V.ref p ∧ (SqT X.K H1 p vs ∨ SqL X.K H1 p vs) ∧ Reps X.K S1 (toDs cm xs) vs := by
      unfold listF at e
      split at e
      · cases e
        rw [toD_lst] at rp
        obtain ⟨q, vs, rfl, h1, h2⟩ := rp.l g1.r.fz
        exact ⟨q, vs, rfl, .inr (SqL.of h1), h2⟩
      · cases e
        rw [toD_tup] at rp
        obtain ⟨q, vs, rfl, h1, h2⟩ := rp.t g1.r.fz
        exact ⟨q, vs, rfl, .inl h1, h2⟩
      · cases e
    obtain ⟨q, vs, rfl, h1, h2⟩ := key
    refine ⟨q, vs, rfl, h1, q2 S1 _ σ H1 _ (fun ds ρ' => kq (toDs cm xs ++ ds) ρ') kx g1.r ⟨env, rfl, T.wp_mono k (fun r k => by show kq (toDs cm xs ++ toDs cm r) _; rw [← toDs_app]; exact k) fun _ k => k⟩ (fun S2 ρ2 H2 ds us g2 rs k => ?_) (hx.mono g1.ex)⟩
    exact hk S2 ρ2 H2 _ _ (g1.trans g2) ((h2.mono g2.ex).append rs) k
theorem fi_range2 (hm : X.mg "range" = none) (ha : FE cm X F W O a f) (hb : FE cm X F W O b g) (hg : Gl X "range" := by rfl) (hs : starEach [a, b] X.env = [(false, eval a X.env), (false, eval b X.env)] := by rfl) (hs2 : starEach [b] X.env = [(false, eval b X.env)] := by rfl) (hs3 : starEach [a, b] X.env = (false, eval a X.env) :: starEach [b] X.env := by rfl) (hs4 : starEach [b] X.env = (false, eval b X.env) :: starEach [] X.env := by rfl) : FI cm X F W O tg (.Call (.Name "range" p) [a, b] [] pos) (fRange2 f g) := by
  have h := (fa_cons ha (fa_cons hb fa_nil hs4) hs3)
  obtain ⟨t, p1, q1⟩ := h.ex
  refine ⟨_, pi_range2 hg hm p1 hs hs2, fun S ρ σ H Q kq kx r hw hk hx => ?_⟩
  obtain ⟨env, rfl, hw⟩ := hw
  refine q1 S _ σ H _ (fun ds ρ' => ∃ i j : Int, ds = [.int i, .int j] ∧ ((-1000000000 < i ∧ i < 1000000000) ∧ -1000000000 < j ∧ j < 1000000000) ∧ kq (toDs cm (rangeB i j)) ρ') kx r ⟨env, rfl, ?_⟩ (fun S1 ρ1 H1 ds vs g1 rp k => ?_) hx
  · unfold fRange2 at hw
    unfold fCons fNil
    simp only [T.wp_bind] at hw ⊢
    refine T.wp_mono hw (fun x k1 => T.wp_mono k1 (fun y k2 => ?_) fun _ k => k) fun _ k => k
    clear k1 hw
    cases x <;> cases y <;> first | exact k2.elim | skip
    rename_i i j
    have k : (if (-1000000000 < i ∧ i < 1000000000) ∧ -1000000000 < j ∧ j < 1000000000 then T.ret (rangeB i j) else T.bad).wp F.bag (fun as => kq (toDs cm as) (mix cm O env)) (fun x => kx (toX cm x) (mix cm O env)) := k2
    split at k
    · rename_i hc
      exact ⟨i, j, rfl, hc, k⟩
    · exact k.elim
  · obtain ⟨i, j, rfl, hc, k⟩ := k
    obtain ⟨v, ys, rfl, r1, r2⟩ := rp.inv_cons
    obtain ⟨u, zs, rfl, r3, r4⟩ := r2.inv_cons
    cases r1
    cases r3
    rw [r4.inv_nil]
    refine ⟨i, j, rfl, ⟨by omega, by omega, by omega, by omega⟩, hk S1 ρ1 H1 _ _ g1 ⟨(j - i).toNat, _, _, walk_range, by rw [toDs_len]; simp [rangeB], fun _ _ => trivial, fun S2 H2 k d x H3 e1 e2 hd y => ?_⟩ k⟩
    obtain ⟨rfl, rfl⟩ := y
    unfold rangeB at hd
    rw [toDs_map, List.map_map, List.getElem?_map] at hd
    cases hr : (List.range (j - i).toNat)[k]? with
    | none => rw [hr] at hd; cases hd
    | some n =>
      rw [hr] at hd
      have : n = k := by
        obtain ⟨h1, h2⟩ := List.getElem?_eq_some_iff.mp hr
        rw [List.getElem_range] at h2
        exact h2.symm
      cases hd
      subst this
      exact .inl ⟨rfl, .int _⟩
theorem fl_lc2 {own : List (Str × Nat)} {vs1 : List Nat} {w w1 : Env → T (List A)} {gt gt1 : TgF} {ts ts1 : List Nat} {gg gg1 : TG} {wt wt1 : Env → T Bool} (hc : X.calm = true) (hN : X.N.Nodup) (hi : FI cm X F W O tg iter w) (ok : BlkOk X.N X.env.scope scope own)
    (hg : ∀ (s : Shared) (H : Hp) (C : Addr) (cl : List (Str × Addr)) (fp : List Addr), FG cm (X.blk s H scope (compEnvC scope cl C X.env) fp) F O tg gt ts gg) (ht : ∀ (s : Shared) (H : Hp) (C : Addr) (cl : List (Str × Addr)) (fp : List Addr), FTs cm (X.blk s H scope (compEnvC scope cl C X.env) fp) F W0 O ifs wt)
    (hi1 : ∀ (s : Shared) (H : Hp) (C : Addr) (cl : List (Str × Addr)) (fp : List Addr), FI cm (X.blk s H scope (compEnvC scope cl C X.env) fp) F W0 O tg1 iter1 w1)
    (hg1 : ∀ (s : Shared) (H : Hp) (C : Addr) (cl : List (Str × Addr)) (fp : List Addr), FG cm (X.blk s H scope (compEnvC scope cl C X.env) fp) F O tg1 gt1 ts1 gg1) (ht1 : ∀ (s : Shared) (H : Hp) (C : Addr) (cl : List (Str × Addr)) (fp : List Addr), FTs cm (X.blk s H scope (compEnvC scope cl C X.env) fp) F W0 O ifs1 wt1)
    (he : ∀ (s : Shared) (H : Hp) (C : Addr) (cl : List (Str × Addr)) (fp : List Addr), FE cm (X.blk s H scope (compEnvC scope cl C X.env) fp) F W0 O elt f) (hv : ∀ i ∈ vs1, i ∈ own.map (·.2) := by decide) (hts : ∀ j ∈ ts, j ∈ own.map (·.2) := by decide) (hts1 : ∀ j ∈ ts1, j ∈ vs1 := by decide) (hs : ∀ x, foldedSetIterable iter X.env x = pure x := by intro _; rfl) (hs1 : ∀ env x, foldedSetIterable iter1 env x = pure x := by intro _ _; rfl) :
    FL cm X F W O (.ListComp elt [⟨tg, iter, ifs, 0⟩, ⟨tg1, iter1, ifs1, 0⟩] scope pos) (fLc2 w gt wt w1 gt1 wt1 f (own.map (·.2)) vs1) := by
  obtain ⟨wi, p1, q1⟩ := hi.ex
  exact ⟨_, pe_lc2 (te := tE X.K F W0 (cE cm F.bag O f)) (tt := tT X.K F W0 (cT cm F.bag O wt)) (tt1 := tT X.K F W0 (cT cm F.bag O wt1)) (wi1 := tI_ X.K F W0 (cL cm F.bag O w1)) hc hN p1 ok hv (fun s H C cl fp => (hg s H C cl fp).pg) (fun s H C cl fp => (ht s H C cl fp).pt) (fun s H C cl fp => DI_pi (hi1 s H C cl fp)) (fun s H C cl fp => (hg1 s H C cl fp).pg) (fun s H C cl fp => (ht1 s H C cl fp).pt) (fun s H C cl fp => (he s H C cl fp).pe) hs hs1,
    run_lc2 q1 (hg X.s_0 X.H_0 0 [] []).run run_tT run_tI (hg1 X.s_0 X.H_0 0 [] []).run run_tT run_tE hts hts1⟩
theorem fs_setLc2 {i : Nat} {y : Str} {py spos : Pos} {own : List (Str × Nat)} {vs1 : List Nat} {w w1 : Env → T (List A)} {gt gt1 : TgF} {ts ts1 : List Nat} {gg gg1 : TG} {wt wt1 : Env → T Bool} (hc : X.calm = true) (hN : X.N.Nodup) (hi : FI cm X F W O tg iter w) (ok : BlkOk X.N X.env.scope scope own)
    (hg : ∀ (s : Shared) (H : Hp) (C : Addr) (cl : List (Str × Addr)) (fp : List Addr), FG cm (X.blk s H scope (compEnvC scope cl C X.env) fp) F O tg gt ts gg) (ht : ∀ (s : Shared) (H : Hp) (C : Addr) (cl : List (Str × Addr)) (fp : List Addr), FTs cm (X.blk s H scope (compEnvC scope cl C X.env) fp) F W0 O ifs wt)
    (hi1 : ∀ (s : Shared) (H : Hp) (C : Addr) (cl : List (Str × Addr)) (fp : List Addr), FI cm (X.blk s H scope (compEnvC scope cl C X.env) fp) F W0 O tg1 iter1 w1)
    (hg1 : ∀ (s : Shared) (H : Hp) (C : Addr) (cl : List (Str × Addr)) (fp : List Addr), FG cm (X.blk s H scope (compEnvC scope cl C X.env) fp) F O tg1 gt1 ts1 gg1) (ht1 : ∀ (s : Shared) (H : Hp) (C : Addr) (cl : List (Str × Addr)) (fp : List Addr), FTs cm (X.blk s H scope (compEnvC scope cl C X.env) fp) F W0 O ifs1 wt1)
    (he : ∀ (s : Shared) (H : Hp) (C : Addr) (cl : List (Str × Addr)) (fp : List Addr), FE cm (X.blk s H scope (compEnvC scope cl C X.env) fp) F W0 O elt f) (ho : O.contains i = false := by decide) (hz : Z.nx = i :: O := by rfl) (hy : X.N[i]? = some y := by rfl) (hyl : X.env.scope.names.lookup y = some .local := by rfl)
    (hsw : swapsWith (.ListComp elt [⟨tg, iter, ifs, 0⟩, ⟨tg1, iter1, ifs1, 0⟩] scope pos) (some (.Name y py)) spos.line X.env = pure true := by exact sw_true rfl rfl rfl (by decide +kernel)) (hv : ∀ i ∈ vs1, i ∈ own.map (·.2) := by decide) (hts : ∀ j ∈ ts, j ∈ own.map (·.2) := by decide) (hts1 : ∀ j ∈ ts1, j ∈ vs1 := by decide) (hs : ∀ x, foldedSetIterable iter X.env x = pure x := by intro _; rfl) (hs1 : ∀ env x, foldedSetIterable iter1 env x = pure x := by intro _ _; rfl) :
    FS cm X F W O Z (.Assign [.Name y py] (.ListComp elt [⟨tg, iter, ifs, 0⟩, ⟨tg1, iter1, ifs1, 0⟩] scope pos) spos) (fAsg i (fVal (fLc2 w gt wt w1 gt1 wt1 f (own.map (·.2)) vs1))) := by
  obtain ⟨wi, p1, q1⟩ := hi.ex
  refine ⟨_, ps_setLc2 (te := tE X.K F W0 (cE cm F.bag O f)) (tt := tT X.K F W0 (cT cm F.bag O wt)) (tt1 := tT X.K F W0 (cT cm F.bag O wt1)) (wi1 := tI_ X.K F W0 (cL cm F.bag O w1)) hc hN hy hyl hsw p1 ok hv (fun s H C cl fp => (hg s H C cl fp).pg) (fun s H C cl fp => (ht s H C cl fp).pt) (fun s H C cl fp => DI_pi (hi1 s H C cl fp)) (fun s H C cl fp => (hg1 s H C cl fp).pg) (fun s H C cl fp => (ht1 s H C cl fp).pt) (fun s H C cl fp => (he s H C cl fp).pe) hs hs1, fun S ρ σ H D E r hw l => ?_⟩
  obtain ⟨env, rfl, hw⟩ := hw
  unfold fAsg fVal at hw
  rw [wp_lift, T.wp_bind] at hw
  refine run_lc2 q1 (hg X.s_0 X.H_0 0 [] []).run run_tT run_tI (hg1 X.s_0 X.H_0 0 [] []).run run_tT run_tE hts hts1 S _ σ H _ (fun ds ρ' => E.nx (ρ'.set i (some (.own ds)))) E.ex r ⟨env, rfl, T.wp_mono hw (fun a k => ?_) fun x k => ex_at O k⟩ (fun S' ρ' H' ds a xs g hn lo ha rp k => ?_) (l.ex σ)
  · show E.nx ((mix cm O env).set i (some (ownD cm (.lst a))))
    rw [mix_setO ho]
    have k : E.nx (mix cm Z.nx (env.set i (some (.lst a)))) := k
    rw [hz] at k
    exact k
  · exact l.nx S' _ _ H' g.ex (g.r.setL lo ha rp) k
/-- a new list is emptied, and nobody has it -/
theorem fe_tclear (h : FV cm X F W O true e f) (hbase : attributeBase e "clear" X.env (eval e X.env) = eval e X.env := by rfl) (hline : (apos.endLine == pos.line) = true := by rfl) : FE cm X F W O (.Call (.Attribute e "clear" apos) [] [] pos) (fTmp f) := by
  obtain ⟨t, p1, q1⟩ := h.ex
  refine ⟨_, pe_bm0 PySem.F.plainAttrs_list PySem.F.slot_list_clear PySem.F.type_list_clear mt_clear p1 hbase hline, fun S ρ σ H Q kq kx r hw hk hx => ?_⟩
  obtain ⟨env, rfl, hw⟩ := hw
  unfold fTmp at hw
  rw [T.wp_bind] at hw
  refine q1 S _ σ H _ (fun y ρ' => ∃ xs, y = .own (toDs cm xs) ∧ kq .non ρ') kx r ⟨env, rfl, T.wp_mono hw (fun a k => ?_) fun _ k => k⟩ (fun S1 ρ1 H1 y v g1 sv hn k => ?_) hx
  · cases a with
    | lst xs => exact ⟨xs, rfl, k⟩
    | _ => exact k.elim
  · obtain ⟨xs, rfl, k⟩ := k
    obtain ⟨q, vs, rfl, lo, hq, rp⟩ := sv
    exact ⟨.inl ⟨rfl, _, SqL.of hq⟩, q, vs, rfl, rfl, hq, hk S1 ρ1 _ .non .non (g1.chg lo (hn q rfl (fun _ z => nomatch z))) .non k⟩
theorem fe_tapp (h : FV cm X F W O true e f) (h' : FE cm X F W O a g) (hbase : attributeBase e "append" X.env (eval e X.env) = eval e X.env := by rfl)
    (hfew : ((backTo pos (starEach [a] X.env)).all (fun x => !x.1) && (backToKw pos (keywordEach [] X.env)).all (fun x => x.1.isSome)
      && decide (([a] : List Expr).length + ([] : List Keyword).length + (if ([] : List Keyword).isEmpty then 0 else 1) < 30)) = true := by rfl) (hline : (apos.endLine == pos.line) = true := by rfl) (hs : starEach [a] X.env = (false, eval a X.env) :: starEach [] X.env := by rfl) : FE cm X F W O (.Call (.Attribute e "append" apos) [a] [] pos) (fTmpA f g) := by
  obtain ⟨t, p1, q1⟩ := h.ex
  obtain ⟨t2, p2, q2⟩ := h'.ex
  refine ⟨_, pe_bm PySem.F.plainAttrs_list PySem.F.slot_list_append PySem.F.type_list_append mt_append p1 (pa_cons p2 pa_nil hs) hbase hfew hline hs rfl, fun S ρ σ H Q kq kx r hw hk hx => ?_⟩
  obtain ⟨env, rfl, hw⟩ := hw
  unfold fTmpA at hw
  rw [T.wp_bind] at hw
  refine q1 S _ σ H _ (fun y ρ' => ∃ xs, y = .own (toDs cm xs) ∧ ρ' = mix cm O env ∧ (g env).wp F.bag (fun _ => xs.length < big ∧ kq .non ρ') (fun x => kx (toX cm x) ρ')) kx r ⟨env, rfl, T.wp_mono hw (fun a k => ?_) fun _ k => k⟩ (fun S1 ρ1 H1 y v g1 sv hn k => ?_) hx
  · cases a with
    | lst xs =>
      refine ⟨xs, rfl, rfl, ?_⟩
      have k : ((g env).bind fun _ => if xs.length < big then T.ret A.non else .bad).wp F.bag (fun a => kq (toD cm a) (mix cm O env)) (fun x => kx (toX cm x) (mix cm O env)) := k
      rw [T.wp_bind] at k
      refine T.wp_mono k (fun _ k => ?_) fun _ k => k
      split at k
      · rename_i hl
        exact ⟨hl, k⟩
      · exact k.elim
    | _ => exact k.elim
  · obtain ⟨xs, rfl, rfl, k⟩ := k
    obtain ⟨q, vs, rfl, lo, hq, rp⟩ := sv
    refine ⟨.inl ⟨rfl, _, SqL.of hq⟩, q2 S1 _ σ H1 _ (fun _ ρ' => xs.length < big ∧ kq .non ρ') kx g1.r ⟨env, rfl, k⟩ (fun S2 ρ2 H2 d u g2 ru k => ?_) (hx.mono g1.ex)⟩
    obtain ⟨lo2, hq2⟩ := g2.kp q _ lo hq
    refine ⟨q, vs, u, rfl, rfl, hq2, ?_, hk S2 ρ2 _ .non .non ((g1.trans g2).chg lo2 (hn q rfl (fun _ z => nomatch z))) .non k.2⟩
    rw [rp.1, toDs_len, sizeLine_eq]
    exact Nat.lt_of_lt_of_le k.1 (by decide)
end
/-! ### the functions at a state -/
section
variable (env : Env) (f g : Env → T A) (gs : Env → T (List A))
@[simp] theorem e_Star : fStar f gs env = (f env).bind fun a => (T.opt (listF a)).bind fun xs => (gs env).bind fun r => .ret (xs ++ r) := rfl
@[simp] theorem listF_lst (xs : List A) : listF (.lst xs) = some xs := rfl
@[simp] theorem listF_tup (xs : List A) : listF (.tup xs) = some xs := rfl
@[simp] theorem e_Tmp : fTmp f env = (f env).bind fun a => match a with | .lst _ => .ret .non | _ => .bad := rfl
@[simp] theorem e_TmpA : fTmpA f g env = (f env).bind fun a => match a with | .lst xs => (g env).bind fun _ => if xs.length < big then .ret .non else .bad | _ => .bad := rfl
theorem range2_of {f g : Env → T A} {env : Env} {i j : Int} (h : f env = .ret (.int i)) (h' : g env = .ret (.int j)) (h1 : -1000000000 < i) (h2 : i < 1000000000) (h3 : -1000000000 < j) (h4 : j < 1000000000) : fRange2 f g env = .ret (rangeB i j) := by
  unfold fRange2
  rw [h, T.ret_bind, h', T.ret_bind]
  show (if (-1000000000 < i ∧ i < 1000000000) ∧ -1000000000 < j ∧ j < 1000000000 then T.ret (rangeB i j) else T.bad) = _
  rw [if_pos ⟨⟨h1, h2⟩, h3, h4⟩]
end
theorem lc2Go_map {gt gt1 : TgF} {it1 : Env → T (List A)} {f : Env → T A} {vs1 : List Nat} {env : Env} {β γ : Type} (φ : β → A) (ψ : γ → A) (m : β → List γ) (h : β → γ → A) (l : List β) (H : ∀ b ∈ l, ∃ e, gt (φ b) env = some e ∧ free vs1 e = true ∧ it1 e = .ret ((m b).map ψ) ∧ ∀ c ∈ m b, ∃ e1, gt1 (ψ c) e = some e1 ∧ f e1 = .ret (h b c)) :
    fLc2Go gt fYes it1 gt1 fYes f vs1 env (l.map φ) = .ret (l.flatMap fun b => (m b).map (h b)) := by
  induction l with
  | nil => rfl
  | cons b l ih =>
    rw [List.map_cons]
    unfold fLc2Go
    obtain ⟨e, h1, h2, h3, h4⟩ := H b (List.mem_cons_self ..)
    rw [h1]
    show (T.ret true).bind _ = _
    rw [T.ret_bind, if_pos rfl, if_pos h2, h3, T.ret_bind, lcGo_map ψ (h b) (m b) h4, T.ret_bind, ih fun c hc => H c (List.mem_cons_of_mem _ hc)]
    rfl
theorem lc2_map {it it1 : Env → T (List A)} {gt gt1 : TgF} {f : Env → T A} {vs vs1 : List Nat} {env : Env} {β γ : Type} (φ : β → A) (ψ : γ → A) (m : β → List γ) (h : β → γ → A) (l : List β) (hi : it env = .ret (l.map φ)) (hv : free vs env = true) (hl : (l.flatMap fun b => (m b).map (h b)).length ≤ big) (H : ∀ b ∈ l, ∃ e, gt (φ b) env = some e ∧ free vs1 e = true ∧ it1 e = .ret ((m b).map ψ) ∧ ∀ c ∈ m b, ∃ e1, gt1 (ψ c) e = some e1 ∧ f e1 = .ret (h b c)) :
    fLc2 it gt fYes it1 gt1 fYes f vs vs1 env = .ret (l.flatMap fun b => (m b).map (h b)) := by
  unfold fLc2
  rw [if_pos hv, hi, T.ret_bind, lc2Go_map φ ψ m h l H, calm_ret, T.ret_bind, small_of hl]
  rfl
end PF

/-! PF, part m: x is True, x is False. -/
namespace PF
open PySem PySem.Spec PyProof.Rows L2 PD
abbrev rIsB1 : R2 := fun x y H Q => ∃ c, y = .bl c ∧ Q (.bl (decide (x = .bl c))) H
abbrev rNotB1 : R2 := fun x y H Q => ∃ c, y = .bl c ∧ Q (.bl (!decide (x = .bl c))) H
section
variable {X : Cx}
theorem isB_plain {x : V} {v : Value} {c : Bool} (rx : RelV x v) : plainIs v (.bool c) = true ∧ decide (x = .bl c) = (v == .bool c) := by
  cases x with
  | bl a => cases rx; exact ⟨rfl, by cases a <;> cases c <;> rfl⟩
  | non => cases rx; exact ⟨rfl, rfl⟩
  | ref a => cases rx; exact ⟨rfl, rfl⟩
  | ty n => cases rx; exact ⟨rfl, rfl⟩
  | _ => obtain ⟨t, rfl⟩ := rx; exact ⟨rfl, rfl⟩
theorem op_isB : OpR X (compareOp .Is) rIsB1 := by
  intro pins s σ H x y v u Q I rx ry h
  obtain ⟨c, rfl, q⟩ := h
  cases ry
  exact wpAny_is_plain (isB_plain rx).1 (fin_bl I q (isB_plain rx).2)
theorem op_isnotB : OpR X (compareOp .IsNot) rNotB1 := by
  intro pins s σ H x y v u Q I rx ry h
  obtain ⟨c, rfl, q⟩ := h
  cases ry
  exact wpAny_isNot_plain (isB_plain rx).1 (fin_bl I q (congrArg not (isB_plain rx).2))
end
def oIsB (neg : Bool) : O2 := fun d e k => match e with
  | .bl c => match d with
    | .bl b => k (.bl (if neg then !decide (b = c) else decide (b = c)))
    | _ => k (.bl neg)
  | _ => False
theorem pk_bl {K : PySem.W.Frag} {S H : Hp} {d : D} {v : V} {c : Bool} (p : Pk K S H d v) : decide (v = .bl c) = (match d with | .bl b => decide (b = c) | _ => false) := by
  rcases p with r | ⟨ds, a, xs, rfl, rfl, h1, r⟩ | ⟨ds, a, xs, rfl, rfl, h1, r⟩
  · cases r <;> first | rfl | (rename_i b; cases b <;> cases c <;> rfl)
  · rfl
  · rfl
theorem pk_isbl {K : PySem.W.Frag} {S H : Hp} {v : V} {c : Bool} (p : Pk K S H (.bl c) v) : v = .bl c := by
  rcases p with r | ⟨ds, a, xs, e, rfl, h1, r⟩ | ⟨ds, a, xs, e, rfl, h1, r⟩
  · cases r; rfl
  · cases e
  · cases e
theorem op2_isB {K : PySem.W.Frag} : Op2 K rIsB1 (oIsB false) := fun F S ρ σ H d v e u Q k r p q h hk => by
  unfold oIsB at h
  split at h
  · rename_i c
    rw [pk_isbl q]
    refine ⟨c, rfl, ?_⟩
    rw [pk_bl p]
    split at h
    · exact hk S H _ _ (Go.refl r) (.bl _) h
    · rename_i hn
      cases d <;> first | exact absurd rfl (hn _) | exact hk S H _ _ (Go.refl r) (.bl _) h
  · exact h.elim
theorem op2_isnotB {K : PySem.W.Frag} : Op2 K rNotB1 (oIsB true) := fun F S ρ σ H d v e u Q k r p q h hk => by
  unfold oIsB at h
  split at h
  · rename_i c
    rw [pk_isbl q]
    refine ⟨c, rfl, ?_⟩
    rw [pk_bl p]
    split at h
    · exact hk S H _ _ (Go.refl r) (.bl _) h
    · rename_i hn
      cases d <;> first | exact absurd rfl (hn _) | exact hk S H _ _ (Go.refl r) (.bl _) h
  · exact h.elim
def gIsB (neg : Bool) : G2 := fun a b => match b with
  | .bl c => match a with
    | .bl b => some (.bl (if neg then !decide (b = c) else decide (b = c)))
    | _ => some (.bl neg)
  | _ => none
theorem f_isB {neg : Bool} : OpF (oIsB neg) (gIsB neg) := fun cm a b c k e hk => by
  unfold gIsB at e
  split at e
  · split at e
    · cases e
      exact hk
    · rename_i hn
      cases e
      unfold oIsB
      cases a <;> first | exact absurd rfl (hn _) | exact hk
  · cases e
@[simp] theorem gIsB_bl (neg b c : Bool) : gIsB neg (.bl b) (.bl c) = some (.bl (if neg then !decide (b = c) else decide (b = c))) := rfl
@[simp] theorem gIsB_int (neg : Bool) (b : Int) (c : Bool) : gIsB neg (.int b) (.bl c) = some (.bl neg) := rfl
@[simp] theorem gIsB_str (neg : Bool) (b : List Nat) (c : Bool) : gIsB neg (.str b) (.bl c) = some (.bl neg) := rfl
@[simp] theorem gIsB_tup (neg : Bool) (b : List A) (c : Bool) : gIsB neg (.tup b) (.bl c) = some (.bl neg) := rfl
@[simp] theorem gIsB_lst (neg : Bool) (b : List A) (c : Bool) : gIsB neg (.lst b) (.bl c) = some (.bl neg) := rfl
@[simp] theorem gIsB_non (neg : Bool) (c : Bool) : gIsB neg .non (.bl c) = some (.bl neg) := rfl
end PF

/-! PF, part n: a def with a star parameter and its calls. -/
namespace PF
open PySem PySem.Spec PyProof.Rows L2 PD
/-- a def whose binding lays objects -/
def FnV (P : Program) (w : World) (K : PySem.W.Frag) (mg : Str → Option Value) (base : Heap) (CX : CXT) (k : Nat) (f : Addr) (fd : FuncData) (ps : List Str) (sp : Sp) : Prop :=
  ∀ (A : Around) (outer : List PySem.Env) (s : Shared) (H : Hp) (args : Args) (Q : VK) (E : XK), Room k A → Env0 P w K mg base A outer s H → StX.Bnd CX P w K mg base fd args ps A outer s H E (fun vs H2 => sp vs H2 Q E) → codeAny (model P w) A (.call (.ref f) args) (CR CX outer P w H s Q E) s
/-- n values and the keywords ks bind: the parameters ps take those at idx, pv the values behind the first np -/
def BdS (fd : FuncData) (ps : List Str) (pv : Str) (n np : Nat) (ks : List Str) (idx : List Nat) : Prop := ∀ (xs ws : List Value), xs.length = n → ws.length = ks.length → bindArgs fd ⟨xs, ks.zip ws⟩ = (newTuple (xs.drop np) >>= fun t => pure (ps.zip (pick idx (xs ++ ws)) ++ [(pv, t)]))
section
variable {P : Program} {w : World} {K : PySem.W.Frag} {mg : Str → Option Value} {base : Heap} {cm : CM}
theorem Fun.bdS {x qual : Str} {st : Stmt} {f : Addr} {fd : FuncData} {ps ks : List Str} {pv : Str} {n np : Nat} {idx : List Nat} (F : Fun K x qual st f fd)
    (h : ∀ (kV doc pm : Value) (an : Option Addr) (cdv ct : Value), BdS (PySem.W.fnOf x qual (defArgs st) (defBody st) (defScope st) .none kV doc pm an cdv ct) ps pv n np ks idx) : BdS fd ps pv n np ks idx := by
  obtain ⟨oc, od, kV, doc, pm, an, cdv, ct, osl, rfl, lk, hcd⟩ := F.ex
  exact h kV doc pm an cdv ct
theorem okFV {x qual : Str} {st : Stmt} {f : Addr} {fd : FuncData} {N ps : List Str} {k : Nat} {ow : Bool} {body : Env → T Ct} (F : Fun K x qual st f fd) (S : FnScope N ps (defScope st))
    (h : ∀ (cdv : Value) (A : Around) (outer : List PySem.Env) (s : Shared) (H : Hp) (E : XK) (Fm : Fm), Room k (cxD P w K mg base N qual (defScope st) f cdv A outer s H E).A →
      FSs cm (cxD P w K mg base N qual (defScope st) f cdv A outer s H E) Fm (wxD E) [] ⟨[], [], [], ow⟩ (defBody st) body) : FnV P w K mg base (L2.CX P w) (k + 1) f fd ps (spD K (spF cm ps.length ow (fdef N.length body))) := by
  obtain ⟨oc, od, kV, doc, pm, an, cdv, ct, osl, rfl, lk, hcd⟩ := F.ex
  intro A outer s H args Q E hr e0 hb
  refine StX.run_bnd lk hcd S hr e0 hb fun s2 H2 vs g hr' => ?_
  obtain ⟨S', β, ds, kq, kx, e, hbg, r, hs, q1, q2⟩ := g
  have hd := h cdv A outer s2 H2 E ⟨H2, S', β⟩ hr'
  obtain ⟨t, p, q⟩ := hd.ex
  obtain ⟨as, hl, rfl, hs⟩ := hs
  unfold fdef at hs
  rw [wp_fin] at hs
  have key : (body (startE N.length as)).wp β (endC cm ⟨[], [], [], ow⟩ (endsOf kq kx)) (fun _ => False) := T.wp_mono hs (fun c k => by
    cases c with
    | nx e =>
      have k : kq (rv cm ow .non) := k
      cases ow <;> exact k
    | rt a => exact k
    | bk e => exact k.elim
    | ct e => exact k.elim
    | ex x e => exact fun _ => k) fun _ k => k
  refine ⟨t, p, q S' (startD N (toDs cm as)) (L2.start N vs) H2 _ (endsOf kq kx) (R.start e hbg r) ⟨_, start_mix as, key⟩ ⟨fun S2 ρ σ H2 e2 r2 k2 => ?_, fun S2 H2 y v e2 r2 sv k2 => ?_, fun S2 ρ σ H2 e2 r2 k2 => k2.elim, fun S2 ρ σ H2 e2 r2 k2 => k2.elim, fun σ dx ρ S2 H2 cls od e2 r2 rx k2 => ?_⟩⟩
  · exact q1 S2 H2 (.val .non) .non r2.toR0 .non k2
  · exact q1 S2 H2 y v r2 sv k2
  · exact q2 S2 H2 dx cls od r2.toR0 rx k2
end
def tCallS (n m np l : Nat) (idx : List Nat) (sp : Sp) (E : L2.St → XK) (t tk : TA) : TE := fun σ H Q => t σ H fun vs H1 => tk σ H1 fun zs H2 => vs.length = n ∧ zs.length = m ∧ (vs.drop np).length ≤ sizeLine ∧ (pick idx (vs ++ zs)).length = l ∧ ∀ p, H2 p = none → sp (pick idx (vs ++ zs) ++ [.ref p]) (upd H2 p (.tup (vs.drop np))) Q (E σ)
theorem vals_drop : ∀ {vs : List V} {us : List Value} (n : Nat), Vals vs us → Vals (vs.drop n) (us.drop n)
  | _, _, 0, r => r
  | _, _, n + 1, .nil => .nil
  | _, _, n + 1, .cons _ r => vals_drop n r
theorem reps_drop {K : PySem.W.Frag} {S : Hp} {ds : List D} {vs : List V} (r : Reps K S ds vs) (n : Nat) : Reps K S (ds.drop n) (vs.drop n) := by
  refine ⟨by rw [List.length_drop, List.length_drop, r.1], fun i d v h1 h2 => ?_⟩
  rw [List.getElem?_drop] at h1 h2
  exact r.2 _ d v h1 h2
section
variable {X : Cx} {k n np : Nat} {f : Addr} {fd : FuncData} {ps ks : List Str} {pv : Str} {sp : Sp} {E : L2.St → XK} {x : Str} {p pos : Pos} {e : Expr} {es : List Expr} {kws : List Keyword} {t tk : TA} {idx : List Nat}
theorem run_fnS {pins : List (Addr × Obj)} {σ : L2.St} {H : Hp} {s : Shared} {Q : VK} {us ws : List Value} {vs zs : List V} (F : FnV X.prog X.w X.K X.mg X.base (L2.CX X.prog X.w) k f fd (ps ++ [pv]) sp) (hr : Room k X.A) (hb : BdS fd ps pv n np ks idx) (hx : PassesAt (L2.CX X.prog X.w) X σ (E σ))
    (I : Inv X pins σ H s) (r : Vals vs us) (rz : Vals zs ws) (l1 : vs.length = n) (l2 : zs.length = ks.length) (l3 : (vs.drop np).length ≤ sizeLine) (l4 : (pick idx (vs ++ zs)).length = ps.length) (h : ∀ p, H p = none → sp (pick idx (vs ++ zs) ++ [.ref p]) (upd H p (.tup (vs.drop np))) Q (E σ)) :
    wpAny (model X.prog X.w) X.A (call (.ref f) us (ks.zip ws)) (EP X pins σ Q) X.xe s := by
  have rd := vals_drop np r
  have rp := vals_pick (r.append rz) idx
  have hn : H s.heap.objs.size = Option.none := I.hok.fresh (Nat.le_refl _)
  have hl2 : (us.drop np).length ≤ sizeLine := by rw [← rd.length]; exact l3
  have hlp : (pick idx (us ++ ws)).length = ps.length := by rw [← rp.length]; exact l4
  refine wpAny_call (codeAny_mono (F X.A X.stack s H ⟨us, ks.zip ws⟩ Q (E σ) hr I.env0 ?_) fun y s' hq => ?_)
  · intro A' Ex Q' hq
    rw [hb us ws (r.length.symm.trans l1) (rz.length.symm.trans l2)]
    refine wpAny_bind (wpAny_newTuple (wpAny_pure ?_) hl2)
    have new : ObjOk X.prog X.w (upd H s.heap.objs.size (.tup (vs.drop np))) (s.heap.push ({ cls := .type "tuple", data := .seq (us.drop np).toArray } : Obj)) s.heap.objs.size (.tup (vs.drop np)) := ⟨l3, us.drop np, rd, ⟨_, Heap.get?_push_size _ rfl, rfl, _, rfl⟩⟩
    have un := StX.un_laid (fs := frs X.stack) (s := s) (o := ({ cls := .type "tuple", data := .seq (us.drop np).toArray } : Obj)) (u := .tup (vs.drop np)) hn
    have z := hq _ _ (pick idx (vs ++ zs) ++ [V.ref s.heap.objs.size]) (pick idx (us ++ ws) ++ [Value.ref s.heap.objs.size]) (StX.env0_laid I.env0 new) un rfl (fun e s' => StX.cxUp X.stack s H _ _ (E σ) e s' un (fun b o q => Heap.get?_push_of_some _ q) rfl) (rp.append (.cons rfl .nil))
      (by rw [List.length_append, List.length_append, l4] <;> rfl) (h _ hn)
    rw [List.zip_append hlp.symm] at z
    exact z
  · cases y with
    | error e => exact hx pins H s e s' I hq
    | ok fl =>
      cases fl with
      | ret u => exact I.after hq
      | next => exact False.elim hq
      | brk => exact False.elim hq
      | cont => exact False.elim hq
theorem pe_callS (F : FnV X.prog X.w X.K X.mg X.base (L2.CX X.prog X.w) k f fd (ps ++ [pv]) sp) (hr : Room k X.A) (hg : Gl X x) (hm : X.mg x = some (.ref f)) (hk : PySem.W.keepIn X.K (.ref f) = true) (hb : BdS fd ps pv n np ks idx) (hx : ∀ σ, PassesAt (L2.CX X.prog X.w) X σ (E σ))
    (ha : PA X (e :: es) t) (hkw : PK X kws tk) (hall : (backToKw pos (keywordEach kws X.env)).all (·.1.isSome) = true := by rfl) (hks : (backToKw pos (keywordEach kws X.env)).filterMap (·.1) = ks := by rfl)
    (hdb : (x == ("__debug__" : Str)) = false := by decide) (he : starEach (e :: es) X.env = (false, eval e X.env) :: starEach es X.env := by rfl)
    (hpl : ((backTo pos (starEach (e :: es) X.env)).any (·.1) || (backToKw pos (keywordEach kws X.env)).any (·.1.isNone)) = false := by rfl) :
    PE X (.Call (.Name x p) (e :: es) kws pos) (tCallS n ks.length np ps.length idx sp E t tk) := by
  refine ⟨fun pins s σ H Q I h => wpAny_Call_Name_kw (ld_glob I hg hm ?_ hdb)⟩
  refine PySem.W.callWith_KW (h₀ := X.base) I.ok.mod.kin hk hall (thn (ha.run pos pins s σ H _ I h) fun us s1 ⟨vs, H1, I1, r, q⟩ => ?_) hpl he
  refine thn (hkw.run pos pins s1 σ H1 _ I1 q) fun ws s2 ⟨zs, H2, I2, rz, l1, l2, l3, l4, q2⟩ => ⟨I2.kIn, ?_⟩
  rw [hks]
  exact run_fnS F hr hb (hx σ) I2 r rz l1 l2 l3 l4 q2
theorem pe_callS0 (F : FnV X.prog X.w X.K X.mg X.base (L2.CX X.prog X.w) k f fd (ps ++ [pv]) sp) (hr : Room k X.A) (hg : Gl X x) (hm : X.mg x = some (.ref f)) (hk : PySem.W.keepIn X.K (.ref f) = true) (hb : BdS fd ps pv n np ks idx) (hx : ∀ σ, PassesAt (L2.CX X.prog X.w) X σ (E σ))
    (hkw : PK X kws tk) (hall : (backToKw pos (keywordEach kws X.env)).all (·.1.isSome) = true := by rfl) (hks : (backToKw pos (keywordEach kws X.env)).filterMap (·.1) = ks := by rfl)
    (hdb : (x == ("__debug__" : Str)) = false := by decide)
    (hpl : ((backTo pos (starEach [] X.env)).any (·.1) || (backToKw pos (keywordEach kws X.env)).any (·.1.isNone)) = false := by rfl) :
    PE X (.Call (.Name x p) [] kws pos) (tCallS n ks.length np ps.length idx sp E tNil tk) := by
  refine ⟨fun pins s σ H Q I h => wpAny_Call_Name_kw (ld_glob I hg hm ?_ hdb)⟩
  refine PySem.W.callWith_KW0 (h₀ := X.base) I.ok.mod.kin hk hall (thn (hkw.run pos pins s σ H _ I h) fun ws s2 ⟨zs, H2, I2, rz, l1, l2, l3, l4, q2⟩ => ⟨I2.kIn, ?_⟩) hpl
  rw [hks]
  exact run_fnS F hr hb (hx σ) I2 .nil rz l1 l2 l3 l4 q2
end
def wCallS (β : Option Addr) (n m np l : Nat) (idx : List Nat) (sp : SpD) (u uk : WA) : WV := fun ρ kq kx => u ρ (fun ds ρ1 => uk ρ1 (fun zs ρ2 => (ds.length = n ∧ zs.length = m ∧ (ds.drop np).length ≤ sizeLine ∧ (pick idx (ds ++ zs)).length = l) ∧ sp β (pick idx (ds ++ zs) ++ [.tup (ds.drop np)]) (hid (fun y => kq y ρ2) (hid0 _)) (hid (fun dx => kx dx ρ2) (hid0 _))) kx) kx
theorem pick_len {α β : Type} : ∀ (idx : List Nat) (xs : List α) (ys : List β), xs.length = ys.length → (pick idx xs).length = (pick idx ys).length
  | [], _, _, _ => rfl
  | i :: idx, xs, ys, h => by
    have ih := pick_len idx xs ys h
    unfold pick at ih ⊢
    cases h1 : xs[i]? with
    | none =>
      have h2 : ys[i]? = none := by
        rw [List.getElem?_eq_none_iff] at h1 ⊢
        omega
      rw [List.filterMap_cons_none h1, List.filterMap_cons_none h2]
      exact ih
    | some a =>
      have hi : i < ys.length := by
        have := (List.getElem?_eq_some_iff.mp h1).1
        omega
      rw [List.filterMap_cons_some h1, List.filterMap_cons_some (List.getElem?_eq_getElem hi), List.length_cons, List.length_cons, ih]
theorem run_callS {K : PySem.W.Frag} {F : Fm} {W : WX} {sp : SpD} {t tk : TA} {u uk : WA} {n m np l : Nat} {idx : List Nat} (h : RunA K F W t u) (h' : RunA K F W tk uk) : RunV K F W (tCallS n m np l idx (spD K sp) (fun σ cls od H => W cls od σ H) t tk) (wCallS F.bag n m np l idx sp u uk) := fun S ρ σ H Q kq kx r hw hk hx =>
  h S ρ σ H _ _ kx r hw (fun S0 ρ0 H0 ds vs g0 rp0 k0 => h' S0 ρ0 σ H0 _ _ kx g0.r k0 (fun S1 ρ1 H1 zs us g1 rz k1 => by
    have rd := rp0.mono g1.ex
    refine ⟨rd.1.trans k1.1.1, rz.1.trans k1.1.2.1, by rw [(reps_drop rd np).1]; exact k1.1.2.2.1, by rw [(reps_pick (rd.append rz) idx).1]; exact k1.1.2.2.2, fun p hp => ?_⟩
    have gl := Go.laid g1.r hp (o := .tup (vs.drop np))
    have eS : Ex S1 (upd S1 p (.tup (vs.drop np))) := Ex.new (g1.r.fz.free hp)
    have rr := (reps_pick (rd.append rz) idx).mono eS
    have rt := (reps_drop rd np).mono eS
    refine ⟨upd S1 p (.tup (vs.drop np)), F.bag, _, _, _, gl.r.fz, fun b hb => (gl.r.bag b hb).1, rr.append (Reps.cons (.tup (SqT.of upd_same) rt.1 rt.2) Reps.nil), k1.2, fun S2 H2 y v r2 sv k2 => ?_, fun S2 H2 dx cls od r2 rx k2 => ?_⟩
    · obtain ⟨s1, n1⟩ := sv.ok gl.r
      exact hk S2 ρ1 H2 y v (g0.trans (g1.trans (gl.trans (Go.call gl.r r2)))) s1 (fun p e hy => g0.up p (g1.up p (gl.up p (n1 p e hy)))) k2
    · have g2 := g1.trans (gl.trans (Go.call gl.r r2))
      exact hx dx ρ1 S2 H2 cls od (g0.ex.trans g2.ex) g2.r rx k2) (hx.mono g0.ex)) hx
/-- a call of a def with a star parameter -/
def fCallS (n m np : Nat) (idx : List Nat) (f : List A → T A) (u uk : Env → T (List A)) : Env → T A := fun env => (u env).bind fun as => (uk env).bind fun zs => if as.length = n ∧ zs.length = m then f (pick idx (as ++ zs) ++ [.tup (as.drop np)]) else .bad
theorem toDs_drop {cm : CM} (xs : List A) (n : Nat) : toDs cm (xs.drop n) = (toDs cm xs).drop n := by rw [toDs_map, toDs_map, List.map_drop]
section
variable {cm : CM} {X : Cx} {F : Fm} {W : WX} {O : List Nat} {k n m np nq : Nat} {f : Addr} {fd : FuncData} {ps ks : List Str} {pv : Str} {ow : Bool} {ff : List A → T A} {x : Str} {p pos : Pos} {e : Expr} {es : List Expr} {kws : List Keyword} {idx : List Nat} {u uk : Env → T (List A)}
theorem callS_w {env : Env} {kq : SV → DSt → Prop} {kx : KX} (hnp : idx.length + 1 = nq) (hpl' : ps.length = idx.length) (hn : n < big) (hall' : (idx.all fun i => decide (i < n + m)) = true) (hw : (fCallS n m np idx ff u uk env).wp F.bag (fun a => kq (rv cm ow a) (mix cm O env)) (fun x => kx (toX cm x) (mix cm O env))) :
    wCallS F.bag n m np ps.length idx (spF cm nq ow ff) (cL cm F.bag O u) (cL cm F.bag O uk) (mix cm O env) kq kx := by
  unfold fCallS at hw
  rw [T.wp_bind] at hw
  refine ⟨env, rfl, T.wp_mono hw (fun as k1 => ?_) fun x k => k⟩
  rw [T.wp_bind] at k1
  refine ⟨env, rfl, T.wp_mono k1 (fun zs k2 => ?_) fun x k => k⟩
  split at k2
  · rename_i hl
    have key : ∀ (idx : List Nat) (xs : List A), (idx.all fun i => decide (i < xs.length)) = true → (pick idx xs).length = idx.length := fun idx xs => by
      induction idx with
      | nil => exact fun _ => rfl
      | cons i idx ih =>
        intro h
        rw [List.all_cons, Bool.and_eq_true] at h
        have hi := of_decide_eq_true h.1
        unfold pick
        rw [List.filterMap_cons_some (List.getElem?_eq_getElem hi), List.length_cons, List.length_cons]
        exact congrArg Nat.succ (ih h.2)
    have hk : (pick idx (as ++ zs)).length = idx.length := key idx _ (by rw [List.length_append, hl.1, hl.2]; exact hall')
    refine ⟨⟨by rw [toDs_len]; exact hl.1, by rw [toDs_len]; exact hl.2, ?_, ?_⟩, pick idx (as ++ zs) ++ [.tup (as.drop np)], ?_, ?_, k2⟩
    · rw [List.length_drop, toDs_len, hl.1, sizeLine_eq]
      have : (10000000 : Nat) ≤ 16777216 := by decide
      have hn : n < 10000000 := hn
      omega
    · rw [← toDs_app, ← toDs_pick, toDs_len, hk, hpl']
    · rw [List.length_append, hk]
      exact hnp
    · rw [toDs_app, toDs_pick, toDs_app, toDs_cons, toD_tup, toDs_drop]
      rfl
  · exact k2.elim
theorem fv_callS (G : FnV X.prog X.w X.K X.mg X.base (L2.CX X.prog X.w) k f fd (ps ++ [pv]) (spD X.K (spF cm nq ow ff))) (hr : Room k X.A) (hm : X.mg x = some (.ref f)) (hk : PySem.W.keepIn X.K (.ref f) = true) (hb : BdS fd ps pv n np ks idx) (hx : Snk X W) (ha : FA cm X F W O (e :: es) u) (hkw : FK cm X F W O kws uk)
    (hnp : idx.length + 1 = nq := by rfl) (hml : ks.length = m := by rfl) (hpl' : ps.length = idx.length := by rfl) (hn : n < big := by decide) (hall' : (idx.all fun i => decide (i < n + m)) = true := by decide) (hg : Gl X x := by rfl) (hall : (backToKw pos (keywordEach kws X.env)).all (·.1.isSome) = true := by rfl) (hks : (backToKw pos (keywordEach kws X.env)).filterMap (·.1) = ks := by rfl) (hdb : (x == ("__debug__" : Str)) = false := by decide)
    (he : starEach (e :: es) X.env = (false, eval e X.env) :: starEach es X.env := by rfl) (hpl : ((backTo pos (starEach (e :: es) X.env)).any (·.1) || (backToKw pos (keywordEach kws X.env)).any (·.1.isNone)) = false := by rfl) :
    FV cm X F W O ow (.Call (.Name x p) (e :: es) kws pos) (fCallS n m np idx ff u uk) := by
  subst hml
  obtain ⟨t, q1, q⟩ := ha.ex
  obtain ⟨t2, q2, q'⟩ := hkw.ex
  refine DV_imp (w := wCallS F.bag n ks.length np ps.length idx (spF cm nq ow ff) (cL cm F.bag O u) (cL cm F.bag O uk)) ⟨_, pe_callS (E := fun σ cls od H => W cls od σ H) G hr hg hm hk hb hx q1 q2 hall hks hdb he hpl, run_callS q q'⟩ fun ρ kq kx hw => ?_
  obtain ⟨env, rfl, hw⟩ := hw
  exact callS_w hnp hpl' hn hall' hw
theorem fv_callS0 (G : FnV X.prog X.w X.K X.mg X.base (L2.CX X.prog X.w) k f fd (ps ++ [pv]) (spD X.K (spF cm nq ow ff))) (hr : Room k X.A) (hm : X.mg x = some (.ref f)) (hk : PySem.W.keepIn X.K (.ref f) = true) (hb : BdS fd ps pv n np ks idx) (hx : Snk X W) (hkw : FK cm X F W O kws uk)
    (hnp : idx.length + 1 = nq := by rfl) (hml : ks.length = m := by rfl) (hpl' : ps.length = idx.length := by rfl) (hn : n < big := by decide) (hall' : (idx.all fun i => decide (i < n + m)) = true := by decide) (hg : Gl X x := by rfl) (hall : (backToKw pos (keywordEach kws X.env)).all (·.1.isSome) = true := by rfl) (hks : (backToKw pos (keywordEach kws X.env)).filterMap (·.1) = ks := by rfl) (hdb : (x == ("__debug__" : Str)) = false := by decide)
    (hpl : ((backTo pos (starEach [] X.env)).any (·.1) || (backToKw pos (keywordEach kws X.env)).any (·.1.isNone)) = false := by rfl) :
    FV cm X F W O ow (.Call (.Name x p) [] kws pos) (fCallS n m np idx ff fNil uk) := by
  subst hml
  obtain ⟨t2, q2, q'⟩ := hkw.ex
  refine DV_imp (w := wCallS F.bag n ks.length np ps.length idx (spF cm nq ow ff) (cL cm F.bag O fNil) (cL cm F.bag O uk)) ⟨_, pe_callS0 (E := fun σ cls od H => W cls od σ H) G hr hg hm hk hb hx q2 hall hks hdb hpl, run_callS (t := tNil) (fun S ρ σ H Q kq kx rr hw hk hx => ?_) q'⟩ fun ρ kq kx hw => ?_
  · obtain ⟨env, rfl, hw⟩ := hw
    exact hk S _ H [] [] (Go.refl rr) Reps.nil hw
  · obtain ⟨env, rfl, hw⟩ := hw
    exact callS_w hnp hpl' hn hall' hw
@[simp] theorem e_CallS (env : Env) : fCallS n m np idx ff u uk env = (u env).bind fun as => (uk env).bind fun zs => if as.length = n ∧ zs.length = m then ff (pick idx (as ++ zs) ++ [.tup (as.drop np)]) else .bad := rfl
end
end PF

/-! PF, part o: len(set(xs)), xs texts that differ. -/
namespace PF
open PySem PySem.Spec PyProof.Rows L2 PD
/-- the i-th text is not among those ahead of it -/
theorem new_text {xs : List Str} (hd : xs.Nodup) {i : Nat} (hi : i < xs.length) (k : Str) : ((xs.take i).any (· == k) || decide (k = xs.getD i Str.empty)) = (xs.take (i + 1)).any (· == k) ∧ (xs.take i).any (· == xs.getD i Str.empty) = false := by
  have e : xs.getD i Str.empty = xs[i] := by rw [List.getD_eq_getElem?_getD, List.getElem?_eq_getElem hi]; rfl
  rw [e]
  refine ⟨?_, ?_⟩
  · rw [List.take_add_one, List.getElem?_eq_getElem hi, List.any_append]
    congr 1
    show decide (k = xs[i]) = ((xs[i] == k) || false)
    rw [Bool.or_false, Bool.eq_iff_iff, decide_eq_true_eq, beq_iff_eq]
    exact ⟨Eq.symm, Eq.symm⟩
  · rw [Bool.eq_false_iff]
    intro h
    obtain ⟨y, hy, ey⟩ := List.any_eq_true.mp h
    rw [beq_iff_eq] at ey
    subst ey
    obtain ⟨j, hj, ej⟩ := List.mem_take_iff_getElem.mp hy
    exact List.pairwise_iff_getElem.mp hd j i (by omega) hi (by omega) ej
section
variable {prog : Program} {w : World} {A : Around} {R : Result → Shared → Prop} {I : Addr} {fp wr : List Addr} {G : Array GenState → Array GenState → Prop} {n : Nat} {P : Nat → Value → Prop} {St : Nat → Shared → Prop}
/-- the set has the first i texts; the rest come to it -/
theorem texts_come (W : WalksS prog w A.in1 I fp wr G n P St) (a : Addr) (ha : a ∉ fp) (xs : List Str) (hn : xs.length = n) (hd : xs.Nodup) (hb : n + 1 < scanBound) (hv : ∀ i v, P i v → ∃ t, v = .str (xs.getD i Str.empty) t) (m : Nat) : ∀ (i : Nat) (s : Shared), i + m = n → St i s →
    s.heap.SetOf (PySem.strKind prog w) a (fun k => (xs.take i).any (· == k)) i → (∀ s', Moved (a :: wr) G s s' → s'.heap.SetOf (PySem.strKind prog w) a (fun k => (xs.take n).any (· == k)) n → R (.ok (.ret .none)) s') → codeAny (model prog w) A (.builtin "set.update.loop" ⟨[.ref a, .ref I], []⟩) R s := by
  have aw : a ∉ wr := fun h => ha (W.sub _ h)
  have up : ∀ b ∈ wr, b ∈ a :: wr := fun b h => .tail _ h
  have stay : ∀ {i s s'}, Moved wr G s s' → s.heap.SetOf (PySem.strKind prog w) a (fun k => (xs.take i).any (· == k)) i → s'.heap.SetOf (PySem.strKind prog w) a (fun k => (xs.take i).any (· == k)) i := fun hm ⟨o, es, ep, t, ho, z⟩ => ⟨o, es, ep, t, hm.heap a _ aw ho, z⟩
  induction m with
  | zero =>
    intro i s e hst hS hR
    obtain rfl : i = n := e
    refine codeAny_builtin (F.entry_set_update_loop) ?_
    rw [Around.under_plainId (F.plain_set_update_loop) _]
    exact (show wpAny _ A.in1 (pyNext (.ref I) >>= _) _ _ s from wpAny_bind (W.done s _ _ hst fun s' hm => show wpAny _ A.in1 (ret Value.none) _ _ s' from wpAny_pure (hR s' (hm.mono up) (stay hm hS))))
  | succ m ih =>
    intro i s e hst hS hR
    have hi : i < n := by omega
    refine codeAny_builtin (F.entry_set_update_loop) ?_
    rw [Around.under_plainId (F.plain_set_update_loop) _]
    refine (show wpAny _ A.in1 (pyNext (.ref I) >>= _) _ _ s from wpAny_bind (W.item i s _ _ hi hst fun v s1 hP hst1 hm => ?_))
    obtain ⟨t, rfl⟩ := hv i v hP
    have hS1 := stay hm hS
    refine (show wpAny _ A.in1 (holding [Value.str (xs.getD i Str.empty) t] (setAdd a (.str (xs.getD i Str.empty) t)) >>= _) _ _ s1 from wpAny_bind (wpAny_holding ?_))
    unfold setAdd
    refine wpAny_holding (wpAny_bind ((PySem.strKind prog w).pyHash (k := xs.getD i Str.empty) (strKind_is _ _ _ _) ?_))
    refine wpAny_setAddHashed_of (s := { s1 with toks := s1.toks + 1 }) (knd := PySem.strKind prog w) (strKind_is _ _ _ _) rfl hS1 (by omega) fun h2 same hS2 => ?_
    have hS3 : h2.SetOf (PySem.strKind prog w) a (fun k => (xs.take (i + 1)).any (· == k)) (i + 1) := SetOf_congr hS2 (fun k => (new_text hd (by omega) k).1) (by rw [(new_text hd (by omega) Str.empty).2]; rfl)
    refine wpAny_pure ⟨plainId_quiet (F.plain_set_update_loop) _, ih (i + 1) _ (by omega) (W.frame _ s1 _ _ hst1 (Nat.le_succ _) fun b hb o eo => by rw [same.2 b fun z => ha (z ▸ hb)]; exact eo) hS3 fun s3 hm3 hS4 => hR s3 (Moved.trans W.gtrans ((hm.mono up).then_heap (Nat.le_succ _) fun b o hb eo => by rw [same.2 b fun z => hb (z ▸ .head _)]; exact eo) hm3) hS4⟩
end

/-- a new set, as it lies at first -/
abbrev set0 (led : Bool) : Obj := { cls := .type "set", dict := none, data := .set #[] 0 (.fresh 0 0 led) }
section
variable {prog : Program} {w : World} {A : Around} {E : Value → Shared → Prop} {s : Shared}
/-- what set(l) has come to: the set lies behind the heap that was, which stays -/
def SetUp (prog : Program) (w : World) (s : Shared) (xs : List Str) (s2 : Shared) : Prop := ∃ h2 tk, s2 = { s with heap := h2, toks := tk } ∧ h2.SetOf (PySem.strKind prog w) s.heap.objs.size (fun k => (xs.take xs.length).any (· == k)) xs.length ∧ ∀ b o, b < s.heap.objs.size → s.heap.get? b = some o → h2.get? b = some o
set_option maxHeartbeats 8000000 in
theorem call_set_texts {l : Addr} {items : Array Value} {xs : List Str} {Q : Value → Shared → Prop} (hh : A.handled = none) (hl : s.heap.IsList l items) (hi : StrsAre items.toList xs) (hd : xs.Nodup) (hb : xs.length + 1 < scanBound)
    (h : ∀ s2, SetUp prog w s xs s2 → Q (.ref s.heap.objs.size) s2) : wpAny (model prog w) A (call (.type "set") [.ref l]) Q E s := by
  obtain ⟨mc, mt, hmro⟩ := PySem.F.called_set.mro
  have k1 := PySem.F.called_set.made
  have k2 := PySem.F.called_set.sub
  refine wpAny_call (codeAny_of_tree (show wpAny _ _ (callAny (.type "set") _) _ _ _ from wpAny_pure ⟨Code.quiet_builtin _ (by decide +kernel), codeAny_builtin PySem.F.entry_type_call ?_⟩))
  rw [Around.under_plain (weight_type_call_type "set" [.ref l] []) rfl]
  have k3 := PySem.F.called_set.notType
  have k4 := PySem.F.called_set.canCreate
  have k5 := PySem.F.typeCall_set_1 (.ref l)
  repeat (any_goals (first | assumption | wp_step))
  refine codeAny_mono (code_set_new_1 (.ref l) (E := E) (Q₁ := fun v s1 => ∃ led : Bool, v = .ref s.heap.objs.size ∧ s1 = { s with heap := s.heap.push (set0 led) }) fun led => ⟨led, rfl, rfl⟩) fun r s1 hr => ?_
  rcases r with e | fl
  · exact hr
  cases fl with
  | ret v =>
    obtain ⟨led, rfl, rfl⟩ := hr
    have hS : (s.heap.push (set0 led)).get? s.heap.objs.size = some (set0 led) := Heap.get?_push_size _ rfl
    have hT : Shared.TypeIs { s with heap := s.heap.push (set0 led) } (.ref s.heap.objs.size) "set" := ⟨_, hS, rfl⟩
    have k6 := PySem.F.called_set.init.lookup
    have k7 := PySem.F.called_set.init.bind (.ref s.heap.objs.size)
    repeat (any_goals (first | assumption | wp_step))
    refine codeAny_mono (codeAny_call_builtin (R := wants (fun r s2 => r = .none ∧ SetUp prog w s xs s2) E) PySem.F.called_set.init.plain PySem.F.entry_set_init (check_set_init_1 hT ?_)) fun r s2 hr => ?_
    · obtain ⟨⟨oc, od, odt, osl⟩, ho, hc, nl, hdt⟩ := hl
      simp only at hc hdt
      subst hc hdt
      have ho2 : (s.heap.push (set0 led)).get? l = some { cls := .type "list", dict := od, data := .seq items nl, slots := osl } := Heap.get?_push_of_some _ ho
      have q1 := PySem.F.sub_list_set
      have q2 := PySem.F.sub_list_frozenset
      have q3 : (Value.type "list" == Value.type "dict") = false := by decide
      have hl2 : (s.heap.push (set0 led)).IsList l items := ⟨_, ho2, rfl, nl, rfl⟩
      unfold Builtin.«set.__init__» noKeywords Builtin.Frozenset.updateFrom
      generalize hPI : pyIter = PI
      wp_walk
      subst hPI
      refine wpAny_pyIter_list hl2 (wpAny_bind (wpAny_runValue ?_))
      have lt : l < s.heap.objs.size := Heap.lt_size ho
      have sz : (s.heap.push (set0 led)).objs.size = s.heap.objs.size + 1 := Heap.size_push _ _
      have hn : xs.length = items.size := by rw [← StrsAre.len_eq hi, Array.length_toList]
      have out : s.heap.objs.size ∉ [(s.heap.push (set0 led)).objs.size, l] := by
        rw [sz, List.mem_cons, List.mem_singleton]
        exact fun z => z.elim (fun e => Nat.ne_of_lt (Nat.lt_succ_self _) e) fun e => Nat.ne_of_gt lt e
      have lne : l ≠ (s.heap.push (set0 led)).objs.size := by
        rw [sz]
        exact Nat.ne_of_lt (Nat.lt_succ_of_lt lt)
      refine texts_come ((Walks.list (by simp [hh]) _ l lne items).toS) s.heap.objs.size out xs hn hd (by rw [← hn]; exact hb) (fun i v hv => SS.strs_at hi i v (by rw [Array.getElem?_toList]; exact hv)) items.size 0 _ (Nat.zero_add _) ⟨⟨_, Heap.get?_push_size _ rfl, rfl, rfl⟩, hl2.push _⟩ ?_ ?_
      · exact SetOf_congr ((PyProof.Rows.setObjOf_fresh (knd := PySem.strKind prog w) led).setOf (Heap.get?_push_of_some _ hS) (by decide)) (fun _ => rfl) rfl
      · intro s2 hm hS2
        obtain ⟨h2, g2, d2, t2, o2⟩ := s2
        obtain rfl : g2 = s.gens := hm.gens
        obtain rfl : d2 = s.drawn := hm.drawn
        obtain rfl : o2 = s.os := hm.os
        refine (show wpAny _ _ _ _ _ _ from wpAny_pure (show wpAny _ _ (ret Value.none) _ _ _ from wpAny_pure ⟨rfl, h2, t2, rfl, by rw [hn]; exact hS2, fun b o hlt e => ?_⟩))
        refine hm.heap b o (fun z => ?_) (Heap.get?_push_of_some _ (Heap.get?_push_of_some _ e))
        rw [sz, List.mem_cons, List.mem_singleton] at z
        exact z.elim (fun e => Nat.ne_of_lt hlt e) fun e => Nat.ne_of_lt (Nat.lt_succ_of_lt hlt) e
    · rcases r with e | fl
      · exact hr
      cases fl with
      | ret v =>
        obtain ⟨rfl, up⟩ := hr
        have up' := up
        obtain ⟨h2, tk, rfl, hS2, kp⟩ := up'
        repeat (any_goals (first | assumption | wp_step))
        exact h _ up
      | _ => exact hr.elim
  | _ => exact hr.elim
end
end PF

/-! PF, part p: len(set(xs)) as a function; methods of a text without arguments. -/
namespace PF
open PySem PySem.Spec PyProof.Rows L2 PD
def tLenSetT (K : PySem.W.Frag) (ta : TE) : TE := fun σ H Q => ta σ H fun x H1 => ∃ (l : Addr) (xs : List Str), x = V.ref l ∧ SqL K H1 l (xs.map V.str) ∧ xs.Nodup ∧ xs.length ≤ 4000 ∧ Q (.int (xs.length : Nat)) H1
def textsF : List A → Option (List (List Nat))
  | [] => some []
  | .str l :: xs => (textsF xs).map (l :: ·)
  | _ => none
theorem textsF_eq : ∀ {xs : List A} {ts : List (List Nat)}, textsF xs = some ts → xs = ts.map A.str
  | [], ts, h => by
    cases h
    rfl
  | .str l :: xs, ts, h => by
    unfold textsF at h
    obtain ⟨us, h1, h2⟩ := Option.map_eq_some_iff.mp h
    subst h2
    rw [textsF_eq h1]
    rfl
  | .non :: _, _, h => by cases h
  | .bl _ :: _, _, h => by cases h
  | .int _ :: _, _, h => by cases h
  | .tup _ :: _, _, h => by cases h
  | .lst _ :: _, _, h => by cases h
  | .ty _ :: _, _, h => by cases h
  | .ref _ :: _, _, h => by cases h
  | .dic _ _ :: _, _, h => by cases h
  | .obj _ _ _ :: _, _, h => by cases h
theorem textsF_map : ∀ ts : List (List Nat), textsF (ts.map A.str) = some ts
  | [] => rfl
  | t :: ts => by
    rw [List.map_cons]
    unfold textsF
    rw [textsF_map ts]
    rfl
def gLenSet : G1
  | .lst xs => match textsF xs with
    | some ts => if ts.Nodup ∧ ts.length ≤ 4000 then some (.int ts.length) else none
    | none => none
  | _ => none
def fM0 (g : List Nat → A) (f : Env → T A) : Env → T A := fun env => (f env).bind fun a => match a with
  | .str l => .ret (g l)
  | _ => .bad
section
variable {cm : CM} {X : Cx} {F : Fm} {W : WX} {O : List Nat} {e a : Expr} {f : Env → T A} {pos p apos : Pos}
theorem pe_lenSetT {ta : TE} {p2 q : Pos} (hc : X.calm = true) (hm : X.mg "len" = none) (hm2 : X.mg "set" = none) (ha : PE X a ta) (hg : Gl X "len" := by rfl) (hg2 : Gl X "set" := by rfl)
    (na : starEach [a] X.env = (false, eval a X.env) :: starEach [] X.env := by rfl) : PE X (.Call (.Name "len" p) [.Call (.Name "set" p2) [a] [] q] [] pos) (tLenSetT X.K ta) := by
  refine ⟨fun pins s σ H Q I h => Call_ (ld_blt I hg hm boot_len (PyProof.Rows.callWith_builtin1 (PyProof.Rows.args_cons ?_ rfl) rfl rfl))⟩
  refine Call_ (ld_blt I hg2 hm2 boot_set (PyProof.Rows.callWith_type1 (PyProof.Rows.args_cons (thn (ha.run pins s σ H _ I h) fun v s1 ⟨x, H1, I1, rv, k⟩ => PyProof.Rows.args_nil ?_) na) na rfl))
  obtain ⟨l, xs, rfl, hq, nd, hl, k⟩ := k
  cases rv
  obtain ⟨its, r, pl, _⟩ := I1.list hq
  refine call_set_texts (I1.ok.hd hc) pl.isList (xs := xs) (by simpa using strsAre_of r) nd (by unfold scanBound; omega) fun s2 ⟨h2, tk, e2, hS, kp⟩ => PyProof.Rows.args_nil ?_
  subst e2
  obtain ⟨o, es, ep, t, ho, hex, hd, _, _, _, hf, hn⟩ := hS
  have I2 : Inv X pins σ H1 { s1 with heap := h2, toks := tk } := I1.kept fun b o z => kp b o (Heap.lt_size z) z
  exact call_len_set ho hex hd hf (by rw [hn]; omega) ⟨.int xs.length, H1, I2.tok _, ⟨_, by rw [hn]⟩, k⟩
theorem fe_lenSet {p2 q : Pos} (hc : X.calm = true) (hm : X.mg "len" = none) (hm2 : X.mg "set" = none) (h : FP cm X F W O a f) (hg : Gl X "len" := by rfl) (hg2 : Gl X "set" := by rfl)
    (na : starEach [a] X.env = (false, eval a X.env) :: starEach [] X.env := by rfl) : FE cm X F W O (.Call (.Name "len" p) [.Call (.Name "set" p2) [a] [] q] [] pos) (fG1 gLenSet f) := by
  obtain ⟨t, p1, q1⟩ := h.ex
  refine ⟨_, pe_lenSetT hc hm hm2 p1 hg hg2 na, fun S ρ σ H Q kq kx r hw hk hx => ?_⟩
  obtain ⟨env, rfl, hw⟩ := hw
  unfold fG1 at hw
  rw [T.wp_bind] at hw
  refine q1 S _ σ H _ (fun d ρ' => ∃ ts : List (List Nat), d = toD cm (.lst (ts.map A.str)) ∧ (ts.Nodup ∧ ts.length ≤ 4000) ∧ kq (.int ts.length) ρ') kx r ⟨env, rfl, T.wp_mono hw (fun a k => ?_) fun _ k => k⟩ (fun S1 ρ1 H1 d v g1 rp k => ?_) hx
  · obtain ⟨c, e, k⟩ := T.wp_opt k
    unfold gLenSet at e
    split at e
    · split at e
      · rename_i xs ts hts
        split at e
        · rename_i hn
          cases e
          exact ⟨ts, by rw [textsF_eq hts], hn, k⟩
        · cases e
      · cases e
    · cases e
  · obtain ⟨ts, rfl, hn, k⟩ := k
    rw [toD_lst] at rp
    obtain ⟨b, vs, rfl, h1, h2⟩ := rp.l g1.r.fz
    have e : toDs cm (ts.map A.str) = (ts.map tx).map D.str := by
      rw [toDs_map, List.map_map, List.map_map]
      rfl
    rw [e] at h2
    rw [h2.sts] at h1
    refine ⟨b, ts.map tx, rfl, SqL.of h1, ?_, by rw [List.length_map]; exact hn.2, hk S1 ρ1 H1 (.int ts.length) _ g1 (by rw [List.length_map]; exact .int _) k⟩
    exact List.Pairwise.map tx (fun x y ne z => ne (tx_inj.mp z)) hn.1
theorem fe_m0 {id : String} {name : Str} {g : Str → V} {gg : List Nat → A} (slot : Slot "str" name id) (ty : typeOf (.builtin id) = pure (.type "method_descriptor")) (rule : MtR X id (fun x xs H Q => ∃ a, x = .str a ∧ xs = [] ∧ True ∧ Q (g a) H)) (hg : ∀ l (S : Hp), Rep X.K S (toD cm (gg l)) (g (tx l))) (h : FE cm X F W O e f)
    (hbase : attributeBase e name X.env (eval e X.env) = eval e X.env := by rfl) (hline : (apos.endLine == pos.line) = true := by rfl) : FE cm X F W O (.Call (.Attribute e name apos) [] [] pos) (fM0 gg f) := by
  obtain ⟨t, p1, q1⟩ := h.ex
  refine ⟨_, pe_bm0 PySem.F.plainAttrs_str slot ty rule p1 hbase hline, fun S ρ σ H Q kq kx r hw hk hx => ?_⟩
  obtain ⟨env, rfl, hw⟩ := hw
  unfold fM0 at hw
  rw [T.wp_bind] at hw
  refine q1 S _ σ H _ (fun d ρ' => ∃ l, d = .str (tx l) ∧ kq (toD cm (gg l)) ρ') kx r ⟨env, rfl, T.wp_mono hw (fun a k => ?_) fun _ k => k⟩ (fun S1 ρ1 H1 d v g1 rp k => ?_) hx
  · cases a with
    | str l => exact ⟨l, rfl, k⟩
    | _ => exact k.elim
  · obtain ⟨l, rfl, k⟩ := k
    cases rp
    exact ⟨rfl, _, rfl, rfl, trivial, hk S1 ρ1 H1 _ _ g1 (hg l S1) k⟩
end
@[simp] theorem e_M0 (g : List Nat → A) (f : Env → T A) (env : Env) : fM0 g f env = (f env).bind fun a => match a with | .str l => .ret (g l) | _ => .bad := rfl
/-! ### letters -/
def alphaB (l : List Nat) : Bool := Txt.isalpha (tx l)
def lowerB (l : List Nat) : Bool := Txt.islower (tx l)
theorem fe_isalpha {cm : CM} {X : Cx} {F : Fm} {W : WX} {O : List Nat} {e : Expr} {f : Env → T A} {pos apos : Pos} (h : FE cm X F W O e f) (hbase : attributeBase e "isalpha" X.env (eval e X.env) = eval e X.env := by rfl) (hline : (apos.endLine == pos.line) = true := by rfl) : FE cm X F W O (.Call (.Attribute e "isalpha" apos) [] [] pos) (fM0 (fun l => .bl (alphaB l)) f) :=
  fe_m0 PySem.F.slot_str_isalpha PySem.F.type_str_isalpha mt_isalpha (fun l S => .bl _) h hbase hline
theorem fe_islower {cm : CM} {X : Cx} {F : Fm} {W : WX} {O : List Nat} {e : Expr} {f : Env → T A} {pos apos : Pos} (h : FE cm X F W O e f) (hbase : attributeBase e "islower" X.env (eval e X.env) = eval e X.env := by rfl) (hline : (apos.endLine == pos.line) = true := by rfl) : FE cm X F W O (.Call (.Attribute e "islower" apos) [] [] pos) (fM0 (fun l => .bl (lowerB l)) f) :=
  fe_m0 PySem.F.slot_str_islower PySem.F.type_str_islower mt_islower (fun l S => .bl _) h hbase hline
theorem low_ok : ∀ c ∈ low, Unicode.isAlpha c = true ∧ Unicode.isLower c = true ∧ (Unicode.isUpper c || Unicode.isTitle c) = false := by decide +kernel
theorem alpha_low {l : List Nat} (h0 : l ≠ []) (h : ∀ c ∈ l, c ∈ low) : alphaB l = true := by
  unfold alphaB Txt.isalpha
  rw [Bool.and_eq_true]
  refine ⟨?_, ?_⟩
  · rw [decide_eq_true_eq]
    cases l with
    | nil => exact absurd rfl h0
    | cons a l => exact Nat.succ_pos _
  · show l.toArray.all Unicode.isAlpha = true
    rw [List.all_toArray, List.all_eq_true]
    exact fun c hc => (low_ok c (h c hc)).1
theorem lower_low {l : List Nat} (h0 : l ≠ []) (h : ∀ c ∈ l, c ∈ low) : lowerB l = true := by
  unfold lowerB Txt.islower
  rw [Bool.and_eq_true, Bool.not_eq_true']
  refine ⟨?_, ?_⟩
  · show l.toArray.any Unicode.isLower = true
    rw [List.any_toArray, List.any_eq_true]
    cases l with
    | nil => exact absurd rfl h0
    | cons a l => exact ⟨a, .head _, (low_ok a (h a (.head _))).2.1⟩
  · show (l.toArray.any fun c => Unicode.isUpper c || Unicode.isTitle c) = false
    rw [List.any_toArray, List.any_eq_false]
    exact fun c hc => by rw [(low_ok c (h c hc)).2.2]; exact Bool.false_ne_true
/-! ### x += an int; loops -/
abbrev oAddI : O2 := oI fun i j => .int (i + j)
abbrev gAddI : G2 := gI fun i j => .int (i + j)
theorem f_addI : OpF oAddI gAddI := opF_I fun _ _ _ => rfl
theorem while_no {c : Env → T Bool} {bd : Env → T Ct} {n : Nat} {env : Env} (h : c env = .ret false) : fWhile c bd (n + 1) env = .ret (.nx env) := by
  unfold fWhile
  rw [h]
  rfl
theorem while_go {c : Env → T Bool} {bd : Env → T Ct} {n : Nat} {env e : Env} (h : c env = .ret true) (hb : bd env = .ret (.nx e)) : fWhile c bd (n + 1) env = fWhile c bd n e := by
  show ((c env).lift env _) = _
  rw [h, lift_ret, if_pos rfl, hb]
  rfl
end PF

namespace K03
open PySem PySem.Spec PyProof.Rows L2 PD PF
/-- slots: 0 at 1 word 2 left -/
def b_word_at : PF.Env → T Ct :=
    fSeq (fPar 1 2 (fC (.str [])) (fOp gAdd (fPair (fVar 0) (fC (.int 1)))))
    (fSeq (fWhile (fTst (fOp gGt (fPair (fVar 2) (fC (.int 0)))))
    (fSeq (fAug 2 gSub (fC (.int 1)))
    (fSeq (fAsg 1 (fOp gAdd (fPair (fOp gIx (fPair (fC (.str low)) (fOp gMod (fPair (fVar 2) (fC (.int 26)))))) (fVar 1))))
    (fSeq (fAug 2 gDiv (fC (.int 26)))
    (fNext)))) 10)
    (fSeq (fRet (fVar 1))
    (fNext)))
def f_word_at : List A → T A := fdef 3 b_word_at

/-- slots: 0 many 1 taken 2 found 3 at 4 word -/
def b_fresh_things : PF.Env → T Ct :=
    fSeq (fPar 2 3 (fVal (fLst (fNil))) (fC (.int 0)))
    (fSeq (fWhile (fTst (fOp gLt (fPair (fG1 gLen (fVar 2)) (fVar 0))))
    (fSeq (fAsg 4 (fCallK 1 0 [0] [] f_word_at (fCons (fVar 3) (fNil)) (fNil)))
    (fSeq (fIfS (fTst (fOp gNi (fPair (fVar 4) (fVar 1)))) (fSeq (fApp 2 (fVar 4))
    (fNext)) (fNext))
    (fSeq (fAug 3 gAddI (fC (.int 1)))
    (fNext)))) 100000)
    (fSeq (fRet (fVar 2))
    (fNext)))
def f_fresh_things : List A → T A := fdef 5 b_fresh_things

/-- slots: 0 _law_bag_here 1 _law_some -/
def b__law_of : PF.Env → T Ct :=
    fSeq (fRet (fOp gIx (fPair (fVar 1) (fCallK 2 0 [0, 1] [] fDraw (fCons (fVar 0) (fCons (fG1 gLen (fVar 1)) (fNil))) (fNil)))))
    (fNext)
def f__law_of : List A → T A := fdef 2 b__law_of

/-- slots: 0 _law_bag_here 1 _law_many_y 2 _law_letters 3 _law_stem 4 _law_at 5 _law_first 6 _law_k -/
def b__law_names : PF.Env → T Ct :=
    fSeq (fAsg 2 (fC (.str low)))
    (fSeq (fAsg 3 (fM1 gJoin (fC (.str [])) (fVal (fLc (fRange (fCallK 2 0 [0, 1] [] f__law_of (fCons (fVar 0) (fCons (fVal (fLst (fCons (fC (.int 0)) (fCons (fC (.int 0)) (fCons (fC (.int 1)) (fCons (fC (.int 5)) (fCons (fC (.int 7)) (fNil)))))))) (fNil))) (fNil))) (tName 6) (fYes) (fCallK 2 0 [0, 1] [] f__law_of (fCons (fVar 0) (fCons (fVar 2) (fNil))) (fNil)) [6]))))
    (fSeq (fAsgT (fTup (fCons (fCallK 2 0 [0, 1] [] fDraw (fCons (fVar 0) (fCons (fOp gAdd (fPair (fG1 gLen (fVar 3)) (fC (.int 1)))) (fNil))) (fNil)) (fCons (fCallK 2 0 [0, 1] [] fDraw (fCons (fVar 0) (fCons (fC (.int 26)) (fNil))) (fNil)) (fNil)))) (tTup 2 (tConss (tName 4) (tConss (tName 5) (tNils)))))
    (fSeq (fRet (fVal (fLc (fRange (fVar 1)) (tName 6) (fYes) (fOp gAdd (fPair (fOp gAdd (fPair (fSl (fTri (fVar 3) fNone (fPart (fVar 4)))) (fOp gIx (fPair (fVar 2) (fOp gMod (fPair (fG1 gInt (fOp gAdd (fPair (fVar 5) (fOp gMul (fPair (fC (.int 5)) (fVar 6)))))) (fC (.int 26)))))))) (fSl (fTri (fVar 3) (fPart (fVar 4)) fNone)))) [6])))
    (fNext))))
def f__law_names : List A → T A := fdef 7 b__law_names

/-- slots: 0 _law_script 1 _law_bag_here 2 _law_many_z 3 _law_names_here 4 _law_plain 5 _law_few 6 _law_found 7 _law_gone 8 _law_told 9 _law_lost 10 _law_one -/
def b_law : PF.Env → T Ct :=
    fSeq (fAsg 2 (fIf (fTst (fOp gEq (fPair (fCallK 2 0 [0, 1] [] fDraw (fCons (fVar 1) (fCons (fC (.int 5)) (fNil))) (fNil)) (fC (.int 0))))) (fCallK 2 0 [0, 1] [] fDraw (fCons (fVar 1) (fCons (fC (.int 901)) (fNil))) (fNil)) (fCallK 2 0 [0, 1] [] fDraw (fCons (fVar 1) (fCons (fC (.int 41)) (fNil))) (fNil))))
    (fSeq (fAsg 3 (fCallK 2 0 [0, 1] [] f__law_names (fCons (fVar 1) (fCons (fC (.int 3)) (fNil))) (fNil)))
    (fSeq (fAsg 4 (fCallS 1 0 1 [0] f_fresh_things (fCons (fVar 2) (fNil)) (fNil)))
    (fSeq (fAsg 5 (fVal (fOpL gCat (fPair (fVal (fSlL (fTri (fVar 4) fNone (fPart (fC (.int 1)))))) (fVal (fSlL (fTri (fVar 3) fNone (fPart (fC (.int 1))))))))))
    (fSeq (fAsg 6 (fVal (fLst (fCons (fVar 4) (fCons (fCallS 0 1 1 [0] f_fresh_things (fNil) (fCons (fVar 2) (fNil))) (fCons (fCallS 2 0 1 [0] f_fresh_things (fCons (fVar 2) (fCons (fOp gIx (fPair (fVar 3) (fC (.int 0)))) (fNil))) (fNil)) (fCons (fCallS 4 0 1 [0] f_fresh_things (fCons (fVar 2) (fCons (fOp gIx (fPair (fVar 3) (fC (.int 0)))) (fCons (fOp gIx (fPair (fVar 3) (fC (.int 1)))) (fCons (fOp gIx (fPair (fVar 3) (fC (.int 2)))) (fNil))))) (fNil)) (fNil))))))))
    (fSeq (fAsg 7 (fVal (fLst (fCons (fVal (fLst (fNil))) (fCons (fVal (fLst (fNil))) (fCons (fVal (fSlL (fTri (fVar 3) fNone (fPart (fC (.int 1)))))) (fCons (fVar 3) (fNil))))))))
    (fSeq (fIfS (fTst (fOp gNe (fPair (fVar 5) (fVal (fLst (fNil)))))) (fSeq (fApp 6 (fCallS 2 0 1 [0] f_fresh_things (fCons (fVar 2) (fCons (fOp gIx (fPair (fVar 5) (fC (.int 0)))) (fNil))) (fNil)))
    (fSeq (fApp 7 (fVal (fSlL (fTri (fVar 5) fNone (fPart (fC (.int 1)))))))
    (fNext))) (fNext))
    (fSeq (fFor (fZip (fVar 6) (fVar 7)) (tTup 2 (tConss (tName 8) (tConss (tName 9) (tNils))))
    (fSeq (fIfS (fOr (fNot (fTst (fG1 (gIsi isList) (fVar 8)))) (fOr (fTst (fOp gNe (fPair (fG1 gLen (fVar 8)) (fVar 2)))) (fTst (fOp gNe (fPair (fG1 gLenSet (fVar 8)) (fVar 2)))))) (fSeq (fRet (fC (.bl false)))
    (fNext)) (fNext))
    (fSeq (fIfS (fNot (fTst (fG1 gAll (fVal (fLc (fSeqs (fVar 8)) (tName 10) (fYes) (fAndV (fG1 (gIsi isStr) (fVar 10)) (fAndV (fChain gLe gLe (fC (.int 1)) (fG1 gLen (fVar 10)) (fC (.int 8))) (fAndV (fM0 (fun l => .bl (alphaB l)) (fVar 10)) (fM0 (fun l => .bl (lowerB l)) (fVar 10))))) [10]))))) (fSeq (fRet (fC (.bl false)))
    (fNext)) (fNext))
    (fSeq (fIfS (fTst (fG1 gAny (fVal (fLc (fSeqs (fVar 8)) (tName 10) (fYes) (fOp gIn (fPair (fVar 10) (fVar 9))) [10])))) (fSeq (fRet (fC (.bl false)))
    (fNext)) (fNext))
    (fNext)))))
    (fSeq (fIfS (fOr (fTst (fOp gNe (fPair (fCallS 1 0 1 [0] f_fresh_things (fCons (fVar 2) (fNil)) (fNil)) (fVar 4)))) (fTst (fOp gNe (fPair (fG1 gLenSet (fCallS 3 0 1 [0] f_fresh_things (fCons (fC (.int 2000)) (fCons (fC (.str [97])) (fCons (fC (.str [97, 97])) (fNil)))) (fNil))) (fC (.int 2000)))))) (fSeq (fRet (fC (.bl false)))
    (fNext)) (fNext))
    (fSeq (fRet (fAndV (fOp gEq (fPair (fCallS 1 0 1 [0] f_fresh_things (fCons (fC (.int 0)) (fNil)) (fNil)) (fVal (fLst (fNil))))) (fOp gEq (fPair (fG1 gLen (fCallS 5 0 1 [0] f_fresh_things (fCons (fC (.int 2)) (fCons (fC (.str [97])) (fCons (fC (.str [98])) (fCons (fC (.str [99])) (fCons (fC (.str [100])) (fNil)))))) (fNil))) (fC (.int 2))))))
    (fNext))))))))))
end K03

namespace K03
open PF
theorem of_F : f__law_of = ofF := rfl
/-! ### words -/
def sg (m : Nat) : Nat := 97 + m % 26
def wds : Nat → Nat → List Nat
  | 0, _ => []
  | _ + 1, 0 => []
  | f + 1, m + 1 => wds f (m / 26) ++ [sg m]
theorem wds_len : ∀ f m, (wds f m).length ≤ f
  | 0, _ => by simp [wds]
  | f + 1, 0 => by simp [wds]
  | f + 1, m + 1 => by
    have := wds_len f (m / 26)
    simp [wds]
    omega
theorem sg_low (m : Nat) : sg m ∈ low := by
  have h : m % 26 < 26 := Nat.mod_lt _ (by decide)
  unfold sg
  generalize m % 26 = k at h
  revert k
  decide
theorem wds_low : ∀ f m, ∀ c ∈ wds f m, c ∈ low
  | 0, _, c, h => by simp [wds] at h
  | f + 1, 0, c, h => by simp [wds] at h
  | f + 1, m + 1, c, h => by
    simp only [wds, List.mem_append, List.mem_singleton] at h
    rcases h with h | rfl
    · exact wds_low f _ c h
    · exact sg_low m
theorem wds_inj : ∀ f a b, a < 26 ^ f → b < 26 ^ f → wds f a = wds f b → a = b
  | 0, a, b, h1, h2, _ => by simp at h1 h2; omega
  | f + 1, 0, 0, _, _, _ => rfl
  | f + 1, 0, b + 1, _, _, h => by simp [wds] at h
  | f + 1, a + 1, 0, _, _, h => by simp [wds] at h
  | f + 1, a + 1, b + 1, h1, h2, h => by
    simp only [wds] at h
    obtain ⟨e1, e2⟩ := List.append_inj' h rfl
    have e3 : sg a = sg b := by simpa using e2
    unfold sg at e3
    have p : 26 ^ (f + 1) = 26 ^ f * 26 := Nat.pow_succ 26 f
    have := wds_inj f (a / 26) (b / 26) (by rw [Nat.div_lt_iff_lt_mul (by decide)]; omega) (by rw [Nat.div_lt_iff_lt_mul (by decide)]; omega) e1
    omega
theorem low_at (m : Nat) : L2.atI low ((m : Int) % 26) = some (sg m) := by
  have e : ((m : Int) % 26) = ((m % 26 : Nat) : Int) := by omega
  rw [e]
  have h : m % 26 < 26 := Nat.mod_lt _ (by decide)
  unfold sg
  generalize m % 26 = k at h
  revert k
  decide
theorem word_go {x0 : Option A} : ∀ (f n m : Nat) (acc : List Nat), m < 26 ^ f → f < n → acc.length + f ≤ 100 → fWhile (fTst (fOp gGt (fPair (fVar 2) (fC (.int 0))))) (fSeq (fAug 2 gSub (fC (.int 1)))
    (fSeq (fAsg 1 (fOp gAdd (fPair (fOp gIx (fPair (fC (.str low)) (fOp gMod (fPair (fVar 2) (fC (.int 26)))))) (fVar 1))))
    (fSeq (fAug 2 gDiv (fC (.int 26)))
    (fNext)))) n [x0, some (.str acc), some (.int m)] = .ret (.nx [x0, some (.str (wds f m ++ acc)), some (.int 0)])
  | 0, n + 1, m, acc, h, _, _ => by
    obtain rfl : m = 0 := by simp at h; omega
    exact while_no (by simp)
  | f + 1, n + 1, 0, acc, h, hn, hl => while_no (by simp)
  | f + 1, n + 1, m + 1, acc, h, hn, hl => by
    have p : 26 ^ (f + 1) = 26 ^ f * 26 := Nat.pow_succ 26 f
    have ih := word_go (x0 := x0) f n (m / 26) (sg m :: acc) (by rw [Nat.div_lt_iff_lt_mul (by decide)]; omega) (by omega) (by simp; omega)
    have e : ((m : Int) / 26) = ((m / 26 : Nat) : Int) := by omega
    have hp : (0 : Int) < (m : Int) + 1 := by omega
    have hz : 1 + acc.length ≤ 10000000 := by omega
    rw [while_go (e := [x0, some (.str (sg m :: acc)), some (.int (m / 26 : Nat))])]
    · rw [ih]
      simp [wds]
    · simp [hp]
    · have hl : low.length ≤ 10000000 := by decide
      simp [low_at, hz, hl]
def wd (a : Nat) : List Nat := wds 4 (a + 1)
theorem word_eq {a : Nat} (h : a < 100000) : f_word_at [.int a] = .ret (.str (wd a)) := by
  have e := word_go (x0 := some (.int a)) 4 10 (a + 1) [] (by omega) (by decide) (by decide)
  unfold f_word_at fdef b_word_at
  simp [startE]
  simp at e
  simp [e, wd]
theorem wd_ok (a : Nat) : wd a ≠ [] ∧ (wd a).length ≤ 4 ∧ ∀ c ∈ wd a, c ∈ low := ⟨by simp [wd, wds], wds_len 4 _, wds_low 4 _⟩
theorem wd_inj {a b : Nat} (ha : a < 100000) (hb : b < 100000) (h : wd a = wd b) : a = b := by
  have := wds_inj 4 (a + 1) (b + 1) (by omega) (by omega) h
  omega
/-! ### fresh things -/
def frs (tk : List (List Nat)) (a : Nat) : List (List Nat) := ((List.range a).map wd).filter fun w => !decide (w ∈ tk)
theorem frs_succ (tk : List (List Nat)) (a : Nat) : frs tk (a + 1) = frs tk a ++ if wd a ∈ tk then [] else [wd a] := by
  unfold frs
  rw [List.range_succ, List.map_append, List.filter_append]
  by_cases h : wd a ∈ tk <;> simp [h]
theorem words_nodup {a : Nat} (h : a < 100000) : ((List.range a).map wd).Nodup := by
  unfold List.Nodup
  rw [List.pairwise_map]
  refine List.Pairwise.imp_of_mem (fun {x y} hx hy hne e => hne (wd_inj ?_ ?_ e)) List.nodup_range
  · have := List.mem_range.mp hx
    omega
  · have := List.mem_range.mp hy
    omega
theorem frs_nodup {tk : List (List Nat)} {a : Nat} (h : a < 100000) : (frs tk a).Nodup := List.Pairwise.filter _ (words_nodup h)
theorem filter_two {α : Type} (p : α → Bool) : ∀ l : List α, (l.filter p).length + (l.filter fun x => !p x).length = l.length
  | [] => rfl
  | x :: l => by
    have ih := filter_two p l
    cases h : p x <;> simp [h] <;> omega
theorem frs_len {tk : List (List Nat)} {a : Nat} (h : a < 100000) : a ≤ (frs tk a).length + tk.length := by
  have e := filter_two (fun w => decide (w ∈ tk)) ((List.range a).map wd)
  have hn : (((List.range a).map wd).filter fun w => decide (w ∈ tk)).Nodup := List.Pairwise.filter _ (words_nodup h)
  have hs : (((List.range a).map wd).filter fun w => decide (w ∈ tk)) ⊆ tk := fun w hw => by
    have := (List.mem_filter.mp hw).2
    simpa using this
  have hl := List.Nodup.length_le_of_subset hn hs
  rw [List.length_map, List.length_range] at e
  unfold frs
  omega
/-- what fresh_things gives: many different words, none taken -/
def Fr (many : Nat) (tk : List (List Nat)) (L : List (List Nat)) : Prop := L.length = many ∧ L.Nodup ∧ ∀ w ∈ L, w ∉ tk ∧ w ≠ [] ∧ w.length ≤ 4 ∧ ∀ c ∈ w, c ∈ low
theorem frs_ok {tk : List (List Nat)} {a : Nat} (h : a < 100000) : Fr (frs tk a).length tk (frs tk a) := by
  refine ⟨rfl, frs_nodup h, fun w hw => ?_⟩
  obtain ⟨h1, h2⟩ := List.mem_filter.mp hw
  obtain ⟨x, _, rfl⟩ := List.mem_map.mp h1
  exact ⟨by simpa using h2, wd_ok x⟩
theorem str_eqv (a b : List Nat) : eqv (.str a) (.str b) = decide (a = b) := by unfold eqv; rfl
theorem ni_tup (w : List Nat) (tk : List (List Nat)) : gNi (.str w) (.tup (tk.map A.str)) = some (.bl (!decide (w ∈ tk))) := by
  unfold gNi gInG
  dsimp only
  have h1 : okd 60 (.str w) = true := rfl
  have h2 : (tk.map A.str).all (okd 60) = true := by
    rw [List.all_map, List.all_eq_true]
    exact fun _ _ => rfl
  have h3 : mem (.str w) (tk.map A.str) = decide (w ∈ tk) := by
    unfold mem
    rw [List.any_map, Bool.eq_iff_iff, List.any_eq_true, decide_eq_true_eq]
    constructor
    · rintro ⟨x, hx, h⟩
      have h : eqv (.str x) (.str w) = true := h
      rw [str_eqv, decide_eq_true_eq] at h
      exact h ▸ hx
    · exact fun h => ⟨w, h, by show eqv (.str w) (.str w) = true; rw [str_eqv]; simp⟩
  rw [h1, h2, h3]
  rfl
theorem in_lst (w : List Nat) (tk : List (List Nat)) : gIn (.str w) (.lst (tk.map A.str)) = some (.bl (decide (w ∈ tk))) := by
  unfold gIn gInG
  dsimp only
  have h1 : okd 60 (.str w) = true := rfl
  have h2 : (tk.map A.str).all (okd 60) = true := by
    rw [List.all_map, List.all_eq_true]
    exact fun _ _ => rfl
  have h3 : mem (.str w) (tk.map A.str) = decide (w ∈ tk) := by
    unfold mem
    rw [List.any_map, Bool.eq_iff_iff, List.any_eq_true, decide_eq_true_eq]
    constructor
    · rintro ⟨x, hx, h⟩
      have h : eqv (.str x) (.str w) = true := h
      rw [str_eqv, decide_eq_true_eq] at h
      exact h ▸ hx
    · exact fun h => ⟨w, h, by show eqv (.str w) (.str w) = true; rw [str_eqv]; simp⟩
  rw [h1, h2, h3]
  rfl
theorem call1 {g : List A → T A} {env : Env} {i : Nat} {a : A} {r : T A} (h : env[i]? = some (some a)) (hr : g [a] = r) : fCallK 1 0 [0] [] g (fCons (fVar i) fNil) fNil env = r := by
  simp [pick_cons, h, hr]
theorem step_fr {m a : Nat} {tk : List (List Nat)} {g : List A → T A} {x4 : Option A} {fs : List (List Nat)} (hg : g [.int a] = .ret (.str (wd a))) (hl : fs.length < 10000000) :
    fSeq (fAsg 4 (fCallK 1 0 [0] [] g (fCons (fVar 3) (fNil)) (fNil))) (fSeq (fIfS (fTst (fOp gNi (fPair (fVar 4) (fVar 1)))) (fSeq (fApp 2 (fVar 4)) (fNext)) (fNext)) (fSeq (fAug 3 gAddI (fC (.int 1))) (fNext)))
      [some (.int m), some (.tup (tk.map A.str)), some (.lst (fs.map A.str)), some (.int a), x4] = .ret (.nx [some (.int m), some (.tup (tk.map A.str)), some (.lst ((fs ++ if wd a ∈ tk then [] else [wd a]).map A.str)), some (.int ((a + 1 : Nat) : Int)), some (.str (wd a))]) := by
  have c := call1 (g := g) (i := 3) (env := [some (.int m), some (.tup (tk.map A.str)), some (.lst (fs.map A.str)), some (.int a), x4]) rfl hg
  by_cases h : wd a ∈ tk
  · simp [-e_CallK, c, ni_tup, h]
  · simp [-e_CallK, c, ni_tup, h, hl, fApp]
theorem test_fr {m a : Nat} {x1 x4 : Option A} {fs : List (List Nat)} {c : Bool} (hc : decide (fs.length < m) = c) : fTst (fOp gLt (fPair (fG1 gLen (fVar 2)) (fVar 0))) [some (.int m), x1, some (.lst (fs.map A.str)), some (.int a), x4] = .ret c := by
  subst hc
  simp
theorem fr_loop {m : Nat} {tk : List (List Nat)} {g : List A → T A} (hg : ∀ a : Nat, a < 100000 → g [.int a] = .ret (.str (wd a))) (hb : m + tk.length < 100000) : ∀ (d a n : Nat) (x4 : Option A), a + d = m + tk.length → d < n → (frs tk a).length ≤ m → ∃ a' y, a' < 100000 ∧ (frs tk a').length = m ∧
    fWhile (fTst (fOp gLt (fPair (fG1 gLen (fVar 2)) (fVar 0)))) (fSeq (fAsg 4 (fCallK 1 0 [0] [] g (fCons (fVar 3) (fNil)) (fNil))) (fSeq (fIfS (fTst (fOp gNi (fPair (fVar 4) (fVar 1)))) (fSeq (fApp 2 (fVar 4)) (fNext)) (fNext)) (fSeq (fAug 3 gAddI (fC (.int 1))) (fNext)))) n
      [some (.int m), some (.tup (tk.map A.str)), some (.lst ((frs tk a).map A.str)), some (.int a), x4] = .ret (.nx [some (.int m), some (.tup (tk.map A.str)), some (.lst ((frs tk a').map A.str)), some (.int a'), y])
  | d, a, 0, x4, e, hn, hl => by omega
  | d, a, n + 1, x4, e, hn, hl => by
    have ha : a < 100000 := by omega
    by_cases hm : (frs tk a).length = m
    · exact ⟨a, x4, ha, hm, while_no (test_fr (by rw [hm]; simp))⟩
    · have hlt : (frs tk a).length < m := by omega
      have h1 := frs_len (tk := tk) ha
      match d with
      | 0 => omega
      | d + 1 =>
        have hs := frs_succ tk a
        have hl2 : (frs tk (a + 1)).length ≤ m := by
          rw [hs]
          split <;> simp <;> omega
        obtain ⟨a', y, h2, h3, h4⟩ := fr_loop hg hb d (a + 1) n (some (.str (wd a))) (by omega) (by omega) hl2
        refine ⟨a', y, h2, h3, ?_⟩
        rw [while_go (test_fr (by simpa using hlt)) (step_fr (hg a ha) (by omega)), ← hs]
        exact h4
theorem fresh_eq {m : Nat} {tk : List (List Nat)} (h : m + tk.length < 90000) : ∃ L, Fr m tk L ∧ f_fresh_things [.int m, .tup (tk.map A.str)] = .ret (.lst (L.map A.str)) := by
  have hg : ∀ a : Nat, a < 100000 → f_word_at [.int a] = .ret (.str (wd a)) := fun a h => word_eq h
  unfold f_fresh_things fdef b_fresh_things
  generalize f_word_at = g at hg ⊢
  obtain ⟨a', y, h1, h2, h3⟩ := fr_loop (m := m) (tk := tk) hg (by omega) (m + tk.length) 0 100000 none (by omega) (by omega) (by simp [frs])
  have hk := frs_ok (tk := tk) h1
  rw [h2] at hk
  refine ⟨frs tk a', hk, ?_⟩
  generalize (100000 : Nat) = n at h3 ⊢
  have e0 : (frs tk 0).map A.str = [] := rfl
  rw [e0] at h3
  have h3 : fWhile _ _ n [some (.int m), some (.tup (tk.map A.str)), some (.lst []), some (.int 0), none] = _ := h3
  simp only [e_Seq, startE]
  simp [h3]
section
variable {b : PySem.Addr}
theorem W_lcD {it : Env → T (List A)} {g : TgF} {f : Env → T A} {vs : List Nat} {env : Env} {q : List A → Prop} (P : A → A → Prop) (hv : free vs env = true)
    (hi : W b (it env) (fun items => items.length ≤ big ∧ (∀ a ∈ items, ∃ e, g a env = some e ∧ W b (f e) (P a) Z0) ∧ ∀ rs, All2 P items rs → q rs) Z0) : W b (fLc it g fYes f vs env) q Z0 := by
  unfold fLc
  rw [if_pos hv, W_bind]
  refine W_mono hi (fun items ⟨h1, h2, h3⟩ => ?_) fun _ k => k
  have h := W_lc (z := Z0) (it := fun _ => .ret items) P items rfl hv h1 h2 h3
  unfold fLc at h
  rw [if_pos hv, T.ret_bind] at h
  exact h
theorem all_signs : ∀ {ds cs : List A}, All2 (fun _ c => ∃ x ∈ low, c = A.str [x]) ds cs → ∃ l : List Nat, l.length = ds.length ∧ cs = l.map fun c => .str [c]
  | _, _, .nil => ⟨[], rfl, rfl⟩
  | _, _, .cons h t => by
    obtain ⟨x, _, rfl⟩ := h
    obtain ⟨l, e1, rfl⟩ := all_signs t
    exact ⟨x :: l, congrArg Nat.succ e1, rfl⟩
theorem W_names {q : A → Prop} (hq : ∀ t1 t2 t3 : List Nat, q (.lst [.str t1, .str t2, .str t3])) : W b (f__law_names [.ref b, .int 3]) q Z0 := by
  unfold f__law_names fdef b__law_names
  rw [W_fin]
  refine W_step ?_
  simp [-e_Seq, startE]
  refine W_cut fun N hN => ?_
  simp [-e_Seq, W_bind, W_lift, of_F]
  refine W_lcD (fun _ c => ∃ x ∈ low, c = A.str [x]) rfl ?_
  rw [e_RangeF, W_bind]
  simp [W_bind, of_F]
  refine W_of (xs := [.int 0, .int 0, .int 1, .int 5, .int 7]) rfl (by decide) (by decide) fun y hy => ?_
  have hy : ∃ n : Nat, n ≤ 7 ∧ y = .int n ∧ (-1000000000 < (n : Int) ∧ (n : Int) < 1000000000) := by
    simp at hy
    rcases hy with rfl | rfl | rfl | rfl
    · exact ⟨0, by decide, rfl, by decide⟩
    · exact ⟨1, by decide, rfl, by decide⟩
    · exact ⟨5, by decide, rfl, by decide⟩
    · exact ⟨7, by decide, rfl, by decide⟩
  obtain ⟨n, hn, rfl, hr⟩ := hy
  dsimp only
  rw [if_pos hr, W_ret]
  have hlen : (rangeA (n : Int)).length = n := by rw [rangeA_len]; rfl
  refine ⟨by rw [hlen]; exact Nat.le_trans hn (by decide), fun a ha => ?_, fun rs hrs => ?_⟩
  · refine W_of (xs := low.map fun c => .str [c]) rfl (by decide) (by decide) fun y hy => ?_
    obtain ⟨c, hc, rfl⟩ := List.mem_map.mp hy
    exact ⟨c, hc, rfl⟩
  obtain ⟨l, hl, rfl⟩ := all_signs hrs
  rw [hlen] at hl
  have hl7 : l.length ≤ big := Nat.le_trans (by omega) (by decide : 7 ≤ big)
  simp [join_signs hl7]
  refine hN _ ?_
  clear hN N
  refine W_cut fun N hN => ?_
  have hl8 : l.length ≤ 10000000 := hl7
  simp [-e_Seq, W_bind, W_lift, hl8]
  refine W_fDraw (by omega) (by omega) fun i h0 h1 => ?_
  refine W_fDraw (by decide) (by decide) fun j h2 h3 => ?_
  obtain ⟨i, rfl⟩ := Int.eq_ofNat_of_zero_le h0
  obtain ⟨j, rfl⟩ := Int.eq_ofNat_of_zero_le h2
  refine hN _ ?_
  clear hN N
  have key : fLc (fRange (fVar 1)) (tName 6) fYes (fOp gAdd (fPair (fOp gAdd (fPair (fSl (fTri (fVar 3) fNone (fPart (fVar 4)))) (fOp gIx (fPair (fVar 2) (fOp gMod (fPair (fG1 gInt (fOp gAdd (fPair (fVar 5) (fOp gMul (fPair (fC (.int 5)) (fVar 6)))))) (fC (.int 26)))))))) (fSl (fTri (fVar 3) (fPart (fVar 4)) fNone)))) [6]
      [some (.ref b), some (.int 3), some (.str low), some (.str l), some (.int i), some (.int j), none] = .ret ([0, 1, 2].map fun k : Nat => .str (l.take i ++ sg (j + 5 * k) :: l.drop i)) := by
    refine lc_map (fun k : Nat => .int k) (fun k : Nat => .str (l.take i ++ sg (j + 5 * k) :: l.drop i)) [0, 1, 2] rfl rfl (by decide) fun k _ => ⟨_, rfl, ?_⟩
    have e : ((j : Int) + 5 * (k : Int)) = ((j + 5 * k : Nat) : Int) := by omega
    have z1 : min i l.length + 1 ≤ 10000000 := by omega
    have z2 : min i l.length + 1 + (l.length - i) ≤ 10000000 := by omega
    have z3 : low.length ≤ 10000000 := by decide
    have la := low_at (j + 5 * k)
    rw [← e] at la
    have ct : PD.cutL l none (some (i : Int)) = l.take i := by rw [cut_take _ (by omega)]; rfl
    have cf : PD.cutL l (some (i : Int)) none = l.drop i := by rw [cut_drop _ (by omega)]; rfl
    simp [ct, cf, la, z1, z2, z3, hl8]
  simp [W_bind, W_lift, key]
  exact hq _ _ _
end
def tag (l : List (List Nat)) : A := .lst (l.map A.str)
theorem callS {g : List A → T A} {n m np : Nat} {idx : List Nat} {u uk : Env → T (List A)} {env : Env} {as zs l : List A} {r : T A} (h1 : u env = .ret as) (h2 : uk env = .ret zs) (h3 : as.length = n ∧ zs.length = m) (h4 : PD.pick idx (as ++ zs) ++ [.tup (as.drop np)] = l) (hr : g l = r) : fCallS n m np idx g u uk env = r := by
  show ((u env).bind _) = r
  rw [h1, T.ret_bind, h2, T.ret_bind, if_pos h3, h4, hr]
theorem lenSet_tag {L : List (List Nat)} {m : Nat} (h : L.Nodup) (h2 : L.length = m) (h3 : m ≤ 4000) : gLenSet (tag L) = some (.int m) := by
  unfold gLenSet tag
  dsimp only
  rw [textsF_map]
  dsimp only
  rw [if_pos ⟨h, by omega⟩, h2]
theorem eqvs_str : ∀ l : List (List Nat), eqvs (l.map A.str) (l.map A.str) = true
  | [] => by simp [eqvs]
  | x :: l => by
    rw [List.map_cons]
    unfold eqvs
    rw [eqvs_str l, str_eqv]
    simp
theorem okd_tag (n : Nat) (l : List (List Nat)) : okd (n + 1) (tag l) = true := by
  unfold tag okd
  rw [List.all_map, List.all_eq_true]
  intro x _
  cases n <;> rfl
theorem ne_tag (l : List (List Nat)) : gNe (tag l) (tag l) = some (.bl false) := by
  unfold gNe
  rw [okd_tag 59]
  have e : eqv (tag l) (tag l) = true := by unfold tag eqv; exact eqvs_str l
  rw [e]
  rfl
theorem ne_nil (x : List Nat) (l : List (List Nat)) : gNe (tag (x :: l)) (.lst []) = some (.bl true) := by
  unfold gNe
  rw [okd_tag 59]
  have e : eqv (tag (x :: l)) (.lst []) = false := by unfold tag eqv; rw [List.map_cons]; unfold eqvs; rfl
  rw [e]
  rfl
section
variable {m : Nat} {G L : List (List Nat)} {x0 x1 x2 x3 x4 x5 x6 x7 : Option A}
theorem good_lc (hf : Fr m G L) (hm : m ≤ 4000) : fLc (fSeqs (fVar 8)) (tName 10) (fYes) (fAndV (fG1 (gIsi isStr) (fVar 10)) (fAndV (fChain gLe gLe (fC (.int 1)) (fG1 gLen (fVar 10)) (fC (.int 8))) (fAndV (fM0 (fun l => .bl (alphaB l)) (fVar 10)) (fM0 (fun l => .bl (lowerB l)) (fVar 10))))) [10] [x0, x1, x2, x3, x4, x5, x6, x7, some (tag L), some (tag G), none] = .ret (L.map fun _ => .bl true) := by
  refine lc_map A.str (fun _ => .bl true) L (by simp [tag]) rfl (by rw [hf.1]; exact Nat.le_trans hm (by decide)) fun w hw => ⟨_, rfl, ?_⟩
  obtain ⟨_, h1, h2, h3⟩ := hf.2.2 w hw
  have h4 : w.length ≠ 0 := fun e => h1 (List.length_eq_zero_iff.mp e)
  have h5 : (1 : Int) ≤ (w.length : Int) := by omega
  have h6 : (w.length : Int) ≤ 8 := by omega
  have h7 : w.length ≤ 10000000 := by omega
  simp [isStr, alpha_low h1 h3, lower_low h1 h3, h5, h6, h7]
theorem lost_lc (hf : Fr m G L) (hm : m ≤ 4000) : fLc (fSeqs (fVar 8)) (tName 10) (fYes) (fOp gIn (fPair (fVar 10) (fVar 9))) [10] [x0, x1, x2, x3, x4, x5, x6, x7, some (tag L), some (tag G), none] = .ret (L.map fun _ => .bl false) := by
  refine lc_map A.str (fun _ => .bl false) L (by simp [tag]) rfl (by rw [hf.1]; exact Nat.le_trans hm (by decide)) fun w hw => ⟨_, rfl, ?_⟩
  have h := (hf.2.2 w hw).1
  have e := in_lst w G
  rw [decide_eq_false h] at e
  simp [tag, e]
end
section
variable {b : PySem.Addr} {q : Ct → Prop} {z : AX → Prop}
theorem W_asg {i : Nat} {f : Env → T A} {s : Env → T Ct} {env : Env} (a : A) (e : Env) (h : f env = .ret a) (he : env.set i (some a) = e) (k : W b (s e) q z) : W b (fSeq (fAsg i f) s env) q z := by
  subst he
  refine W_step ?_
  show W b ((f env).lift env _) _ z
  rw [h, PF.lift_ret, W_ret]
  exact k
theorem W_ifF {c : Env → T Bool} {t s : Env → T Ct} {env : Env} (h : c env = .ret false) (k : W b (s env) q z) : W b (fSeq (fIfS c t fNext) s env) q z := by
  refine W_step ?_
  show W b ((c env).lift env _) _ z
  rw [h, PF.lift_ret, if_neg Bool.false_ne_true]
  show W b (T.ret _) _ z
  rw [W_ret]
  exact k
theorem W_ifT {c : Env → T Bool} {t s : Env → T Ct} {env e : Env} (h : c env = .ret true) (ht : t env = .ret (.nx e)) (k : W b (s e) q z) : W b (fSeq (fIfS c t fNext) s env) q z := by
  refine W_step ?_
  show W b ((c env).lift env _) _ z
  rw [h, PF.lift_ret, if_pos rfl, ht, W_ret]
  exact k
end
theorem plain_law (b : PySem.Addr) : (b_law (startB 11 b)).fin.wp (some b) (fun a => a = .bl true) (fun _ => False) := by
  have hfr : ∀ (m : Nat) (tk : List (List Nat)), m + tk.length < 90000 → ∃ L, Fr m tk L ∧ f_fresh_things [.int m, .tup (tk.map A.str)] = .ret (tag L) := fun m tk h => fresh_eq h
  have hnm := @W_names b
  rw [← W_eq, W_fin]
  unfold b_law
  generalize f_fresh_things = g at *
  generalize f__law_names = gn at *
  refine W_cut fun N hN => ?_
  have key : ∀ m : Nat, m < 901 → N [none, some (.ref b), some (.int m), none, none, none, none, none, none, none, none] := fun m hm => by
    refine hN _ ?_
    clear hN N
    refine W_cut fun N hN => ?_
    simp [-e_Seq, W_bind, W_lift, pick_cons]
    refine hnm fun t1 t2 t3 => ?_
    refine hN _ ?_
    clear hN N
    obtain ⟨L0, f0, g0⟩ := hfr m [] (by simp; omega)
    obtain ⟨L1, f1, g1⟩ := hfr m [t1] (by simp; omega)
    obtain ⟨L3, f3, g3⟩ := hfr m [t1, t2, t3] (by simp; omega)
    refine W_cut fun N hN => ?_
    have c := callS (n := 1) (m := 0) (np := 1) (idx := [0]) (u := fCons (fVar 2) fNil) (uk := fNil) (env := [none, some (.ref b), some (.int m), some (.lst [.str t1, .str t2, .str t3]), none, none, none, none, none, none, none]) (as := [.int m]) (zs := []) rfl rfl ⟨rfl, rfl⟩ rfl g0
    simp [-e_Seq, -e_CallS, W_bind, W_lift, c]
    refine hN _ ?_
    clear hN N c
    have hl0 : L0.length = m := f0.1
    obtain ⟨fh, fs, hF⟩ : ∃ fh fs, L0.take 1 ++ [t1] = fh :: fs := by
      cases L0 with
      | nil => exact ⟨_, _, rfl⟩
      | cons x l => exact ⟨_, _, rfl⟩
    obtain ⟨L4, f4, g4⟩ := hfr m [fh] (by simp; omega)
    have w1 : ∀ x6 x7 x8 x9 x10 : Option A, fVal (fOpL gCat (fPair (fVal (fSlL (fTri (fVar 4) fNone (fPart (fC (.int 1)))))) (fVal (fSlL (fTri (fVar 3) fNone (fPart (fC (.int 1)))))))) [none, some (.ref b), some (.int m), some (.lst [.str t1, .str t2, .str t3]), some (tag L0), none, x6, x7, x8, x9, x10] = .ret (tag (fh :: fs)) := fun x6 x7 x8 x9 x10 => by
      have k1 : PD.cutL (L0.map A.str) none (some 1) = (L0.take 1).map A.str := by rw [cut_take _ (by decide)]; simp
      have k2 : PD.cutL [A.str t1, .str t2, .str t3] none (some 1) = [.str t1] := by rw [cut_take _ (by decide)]; rfl
      have k3 : min 1 L0.length + 1 ≤ 10000000 := by omega
      have k4 : List.map A.str (L0.take 1 ++ [t1]) = (L0.take 1).map A.str ++ [.str t1] := by simp
      unfold tag
      rw [← hF, k4]
      simp [k1, k2, k3]
    refine W_asg (tag (fh :: fs)) [none, some (.ref b), some (.int m), some (.lst [.str t1, .str t2, .str t3]), some (tag L0), some (tag (fh :: fs)), none, none, none, none, none] (w1 _ _ _ _ _) rfl ?_
    have d1 := callS (g := g) (n := 0) (m := 1) (np := 1) (idx := [0]) (u := fNil) (uk := fCons (fVar 2) fNil) (env := [none, some (.ref b), some (.int m), some (.lst [.str t1, .str t2, .str t3]), some (tag L0), some (tag (fh :: fs)), none, none, none, none, none]) (as := []) (zs := [.int m]) rfl rfl ⟨rfl, rfl⟩ rfl g0
    have d2 := callS (g := g) (n := 2) (m := 0) (np := 1) (idx := [0]) (u := fCons (fVar 2) (fCons (fOp gIx (fPair (fVar 3) (fC (.int 0)))) fNil)) (uk := fNil) (env := [none, some (.ref b), some (.int m), some (.lst [.str t1, .str t2, .str t3]), some (tag L0), some (tag (fh :: fs)), none, none, none, none, none]) (as := [.int m, .str t1]) (zs := []) (by simp) rfl ⟨rfl, rfl⟩ rfl g1
    have d3 := callS (g := g) (n := 4) (m := 0) (np := 1) (idx := [0]) (u := fCons (fVar 2) (fCons (fOp gIx (fPair (fVar 3) (fC (.int 0)))) (fCons (fOp gIx (fPair (fVar 3) (fC (.int 1)))) (fCons (fOp gIx (fPair (fVar 3) (fC (.int 2)))) fNil)))) (uk := fNil) (env := [none, some (.ref b), some (.int m), some (.lst [.str t1, .str t2, .str t3]), some (tag L0), some (tag (fh :: fs)), none, none, none, none, none]) (as := [.int m, .str t1, .str t2, .str t3]) (zs := []) (by simp) rfl ⟨rfl, rfl⟩ rfl g3
    refine W_asg (.lst [tag L0, tag L0, tag L1, tag L3]) [none, some (.ref b), some (.int m), some (.lst [.str t1, .str t2, .str t3]), some (tag L0), some (tag (fh :: fs)), some (.lst [tag L0, tag L0, tag L1, tag L3]), none, none, none, none] (by simp [-e_CallS, d1, d2, d3]) rfl ?_
    clear d1 d2 d3 w1
    have k2 : PD.cutL [A.str t1, .str t2, .str t3] none (some 1) = [.str t1] := by rw [cut_take _ (by decide)]; rfl
    refine W_asg (.lst [tag [], tag [], tag [t1], tag [t1, t2, t3]]) [none, some (.ref b), some (.int m), some (.lst [.str t1, .str t2, .str t3]), some (tag L0), some (tag (fh :: fs)), some (.lst [tag L0, tag L0, tag L1, tag L3]), some (.lst [tag [], tag [], tag [t1], tag [t1, t2, t3]]), none, none, none] (by simp [tag, k2]) rfl ?_
    have d4 := callS (g := g) (n := 2) (m := 0) (np := 1) (idx := [0]) (u := fCons (fVar 2) (fCons (fOp gIx (fPair (fVar 5) (fC (.int 0)))) fNil)) (uk := fNil) (env := [none, some (.ref b), some (.int m), some (.lst [.str t1, .str t2, .str t3]), some (tag L0), some (tag (fh :: fs)), some (.lst [tag L0, tag L0, tag L1, tag L3]), some (.lst [tag [], tag [], tag [t1], tag [t1, t2, t3]]), none, none, none]) (as := [.int m, .str fh]) (zs := []) (by simp [tag]) rfl ⟨rfl, rfl⟩ rfl g4
    have k5 : PD.cutL (A.str fh :: fs.map A.str) none (some 1) = [.str fh] := by rw [cut_take _ (by decide)]; rfl
    refine W_ifT (e := [none, some (.ref b), some (.int m), some (.lst [.str t1, .str t2, .str t3]), some (tag L0), some (tag (fh :: fs)), some (.lst [tag L0, tag L0, tag L1, tag L3, tag L4]), some (.lst [tag [], tag [], tag [t1], tag [t1, t2, t3], tag [fh]]), none, none, none]) (by simp [ne_nil]) ?_ ?_
    · have k6 : gSlL (tag (fh :: fs)) none (some 1) = some [.str fh] := by
        unfold tag
        rw [List.map_cons, gSlL_lst, k5]
      simp [-e_CallS, d4, fApp, k6]
      rfl
    clear d4 k5 k2
    refine W_cut fun N hN => ?_
    have items : fZip (fVar 6) (fVar 7) [none, some (.ref b), some (.int m), some (.lst [.str t1, .str t2, .str t3]), some (tag L0), some (tag (fh :: fs)), some (.lst [tag L0, tag L0, tag L1, tag L3, tag L4]), some (.lst [tag [], tag [], tag [t1], tag [t1, t2, t3], tag [fh]]), none, none, none] = .ret [.tup [tag L0, tag []], .tup [tag L0, tag []], .tup [tag L1, tag [t1]], .tup [tag L3, tag [t1, t2, t3]], .tup [tag L4, tag [fh]]] := rfl
    show W b ((fZip (fVar 6) (fVar 7) _).lift _ _) _ Z0
    rw [items, PF.lift_ret]
    refine W_for (fun e => ∃ x8 x9, e = [none, some (.ref b), some (.int m), some (.lst [.str t1, .str t2, .str t3]), some (tag L0), some (tag (fh :: fs)), some (.lst [tag L0, tag L0, tag L1, tag L3, tag L4]), some (.lst [tag [], tag [], tag [t1], tag [t1, t2, t3], tag [fh]]), x8, x9, none]) _ _ ⟨_, _, rfl⟩ ?_ ?_
    · intro a ha e he
      obtain ⟨x8, x9, rfl⟩ := he
      obtain ⟨L, G, rfl, hf⟩ : ∃ L G, a = .tup [tag L, tag G] ∧ Fr m G L := by
        simp only [List.mem_cons, List.not_mem_nil, or_false] at ha
        rcases ha with rfl | rfl | rfl | rfl | rfl
        · exact ⟨_, _, rfl, f0⟩
        · exact ⟨_, _, rfl, f0⟩
        · exact ⟨_, _, rfl, f1⟩
        · exact ⟨_, _, rfl, f3⟩
        · exact ⟨_, _, rfl, f4⟩
      refine ⟨_, rfl, ?_⟩
      have hm4 : m ≤ 4000 := by omega
      have c1 := lenSet_tag hf.2.1 hf.1 hm4
      have c2 : gLen (tag L) = some (.int m) := by rw [← hf.1]; simp [tag]
      have c3 := good_lc (x0 := none) (x1 := some (.ref b)) (x2 := some (.int m)) (x3 := some (.lst [.str t1, .str t2, .str t3])) (x4 := some (tag L0)) (x5 := some (tag (fh :: fs))) (x6 := some (.lst [tag L0, tag L0, tag L1, tag L3, tag L4])) (x7 := some (.lst [tag [], tag [], tag [t1], tag [t1, t2, t3], tag [fh]])) hf hm4
      have c4 := lost_lc (x0 := none) (x1 := some (.ref b)) (x2 := some (.int m)) (x3 := some (.lst [.str t1, .str t2, .str t3])) (x4 := some (tag L0)) (x5 := some (tag (fh :: fs))) (x6 := some (.lst [tag L0, tag L0, tag L1, tag L3, tag L4])) (x7 := some (.lst [tag [], tag [], tag [t1], tag [t1, t2, t3], tag [fh]])) hf hm4
      have c5 : isList (tag L) = true := rfl
      have c6 : gIsi isList (tag L) = some (.bl true) := rfl
      refine W_ifF (by simp [c1, c2, c6]) (W_ifF ?_ (W_ifF ?_ ?_))
      · show fNot (fTst (fG1 gAll (fVal _))) [none, some (.ref b), some (.int m), some (.lst [.str t1, .str t2, .str t3]), some (tag L0), some (tag (fh :: fs)), some (.lst [tag L0, tag L0, tag L1, tag L3, tag L4]), some (.lst [tag [], tag [], tag [t1], tag [t1, t2, t3], tag [fh]]), some (tag L), some (tag G), none] = _
        simp only [e_Not, e_Tst, e_G1, e_Val, c3]
        simp
      · show fTst (fG1 gAny (fVal _)) [none, some (.ref b), some (.int m), some (.lst [.str t1, .str t2, .str t3]), some (tag L0), some (tag (fh :: fs)), some (.lst [tag L0, tag L0, tag L1, tag L3, tag L4]), some (.lst [tag [], tag [], tag [t1], tag [t1, t2, t3], tag [fh]]), some (tag L), some (tag G), none] = _
        simp only [e_Tst, e_G1, e_Val, c4]
        simp
      · show W b (T.ret _) _ Z0
        rw [W_ret]
        exact ⟨_, _, rfl⟩
    · intro e he
      obtain ⟨x8, x9, rfl⟩ := he
      refine hN _ ?_
      clear hN N items
      obtain ⟨L5, f5, g5⟩ := hfr 2000 [[97], [97, 97]] (by simp)
      obtain ⟨L6, f6, g6⟩ := hfr 0 [] (by simp)
      obtain ⟨L7, f7, g7⟩ := hfr 2 [[97], [98], [99], [100]] (by simp)
      have n6 : L6 = [] := List.length_eq_zero_iff.mp f6.1
      subst n6
      have c1 := lenSet_tag f5.2.1 f5.1 (by decide)
      have c2 : gLen (tag L7) = some (.int 2) := by
        have := f7.1
        simp [tag, this]
      have d0 := callS (g := g) (n := 1) (m := 0) (np := 1) (idx := [0]) (u := fCons (fVar 2) fNil) (uk := fNil) (env := [none, some (.ref b), some (.int m), some (.lst [.str t1, .str t2, .str t3]), some (tag L0), some (tag (fh :: fs)), some (.lst [tag L0, tag L0, tag L1, tag L3, tag L4]), some (.lst [tag [], tag [], tag [t1], tag [t1, t2, t3], tag [fh]]), x8, x9, none]) (as := [.int m]) (zs := []) rfl rfl ⟨rfl, rfl⟩ rfl g0
      have d5 : ∀ env : Env, fCallS 3 0 1 [0] g (fCons (fC (.int 2000)) (fCons (fC (.str [97])) (fCons (fC (.str [97, 97])) (fNil)))) (fNil) env = .ret (tag L5) := fun env => callS (as := [.int 2000, .str [97], .str [97, 97]]) (zs := []) rfl rfl ⟨rfl, rfl⟩ rfl g5
      have d6 : ∀ env : Env, fCallS 1 0 1 [0] g (fCons (fC (.int 0)) (fNil)) (fNil) env = .ret (tag []) := fun env => callS (as := [.int 0]) (zs := []) rfl rfl ⟨rfl, rfl⟩ rfl g6
      have d7 : ∀ env : Env, fCallS 5 0 1 [0] g (fCons (fC (.int 2)) (fCons (fC (.str [97])) (fCons (fC (.str [98])) (fCons (fC (.str [99])) (fCons (fC (.str [100])) (fNil)))))) (fNil) env = .ret (tag L7) := fun env => callS (as := [.int 2, .str [97], .str [98], .str [99], .str [100]]) (zs := []) rfl rfl ⟨rfl, rfl⟩ rfl g7
      have q6 : gEq (tag []) (.lst []) = some (.bl true) := rfl
      refine W_ifF (by simp [-e_CallS, d0, d5, c1, ne_tag]) ?_
      simp [-e_CallS, W_bind, W_lift, d6, d7, c2, q6]
  simp [-e_Seq, startB, W_bind, W_lift, pick_cons]
  refine W_fDraw (by decide) (by decide) fun i h0 h1 => ?_
  by_cases hi : i = 0
  · subst hi
    simp [W_bind, W_lift, pick_cons]
    refine W_fDraw (by decide) (by decide) fun j h2 h3 => ?_
    obtain ⟨j, rfl⟩ := Int.eq_ofNat_of_zero_le h2
    exact key j (by omega)
  · simp [W_bind, W_lift, pick_cons, hi]
    refine W_fDraw (by decide) (by decide) fun j h2 h3 => ?_
    obtain ⟨j, rfl⟩ := Int.eq_ofNat_of_zero_le h2
    exact key j (by omega)
end K03

namespace K03
open PySem PySem.Spec PyProof.Rows L2 PD PF
def cm : CM := ⟨fun _ => 0, fun _ => "x"⟩
def topS (i : Nat) : Stmt := PySem.Challenge.pw_plainsure_k03_fresh_things.main.body.getD i (.Pass ⟨0, 0, 0, 0⟩)
abbrev s_word_at : Stmt := topS 2
theorem sc_word_at : FnScope ["at", "word", "left"] ["at"] (defScope s_word_at) := ⟨rfl, rfl, rfl, by decide +kernel, rfl, by decide +kernel, by decide +kernel⟩
abbrev s_fresh_things : Stmt := topS 3
theorem sc_fresh_things : FnScope ["many", "taken", "found", "at", "word"] ["many", "taken"] (defScope s_fresh_things) := ⟨rfl, rfl, rfl, by decide +kernel, rfl, by decide +kernel, by decide +kernel⟩
abbrev s__law_bag : Stmt := topS 5
theorem sc__law_bag : FnScope ["_law_script"] ["_law_script"] (defScope s__law_bag) := ⟨rfl, rfl, rfl, by decide +kernel, rfl, by decide +kernel, by decide +kernel⟩
abbrev s__law_draw : Stmt := topS 6
theorem sc__law_draw : FnScope ["_law_bag_here", "_law_many_y", "_law_cell", "_law_digit", "_law_seed"] ["_law_bag_here", "_law_many_y"] (defScope s__law_draw) := ⟨rfl, rfl, rfl, by decide +kernel, rfl, by decide +kernel, by decide +kernel⟩
abbrev s__law_of : Stmt := topS 7
theorem sc__law_of : FnScope ["_law_bag_here", "_law_some"] ["_law_bag_here", "_law_some"] (defScope s__law_of) := ⟨rfl, rfl, rfl, by decide +kernel, rfl, by decide +kernel, by decide +kernel⟩
abbrev s__law_names : Stmt := topS 8
theorem sc__law_names : FnScope ["_law_bag_here", "_law_many_y", "_law_letters", "_law_stem", "_law_at", "_law_first", "_law_k"] ["_law_bag_here", "_law_many_y"] (defScope s__law_names) := ⟨rfl, rfl, rfl, by decide +kernel, rfl, by decide +kernel, by decide +kernel⟩
abbrev s_law : Stmt := topS 9
theorem sc_law : FnScope ["_law_script", "_law_bag_here", "_law_many_z", "_law_names_here", "_law_plain", "_law_few", "_law_found", "_law_gone", "_law_told", "_law_lost", "_law_one"] ["_law_script"] (defScope s_law) := ⟨rfl, rfl, rfl, by decide +kernel, rfl, by decide +kernel, by decide +kernel⟩
structure Tp (K : PySem.W.Frag) (mg : Str → Option Value) where
  f_word_at : Addr
  fd_word_at : FuncData
  F_word_at : Fun K "word_at" "word_at" s_word_at f_word_at fd_word_at
  m_word_at : mg "word_at" = some (.ref f_word_at)
  f_fresh_things : Addr
  fd_fresh_things : FuncData
  F_fresh_things : Fun K "fresh_things" "fresh_things" s_fresh_things f_fresh_things fd_fresh_things
  m_fresh_things : mg "fresh_things" = some (.ref f_fresh_things)
  f__law_bag : Addr
  fd__law_bag : FuncData
  F__law_bag : Fun K "_law_bag" "_law_bag" s__law_bag f__law_bag fd__law_bag
  m__law_bag : mg "_law_bag" = some (.ref f__law_bag)
  f__law_draw : Addr
  fd__law_draw : FuncData
  F__law_draw : Fun K "_law_draw" "_law_draw" s__law_draw f__law_draw fd__law_draw
  m__law_draw : mg "_law_draw" = some (.ref f__law_draw)
  f__law_of : Addr
  fd__law_of : FuncData
  F__law_of : Fun K "_law_of" "_law_of" s__law_of f__law_of fd__law_of
  m__law_of : mg "_law_of" = some (.ref f__law_of)
  f__law_names : Addr
  fd__law_names : FuncData
  F__law_names : Fun K "_law_names" "_law_names" s__law_names f__law_names fd__law_names
  m__law_names : mg "_law_names" = some (.ref f__law_names)
  f_law : Addr
  fd_law : FuncData
  F_law : Fun K "law" "law" s_law f_law fd_law
  m_law : mg "law" = some (.ref f_law)
  z_len : mg "len" = none
  z_range : mg "range" = none
  z_int : mg "int" = none
  z_zip : mg "zip" = none
  z_isinstance : mg "isinstance" = none
  z_list : mg "list" = none
  z_set : mg "set" = none
  z_str : mg "str" = none
  z_all : mg "all" = none
  z_any : mg "any" = none
  c_LOWER : (t : Tok) ×' mg "LOWER" = some (.str "abcdefghijklmnopqrstuvwxyz" t)
theorem lit_0 : Str.ofString "" = tx [] := by decide +kernel
theorem lit_1 : Str.ofString "abcdefghijklmnopqrstuvwxyz" = tx low := by decide +kernel
theorem lit_2 : Str.ofString "a" = tx [97] := by decide +kernel
theorem lit_3 : Str.ofString "aa" = tx [97, 97] := by decide +kernel
theorem lit_4 : Str.ofString "b" = tx [98] := by decide +kernel
theorem lit_5 : Str.ofString "c" = tx [99] := by decide +kernel
theorem lit_6 : Str.ofString "d" = tx [100] := by decide +kernel
section
variable {P : Program} {w : World} {K : PySem.W.Frag} {mg : Str → Option Value} {base : Heap}
theorem bd_word_at_1 (T : Tp K mg) : Bd K T.fd_word_at ["at"] 1 [] [0] [] := Fun.bd T.F_word_at fun _ _ _ _ _ _ xs ws h1 h2 => match xs, ws, h1, h2 with | [_], [], _, _ => rfl
theorem bd__law_draw_2 (T : Tp K mg) : Bd K T.fd__law_draw ["_law_bag_here", "_law_many_y"] 2 [] [0, 1] [] := Fun.bd T.F__law_draw fun _ _ _ _ _ _ xs ws h1 h2 => match xs, ws, h1, h2 with | [_, _], [], _, _ => rfl
theorem bd__law_of_2 (T : Tp K mg) : Bd K T.fd__law_of ["_law_bag_here", "_law_some"] 2 [] [0, 1] [] := Fun.bd T.F__law_of fun _ _ _ _ _ _ xs ws h1 h2 => match xs, ws, h1, h2 with | [_, _], [], _, _ => rfl
theorem bd__law_names_2 (T : Tp K mg) : Bd K T.fd__law_names ["_law_bag_here", "_law_many_y"] 2 [] [0, 1] [] := Fun.bd T.F__law_names fun _ _ _ _ _ _ xs ws h1 h2 => match xs, ws, h1, h2 with | [_, _], [], _, _ => rfl
theorem bdS__law_bag (T : Tp K mg) : Binds K T.fd__law_bag ["_law_script"] [] := T.F__law_bag.binds fun _ _ _ _ _ _ us hl => match us, hl with | [_], _ => rfl
theorem bd_fresh_things_1 (T : Tp K mg) : BdS T.fd_fresh_things ["many"] "taken" 1 1 [] [0] := PF.Fun.bdS T.F_fresh_things fun _ _ _ _ _ _ xs ws h1 h2 => match xs, ws, h1, h2 with | [_], [], _, _ => rfl
theorem bd_fresh_things_0_many (T : Tp K mg) : BdS T.fd_fresh_things ["many"] "taken" 0 1 ["many"] [0] := PF.Fun.bdS T.F_fresh_things fun _ _ _ _ _ _ xs ws h1 h2 => match xs, ws, h1, h2 with | [], [_], _, _ => rfl
theorem bd_fresh_things_2 (T : Tp K mg) : BdS T.fd_fresh_things ["many"] "taken" 2 1 [] [0] := PF.Fun.bdS T.F_fresh_things fun _ _ _ _ _ _ xs ws h1 h2 => match xs, ws, h1, h2 with | [_, _], [], _, _ => rfl
theorem bd_fresh_things_4 (T : Tp K mg) : BdS T.fd_fresh_things ["many"] "taken" 4 1 [] [0] := PF.Fun.bdS T.F_fresh_things fun _ _ _ _ _ _ xs ws h1 h2 => match xs, ws, h1, h2 with | [_, _, _, _], [], _, _ => rfl
theorem bd_fresh_things_3 (T : Tp K mg) : BdS T.fd_fresh_things ["many"] "taken" 3 1 [] [0] := PF.Fun.bdS T.F_fresh_things fun _ _ _ _ _ _ xs ws h1 h2 => match xs, ws, h1, h2 with | [_, _, _], [], _, _ => rfl
theorem bd_fresh_things_5 (T : Tp K mg) : BdS T.fd_fresh_things ["many"] "taken" 5 1 [] [0] := PF.Fun.bdS T.F_fresh_things fun _ _ _ _ _ _ xs ws h1 h2 => match xs, ws, h1, h2 with | [_, _, _, _, _], [], _, _ => rfl
theorem ok_bag_ (T : Tp K mg) : FnOk P w K mg base (L2.CX P w) 1 T.f__law_bag T.fd__law_bag ["_law_script"] (spBag K) := ok_bag T.F__law_bag sc__law_bag T.z_list (Or.inl rfl) rfl (by decide) (by decide) rfl
theorem ok__law_draw (T : Tp K mg) : FnOk P w K mg base (L2.CX P w) 1 T.f__law_draw T.fd__law_draw ["_law_bag_here", "_law_many_y"] (spD K (spF cm 2 false fDraw)) := by
  refine okF_imp (ok_draw T.F__law_draw sc__law_draw rfl rfl fun cdv A outer s H E => ?_) (fun β ds kq kx h => draw_F h)
  exact (pss_cons (ps_asg (pe_op op_add (pe_ix ix_list (pe_var (i := 0) rfl (by first | exact Or.inl rfl | exact Or.inr (Or.inl rfl) | exact Or.inr (Or.inr rfl))) pe_int fun _ _ => rfl) pe_int) (pg_sub (pe_var (i := 0) rfl (by first | exact Or.inl rfl | exact Or.inr (Or.inl rfl) | exact Or.inr (Or.inr rfl))) pe_int set_list (by intro _; rfl)))
      (pss_cons (ps_if (PW.pt (pw_and (pt_cmp (pc_eqI (pe_ix ix_list (pe_var (i := 0) rfl (by first | exact Or.inl rfl | exact Or.inr (Or.inl rfl) | exact Or.inr (Or.inr rfl))) pe_int fun _ _ => rfl) pe_int)) (pw_and1 (pt_cmp (pc_lt (pe_ix ix_list (pe_var (i := 0) rfl (by first | exact Or.inl rfl | exact Or.inr (Or.inl rfl) | exact Or.inr (Or.inr rfl))) pe_int fun _ _ => rfl) (pe_callB call_len rfl T.z_len (by decide +kernel) (pa_cons (pe_ix ix_list (pe_var (i := 0) rfl (by first | exact Or.inl rfl | exact Or.inr (Or.inl rfl) | exact Or.inr (Or.inr rfl))) pe_int fun _ _ => rfl) pa_nil))))))) (pss_cons (ps_set (i := 2) sc__law_draw.nd rfl (by first | exact Or.inl rfl | exact Or.inr rfl) (pe_ix ix_list (pe_ix ix_list (pe_var (i := 0) rfl (by first | exact Or.inl rfl | exact Or.inr (Or.inl rfl) | exact Or.inr (Or.inr rfl))) pe_int fun _ _ => rfl) (pe_ix ix_list (pe_var (i := 0) rfl (by first | exact Or.inl rfl | exact Or.inr (Or.inl rfl) | exact Or.inr (Or.inr rfl))) pe_int fun _ _ => rfl) fun _ _ => rfl))
      (pss_cons (ps_asg (pe_op op_add (pe_ix ix_list (pe_var (i := 0) rfl (by first | exact Or.inl rfl | exact Or.inr (Or.inl rfl) | exact Or.inr (Or.inr rfl))) pe_int fun _ _ => rfl) pe_int) (pg_sub (pe_var (i := 0) rfl (by first | exact Or.inl rfl | exact Or.inr (Or.inl rfl) | exact Or.inr (Or.inr rfl))) pe_int set_list (by intro _; rfl)))
      (pss_cons (ps_if (pt_cmp (pc_ge (pe_var (i := 2) rfl (by first | exact Or.inl rfl | exact Or.inr (Or.inl rfl) | exact Or.inr (Or.inr rfl))) (pe_op op_pow pe_int pe_int))) (pss_cons (ps_asg (pe_var (i := 2) rfl (by first | exact Or.inl rfl | exact Or.inr (Or.inl rfl) | exact Or.inr (Or.inr rfl))) (pg_sub (pe_var (i := 0) rfl (by first | exact Or.inl rfl | exact Or.inr (Or.inl rfl) | exact Or.inr (Or.inr rfl))) pe_int set_list (by intro _; rfl)))
      pss_nil) pss_nil)
      (pss_cons (ps_asg (pe_op op_mod (pe_callTy call_intA rfl T.z_int (by decide +kernel) (pa_cons (pe_op op_add (pe_op op_add (pe_op op_mul (pe_ix ix_list (pe_var (i := 0) rfl (by first | exact Or.inl rfl | exact Or.inr (Or.inl rfl) | exact Or.inr (Or.inr rfl))) pe_int fun _ _ => rfl) pe_int) (pe_op op_mul (pe_op op_mod (pe_callTy call_intA rfl T.z_int (by decide +kernel) (pa_cons (pe_var (i := 2) rfl (by first | exact Or.inl rfl | exact Or.inr (Or.inl rfl) | exact Or.inr (Or.inr rfl))) pa_nil)) pe_int) pe_int)) pe_int) pa_nil)) pe_int) (pg_sub (pe_var (i := 0) rfl (by first | exact Or.inl rfl | exact Or.inr (Or.inl rfl) | exact Or.inr (Or.inr rfl))) pe_int set_list (by intro _; rfl)))
      pss_nil)))) pss_nil)
      (pss_cons (ps_if (pt_cmp (pc_gt (pe_ix ix_list (pe_var (i := 0) rfl (by first | exact Or.inl rfl | exact Or.inr (Or.inl rfl) | exact Or.inr (Or.inr rfl))) pe_int fun _ _ => rfl) pe_int)) (pss_cons (ps_set (i := 3) sc__law_draw.nd rfl (by first | exact Or.inl rfl | exact Or.inr rfl) (pe_op op_mod (pe_callTy call_intA rfl T.z_int (by decide +kernel) (pa_cons (pe_ix ix_list (pe_var (i := 0) rfl (by first | exact Or.inl rfl | exact Or.inr (Or.inl rfl) | exact Or.inr (Or.inr rfl))) pe_int fun _ _ => rfl) pa_nil)) (pe_var (i := 1) rfl (by first | exact Or.inl rfl | exact Or.inr (Or.inl rfl) | exact Or.inr (Or.inr rfl)))))
      (pss_cons (ps_asg (pe_op op_fdiv (pe_callTy call_intA rfl T.z_int (by decide +kernel) (pa_cons (pe_ix ix_list (pe_var (i := 0) rfl (by first | exact Or.inl rfl | exact Or.inr (Or.inl rfl) | exact Or.inr (Or.inr rfl))) pe_int fun _ _ => rfl) pa_nil)) (pe_var (i := 1) rfl (by first | exact Or.inl rfl | exact Or.inr (Or.inl rfl) | exact Or.inr (Or.inr rfl)))) (pg_sub (pe_var (i := 0) rfl (by first | exact Or.inl rfl | exact Or.inr (Or.inl rfl) | exact Or.inr (Or.inr rfl))) pe_int set_list (by intro _; rfl)))
      (pss_cons (ps_ret (pe_var (i := 3) rfl (by first | exact Or.inl rfl | exact Or.inr (Or.inl rfl) | exact Or.inr (Or.inr rfl))))
      pss_nil))) pss_nil)
      (pss_cons (ps_set (i := 4) sc__law_draw.nd rfl (by first | exact Or.inl rfl | exact Or.inr rfl) (pe_ix ix_list (pe_var (i := 0) rfl (by first | exact Or.inl rfl | exact Or.inr (Or.inl rfl) | exact Or.inr (Or.inr rfl))) pe_int fun _ _ => rfl))
      (pss_cons (ps_asg (pe_op op_mod (pe_callTy call_intA rfl T.z_int (by decide +kernel) (pa_cons (pe_op op_add (pe_op op_add (pe_op op_add (pe_op op_pow (pe_var (i := 4) rfl (by first | exact Or.inl rfl | exact Or.inr (Or.inl rfl) | exact Or.inr (Or.inr rfl))) pe_int) (pe_op op_mul (pe_var (i := 4) rfl (by first | exact Or.inl rfl | exact Or.inr (Or.inl rfl) | exact Or.inr (Or.inr rfl))) pe_int)) (pe_op op_mul (pe_ix ix_list (pe_var (i := 0) rfl (by first | exact Or.inl rfl | exact Or.inr (Or.inl rfl) | exact Or.inr (Or.inr rfl))) pe_int fun _ _ => rfl) pe_int)) pe_int) pa_nil)) pe_int) (pg_sub (pe_var (i := 0) rfl (by first | exact Or.inl rfl | exact Or.inr (Or.inl rfl) | exact Or.inr (Or.inr rfl))) pe_int set_list (by intro _; rfl)))
      (pss_cons (ps_ret (pe_op op_mod (pe_callTy call_intA rfl T.z_int (by decide +kernel) (pa_cons (pe_op op_add (pe_op op_fdiv (pe_ix ix_list (pe_var (i := 0) rfl (by first | exact Or.inl rfl | exact Or.inr (Or.inl rfl) | exact Or.inr (Or.inr rfl))) pe_int fun _ _ => rfl) pe_int) (pe_op op_mul (pe_op op_mod (pe_callTy call_intA rfl T.z_int (by decide +kernel) (pa_cons (pe_ix ix_list (pe_var (i := 0) rfl (by first | exact Or.inl rfl | exact Or.inr (Or.inl rfl) | exact Or.inr (Or.inr rfl))) pe_int fun _ _ => rfl) pa_nil)) pe_int) pe_int)) pa_nil)) (pe_var (i := 1) rfl (by first | exact Or.inl rfl | exact Or.inr (Or.inl rfl) | exact Or.inr (Or.inr rfl)))))
      pss_nil))))))
theorem der_word_at (T : Tp K mg) {cdv : Value} {A : Around} {outer : List PySem.Env} {s : Shared} {H : Hp} {E : XK} {Fm : Fm} (hr : Room 0 (cxD P w K mg base ["at", "word", "left"] "word_at" (defScope s_word_at) T.f_word_at cdv A outer s H E).A) :
    FSs cm (cxD P w K mg base ["at", "word", "left"] "word_at" (defScope s_word_at) T.f_word_at cdv A outer s H E) Fm (wxD E) [] ⟨[], [], [], false⟩ (defBody s_word_at) b_word_at :=
  (fss_cons (O1 := []) (fs_par (i := 1) (j := 2) rfl sc_word_at.nd (fv_e (f_str' [] lit_0)) (fv_e (fe_op op_add3 op2_add f_add (fqn 0 (fp (f_int'))))))
      ((fss_cons (O1 := []) (fs_while 10 ownD (ft_cmp op_gt (op2_I fun _ _ _ => .bl _) f_gt (fqn 2 (fp (f_int'))))
        ((fss_cons (O1 := []) (fs_aug (i := 2) sc_word_at.nd iop_sub (op2_I fun _ _ _ => .int _) f_sub (f_int'))
      ((fss_cons (O1 := []) (fs_set (i := 1) sc_word_at.nd (fv_e (fe_op op_add3 op2_add f_add (fq (fe_ix (fq (f_globS low T.c_LOWER.2 lit_1) (fp (fe_op op_mod (op2_IC fun _ _ _ => .int _) f_mod (fqn 2 (fp (f_int'))))))) (fvp 1)))))
      ((fss_cons (O1 := []) (fs_aug (i := 2) sc_word_at.nd iop_fdiv (op2_IC fun _ _ _ => .int _) f_div (f_int'))
      (fss_nil))))))))
      ((fss_cons (O1 := []) (fs_ret (fv_e (fv 1)))
      (fss_nil))))))
theorem ok_word_at (T : Tp K mg) : FnOk P w K mg base (L2.CX P w) 1 T.f_word_at T.fd_word_at ["at"] (spD K (spF cm 1 false f_word_at)) := by

  exact okF T.F_word_at sc_word_at fun cdv A outer s H E Fm hr => der_word_at T hr 
theorem der_fresh_things (T : Tp K mg) {cdv : Value} {A : Around} {outer : List PySem.Env} {s : Shared} {H : Hp} {E : XK} {Fm : Fm} (hr : Room 1 (cxD P w K mg base ["many", "taken", "found", "at", "word"] "fresh_things" (defScope s_fresh_things) T.f_fresh_things cdv A outer s H E).A) (G_word_at : FnOk P w K mg base (L2.CX P w) 1 T.f_word_at T.fd_word_at ["at"] (spD K (spF cm 1 false f_word_at))) :
    FSs cm (cxD P w K mg base ["many", "taken", "found", "at", "word"] "fresh_things" (defScope s_fresh_things) T.f_fresh_things cdv A outer s H E) Fm (wxD E) [] ⟨[], [], [], false⟩ (defBody s_fresh_things) b_fresh_things :=
  (fss_cons (O1 := [2]) (fs_par (i := 2) (j := 3) rfl sc_fresh_things.nd (fv_l (fl_lst (fa_nil))) (fv_e (f_int')))
      ((fss_cons (O1 := [2]) (fs_while 100000 ownD (ft_cmp op_lt (op2_I fun _ _ _ => .bl _) f_lt (fq (fe_len T.z_len (fvp 2)) (fvp 0)))
        ((fss_cons (O1 := [2]) (fs_set (i := 4) sc_fresh_things.nd (fv_e (fe_v (fv_call (dd := []) G_word_at (hr.mono (by omega)) T.m_word_at T.F_word_at.kp (bd_word_at_1 T) .nil (fun _ => Reps.nil) (snk_of takesD) (fa_cons (fv 3) (fa_nil)) (fk_nil)))))
      ((fss_cons (O1 := [2]) (fs_if (ft_cmp (op_niP hr.units) op2_in f_in (fqn 4 (fvp 1)))
        ((fss_cons (O1 := [2]) (fs_append 2 (fv 4))
      (fss_nil)))
        (fss_nil))
      ((fss_cons (O1 := [2]) (fs_aug (i := 3) sc_fresh_things.nd iop_add (op2_I fun _ _ _ => .int _) f_addI (f_int'))
      (fss_nil))))))))
      ((fss_cons (O1 := []) (fs_frz (O' := []) (by rfl) (fs_ret (fv_e (fv 2))))
      (fss_nil))))))
theorem ok_fresh_things (T : Tp K mg) : FnV P w K mg base (L2.CX P w) 2 T.f_fresh_things T.fd_fresh_things ((["many"] : List Str) ++ [("taken" : Str)]) (spD K (spF cm 2 false f_fresh_things)) := by
  have G_word_at := ok_word_at (P := P) (w := w) (base := base) T
  exact okFV (ps := ["many", "taken"]) T.F_fresh_things sc_fresh_things fun cdv A outer s H E Fm hr => der_fresh_things T hr G_word_at
theorem der__law_of (T : Tp K mg) {cdv : Value} {A : Around} {outer : List PySem.Env} {s : Shared} {H : Hp} {E : XK} {Fm : Fm} (hr : Room 1 (cxD P w K mg base ["_law_bag_here", "_law_some"] "_law_of" (defScope s__law_of) T.f__law_of cdv A outer s H E).A) (G__law_draw : FnOk P w K mg base (L2.CX P w) 1 T.f__law_draw T.fd__law_draw ["_law_bag_here", "_law_many_y"] (spD K (spF cm 2 false fDraw))) :
    FSs cm (cxD P w K mg base ["_law_bag_here", "_law_some"] "_law_of" (defScope s__law_of) T.f__law_of cdv A outer s H E) Fm (wxD E) [] ⟨[], [], [], false⟩ (defBody s__law_of) b__law_of :=
  (fss_cons (O1 := []) (fs_ret (fv_e (fe_ix (fqn 1 (fp (fe_v (fv_call (dd := []) G__law_draw (hr.mono (by omega)) T.m__law_draw T.F__law_draw.kp (bd__law_draw_2 T) .nil (fun _ => Reps.nil) (snk_of takesD) (fa_cons (fv 0) (fa_cons (fe_len T.z_len (fvp 1)) (fa_nil))) (fk_nil))))))))
      (fss_nil))
theorem ok__law_of (T : Tp K mg) : FnOk P w K mg base (L2.CX P w) 2 T.f__law_of T.fd__law_of ["_law_bag_here", "_law_some"] (spD K (spF cm 2 false f__law_of)) := by
  have G__law_draw := ok__law_draw (P := P) (w := w) (base := base) T
  exact okF T.F__law_of sc__law_of fun cdv A outer s H E Fm hr => der__law_of T hr G__law_draw
theorem der__law_names (T : Tp K mg) {cdv : Value} {A : Around} {outer : List PySem.Env} {s : Shared} {H : Hp} {E : XK} {Fm : Fm} (hr : Room 2 (cxD P w K mg base ["_law_bag_here", "_law_many_y", "_law_letters", "_law_stem", "_law_at", "_law_first", "_law_k"] "_law_names" (defScope s__law_names) T.f__law_names cdv A outer s H E).A) (G__law_of : FnOk P w K mg base (L2.CX P w) 2 T.f__law_of T.fd__law_of ["_law_bag_here", "_law_some"] (spD K (spF cm 2 false f__law_of))) (G__law_draw : FnOk P w K mg base (L2.CX P w) 1 T.f__law_draw T.fd__law_draw ["_law_bag_here", "_law_many_y"] (spD K (spF cm 2 false fDraw))) :
    FSs cm (cxD P w K mg base ["_law_bag_here", "_law_many_y", "_law_letters", "_law_stem", "_law_at", "_law_first", "_law_k"] "_law_names" (defScope s__law_names) T.f__law_names cdv A outer s H E) Fm (wxD E) [] ⟨[], [], [], false⟩ (defBody s__law_names) b__law_names :=
  (fss_cons (O1 := []) (fs_set (i := 2) sc__law_names.nd (fv_e (f_str' low lit_1)))
      ((fss_cons (O1 := []) (fs_set (i := 3) sc__law_names.nd (fv_e (fe_m1 PySem.F.slot_str_join PySem.F.type_str_join mt_join op2_join f_join (f_str' [] lit_0) (fl_p (fl_lc (O := []) (own := [("_law_k", 6)]) (by rfl) sc__law_names.nd (fi_range T.z_range (fe_v (fv_call (dd := []) G__law_of (hr.mono (by omega)) T.m__law_of T.F__law_of.kp (bd__law_of_2 T) .nil (fun _ => Reps.nil) (snk_of takesD) (fa_cons (fv 0) (fa_cons (fl_e (fl_lst (fa_cons (f_int') (fa_cons (f_int') (fa_cons (f_int') (fa_cons (f_int') (fa_cons (f_int') (fa_nil)))))))) (fa_nil))) (fk_nil)))) (blkOk_by (N := ["_law_bag_here", "_law_many_y", "_law_letters", "_law_stem", "_law_at", "_law_first", "_law_k"]) (sc := defScope s__law_names) (by decide +kernel)) (fun _ _ _ _ _ => fg 6 sc__law_names.nd) (fun _ _ _ _ _ => fts_nil) (fun _ _ _ _ _ => fe_v (fv_call (dd := []) G__law_of (hr.mono (by omega)) T.m__law_of T.F__law_of.kp (bd__law_of_2 T) .nil (fun _ => Reps.nil) snk0 (fa_cons (fv 0) (fa_cons (fv 2) (fa_nil))) (fk_nil))))))))
      ((fss_cons (O1 := []) (fs_asg (fe_tup (fa_cons (fe_v (fv_call (dd := []) G__law_draw (hr.mono (by omega)) T.m__law_draw T.F__law_draw.kp (bd__law_draw_2 T) .nil (fun _ => Reps.nil) (snk_of takesD) (fa_cons (fv 0) (fa_cons (fe_op op_add3 op2_add f_add (fq (fe_len T.z_len (fvp 3)) (fp (f_int')))) (fa_nil))) (fk_nil))) (fa_cons (fe_v (fv_call (dd := []) G__law_draw (hr.mono (by omega)) T.m__law_draw T.F__law_draw.kp (bd__law_draw_2 T) .nil (fun _ => Reps.nil) (snk_of takesD) (fa_cons (fv 0) (fa_cons (f_int') (fa_nil))) (fk_nil))) (fa_nil)))) (fg_tup K 2 (by rfl) (fgs_cons (fg 4 sc__law_names.nd) (fgs_cons (fg 5 sc__law_names.nd) (fgs_nil)))))
      ((fss_cons (O1 := []) (fs_ret (fv_e (fl_e (fl_lc (O := []) (own := [("_law_k", 6)]) (by rfl) sc__law_names.nd (fi_range T.z_range (fv 1)) (blkOk_by (N := ["_law_bag_here", "_law_many_y", "_law_letters", "_law_stem", "_law_at", "_law_first", "_law_k"]) (sc := defScope s__law_names) (by decide +kernel)) (fun _ _ _ _ _ => fg 6 sc__law_names.nd) (fun _ _ _ _ _ => fts_nil) (fun _ _ _ _ _ => fe_op op_add3 op2_add f_add (fq (fe_op op_add3 op2_add f_add (fq (fe_sl (fq3n 3 fo_none (fo_some (fv 4)))) (fp (fe_ix (fqn 2 (fp (fe_op op_mod (op2_IC fun _ _ _ => .int _) f_mod (fq (fe_int T.z_int (fp (fe_op op_add3 op2_add f_add (fqn 5 (fp (fe_op op_mul (op2_IC fun _ _ _ => .int _) f_mul (fq (f_int') (fvp 6)))))))) (fp (f_int')))))))))) (fp (fe_sl (fq3n 3 (fo_some (fv 4)) fo_none)))))))))
      (fss_nil))))))))
theorem ok__law_names (T : Tp K mg) : FnOk P w K mg base (L2.CX P w) 3 T.f__law_names T.fd__law_names ["_law_bag_here", "_law_many_y"] (spD K (spF cm 2 false f__law_names)) := by
  have G__law_of := ok__law_of (P := P) (w := w) (base := base) T
  have G__law_draw := ok__law_draw (P := P) (w := w) (base := base) T
  exact okF T.F__law_names sc__law_names fun cdv A outer s H E Fm hr => der__law_names T hr G__law_of G__law_draw
theorem der_law (T : Tp K mg) {cdv : Value} {A : Around} {outer : List PySem.Env} {s : Shared} {H : Hp} {E : XK} {Fm : Fm} (hr : Room 3 (cxD P w K mg base ["_law_script", "_law_bag_here", "_law_many_z", "_law_names_here", "_law_plain", "_law_few", "_law_found", "_law_gone", "_law_told", "_law_lost", "_law_one"] "law" (defScope s_law) T.f_law cdv A outer s H E).A) (G__law_draw : FnOk P w K mg base (L2.CX P w) 1 T.f__law_draw T.fd__law_draw ["_law_bag_here", "_law_many_y"] (spD K (spF cm 2 false fDraw))) (G__law_names : FnOk P w K mg base (L2.CX P w) 3 T.f__law_names T.fd__law_names ["_law_bag_here", "_law_many_y"] (spD K (spF cm 2 false f__law_names))) (G_fresh_things : FnV P w K mg base (L2.CX P w) 2 T.f_fresh_things T.fd_fresh_things ((["many"] : List Str) ++ [("taken" : Str)]) (spD K (spF cm 2 false f_fresh_things))) :
    FSs cm (cxD P w K mg base ["_law_script", "_law_bag_here", "_law_many_z", "_law_names_here", "_law_plain", "_law_few", "_law_found", "_law_gone", "_law_told", "_law_lost", "_law_one"] "law" (defScope s_law) T.f_law cdv A outer s H E) Fm (wxD E) [] ⟨[], [], [], false⟩ ((defBody s_law).tail) b_law :=
  (fss_cons (O1 := []) (fs_set (i := 2) sc_law.nd (fv_e (fe_if (ft_cmp (op_eqP hr.units) op2_eq f_eq (fq (fe_v (fv_call (dd := []) G__law_draw (hr.mono (by omega)) T.m__law_draw T.F__law_draw.kp (bd__law_draw_2 T) .nil (fun _ => Reps.nil) (snk_of takesD) (fa_cons (fv 1) (fa_cons (f_int') (fa_nil))) (fk_nil))) (fp (f_int')))) (fe_v (fv_call (dd := []) G__law_draw (hr.mono (by omega)) T.m__law_draw T.F__law_draw.kp (bd__law_draw_2 T) .nil (fun _ => Reps.nil) (snk_of takesD) (fa_cons (fv 1) (fa_cons (f_int') (fa_nil))) (fk_nil))) (fe_v (fv_call (dd := []) G__law_draw (hr.mono (by omega)) T.m__law_draw T.F__law_draw.kp (bd__law_draw_2 T) .nil (fun _ => Reps.nil) (snk_of takesD) (fa_cons (fv 1) (fa_cons (f_int') (fa_nil))) (fk_nil))))))
      ((fss_cons (O1 := []) (fs_set (i := 3) sc_law.nd (fv_e (fe_v (fv_call (dd := []) G__law_names (hr.mono (by omega)) T.m__law_names T.F__law_names.kp (bd__law_names_2 T) .nil (fun _ => Reps.nil) (snk_of takesD) (fa_cons (fv 1) (fa_cons (f_int') (fa_nil))) (fk_nil)))))
      ((fss_cons (O1 := []) (fs_set (i := 4) sc_law.nd (fv_e (fe_v (fv_callS G_fresh_things (hr.mono (by omega)) T.m_fresh_things T.F_fresh_things.kp (bd_fresh_things_1 T) (snk_of takesD) (fa_cons (fv 2) (fa_nil)) (fk_nil)))))
      ((fss_cons (O1 := []) (fs_set (i := 5) sc_law.nd (fv_e (fl_e (fl_op op_cat op2_cat f_cat (fq (fl_e (fl_sl (fq3n 4 fo_none (fo_some (f_int'))))) (fl_p (fl_sl (fq3n 3 fo_none (fo_some (f_int'))))))))))
      ((fss_cons (O1 := [6]) (fs_set (i := 6) sc_law.nd (fv_l (fl_lst (fa_cons (fv 4) (fa_cons (fe_v (fv_callS0 G_fresh_things (hr.mono (by omega)) T.m_fresh_things T.F_fresh_things.kp (bd_fresh_things_0_many T) (snk_of takesD) (fk_cons (fv 2) (fk_nil)))) (fa_cons (fe_v (fv_callS G_fresh_things (hr.mono (by omega)) T.m_fresh_things T.F_fresh_things.kp (bd_fresh_things_2 T) (snk_of takesD) (fa_cons (fv 2) (fa_cons (fe_ix (fqn 3 (fp (f_int')))) (fa_nil))) (fk_nil))) (fa_cons (fe_v (fv_callS G_fresh_things (hr.mono (by omega)) T.m_fresh_things T.F_fresh_things.kp (bd_fresh_things_4 T) (snk_of takesD) (fa_cons (fv 2) (fa_cons (fe_ix (fqn 3 (fp (f_int')))) (fa_cons (fe_ix (fqn 3 (fp (f_int')))) (fa_cons (fe_ix (fqn 3 (fp (f_int')))) (fa_nil))))) (fk_nil))) (fa_nil))))))))
      ((fss_cons (O1 := [7, 6]) (fs_set (i := 7) sc_law.nd (fv_l (fl_lst (fa_cons (fl_e (fl_lst (fa_nil))) (fa_cons (fl_e (fl_lst (fa_nil))) (fa_cons (fl_e (fl_sl (fq3n 3 fo_none (fo_some (f_int'))))) (fa_cons (fv 3) (fa_nil))))))))
      ((fss_cons (O1 := [7, 6]) (fs_if (ft_cmp (op_neP hr.units) op2_ne f_ne (fqn 5 (fl_p (fl_lst (fa_nil)))))
        ((fss_cons (O1 := [7, 6]) (fs_append 6 (fe_v (fv_callS G_fresh_things (hr.mono (by omega)) T.m_fresh_things T.F_fresh_things.kp (bd_fresh_things_2 T) (snk_of takesD) (fa_cons (fv 2) (fa_cons (fe_ix (fqn 5 (fp (f_int')))) (fa_nil))) (fk_nil))))
      ((fss_cons (O1 := [7, 6]) (fs_append 7 (fl_e (fl_sl (fq3n 5 fo_none (fo_some (f_int'))))))
      (fss_nil)))))
        (fss_nil))
      ((fss_cons (O1 := []) (fs_frz (O' := []) (by rfl) (fs_for ownD rfl (fi_zip T.z_zip (fv 6) (fv 7)) (fg_tup K 2 (by rfl) (fgs_cons (fg 8 sc_law.nd) (fgs_cons (fg 9 sc_law.nd) (fgs_nil))))
        ((fss_cons (O1 := []) (fs_if (ft_w (fw_or (ft_not (ft_val (fe_isi "list" is_list T.z_isinstance T.z_list (fvp 8)))) (fw_or (ft_cmp (op_neP hr.units) op2_ne f_ne (fq (fe_len T.z_len (fvp 8)) (fvp 2))) (fw_or1 (ft_cmp (op_neP hr.units) op2_ne f_ne (fq (fe_lenSet rfl T.z_len T.z_set (fvp 8)) (fvp 2)))))))
        ((fss_cons (O1 := []) (fs_ret (fv_e (f_bl)))
      (fss_nil)))
        (fss_nil))
      ((fss_cons (O1 := []) (fs_if (ft_not (ft_val (fe_all rfl T.z_all (fl_p (fl_lc (O := []) (own := [("_law_one", 10)]) (by rfl) sc_law.nd (fi_seq (fv 8)) (blkOk_by (N := ["_law_script", "_law_bag_here", "_law_many_z", "_law_names_here", "_law_plain", "_law_few", "_law_found", "_law_gone", "_law_told", "_law_lost", "_law_one"]) (sc := defScope s_law) (by decide +kernel)) (fun _ _ _ _ _ => fg 10 sc_law.nd) (fun _ _ _ _ _ => fts_nil) (fun _ _ _ _ _ => fe_and (fe_isi "str" is_str T.z_isinstance T.z_str (fvp 10)) (fe_and (fe_chain op_le (op2_I fun _ _ _ => .bl _) f_le op_le (op2_I fun _ _ _ => .bl _) f_le (f_int') (fe_len T.z_len (fvp 10)) (f_int')) (fe_and (fe_isalpha (fv 10)) (fe_one (fe_islower (fv 10)))))))))))
        ((fss_cons (O1 := []) (fs_ret (fv_e (f_bl)))
      (fss_nil)))
        (fss_nil))
      ((fss_cons (O1 := []) (fs_if (ft_val (fe_any rfl T.z_any (fl_p (fl_lc (O := []) (own := [("_law_one", 10)]) (by rfl) sc_law.nd (fi_seq (fv 8)) (blkOk_by (N := ["_law_script", "_law_bag_here", "_law_many_z", "_law_names_here", "_law_plain", "_law_few", "_law_found", "_law_gone", "_law_told", "_law_lost", "_law_one"]) (sc := defScope s_law) (by decide +kernel)) (fun _ _ _ _ _ => fg 10 sc_law.nd) (fun _ _ _ _ _ => fts_nil) (fun _ _ _ _ _ => fe_cmp (op_inP hr.units) op2_in f_in (fqn 10 (fvp 9)))))))
        ((fss_cons (O1 := []) (fs_ret (fv_e (f_bl)))
      (fss_nil)))
        (fss_nil))
      (fss_nil)))))))))
      ((fss_cons (O1 := []) (fs_if (ft_w (fw_or (ft_cmp (op_neP hr.units) op2_ne f_ne (fq (fe_v (fv_callS G_fresh_things (hr.mono (by omega)) T.m_fresh_things T.F_fresh_things.kp (bd_fresh_things_1 T) (snk_of takesD) (fa_cons (fv 2) (fa_nil)) (fk_nil))) (fvp 4))) (fw_or1 (ft_cmp (op_neP hr.units) op2_ne f_ne (fq (fe_lenSet rfl T.z_len T.z_set (fp (fe_v (fv_callS G_fresh_things (hr.mono (by omega)) T.m_fresh_things T.F_fresh_things.kp (bd_fresh_things_3 T) (snk_of takesD) (fa_cons (f_int') (fa_cons (f_str' [97] lit_2) (fa_cons (f_str' [97, 97] lit_3) (fa_nil)))) (fk_nil))))) (fp (f_int')))))))
        ((fss_cons (O1 := []) (fs_ret (fv_e (f_bl)))
      (fss_nil)))
        (fss_nil))
      ((fss_cons (O1 := []) (fs_ret (fv_e (fe_and (fe_cmp (op_eqP hr.units) op2_eq f_eq (fq (fe_v (fv_callS G_fresh_things (hr.mono (by omega)) T.m_fresh_things T.F_fresh_things.kp (bd_fresh_things_1 T) (snk_of takesD) (fa_cons (f_int') (fa_nil)) (fk_nil))) (fl_p (fl_lst (fa_nil))))) (fe_one (fe_cmp (op_eqP hr.units) op2_eq f_eq (fq (fe_len T.z_len (fp (fe_v (fv_callS G_fresh_things (hr.mono (by omega)) T.m_fresh_things T.F_fresh_things.kp (bd_fresh_things_5 T) (snk_of takesD) (fa_cons (f_int') (fa_cons (f_str' [97] lit_2) (fa_cons (f_str' [98] lit_4) (fa_cons (f_str' [99] lit_5) (fa_cons (f_str' [100] lit_6) (fa_nil)))))) (fk_nil))))) (fp (f_int'))))))))
      (fss_nil))))))))))))))))))))
theorem ok_law_ (T : Tp K mg) : FnOk P w K mg base (L2.CX P w) 4 T.f_law T.fd_law ["_law_script"] (spLaw K) := by
  have G__law_draw := ok__law_draw (P := P) (w := w) (base := base) T
  have G__law_names := ok__law_names (P := P) (w := w) (base := base) T
  have G_fresh_things := ok_fresh_things (P := P) (w := w) (base := base) T
  refine okF_law (cm := cm) (k := 3) T.F_law sc_law (by decide) (fun cdv A outer s H E hr => ⟨_, (defBody s_law).tail, rfl, ps_set (i := 1) sc_law.nd rfl (by first | exact Or.inl rfl | exact Or.inr rfl) (pe_callSD (E := fun _ _ _ _ => False) (ok_bag_ T) (hr.mono (by omega)) rfl T.m__law_bag T.F__law_bag.kp (bdS__law_bag T) .nil snkF (pa_cons (pe_var (i := 0) rfl (by first | exact Or.inl rfl | exact Or.inr (Or.inl rfl) | exact Or.inr (Or.inr rfl))) pa_nil)), fun Fm => der_law T hr G__law_draw G__law_names G_fresh_things⟩) plain_law
end
theorem all_mk {l : PySem.W.OpenLaw} {w : World} {K : PySem.W.Frag} {h : Heap} {mg : Str → Option Value} {fa : Addr} (X : K.In h) (G : h.Ns mainGlobals mg) (hfa : mg "law" = some (.ref fa))
    {f0 : Addr} {od0 an0 : Option Addr} {sl0 : Array (Option Value)} {oc0 kV0 dc0 pm0 cd0 ct0 : Value} {f1 : Addr} {od1 an1 : Option Addr} {sl1 : Array (Option Value)} {oc1 kV1 dc1 pm1 cd1 ct1 : Value} {f2 : Addr} {od2 an2 : Option Addr} {sl2 : Array (Option Value)} {oc2 kV2 dc2 pm2 cd2 ct2 : Value} {f3 : Addr} {od3 an3 : Option Addr} {sl3 : Array (Option Value)} {oc3 kV3 dc3 pm3 cd3 ct3 : Value} {f4 : Addr} {od4 an4 : Option Addr} {sl4 : Array (Option Value)} {oc4 kV4 dc4 pm4 cd4 ct4 : Value} {f5 : Addr} {od5 an5 : Option Addr} {sl5 : Array (Option Value)} {oc5 kV5 dc5 pm5 cd5 ct5 : Value} {f6 : Addr} {od6 an6 : Option Addr} {sl6 : Array (Option Value)} {oc6 kV6 dc6 pm6 cd6 ct6 : Value} {t0 : Tok}
        (a0 : PySem.W.nsIn K mainGlobals "word_at" = some (some (.ref f0))) (l0 : K.lookup f0 = some ⟨oc0, od0, .func (PySem.W.fnOf "word_at" "word_at" (defArgs s_word_at) (defBody s_word_at) (defScope s_word_at) .none kV0 dc0 pm0 an0 cd0 ct0), sl0⟩) (c0 : PySem.W.codeIn K cd0 "word_at" = true) (k0 : PySem.W.keepIn K (.ref f0) = true)
    (a1 : PySem.W.nsIn K mainGlobals "fresh_things" = some (some (.ref f1))) (l1 : K.lookup f1 = some ⟨oc1, od1, .func (PySem.W.fnOf "fresh_things" "fresh_things" (defArgs s_fresh_things) (defBody s_fresh_things) (defScope s_fresh_things) .none kV1 dc1 pm1 an1 cd1 ct1), sl1⟩) (c1 : PySem.W.codeIn K cd1 "fresh_things" = true) (k1 : PySem.W.keepIn K (.ref f1) = true)
    (a2 : PySem.W.nsIn K mainGlobals "_law_bag" = some (some (.ref f2))) (l2 : K.lookup f2 = some ⟨oc2, od2, .func (PySem.W.fnOf "_law_bag" "_law_bag" (defArgs s__law_bag) (defBody s__law_bag) (defScope s__law_bag) .none kV2 dc2 pm2 an2 cd2 ct2), sl2⟩) (c2 : PySem.W.codeIn K cd2 "_law_bag" = true) (k2 : PySem.W.keepIn K (.ref f2) = true)
    (a3 : PySem.W.nsIn K mainGlobals "_law_draw" = some (some (.ref f3))) (l3 : K.lookup f3 = some ⟨oc3, od3, .func (PySem.W.fnOf "_law_draw" "_law_draw" (defArgs s__law_draw) (defBody s__law_draw) (defScope s__law_draw) .none kV3 dc3 pm3 an3 cd3 ct3), sl3⟩) (c3 : PySem.W.codeIn K cd3 "_law_draw" = true) (k3 : PySem.W.keepIn K (.ref f3) = true)
    (a4 : PySem.W.nsIn K mainGlobals "_law_of" = some (some (.ref f4))) (l4 : K.lookup f4 = some ⟨oc4, od4, .func (PySem.W.fnOf "_law_of" "_law_of" (defArgs s__law_of) (defBody s__law_of) (defScope s__law_of) .none kV4 dc4 pm4 an4 cd4 ct4), sl4⟩) (c4 : PySem.W.codeIn K cd4 "_law_of" = true) (k4 : PySem.W.keepIn K (.ref f4) = true)
    (a5 : PySem.W.nsIn K mainGlobals "_law_names" = some (some (.ref f5))) (l5 : K.lookup f5 = some ⟨oc5, od5, .func (PySem.W.fnOf "_law_names" "_law_names" (defArgs s__law_names) (defBody s__law_names) (defScope s__law_names) .none kV5 dc5 pm5 an5 cd5 ct5), sl5⟩) (c5 : PySem.W.codeIn K cd5 "_law_names" = true) (k5 : PySem.W.keepIn K (.ref f5) = true)
    (a6 : PySem.W.nsIn K mainGlobals "law" = some (some (.ref f6))) (l6 : K.lookup f6 = some ⟨oc6, od6, .func (PySem.W.fnOf "law" "law" (defArgs s_law) (defBody s_law) (defScope s_law) .none kV6 dc6 pm6 an6 cd6 ct6), sl6⟩) (c6 : PySem.W.codeIn K cd6 "law" = true) (k6 : PySem.W.keepIn K (.ref f6) = true)
    (z0 : PySem.W.nsIn K mainGlobals "len" = some none)
    (z1 : PySem.W.nsIn K mainGlobals "range" = some none)
    (z2 : PySem.W.nsIn K mainGlobals "int" = some none)
    (z3 : PySem.W.nsIn K mainGlobals "zip" = some none)
    (z4 : PySem.W.nsIn K mainGlobals "isinstance" = some none)
    (z5 : PySem.W.nsIn K mainGlobals "list" = some none)
    (z6 : PySem.W.nsIn K mainGlobals "set" = some none)
    (z7 : PySem.W.nsIn K mainGlobals "str" = some none)
    (z8 : PySem.W.nsIn K mainGlobals "all" = some none)
    (z9 : PySem.W.nsIn K mainGlobals "any" = some none)
    (y0 : PySem.W.nsIn K mainGlobals "LOWER" = some (some (.str "abcdefghijklmnopqrstuvwxyz" t0))) :
    ∃ fd : FuncData, (∀ (s : Shared) (v : Value), BindsTo s fd ⟨[v], []⟩ [("_law_script", v)]) ∧ ∀ base : Heap, K.In base → base.Ns mainGlobals mg → FnOk l.prog w K mg base (L2.CX l.prog w) 4 fa fd ["_law_script"] (spLaw K) := by
  have e := hfa.symm.trans (PySem.W.mg_of X G a6)
  cases e
  let T : Tp K mg := { f_word_at := f0, fd_word_at := _, F_word_at := fun_mk (st := s_word_at) l0 c0 k0, m_word_at := PySem.W.mg_of X G a0, f_fresh_things := f1, fd_fresh_things := _, F_fresh_things := fun_mk (st := s_fresh_things) l1 c1 k1, m_fresh_things := PySem.W.mg_of X G a1, f__law_bag := f2, fd__law_bag := _, F__law_bag := fun_mk (st := s__law_bag) l2 c2 k2, m__law_bag := PySem.W.mg_of X G a2, f__law_draw := f3, fd__law_draw := _, F__law_draw := fun_mk (st := s__law_draw) l3 c3 k3, m__law_draw := PySem.W.mg_of X G a3, f__law_of := f4, fd__law_of := _, F__law_of := fun_mk (st := s__law_of) l4 c4 k4, m__law_of := PySem.W.mg_of X G a4, f__law_names := f5, fd__law_names := _, F__law_names := fun_mk (st := s__law_names) l5 c5 k5, m__law_names := PySem.W.mg_of X G a5, f_law := fa, fd_law := _, F_law := fun_mk (st := s_law) l6 c6 k6, m_law := PySem.W.mg_of X G a6, z_len := PySem.W.mg_none_of X G z0, z_range := PySem.W.mg_none_of X G z1, z_int := PySem.W.mg_none_of X G z2, z_zip := PySem.W.mg_none_of X G z3, z_isinstance := PySem.W.mg_none_of X G z4, z_list := PySem.W.mg_none_of X G z5, z_set := PySem.W.mg_none_of X G z6, z_str := PySem.W.mg_none_of X G z7, z_all := PySem.W.mg_none_of X G z8, z_any := PySem.W.mg_none_of X G z9, c_LOWER := ⟨t0, PySem.W.mg_of X G y0⟩ }
  exact ⟨_, fun s v => .of_eq rfl, fun base _ _ => ok_law_ T⟩
end K03

open PySem PySem.W PyProof.Rows
set_option maxRecDepth 100000 in
set_option maxHeartbeats 0 in
theorem PySem.Challenge.cw_plainsure_k03_fresh_things_holds : PySem.Challenge.rw_plainsure_k03_fresh_things.Holds := by
  w_on; o_law; k_head; (case hw => w_witness2)
  k_fill
  refine L2.walk_of (l := PySem.Challenge.rw_plainsure_k03_fresh_things) (n := 63) (k := 4) (x := "_law_script") (CX := fun w => L2.CX (PySem.Challenge.rw_plainsure_k03_fresh_things).prog w) (sp := fun w => PD.spLaw _) rfl (by decide) rfl ⟨rfl, by decide, by decide⟩ (fun w h Y => PySem.W.kIn_of Y) ?F (fun _ _ a ns hl _ hS => ⟨a, ns, rfl, hS, hl, fun _ => rfl⟩) ?E
  case F =>
    intro w mg fa h KX G hmg
    refine' K03.all_mk KX G hmg ?a0 ?l0 ?c0 ?k0 ?a1 ?l1 ?c1 ?k1 ?a2 ?l2 ?c2 ?k2 ?a3 ?l3 ?c3 ?k3 ?a4 ?l4 ?c4 ?k4 ?a5 ?l5 ?c5 ?k5 ?a6 ?l6 ?c6 ?k6 ?z0 ?z1 ?z2 ?z3 ?z4 ?z5 ?z6 ?z7 ?z8 ?z9 ?y0
    (case a0 => k_is); (case l0 => k_is); (case c0 => k_is); (case k0 => k_is); (case a1 => k_is); (case l1 => k_is); (case c1 => k_is); (case k1 => k_is); (case a2 => k_is); (case l2 => k_is); (case c2 => k_is); (case k2 => k_is); (case a3 => k_is); (case l3 => k_is); (case c3 => k_is); (case k3 => k_is); (case a4 => k_is); (case l4 => k_is); (case c4 => k_is); (case k4 => k_is); (case a5 => k_is); (case l5 => k_is); (case c5 => k_is); (case k5 => k_is); (case a6 => k_is); (case l6 => k_is); (case c6 => k_is); (case k6 => k_is); (case z0 => k_is); (case z1 => k_is); (case z2 => k_is); (case z3 => k_is); (case z4 => k_is); (case z5 => k_is); (case z6 => k_is); (case z7 => k_is); (case z8 => k_is); (case z9 => k_is); (case y0 => k_is)
  case E =>
    intro w H s e s' h
    obtain ⟨_, _, _, _, _, _, _, _, _, _, _, _, z⟩ := h
    exact z
