import PyProof.Rows.All
import Wide.All
import OpenK.AllK
import Wide.FinOn
import HandS.ForMost
import HandS.ForExc
import HandS.Evl
import HandS.Zip
import HandS.Wide
import HandS.TupAny
import HandS.TupMul
import HandS.Style
import HandS.IsInst
import HandS.Deep
import HandS.StrMore
import HandS.SetFor
import HandS.WordsExc
import HandS.EndBits
import PyProof.Rows.RegReprOcc
import PyProof.ReprRoads
import PyProof.ReprBulk
import HandS.SortInts
import HandS.Conv
import HandS.TupSets
import HandS.Strs
import HandS.DictTup
import PySem.Challenge.RW_fairarcs_k03_values_that_are_strands
set_option Elab.async false
set_option linter.all false
set_option maxRecDepth 100000
set_option maxHeartbeats 4000000
/-! FX1: a functional semantics over HandS: data, slots, worlds. -/
namespace FX
open PySem L2
open Evl (Ex ex_rd ex_l ex_t)

/-- data by value -/
inductive Dt where
  | non | bl (b : Bool) | int (i : Int) | str (x : Str) | tup (ds : List Dt) | lst (ds : List Dt) | scr (ns : List Int) | emp

mutual
inductive Rp (K : PySem.W.Frag) (F : Hp) : V → Dt → Prop
  | non : Rp K F .non .non
  | bl (b : Bool) : Rp K F (.bl b) (.bl b)
  | int (i : Int) : Rp K F (.int i) (.int i)
  | str (x : Str) : Rp K F (.str x) (.str x)
  | tup {a : Addr} {vs : List V} {ds : List Dt} : SqT K F a vs → vs.length ≤ sizeLine → RpAll K F vs ds → Rp K F (.ref a) (.tup ds)
  | lst {a : Addr} {vs : List V} {ds : List Dt} : F a = some (.lst vs) → vs.length ≤ sizeLine → RpAll K F vs ds → Rp K F (.ref a) (.lst ds)
  | scr {a : Addr} {ns : List Int} : SqL K F a (ns.map V.int) → Rp K F (.ref a) (.scr ns)
  | emp {a : Addr} : F a = some (.dK []) → Rp K F (.ref a) .emp
inductive RpAll (K : PySem.W.Frag) (F : Hp) : List V → List Dt → Prop
  | nil : RpAll K F [] []
  | cons {v : V} {vs : List V} {d : Dt} {ds : List Dt} : Rp K F v d → RpAll K F vs ds → RpAll K F (v :: vs) (d :: ds)
end

section
variable {K : PySem.W.Frag} {F F' H H' : Hp}
mutual
theorem Rp.mono (e : Ex F F') : ∀ {v : V} {d : Dt}, Rp K F v d → Rp K F' v d
  | _, _, .non => .non
  | _, _, .bl b => .bl b
  | _, _, .int i => .int i
  | _, _, .str x => .str x
  | _, _, .tup h z r => .tup (ex_t e h) z (RpAll.mono e r)
  | _, _, .lst h z r => .lst (e _ _ h) z (RpAll.mono e r)
  | _, _, .scr h => .scr (ex_l e h)
  | _, _, .emp h => .emp (e _ _ h)
theorem RpAll.mono (e : Ex F F') : ∀ {vs : List V} {ds : List Dt}, RpAll K F vs ds → RpAll K F' vs ds
  | _, _, .nil => .nil
  | _, _, .cons h r => .cons (Rp.mono e h) (RpAll.mono e r)
end
/-- no list within -/
def Dt.flat : Dt → Bool
  | .tup ds => go ds
  | .lst _ => false
  | .scr _ => false
  | _ => true
where go : List Dt → Bool
  | [] => true
  | d :: ds => Dt.flat d && go ds
mutual
theorem Rp.keep (h : ∀ a o, F a = some o → (∀ xs, o ≠ .lst xs) → F' a = some o) : ∀ {v : V} {d : Dt}, Rp K F v d → d.flat = true → Rp K F' v d
  | _, _, .non, _ => .non
  | _, _, .bl b, _ => .bl b
  | _, _, .int i, _ => .int i
  | _, _, .str x, _ => .str x
  | _, _, .tup ht z r, e => .tup (by
      rcases ht with (ht | ⟨o, ht⟩) | ht
      · exact .inl (.inl (h _ _ ht (fun _ q => nomatch q)))
      · exact .inl (.inr ⟨o, h _ _ ht (fun _ q => nomatch q)⟩)
      · exact .inr ht) z (RpAll.keep h r (by unfold Dt.flat at e; exact e))
  | _, _, .lst _ _ _, e => by unfold Dt.flat at e; cases e
  | _, _, .scr _, e => by unfold Dt.flat at e; cases e
  | _, _, .emp ht, _ => .emp (h _ _ ht (fun _ q => nomatch q))
theorem RpAll.keep (h : ∀ a o, F a = some o → (∀ xs, o ≠ .lst xs) → F' a = some o) : ∀ {vs : List V} {ds : List Dt}, RpAll K F vs ds → Dt.flat.go ds = true → RpAll K F' vs ds
  | _, _, .nil, _ => .nil
  | _, _, .cons a r, e => by
    unfold Dt.flat.go at e
    rw [Bool.and_eq_true] at e
    exact .cons (Rp.keep h a e.1) (RpAll.keep h r e.2)
end
theorem RpAll.length : ∀ {vs : List V} {ds : List Dt}, RpAll K F vs ds → vs.length = ds.length
  | _, _, .nil => rfl
  | _, _, .cons _ r => by simp [RpAll.length r]
theorem RpAll.get : ∀ {vs : List V} {ds : List Dt} {i : Nat} {d : Dt}, RpAll K F vs ds → ds[i]? = some d → ∃ v, vs[i]? = some v ∧ Rp K F v d
  | _, _, _, _, .nil, e => by simp at e
  | _, _, 0, _, .cons h _, e => by simp at e; subst e; exact ⟨_, rfl, h⟩
  | _, _, i + 1, d, .cons _ r, e => by
    obtain ⟨v, h1, h2⟩ := RpAll.get (i := i) (d := d) r (by simpa using e)
    exact ⟨v, by simpa using h1, h2⟩
theorem RpAll.getV : ∀ {vs : List V} {ds : List Dt} {i : Nat} {v : V}, RpAll K F vs ds → vs[i]? = some v → ∃ d, ds[i]? = some d ∧ Rp K F v d
  | _, _, _, _, .nil, e => by simp at e
  | _, _, 0, _, .cons h _, e => by simp at e; subst e; exact ⟨_, rfl, h⟩
  | _, _, i + 1, d, .cons _ r, e => by
    obtain ⟨v, h1, h2⟩ := RpAll.getV (i := i) (v := d) r (by simpa using e)
    exact ⟨v, by simpa using h1, h2⟩
theorem RpAll.append : ∀ {vs ws : List V} {ds es : List Dt}, RpAll K F vs ds → RpAll K F ws es → RpAll K F (vs ++ ws) (ds ++ es)
  | _, _, _, _, .nil, s => s
  | _, _, _, _, .cons h r, s => .cons h (RpAll.append r s)
theorem RpAll.one {v : V} {d : Dt} (h : Rp K F v d) : RpAll K F [v] [d] := .cons h .nil
theorem RpAll.set {v : V} {d : Dt} (h : Rp K F v d) : ∀ {vs : List V} {ds : List Dt} (i : Nat), RpAll K F vs ds → RpAll K F (vs.set i v) (ds.set i d)
  | _, _, _, .nil => .nil
  | _, _, 0, .cons _ r => .cons h r
  | _, _, i + 1, .cons a r => .cons a (RpAll.set h i r)
theorem RpAll.take : ∀ {vs : List V} {ds : List Dt} (n : Nat), RpAll K F vs ds → RpAll K F (vs.take n) (ds.take n)
  | _, _, 0, _ => .nil
  | _, _, _ + 1, .nil => .nil
  | _, _, n + 1, .cons a r => .cons a (RpAll.take n r)
theorem RpAll.drop : ∀ {vs : List V} {ds : List Dt} (n : Nat), RpAll K F vs ds → RpAll K F (vs.drop n) (ds.drop n)
  | _, _, 0, r => r
  | _, _, _ + 1, .nil => .nil
  | _, _, n + 1, .cons _ r => RpAll.drop n r
theorem RpAll.reverse : ∀ {vs : List V} {ds : List Dt}, RpAll K F vs ds → RpAll K F vs.reverse ds.reverse
  | _, _, .nil => .nil
  | _, _, .cons a r => by rw [List.reverse_cons, List.reverse_cons]; exact RpAll.append (RpAll.reverse r) (.one a)
theorem RpAll.eraseIdx : ∀ {vs : List V} {ds : List Dt} (i : Nat), RpAll K F vs ds → RpAll K F (vs.eraseIdx i) (ds.eraseIdx i)
  | _, _, _, .nil => .nil
  | _, _, 0, .cons _ r => r
  | _, _, i + 1, .cons a r => .cons a (RpAll.eraseIdx i r)
theorem RpAll.dropLast {vs : List V} {ds : List Dt} (h : RpAll K F vs ds) : RpAll K F vs.dropLast ds.dropLast := by
  rw [List.dropLast_eq_take, List.dropLast_eq_take, h.length]
  exact h.take _
theorem RpAll.ints : ∀ {ns : List Int}, RpAll K F (ns.map V.int) (ns.map Dt.int)
  | [] => .nil
  | n :: ns => .cons (.int n) RpAll.ints
theorem RpAll.ints_of : ∀ {vs : List V} {ns : List Int}, RpAll K F vs (ns.map Dt.int) → vs = ns.map V.int
  | _, [], h => by cases h; rfl
  | _, n :: ns, h => by
    cases h with
    | cons a r =>
      cases a
      rw [RpAll.ints_of r] <;> rfl
theorem RpAll.bls_of : ∀ {vs : List V} {bs : List Bool}, RpAll K F vs (bs.map Dt.bl) → vs = bs.map V.bl
  | _, [], h => by cases h; rfl
  | _, n :: ns, h => by
    cases h with
    | cons a r =>
      cases a
      rw [RpAll.bls_of r] <;> rfl
theorem RpAll.strs_of : ∀ {vs : List V} {bs : List Str}, RpAll K F vs (bs.map Dt.str) → vs = bs.map V.str
  | _, [], h => by cases h; rfl
  | _, n :: ns, h => by
    cases h with
    | cons a r =>
      cases a
      rw [RpAll.strs_of r] <;> rfl
end

/-! ### slots and worlds -/
/-- what a name of the running def holds: nothing told; data that never changes; a list of the frame's own; a list handed in to be changed; a list that a loop walks -/
inductive Slot where
  | any | frz (d : Dt) | loc (ds : List Dt) | io (ds : List Dt) | lock (ds : List Dt)
abbrev Sl := List Slot
def Slot.own : Slot → Bool
  | .loc _ => true
  | .io _ => true
  | .lock _ => true
  | _ => false
def Slot.pin : Slot → Bool
  | .io _ => true
  | .lock _ => true
  | _ => false

/-- the entry: the heap, what of it is frozen, the lists handed in (slot, address) -/
structure RC where
  H0 : Hp
  F0 : Hp
  pin : List (Nat × Addr)

def SlotOk (K : PySem.W.Frag) (R : RC) (F H : Hp) (i : Nat) (v : Option V) : Slot → Prop
  | .any => True
  | .frz d => ∃ x, v = some x ∧ Rp K F x d
  | .loc ds => ∃ p vs, v = some (.ref p) ∧ F p = none ∧ R.H0 p = none ∧ H p = some (.lst vs) ∧ vs.length ≤ sizeLine ∧ RpAll K F vs ds
  | .io ds => ∃ p vs, v = some (.ref p) ∧ F p = none ∧ (i, p) ∈ R.pin ∧ H p = some (.lst vs) ∧ vs.length ≤ sizeLine ∧ RpAll K F vs ds
  | .lock ds => ∃ p vs, v = some (.ref p) ∧ F p = none ∧ R.H0 p = none ∧ (i, p) ∈ R.pin ∧ H p = some (.lst vs) ∧ vs.length ≤ sizeLine ∧ RpAll K F vs ds

structure Rel (K : PySem.W.Frag) (R : RC) (vs : List (Option V)) (ss : Sl) (F H : Hp) : Prop where
  len : vs.length = ss.length
  exF : Ex R.F0 F
  fz : Ex F H
  new : ∀ a, F a ≠ none → R.F0 a ≠ none ∨ R.H0 a = none
  kept : ∀ a o, (∀ i, (i, a) ∉ R.pin) → R.H0 a = some o → H a = some o
  pinH : ∀ i a, (i, a) ∈ R.pin → ∃ xs, H a = some (.lst xs)
  slot : ∀ (i : Nat) (v : Option V) (s : Slot), vs[i]? = some v → ss[i]? = some s → SlotOk K R F H i v s
  sep : ∀ (i j : Nat) (p : Addr) (s t : Slot), i ≠ j → vs[i]? = some (some (.ref p)) → vs[j]? = some (some (.ref p)) → ss[i]? = some s → ss[j]? = some t → s.own = true → t.own = true → False

section
variable {K : PySem.W.Frag} {R : RC} {F F' H H' : Hp} {vs ws : List (Option V)} {ss ts : Sl}

/-- an own list, by its kind -/
theorem SlotOk.list {i : Nat} {v : Option V} {s : Slot} (h : SlotOk K R F H i v s) (o : s.own = true) :
    ∃ p xs ds, v = some (.ref p) ∧ F p = none ∧ (R.H0 p = none ∨ (i, p) ∈ R.pin) ∧ H p = some (.lst xs) ∧ xs.length ≤ sizeLine ∧ RpAll K F xs ds ∧ (s = .loc ds ∨ s = .io ds ∨ s = .lock ds) := by
  cases s with
  | any => cases o
  | frz d => cases o
  | loc ds => obtain ⟨p, xs, h1, h2, h3, h4, h5, h6⟩ := h; exact ⟨p, xs, ds, h1, h2, .inl h3, h4, h5, h6, .inl rfl⟩
  | io ds => obtain ⟨p, xs, h1, h2, h3, h4, h5, h6⟩ := h; exact ⟨p, xs, ds, h1, h2, .inr h3, h4, h5, h6, .inr (.inl rfl)⟩
  | lock ds => obtain ⟨p, xs, h1, h2, h3, _, h4, h5, h6⟩ := h; exact ⟨p, xs, ds, h1, h2, .inl h3, h4, h5, h6, .inr (.inr rfl)⟩
/-- the slot under a larger frozen part and another heap that keeps its list -/
theorem SlotOk.step {i : Nat} {v : Option V} {s : Slot} (h : SlotOk K R F H i v s) (e : Ex F F') (hk : s.own = true → ∀ p, v = some (.ref p) → F' p = none ∧ ∀ xs, H p = some (.lst xs) → H' p = some (.lst xs)) : SlotOk K R F' H' i v s := by
  cases s with
  | any => trivial
  | frz d => obtain ⟨x, h1, h2⟩ := h; exact ⟨x, h1, h2.mono e⟩
  | loc ds => obtain ⟨p, xs, h1, h2, h3, h4, h5, h6⟩ := h; exact ⟨p, xs, h1, (hk rfl p h1).1, h3, (hk rfl p h1).2 _ h4, h5, h6.mono e⟩
  | io ds => obtain ⟨p, xs, h1, h2, h3, h4, h5, h6⟩ := h; exact ⟨p, xs, h1, (hk rfl p h1).1, h3, (hk rfl p h1).2 _ h4, h5, h6.mono e⟩
  | lock ds => obtain ⟨p, xs, h1, h2, h3, h3', h4, h5, h6⟩ := h; exact ⟨p, xs, h1, (hk rfl p h1).1, h3, h3', (hk rfl p h1).2 _ h4, h5, h6.mono e⟩
/-- a slot's place counts for pinned ones alone -/
theorem SlotOk.at {i j : Nat} {v : Option V} {s : Slot} (h : SlotOk K R F H i v s) (hp : s.pin = false) : SlotOk K R F H j v s := by
  cases s with
  | any => trivial
  | frz d => exact h
  | loc ds => exact h
  | io ds => cases hp
  | lock ds => cases hp

theorem Rel.fresh0 (r : Rel K R vs ss F H) {p : Addr} (h : H p = none) : R.H0 p = none := by
  cases q : R.H0 p with
  | none => rfl
  | some o =>
    by_cases hp : ∃ i, (i, p) ∈ R.pin
    · obtain ⟨i, hp⟩ := hp
      obtain ⟨xs, e⟩ := r.pinH i p hp
      rw [h] at e; cases e
    · have e := r.kept p o (fun i hi => hp ⟨i, hi⟩) q
      rw [h] at e; cases e
theorem Rel.freshF (r : Rel K R vs ss F H) {p : Addr} (h : H p = none) : F p = none := by
  cases q : F p with
  | none => rfl
  | some o => have e := r.fz p o q; rw [h] at e; cases e
theorem ownAt (r : Rel K R vs ss F H) {i : Nat} {v : Option V} {s : Slot} (hv : vs[i]? = some v) (hs : ss[i]? = some s) (o : s.own = true) :
    ∃ p xs ds, v = some (.ref p) ∧ F p = none ∧ (R.H0 p = none ∨ (i, p) ∈ R.pin) ∧ H p = some (.lst xs) ∧ xs.length ≤ sizeLine ∧ RpAll K F xs ds ∧ (s = .loc ds ∨ s = .io ds ∨ s = .lock ds) := (r.slot i v s hv hs).list o

/-- the heap grows -/
theorem Rel.grow (r : Rel K R vs ss F H) (e : Ex H H') : Rel K R vs ss F H' where
  len := r.len
  exF := r.exF
  fz := r.fz.trans e
  new := r.new
  kept := fun a o h q => e _ _ (r.kept a o h q)
  pinH := fun i a h => by obtain ⟨xs, q⟩ := r.pinH i a h; exact ⟨xs, e _ _ q⟩
  slot := fun i v s h1 h2 => (r.slot i v s h1 h2).step (fun _ _ q => q) fun ho p hp => by
    obtain ⟨p', xs, ds, e1, e2, _, _⟩ := (r.slot i v s h1 h2).list ho
    rw [hp] at e1; cases e1
    exact ⟨e2, fun ys q => e _ _ q⟩
  sep := r.sep

theorem getElem?_snoc {α : Type} {l : List α} {x y : α} {i : Nat} (h : (l ++ [x])[i]? = some y) : (i < l.length ∧ l[i]? = some y) ∨ (i = l.length ∧ y = x) := by
  by_cases hi : i < l.length
  · rw [List.getElem?_append_left hi] at h
    exact .inl ⟨hi, h⟩
  · rw [List.getElem?_append_right (by omega)] at h
    by_cases h0 : i - l.length = 0
    · rw [h0] at h
      exact .inr ⟨by omega, by simpa using h.symm⟩
    · rw [List.getElem?_eq_none (by simp; omega)] at h; cases h

/-- one more value in flight -/
theorem Rel.push (r : Rel K R vs ss F H) {v : Option V} {s : Slot} (hs : SlotOk K R F H vs.length v s)
    (hsep : ∀ p, s.own = true → v = some (.ref p) → ∀ (i : Nat) (t : Slot), vs[i]? = some (some (.ref p)) → ss[i]? = some t → t.own = true → False) : Rel K R (vs ++ [v]) (ss ++ [s]) F H where
  len := by simp [r.len]
  exF := r.exF
  fz := r.fz
  new := r.new
  kept := r.kept
  pinH := r.pinH
  slot := fun i w t h1 h2 => by
    rcases getElem?_snoc h1 with ⟨hi, h1⟩ | ⟨hi, h1⟩
    · rcases getElem?_snoc h2 with ⟨_, h2⟩ | ⟨hj, _⟩
      · exact r.slot i w t h1 h2
      · have := r.len; omega
    · rcases getElem?_snoc h2 with ⟨hj, _⟩ | ⟨_, h2⟩
      · have := r.len; omega
      · subst h1; subst h2; subst hi; exact hs
  sep := fun i j p s' t' hij h1 h2 h3 h4 o1 o2 => by
    have hl := r.len
    rcases getElem?_snoc h1 with ⟨hi, g1⟩ | ⟨hi, g1⟩ <;> rcases getElem?_snoc h2 with ⟨hj, g2⟩ | ⟨hj, g2⟩ <;>
      rcases getElem?_snoc h3 with ⟨hi', g3⟩ | ⟨hi', g3⟩ <;> rcases getElem?_snoc h4 with ⟨hj', g4⟩ | ⟨hj', g4⟩ <;> try omega
    · exact r.sep i j p s' t' hij g1 g2 g3 g4 o1 o2
    · rw [g4] at o2; exact hsep p o2 g2.symm i s' g1 g3 o1
    · rw [g3] at o1; exact hsep p o1 g1.symm j t' g2 g4 o2
theorem Rel.pushF (r : Rel K R vs ss F H) {v : V} {d : Dt} (h : Rp K F v d) : Rel K R (vs ++ [some v]) (ss ++ [.frz d]) F H :=
  r.push ⟨v, rfl, h⟩ fun _ o => by cases o
theorem Rel.pushA (r : Rel K R vs ss F H) {v : Option V} : Rel K R (vs ++ [v]) (ss ++ [.any]) F H :=
  r.push trivial fun _ o => by cases o
/-- the last ones are dropped -/
theorem Rel.pre (r : Rel K R (vs ++ ws) (ss ++ ts) F H) (hl : vs.length = ss.length) : Rel K R vs ss F H where
  len := hl
  exF := r.exF
  fz := r.fz
  new := r.new
  kept := r.kept
  pinH := r.pinH
  slot := fun i v s h1 h2 => r.slot i v s (by rw [List.getElem?_append_left (List.getElem?_eq_some_iff.mp h1).1]; exact h1) (by rw [List.getElem?_append_left (List.getElem?_eq_some_iff.mp h2).1]; exact h2)
  sep := fun i j p s t hij h1 h2 h3 h4 o1 o2 => r.sep i j p s t hij (by rw [List.getElem?_append_left (List.getElem?_eq_some_iff.mp h1).1]; exact h1) (by rw [List.getElem?_append_left (List.getElem?_eq_some_iff.mp h2).1]; exact h2)
    (by rw [List.getElem?_append_left (List.getElem?_eq_some_iff.mp h3).1]; exact h3) (by rw [List.getElem?_append_left (List.getElem?_eq_some_iff.mp h4).1]; exact h4) o1 o2

theorem ex_upd {H : Hp} {p : Addr} {o : HO} (h : H p = none) : Ex H (upd H p o) := Evl.Ex.new h
theorem ex_upd2 {F H : Hp} {p : Addr} {o : HO} (e : Ex F H) (h : H p = none) : Ex (upd F p o) (upd H p o) := fun a u q => by
  by_cases ha : a = p
  · subst ha; rw [upd_same] at q ⊢; exact q
  · rw [upd_ne ha] at q ⊢; exact e _ _ q
/-- a new object that never changes -/
theorem Rel.allocF (r : Rel K R vs ss F H) {p : Addr} {o : HO} (h : H p = none) : Rel K R vs ss (upd F p o) (upd H p o) where
  len := r.len
  exF := r.exF.trans (ex_upd (r.freshF h))
  fz := ex_upd2 r.fz h
  new := fun a q => by
    by_cases ha : a = p
    · subst ha; exact .inr (r.fresh0 h)
    · rw [upd_ne ha] at q; exact r.new a q
  kept := fun a u n q => ex_upd h _ _ (r.kept a u n q)
  pinH := fun i a q => by obtain ⟨xs, z⟩ := r.pinH i a q; exact ⟨xs, ex_upd h _ _ z⟩
  slot := fun i v s h1 h2 => (r.slot i v s h1 h2).step (ex_upd (r.freshF h)) fun ho q hq => by
    obtain ⟨q', xs, ds, e1, e2, _, e4, _⟩ := (r.slot i v s h1 h2).list ho
    rw [hq] at e1; cases e1
    have hne : q ≠ p := fun z => by rw [z, h] at e4; cases e4
    exact ⟨by rw [upd_ne hne]; exact e2, fun ys z => ex_upd h _ _ z⟩
  sep := r.sep
/-- a new list of the frame's own, in flight -/
theorem Rel.allocM (r : Rel K R vs ss F H) {p : Addr} {xs : List V} {ds : List Dt} (h : H p = none) (hx : RpAll K F xs ds) (hz : xs.length ≤ sizeLine) : Rel K R (vs ++ [some (.ref p)]) (ss ++ [.loc ds]) F (upd H p (.lst xs)) := by
  refine (r.grow (ex_upd h)).push ⟨p, xs, rfl, r.freshF h, r.fresh0 h, upd_same, hz, hx⟩ fun q _ e i t h1 h2 ho => ?_
  cases e
  obtain ⟨p', ys, es, e1, _, _, e4, _⟩ := ownAt r h1 h2 ho
  cases e1
  rw [h] at e4; cases e4
/-- an own list is written -/
theorem Rel.write (r : Rel K R vs ss F H) {i : Nat} {p : Addr} {s s' : Slot} {xs : List V} {ds : List Dt} (hv : vs[i]? = some (some (.ref p))) (hs : ss[i]? = some s) (ho : s.own = true) (hx : RpAll K F xs ds) (hz : xs.length ≤ sizeLine)
    (hk : (∃ es, s = .loc es ∧ s' = .loc ds) ∨ (∃ es, s = .io es ∧ s' = .io ds)) : Rel K R vs (ss.set i s') F (upd H p (.lst xs)) := by
  obtain ⟨p', ys, es, e1, e2, e3, e4, e5, e6, e7⟩ := ownAt r hv hs ho
  cases e1
  have hi : i < ss.length := (List.getElem?_eq_some_iff.mp hs).1
  refine ⟨by simp [r.len], r.exF, fun a u q => ?_, r.new, fun a u n q => ?_, fun j a q => ?_, fun j v t h1 h2 => ?_, fun j k q t t' hjk h1 h2 h3 h4 o1 o2 => ?_⟩
  · have hne : a ≠ p := fun z => by rw [z, e2] at q; cases q
    rw [upd_ne hne]; exact r.fz _ _ q
  · have hne : a ≠ p := fun z => by
      rcases e3 with e3 | e3
      · rw [z, e3] at q; cases q
      · exact n i (z ▸ e3)
    rw [upd_ne hne]; exact r.kept _ _ n q
  · by_cases hap : a = p
    · subst hap; exact ⟨xs, upd_same⟩
    · obtain ⟨ws, z⟩ := r.pinH j a q; exact ⟨ws, by rw [upd_ne hap]; exact z⟩
  · by_cases hji : j = i
    · subst hji
      rw [List.getElem?_set_self hi] at h2; cases h2
      rw [hv] at h1; cases h1
      rcases hk with ⟨es', hk1, hk2⟩ | ⟨es', hk1, hk2⟩
      · subst hk2; subst hk1
        obtain ⟨p2, _, z1, z2, z3, _⟩ := r.slot _ _ _ hv hs
        cases z1
        exact ⟨p, xs, rfl, e2, z3, upd_same, hz, hx⟩
      · subst hk2; subst hk1
        obtain ⟨p2, _, z1, z2, z3, _⟩ := r.slot _ _ _ hv hs
        cases z1
        exact ⟨p, xs, rfl, e2, z3, upd_same, hz, hx⟩
    · rw [List.getElem?_set_ne (Ne.symm hji)] at h2
      refine (r.slot j v t h1 h2).step (fun _ _ q => q) fun ho' q hq => ?_
      obtain ⟨q', xs', ds', f1, f2, _, f4, _⟩ := ownAt r h1 h2 ho'
      rw [hq] at f1; cases f1
      have hne : q ≠ p := fun z => by
        subst z
        exact r.sep j i q t s hji (hq ▸ h1) hv h2 hs ho' ho
      exact ⟨f2, fun ys z => by rw [upd_ne hne]; exact z⟩
  · have fix : ∀ {j : Nat} {t : Slot}, (ss.set i s')[j]? = some t → t.own = true → ∃ t0, ss[j]? = some t0 ∧ t0.own = true := fun {j t} h o => by
      by_cases hji : j = i
      · subst hji; exact ⟨s, hs, ho⟩
      · rw [List.getElem?_set_ne (Ne.symm hji)] at h; exact ⟨t, h, o⟩
    obtain ⟨t0, g1, g2⟩ := fix h3 o1
    obtain ⟨t1, g3, g4⟩ := fix h4 o2
    exact r.sep j k q t0 t1 hjk h1 h2 g1 g3 g2 g4
/-- a list of the frame's own is frozen -/
theorem Rel.freeze (r : Rel K R vs ss F H) {i : Nat} {p : Addr} {ds : List Dt} (hv : vs[i]? = some (some (.ref p))) (hs : ss[i]? = some (.loc ds)) :
    ∃ F', Ex F F' ∧ Rel K R vs (ss.set i (.frz (.lst ds))) F' H ∧ Rp K F' (.ref p) (.lst ds) := by
  obtain ⟨p', xs, e1, e2, e3, e4, e5, e6⟩ := r.slot _ _ _ hv hs
  cases e1
  have hi : i < ss.length := (List.getElem?_eq_some_iff.mp hs).1
  have ex : Ex F (upd F p (.lst xs)) := ex_upd e2
  have rp : Rp K (upd F p (.lst xs)) (.ref p) (.lst ds) := .lst upd_same e5 (e6.mono ex)
  refine ⟨upd F p (.lst xs), ex, ⟨by simp [r.len], r.exF.trans ex, fun a u q => ?_, fun a q => ?_, r.kept, r.pinH, fun j v t h1 h2 => ?_, fun j k q t t' hjk h1 h2 h3 h4 o1 o2 => ?_⟩, rp⟩
  · by_cases ha : a = p
    · subst ha; rw [upd_same] at q; cases q; exact e4
    · rw [upd_ne ha] at q; exact r.fz _ _ q
  · by_cases ha : a = p
    · subst ha; exact .inr e3
    · rw [upd_ne ha] at q; exact r.new _ q
  · by_cases hji : j = i
    · subst hji
      rw [List.getElem?_set_self hi] at h2; cases h2
      rw [hv] at h1; cases h1
      exact ⟨_, rfl, rp⟩
    · rw [List.getElem?_set_ne (Ne.symm hji)] at h2
      refine (r.slot j v t h1 h2).step ex fun ho' q hq => ?_
      obtain ⟨q', xs', ds', f1, f2, _, f4, _⟩ := ownAt r h1 h2 ho'
      rw [hq] at f1; cases f1
      have hne : q ≠ p := fun z => by
        subst z
        exact r.sep j i q t (.loc ds) hji (hq ▸ h1) hv h2 hs ho' rfl
      exact ⟨by rw [upd_ne hne]; exact f2, fun ys z => z⟩
  · have fix : ∀ {j : Nat} {t : Slot}, (ss.set i (.frz (.lst ds)))[j]? = some t → t.own = true → ss[j]? = some t := fun {j t} h o => by
      by_cases hji : j = i
      · subst hji; rw [List.getElem?_set_self hi] at h; cases h; cases o
      · rw [List.getElem?_set_ne (Ne.symm hji)] at h; exact h
    exact r.sep j k q t t' hjk h1 h2 (fix h3 o1) (fix h4 o2) o1 o2
end
end FX

/-! FX2: results, the judgements' readings, sequencing. -/
namespace FX
open PySem L2
open Evl (Ex)

structure Exn where
  cls : Str
  fs : List (Str × Dt)

inductive O (α : Type) where
  | ok (a : α) | exc (e : Exn) (ρ : Sl) | bad
def O.bind {α β : Type} : O α → (α → O β) → O β
  | .ok a, g => g a
  | .exc e ρ, _ => .exc e ρ
  | .bad, _ => .bad
@[simp] theorem O.bind_ok {α β : Type} (a : α) (g : α → O β) : (O.ok a).bind g = g a := rfl
@[simp] theorem O.bind_exc {α β : Type} (e : Exn) (ρ : Sl) (g : α → O β) : (O.exc e ρ : O α).bind g = .exc e ρ := rfl
@[simp] theorem O.bind_bad {α β : Type} (g : α → O β) : (O.bad : O α).bind g = .bad := rfl
def O.of {α : Type} : Option α → O α
  | some a => .ok a
  | none => .bad
@[simp] theorem O.of_some {α : Type} (a : α) : O.of (some a) = .ok a := rfl
@[simp] theorem O.of_none {α : Type} : O.of (none : Option α) = .bad := rfl

inductive Rs where
  | val (d : Dt) | own (ds : List Dt) | ref (i : Nat)
def Rs.slot : Rs → Slot
  | .val d => .frz d
  | .own ds => .loc ds
  | .ref _ => .any
def Rs.at (σ : L2.St) (v : V) : Rs → Prop
  | .ref i => σ[i]? = some (some v)
  | _ => True
@[simp] theorem Rs.slot_val (d : Dt) : (Rs.val d).slot = .frz d := rfl
@[simp] theorem Rs.slot_own (ds : List Dt) : (Rs.own ds).slot = .loc ds := rfl
/-- the list that a slot shows -/
def Slot.seen : Slot → Option (List Dt)
  | .loc ds => some ds
  | .io ds => some ds
  | .lock ds => some ds
  | _ => none
/-- .. or that is frozen there by now -/
def Slot.seen2 : Slot → Option (List Dt)
  | .frz (.lst ds) => some ds
  | s => s.seen
def derefO (ρ : Sl) : Rs → Option Dt
  | .val d => some d
  | .own ds => some (.lst ds)
  | .ref i => (ρ[i]?.bind Slot.seen).map Dt.lst
def deref (ρ : Sl) : Rs → Option Dt
  | .val d => some d
  | .own ds => some (.lst ds)
  | .ref i => (ρ[i]?.bind Slot.seen2).map Dt.lst
@[simp] theorem deref_val (ρ : Sl) (d : Dt) : deref ρ (.val d) = some d := rfl
@[simp] theorem deref_own (ρ : Sl) (ds : List Dt) : deref ρ (.own ds) = some (.lst ds) := rfl

/-- a value in view: frozen, or a list whose items are -/
def RpV (K : PySem.W.Frag) (F H : Hp) (v : V) (d : Dt) : Prop :=
  Rp K F v d ∨ ∃ p xs ds, v = .ref p ∧ d = .lst ds ∧ H p = some (.lst xs) ∧ xs.length ≤ sizeLine ∧ RpAll K F xs ds
section
variable {K : PySem.W.Frag} {mg : Str → Option Value} {R : RC} {F F' H H' : Hp} {vs ws : List (Option V)} {ss ts : Sl}
theorem RpV.full {v : V} {d : Dt} (e : Ex F H) (h : RpV K F H v d) : Rp K H v d := by
  rcases h with h | ⟨p, xs, ds, rfl, rfl, h1, h2, h3⟩
  · exact h.mono e
  · exact .lst h1 h2 (h3.mono e)

structure At (K : PySem.W.Frag) (R : RC) (σ : L2.St) (τ : List (Option V)) (ρ θ : Sl) (F H : Hp) : Prop where
  rel : Rel K R (σ ++ τ) (ρ ++ θ) F H
  len : σ.length = ρ.length

def ExRel (K : PySem.W.Frag) (mg : Str → Option Value) (e : Exn) (cls : Value) (d : Option Addr) (F H : Hp) : Prop :=
  ∃ C, mg e.cls = some (.ref C) ∧ cls = .ref C ∧
    ((e.fs = [] ∧ d = none) ∨ ∃ (f : Str) (x : Dt) (dd : Addr) (v : V), e.fs = [(f, x)] ∧ d = some dd ∧ H dd = some (.xd [(f, v)]) ∧ Rp K F v x)

variable {σ : L2.St} {τ t2 : List (Option V)} {ρ θ s2 : Sl} {W : WX}
def kE (K : PySem.W.Frag) (mg : Str → Option Value) (W : WX) (R : RC) (σ : L2.St) (τ : List (Option V)) (θ : Sl) (Q : VK) : O (Rs × Sl) → Prop
  | .ok (r, ρ') => ∀ v F' H', At K R σ (τ ++ [some v]) ρ' (θ ++ [r.slot]) F' H' → r.at σ v → Q v H'
  | .exc e ρ' => ∀ cls d F' H', At K R σ τ ρ' θ F' H' → ExRel K mg e cls d F' H' → W cls d σ H'
  | .bad => False
def dE (K : PySem.W.Frag) (mg : Str → Option Value) (W : WX) (f : Sl → O (Rs × Sl)) : TE := fun σ H Q => ∃ R τ θ ρ F, At K R σ τ ρ θ F H ∧ kE K mg W R σ τ θ Q (f ρ)
/-- tests -/
def kT (K : PySem.W.Frag) (mg : Str → Option Value) (W : WX) (R : RC) (σ : L2.St) (τ : List (Option V)) (θ : Sl) (Q : Bool → Hp → Prop) : O (Bool × Sl) → Prop
  | .ok (b, ρ') => ∀ F' H', At K R σ τ ρ' θ F' H' → Q b H'
  | .exc e ρ' => ∀ cls d F' H', At K R σ τ ρ' θ F' H' → ExRel K mg e cls d F' H' → W cls d σ H'
  | .bad => False
def dT (K : PySem.W.Frag) (mg : Str → Option Value) (W : WX) (f : Sl → O (Bool × Sl)) : TT := fun σ H Q => ∃ R τ θ ρ F, At K R σ τ ρ θ F H ∧ kT K mg W R σ τ θ Q (f ρ)
/-- argument lists -/
def RsAt (σ : L2.St) : List V → List Rs → Prop
  | [], [] => True
  | v :: vs, r :: rs => r.at σ v ∧ RsAt σ vs rs
  | _, _ => False
def kA (K : PySem.W.Frag) (mg : Str → Option Value) (W : WX) (R : RC) (σ : L2.St) (τ : List (Option V)) (θ : Sl) (Q : List V → Hp → Prop) : O (List Rs × Sl) → Prop
  | .ok (rs, ρ') => ∀ vs F' H', At K R σ (τ ++ vs.map some) ρ' (θ ++ rs.map Rs.slot) F' H' → RsAt σ vs rs → Q vs H'
  | .exc e ρ' => ∀ cls d F' H', At K R σ τ ρ' θ F' H' → ExRel K mg e cls d F' H' → W cls d σ H'
  | .bad => False
def dA (K : PySem.W.Frag) (mg : Str → Option Value) (W : WX) (f : Sl → O (List Rs × Sl)) : TA := fun σ H Q => ∃ R τ θ ρ F, At K R σ τ ρ θ F H ∧ kA K mg W R σ τ θ Q (f ρ)
/-- statements -/
inductive Fl where
  | nx | rt (r : Rs) | bk | ct
def kS (K : PySem.W.Frag) (mg : Str → Option Value) (W : WX) (R : RC) (τ : List (Option V)) (θ : Sl) (D : Ends) : O (Fl × Sl) → Prop
  | .ok (.nx, ρ') => ∀ σ' F' H', At K R σ' τ ρ' θ F' H' → D.nx σ' H'
  | .ok (.bk, ρ') => ∀ σ' F' H', At K R σ' τ ρ' θ F' H' → D.bk σ' H'
  | .ok (.ct, ρ') => ∀ σ' F' H', At K R σ' τ ρ' θ F' H' → D.ct σ' H'
  | .ok (.rt r, ρ') => ∀ v σ' F' H', At K R σ' (τ ++ [some v]) ρ' (θ ++ [r.slot]) F' H' → D.rt v H'
  | .exc e ρ' => ∀ cls d σ' F' H', At K R σ' τ ρ' θ F' H' → ExRel K mg e cls d F' H' → W cls d σ' H'
  | .bad => False
def dS (K : PySem.W.Frag) (mg : Str → Option Value) (W : WX) (f : Sl → O (Fl × Sl)) : TS := fun D σ H => ∃ R τ θ ρ F, At K R σ τ ρ θ F H ∧ kS K mg W R τ θ D (f ρ)

/-! ### dropping, pushing -/
theorem At.tlen (a : At K R σ τ ρ θ F H) : τ.length = θ.length := by
  have := a.rel.len
  have := a.len
  simp only [List.length_append] at *
  omega
theorem At.drop (a : At K R σ (τ ++ t2) ρ (θ ++ s2) F H) (hl : t2.length = s2.length) : At K R σ τ ρ θ F H := by
  refine ⟨?_, a.len⟩
  have h := a.rel
  rw [← List.append_assoc, ← List.append_assoc] at h
  refine h.pre ?_
  have := a.tlen
  have := a.len
  simp only [List.length_append] at *
  omega
theorem At.assoc {v : Option V} {s : Slot} (a : At K R σ ((τ ++ t2) ++ [v]) ρ ((θ ++ s2) ++ [s]) F H) : At K R σ (τ ++ (t2 ++ [v])) ρ (θ ++ (s2 ++ [s])) F H := by
  rw [List.append_assoc, List.append_assoc] at a; exact a
theorem At.unassoc {v : Option V} {s : Slot} (a : At K R σ (τ ++ (t2 ++ [v])) ρ (θ ++ (s2 ++ [s])) F H) : At K R σ ((τ ++ t2) ++ [v]) ρ ((θ ++ s2) ++ [s]) F H := by
  rw [List.append_assoc, List.append_assoc]; exact a
theorem At.nil (a : At K R σ τ ρ θ F H) : At K R σ (τ ++ []) ρ (θ ++ []) F H := by simpa using a
theorem At.unnil (a : At K R σ (τ ++ []) ρ (θ ++ []) F H) : At K R σ τ ρ θ F H := by simpa using a
theorem At.of_rel {v : Option V} {s : Slot} (h : Rel K R ((σ ++ τ) ++ [v]) ((ρ ++ θ) ++ [s]) F H) (hl : σ.length = ρ.length) : At K R σ (τ ++ [v]) ρ (θ ++ [s]) F H := by
  refine ⟨?_, hl⟩
  rw [← List.append_assoc, ← List.append_assoc]; exact h
/-- a value in flight, or a name's, is in view -/
theorem At.view {k : Nat} {v : V} {r : Rs} {d : Dt} (a : At K R σ τ ρ θ F H) (hv : τ[k]? = some (some v)) (hs : θ[k]? = some r.slot) (hr : r.at σ v) (hd : deref ρ r = some d) : RpV K F H v d := by
  have ht := a.tlen
  have hv' : (σ ++ τ)[σ.length + k]? = some (some v) := by rw [List.getElem?_append_right (by omega)]; simpa using hv
  have hs' : (ρ ++ θ)[σ.length + k]? = some r.slot := by rw [a.len, List.getElem?_append_right (by omega)]; simpa using hs
  cases r with
  | val d' =>
    cases hd
    obtain ⟨x, e, h⟩ := a.rel.slot _ _ _ hv' hs'
    cases e
    exact .inl h
  | own ds =>
    cases hd
    obtain ⟨p, xs, e1, e2, e3, e4, e5, e6⟩ := a.rel.slot _ _ _ hv' hs'
    cases e1
    exact .inr ⟨p, xs, ds, rfl, rfl, e4, e5, e6⟩
  | ref i =>
    have hi : (σ ++ τ)[i]? = some (some v) := by
      have h0 : σ[i]? = some (some v) := hr
      rw [List.getElem?_append_left (List.getElem?_eq_some_iff.mp h0).1]; exact h0
    have hd : (ρ[i]?.bind Slot.seen2).map Dt.lst = some d := hd
    cases e : ρ[i]? with
    | none => rw [e] at hd; simp at hd
    | some s =>
      rw [e] at hd
      have hs2 : (ρ ++ θ)[i]? = some s := by rw [List.getElem?_append_left (List.getElem?_eq_some_iff.mp e).1]; exact e
      have key : ∀ ds, s.seen = some ds → d = .lst ds → RpV K F H v d := fun ds h1 h2 => by
        subst h2
        have ho : s.own = true := by cases s <;> first | rfl | cases h1
        obtain ⟨p, xs, es, e1, e2, _, e4, e5, e6, e7⟩ := ownAt a.rel hi hs2 ho
        cases e1
        have : es = ds := by
          rcases e7 with z | z | z <;> (subst z; cases h1; rfl)
        subst this
        exact .inr ⟨p, xs, es, rfl, rfl, e4, e5, e6⟩
      have key2 : ∀ ds, s.seen2 = some ds → d = .lst ds → RpV K F H v d := fun ds h1 h2 => by
        unfold Slot.seen2 at h1
        split at h1
        · cases h1
          obtain ⟨x, g1, g2⟩ := a.rel.slot _ _ _ hi hs2
          cases g1
          exact .inl (h2 ▸ g2)
        · exact key ds h1 h2
      cases hsn : s.seen2 with
      | none => simp [hsn] at hd
      | some ds => simp [hsn] at hd; exact key2 ds hsn hd.symm

/-! ### sequencing -/
theorem dE_bind {f : Sl → O (Rs × Sl)} {β : Type} {kB : O β → Prop} {g : Rs × Sl → O β} {Q' : VK} (a : At K R σ (τ ++ t2) ρ (θ ++ s2) F H) (hl : t2.length = s2.length)
    (hx : ∀ e ρ', kB (.exc e ρ') → ∀ cls d F' H', At K R σ τ ρ' θ F' H' → ExRel K mg e cls d F' H' → W cls d σ H') (hb : ¬ kB .bad) (h : kB ((f ρ).bind g))
    (next : ∀ r ρ1 v F1 H1, At K R σ (τ ++ (t2 ++ [some v])) ρ1 (θ ++ (s2 ++ [r.slot])) F1 H1 → r.at σ v → kB (g (r, ρ1)) → Q' v H1) : dE K mg W f σ H Q' := by
  refine ⟨R, _, _, ρ, F, a, ?_⟩
  cases e : f ρ with
  | ok q =>
    obtain ⟨r, ρ1⟩ := q
    rw [e] at h
    exact fun v F1 H1 a1 hr => next r ρ1 v F1 H1 a1.assoc hr h
  | exc x ρ1 =>
    rw [e] at h
    exact fun cls d F1 H1 a1 q => hx x ρ1 h cls d F1 H1 (a1.drop hl) q
  | bad => rw [e] at h; exact absurd h hb
theorem kE_x {Q : VK} : ∀ e ρ', kE K mg W R σ τ θ Q (.exc e ρ') → ∀ cls d F' H', At K R σ τ ρ' θ F' H' → ExRel K mg e cls d F' H' → W cls d σ H' := fun _ _ h => h
theorem kE_b {Q : VK} : ¬ kE K mg W R σ τ θ Q .bad := fun h => h
theorem kT_x {Q : Bool → Hp → Prop} : ∀ e ρ', kT K mg W R σ τ θ Q (.exc e ρ') → ∀ cls d F' H', At K R σ τ ρ' θ F' H' → ExRel K mg e cls d F' H' → W cls d σ H' := fun _ _ h => h
theorem kT_b {Q : Bool → Hp → Prop} : ¬ kT K mg W R σ τ θ Q .bad := fun h => h
theorem kA_x {Q : List V → Hp → Prop} : ∀ e ρ', kA K mg W R σ τ θ Q (.exc e ρ') → ∀ cls d F' H', At K R σ τ ρ' θ F' H' → ExRel K mg e cls d F' H' → W cls d σ H' := fun _ _ h => h
theorem kA_b {Q : List V → Hp → Prop} : ¬ kA K mg W R σ τ θ Q .bad := fun h => h
theorem kS_x {D : Ends} : ∀ e ρ', kS K mg W R τ θ D (.exc e ρ') → ∀ cls d F' H', At K R σ τ ρ' θ F' H' → ExRel K mg e cls d F' H' → W cls d σ H' := fun _ _ h cls d F' H' a q => h cls d σ F' H' a q
theorem kS_b {D : Ends} : ¬ kS K mg W R τ θ D .bad := fun h => h
/-- the end of an expression: its value at a relation over what is behind -/
theorem kE_ok {r : Rs} {Q : VK} {v : V} (a : At K R σ (τ ++ t2) ρ (θ ++ s2) F H) (hl : t2.length = s2.length) (h : kE K mg W R σ τ θ Q (.ok (r, ρ)))
    {F' H' : Hp} (hrel : Rel K R (σ ++ τ) (ρ ++ θ) F H → Rel K R ((σ ++ τ) ++ [some v]) ((ρ ++ θ) ++ [r.slot]) F' H') (hr : r.at σ v) : Q v H' :=
  h v F' H' (At.of_rel (hrel (a.drop hl).rel) a.len) hr

/-! ### names, constants -/
def Dt.sc : Dt → Option V
  | .non => some .non
  | .bl b => some (.bl b)
  | .int i => some (.int i)
  | .str x => some (.str x)
  | _ => none
theorem Dt.sc_rp {d : Dt} {v : V} (h : d.sc = some v) : Rp K F v d := by
  cases d <;> first | (cases h; constructor) | cases h
def eVar (i : Nat) : Sl → O (Rs × Sl) := fun ρ => match ρ[i]? with
  | some (.frz d) => .ok (.val d, ρ)
  | some (.loc _) => .ok (.ref i, ρ)
  | some (.io _) => .ok (.ref i, ρ)
  | some (.lock _) => .ok (.ref i, ρ)
  | _ => .bad
theorem de_var {i : Nat} {Q : VK} (h : dE K mg W (eVar i) σ H Q) : tVar i σ H Q := by
  obtain ⟨R, τ, θ, ρ, F, a, h⟩ := h
  unfold eVar at h
  cases e : ρ[i]? with
  | none => rw [e] at h; exact h.elim
  | some s =>
    have hi : i < ρ.length := (List.getElem?_eq_some_iff.mp e).1
    have hi' : i < σ.length := by rw [a.len]; exact hi
    have hs2 : (ρ ++ θ)[i]? = some s := by rw [List.getElem?_append_left hi]; exact e
    have hv : σ[i]? = some σ[i] := List.getElem?_eq_getElem hi'
    have hv2 : (σ ++ τ)[i]? = some σ[i] := by rw [List.getElem?_append_left hi']; exact hv
    have so := a.rel.slot i _ s hv2 hs2
    rw [e] at h
    have own : s.own = true → (kE K mg W R σ τ θ Q (.ok (.ref i, ρ))) → tVar i σ H Q := fun ho h => by
      obtain ⟨p, xs, es, e1, _⟩ := so.list ho
      refine ⟨.ref p, by rw [hv, e1], ?_⟩
      exact h (.ref p) F H (At.of_rel a.rel.pushA a.len) (by show σ[i]? = _; rw [hv, e1])
    cases s with
    | any => exact h.elim
    | frz d =>
      obtain ⟨x, e1, e2⟩ := so
      refine ⟨x, by rw [hv, e1], ?_⟩
      exact h x F H (At.of_rel (a.rel.pushF e2) a.len) trivial
    | loc ds => exact own rfl h
    | io ds => exact own rfl h
    | lock ds => exact own rfl h
def eC (d : Dt) : Sl → O (Rs × Sl) := fun ρ => .ok (.val d, ρ)
theorem de_c {d : Dt} {v : V} {Q : VK} (hv : d.sc = some v) (h : dE K mg W (eC d) σ H Q) : tC v σ H Q := by
  obtain ⟨R, τ, θ, ρ, F, a, h⟩ := h
  exact h v F H (At.of_rel (a.rel.pushF (Dt.sc_rp hv)) a.len) trivial
/-! ### operators by values -/
def VOp2 (K : PySem.W.Frag) (r : R2) (opf : Dt → Dt → Option Rs) : Prop :=
  ∀ (R : RC) (vs : List (Option V)) (ss : Sl) (F H : Hp) (x y : V) (d1 d2 : Dt) (out : Rs) (Q : VK), Rel K R vs ss F H → RpV K F H x d1 → RpV K F H y d2 → opf d1 d2 = some out →
    (∀ v F' H', Rel K R (vs ++ [some v]) (ss ++ [out.slot]) F' H' → (∀ σ, out.at σ v) → Q v H') → r x y H Q
def bin2 (opf : Dt → Dt → Option Rs) (r1 r2 : Rs) (ρ : Sl) : O (Rs × Sl) :=
  match deref ρ r1, deref ρ r2 with
  | some d1, some d2 => (O.of (opf d1 d2)).bind fun o => .ok (o, ρ)
  | _, _ => .bad
def eBin (opf : Dt → Dt → Option Rs) (f g : Sl → O (Rs × Sl)) : Sl → O (Rs × Sl) := fun ρ => (f ρ).bind fun q => (g q.2).bind fun q2 => bin2 opf q.1 q2.1 q2.2
theorem de_bin {r : R2} {opf : Dt → Dt → Option Rs} {f g : Sl → O (Rs × Sl)} {Q : VK} (hv : VOp2 K r opf) (h : dE K mg W (eBin opf f g) σ H Q) : tOp r (dE K mg W f) (dE K mg W g) σ H Q := by
  obtain ⟨R, τ, θ, ρ, F, a, h⟩ := h
  refine dE_bind (kB := kE K mg W R σ τ θ Q) a.nil rfl kE_x kE_b h fun r1 ρ1 x F1 H1 a1 hr1 h1 => ?_
  refine dE_bind (kB := kE K mg W R σ τ θ Q) a1 rfl kE_x kE_b h1 fun r2 ρ2 y F2 H2 a2 hr2 h2 => ?_
  simp only [List.nil_append, List.singleton_append] at a2
  unfold bin2 at h2
  have ht := (a2.drop (t2 := [some x, some y]) (s2 := [r1.slot, r2.slot]) rfl).tlen
  cases e1 : deref ρ2 r1 with
  | none => simp only [e1] at h2; exact h2.elim
  | some d1 =>
    cases e2 : deref ρ2 r2 with
    | none => simp only [e1, e2] at h2; exact h2.elim
    | some d2 =>
      simp only [e1, e2] at h2
      have v1 := a2.view (k := τ.length) (by simp) (by simp [ht]) hr1 e1
      have v2 := a2.view (k := τ.length + 1) (by simp) (by simp [ht]) hr2 e2
      cases e3 : opf d1 d2 with
      | none => rw [e3] at h2; exact h2.elim
      | some o =>
        rw [e3] at h2
        exact hv R _ _ F2 H2 x y d1 d2 o Q (a2.drop (t2 := [some x, some y]) (s2 := [r1.slot, r2.slot]) rfl).rel v1 v2 e3 fun v F' H' hrel hat => h2 v F' H' (At.of_rel hrel a2.len) (hat σ)
def VOp1 (K : PySem.W.Frag) (r : V → Hp → VK → Prop) (opf : Dt → Option Rs) : Prop :=
  ∀ (R : RC) (vs : List (Option V)) (ss : Sl) (F H : Hp) (x : V) (d1 : Dt) (out : Rs) (Q : VK), Rel K R vs ss F H → RpV K F H x d1 → opf d1 = some out →
    (∀ v F' H', Rel K R (vs ++ [some v]) (ss ++ [out.slot]) F' H' → (∀ σ, out.at σ v) → Q v H') → r x H Q
def un1 (opf : Dt → Option Rs) (r1 : Rs) (ρ : Sl) : O (Rs × Sl) :=
  match deref ρ r1 with
  | some d1 => (O.of (opf d1)).bind fun o => .ok (o, ρ)
  | _ => .bad
def eUn (opf : Dt → Option Rs) (f : Sl → O (Rs × Sl)) : Sl → O (Rs × Sl) := fun ρ => (f ρ).bind fun q => un1 opf q.1 q.2
theorem de_un {r : V → Hp → VK → Prop} {opf : Dt → Option Rs} {f : Sl → O (Rs × Sl)} {Q : VK} (hv : VOp1 K r opf) (h : dE K mg W (eUn opf f) σ H Q) : tUn r (dE K mg W f) σ H Q := by
  obtain ⟨R, τ, θ, ρ, F, a, h⟩ := h
  refine dE_bind (kB := kE K mg W R σ τ θ Q) a.nil rfl kE_x kE_b h fun r1 ρ1 x F1 H1 a1 hr1 h1 => ?_
  unfold un1 at h1
  have ht := (a1.drop (t2 := [some x]) (s2 := [r1.slot]) rfl).tlen
  cases e1 : deref ρ1 r1 with
  | none => simp only [e1] at h1; exact h1.elim
  | some d1 =>
    simp only [e1] at h1
    have v1 := a1.view (k := τ.length) (by simp) (by simp [ht]) hr1 e1
    cases e3 : opf d1 with
    | none => rw [e3] at h1; exact h1.elim
    | some o =>
      rw [e3] at h1
      exact hv R _ _ F1 H1 x d1 o Q (a1.drop (t2 := [some x]) (s2 := [r1.slot]) rfl).rel v1 e3 fun v F' H' hrel hat => h1 v F' H' (At.of_rel hrel a1.len) (hat σ)
end
end FX

/-! FX3: argument lists, displays, tests, statements. -/
namespace FX
open PySem L2
open Evl (Ex)
section
variable {K : PySem.W.Frag} {mg : Str → Option Value} {R : RC} {F F' H H' : Hp} {vs ws : List (Option V)} {ss ts : Sl}
variable {σ : L2.St} {τ t2 : List (Option V)} {ρ θ s2 : Sl} {W : WX}

theorem dA_bind {f : Sl → O (List Rs × Sl)} {β : Type} {kB : O β → Prop} {g : List Rs × Sl → O β} {Q' : List V → Hp → Prop} (a : At K R σ (τ ++ t2) ρ (θ ++ s2) F H) (hl : t2.length = s2.length)
    (hx : ∀ e ρ', kB (.exc e ρ') → ∀ cls d F' H', At K R σ τ ρ' θ F' H' → ExRel K mg e cls d F' H' → W cls d σ H') (hb : ¬ kB .bad) (h : kB ((f ρ).bind g))
    (next : ∀ rs ρ1 (vs : List V) F1 H1, At K R σ (τ ++ (t2 ++ vs.map some)) ρ1 (θ ++ (s2 ++ rs.map Rs.slot)) F1 H1 → RsAt σ vs rs → kB (g (rs, ρ1)) → Q' vs H1) : dA K mg W f σ H Q' := by
  refine ⟨R, _, _, ρ, F, a, ?_⟩
  cases e : f ρ with
  | ok q =>
    obtain ⟨r, ρ1⟩ := q
    rw [e] at h
    refine fun v F1 H1 a1 hr => next r ρ1 v F1 H1 ?_ hr h
    rw [List.append_assoc, List.append_assoc] at a1; exact a1
  | exc x ρ1 =>
    rw [e] at h
    exact fun cls d F1 H1 a1 q => hx x ρ1 h cls d F1 H1 (a1.drop hl) q
  | bad => rw [e] at h; exact absurd h hb
theorem dT_bind {f : Sl → O (Bool × Sl)} {β : Type} {kB : O β → Prop} {g : Bool × Sl → O β} {Q' : Bool → Hp → Prop} (a : At K R σ (τ ++ t2) ρ (θ ++ s2) F H) (hl : t2.length = s2.length)
    (hx : ∀ e ρ', kB (.exc e ρ') → ∀ cls d F' H', At K R σ τ ρ' θ F' H' → ExRel K mg e cls d F' H' → W cls d σ H') (hb : ¬ kB .bad) (h : kB ((f ρ).bind g))
    (next : ∀ b ρ1 F1 H1, At K R σ (τ ++ t2) ρ1 (θ ++ s2) F1 H1 → kB (g (b, ρ1)) → Q' b H1) : dT K mg W f σ H Q' := by
  refine ⟨R, _, _, ρ, F, a, ?_⟩
  cases e : f ρ with
  | ok q =>
    obtain ⟨r, ρ1⟩ := q
    rw [e] at h
    exact fun F1 H1 a1 => next r ρ1 F1 H1 a1 h
  | exc x ρ1 =>
    rw [e] at h
    exact fun cls d F1 H1 a1 q => hx x ρ1 h cls d F1 H1 (a1.drop hl) q
  | bad => rw [e] at h; exact absurd h hb
/-! ### argument lists -/
def aNil : Sl → O (List Rs × Sl) := fun ρ => .ok ([], ρ)
def aCons (f : Sl → O (Rs × Sl)) (g : Sl → O (List Rs × Sl)) : Sl → O (List Rs × Sl) := fun ρ => (f ρ).bind fun q => (g q.2).bind fun q2 => .ok (q.1 :: q2.1, q2.2)
theorem da_nil {Q : List V → Hp → Prop} (h : dA K mg W aNil σ H Q) : tNil σ H Q := by
  obtain ⟨R, τ, θ, ρ, F, a, h⟩ := h
  exact h [] F H a.nil trivial
theorem da_cons {f : Sl → O (Rs × Sl)} {g : Sl → O (List Rs × Sl)} {Q : List V → Hp → Prop} (h : dA K mg W (aCons f g) σ H Q) : tCons (dE K mg W f) (dA K mg W g) σ H Q := by
  obtain ⟨R, τ, θ, ρ, F, a, h⟩ := h
  refine dE_bind (kB := kA K mg W R σ τ θ Q) a.nil rfl kA_x kA_b h fun r1 ρ1 x F1 H1 a1 hr1 h1 => ?_
  refine dA_bind (kB := kA K mg W R σ τ θ Q) a1 rfl kA_x kA_b h1 fun rs ρ2 xs F2 H2 a2 hr2 h2 => ?_
  exact h2 (x :: xs) F2 H2 (by simpa using a2) ⟨hr1, hr2⟩
/-! ### freezing what is put into displays -/
def freeze1 (r : Rs) (ρ : Sl) : Option (Dt × Sl) := match r with
  | .val d => some (d, ρ)
  | .own ds => some (.lst ds, ρ)
  | .ref i => match ρ[i]? with
    | some (.loc ds) => some (.lst ds, ρ.set i (.frz (.lst ds)))
    | some (.frz d) => some (d, ρ)
    | _ => none
def freezeAll : List Rs → Sl → Option (List Dt × Sl)
  | [], ρ => some ([], ρ)
  | r :: rs, ρ => (freeze1 r ρ).bind fun q => (freezeAll rs q.2).bind fun q2 => some (q.1 :: q2.1, q2.2)
theorem set_pre {α : Type} {l r : List α} {i : Nat} {x : α} (h : i < l.length) : (l ++ r).set i x = l.set i x ++ r := List.set_append_left i x h
theorem freeze1_ok {r : Rs} {v : V} {d : Dt} {ρ' : Sl} (a : At K R σ (τ ++ [some v]) ρ (θ ++ [r.slot]) F H) (hr : r.at σ v) (h : freeze1 r ρ = some (d, ρ')) :
    ∃ F', Ex F F' ∧ At K R σ (τ ++ [some v]) ρ' (θ ++ [.frz d]) F' H ∧ Rp K F' v d := by
  have ht := (a.drop (t2 := [some v]) (s2 := [r.slot]) rfl).tlen
  have hv : (σ ++ (τ ++ [some v]))[σ.length + τ.length]? = some (some v) := by
    rw [← List.append_assoc, List.getElem?_append_right (by simp)]; simp
  have hs : (ρ ++ (θ ++ [r.slot]))[σ.length + τ.length]? = some r.slot := by
    have := a.len
    rw [← List.append_assoc, List.getElem?_append_right (by simp; omega)]; simp [ht, this]
  cases r with
  | val d' =>
    cases h
    obtain ⟨x, e, q⟩ := a.rel.slot _ _ _ hv hs
    cases e
    exact ⟨F, fun _ _ z => z, a, q⟩
  | own ds =>
    cases h
    obtain ⟨p, xs, e1, _⟩ := a.rel.slot _ _ _ hv hs
    cases e1
    obtain ⟨F', ex, r', rp⟩ := a.rel.freeze hv hs
    refine ⟨F', ex, ⟨?_, a.len⟩, rp⟩
    have e : (ρ ++ (θ ++ [Slot.loc ds])).set (σ.length + τ.length) (.frz (.lst ds)) = ρ ++ (θ ++ [.frz (.lst ds)]) := by
      have := a.len
      rw [List.set_append_right _ _ (by omega), List.set_append_right _ _ (by omega)]
      have : σ.length + τ.length - ρ.length - θ.length = 0 := by omega
      rw [this] <;> rfl
    rw [← e]; exact r'
  | ref i =>
    have hi : σ[i]? = some (some v) := hr
    have hil : i < σ.length := (List.getElem?_eq_some_iff.mp hi).1
    have hi2 : (σ ++ (τ ++ [some v]))[i]? = some (some v) := by rw [List.getElem?_append_left hil]; exact hi
    unfold freeze1 at h
    cases e : ρ[i]? with
    | none => simp [e] at h
    | some s =>
      have hs2 : (ρ ++ (θ ++ [Slot.any]))[i]? = some s := by rw [List.getElem?_append_left (List.getElem?_eq_some_iff.mp e).1]; exact e
      have re : ∀ {ρ' : Sl} {F' : Hp} {d : Dt}, Rel K R (σ ++ (τ ++ [some v])) (ρ' ++ (θ ++ [Slot.any])) F' H → ρ'.length = ρ.length → Rp K F' v d → At K R σ (τ ++ [some v]) ρ' (θ ++ [.frz d]) F' H := fun {ρ' F' d} q hl hp => by
        have q1 : At K R σ (τ ++ [some v]) ρ' (θ ++ [Slot.any]) F' H := ⟨q, by rw [hl]; exact a.len⟩
        exact At.of_rel ((q1.drop (t2 := [some v]) (s2 := [Slot.any]) rfl).rel.pushF hp) q1.len
      cases s with
      | any => simp [e] at h
      | frz d' =>
        simp [e] at h
        obtain ⟨h1, h2⟩ := h
        subst h1; subst h2
        obtain ⟨x, e1, q⟩ := a.rel.slot _ _ _ hi2 hs2
        cases e1
        exact ⟨F, fun _ _ z => z, re a.rel rfl q, q⟩
      | loc ds =>
        simp [e] at h
        obtain ⟨h1, h2⟩ := h
        subst h1; subst h2
        obtain ⟨p, xs, e1, _⟩ := a.rel.slot _ _ _ hi2 hs2
        cases e1
        obtain ⟨F', ex, r', rp⟩ := a.rel.freeze hi2 hs2
        rw [set_pre (List.getElem?_eq_some_iff.mp e).1] at r'
        exact ⟨F', ex, re r' (by simp) rp, rp⟩
      | io ds => simp [e] at h
      | lock ds => simp [e] at h
theorem freezeAll_ok : ∀ {rs : List Rs} {xs : List V} {ds : List Dt} {τ : List (Option V)} {ρ θ ρ' : Sl} {F : Hp}, At K R σ (τ ++ xs.map some) ρ (θ ++ rs.map Rs.slot) F H → τ.length = θ.length → RsAt σ xs rs → freezeAll rs ρ = some (ds, ρ') →
    ∃ F', Ex F F' ∧ At K R σ τ ρ' θ F' H ∧ RpAll K F' xs ds
  | [], [], ds, τ, ρ, θ, ρ', F, a, hl, _, h => by
    cases h
    exact ⟨F, fun _ _ z => z, by simpa using a, .nil⟩
  | [], _ :: _, _, _, _, _, _, _, _, _, h, _ => h.elim
  | _ :: _, [], _, _, _, _, _, _, _, _, h, _ => h.elim
  | r :: rs, v :: xs, ds, τ, ρ, θ, ρ', F, a, hl, hr, h => by
    unfold freezeAll at h
    obtain ⟨⟨d, ρ1⟩, h1, h⟩ := Option.bind_eq_some_iff.mp h
    obtain ⟨⟨es, ρ2⟩, h2, h⟩ := Option.bind_eq_some_iff.mp h
    cases h
    -- the value ahead, with the others behind it: first the others are kept in flight
    have a0 : At K R σ ((τ ++ [some v]) ++ xs.map some) ρ ((θ ++ [r.slot]) ++ rs.map Rs.slot) F H := by simpa using a
    -- freeze at its place within the whole
    have key : ∃ F1, Ex F F1 ∧ At K R σ ((τ ++ [some v]) ++ xs.map some) ρ1 ((θ ++ [.frz d]) ++ rs.map Rs.slot) F1 H ∧ Rp K F1 v d := by
      have ll : xs.length = rs.length := by
        have := a0.tlen
        simp at this; omega
      have hv : (σ ++ ((τ ++ [some v]) ++ xs.map some))[σ.length + τ.length]? = some (some v) := by
        rw [List.getElem?_append_right (by omega), List.getElem?_append_left (by simp), List.getElem?_append_right (by omega)]; simp
      have hs : (ρ ++ ((θ ++ [r.slot]) ++ rs.map Rs.slot))[σ.length + τ.length]? = some r.slot := by
        have := a.len
        rw [List.getElem?_append_right (by omega), List.getElem?_append_left (by simp; omega), List.getElem?_append_right (by omega)]
        have : σ.length + τ.length - ρ.length - θ.length = 0 := by omega
        rw [this] <;> rfl
      have setAt : ∀ {s t : Slot} {ρ0 : Sl}, ρ0.length = ρ.length → (ρ0 ++ ((θ ++ [s]) ++ rs.map Rs.slot)).set (σ.length + τ.length) t = ρ0 ++ ((θ ++ [t]) ++ rs.map Rs.slot) := fun {s t ρ0} h0 => by
        have := a.len
        rw [List.set_append_right _ _ (by omega), List.set_append_left _ _ (by simp; omega), List.set_append_right _ _ (by omega)]
        have : σ.length + τ.length - ρ0.length - θ.length = 0 := by omega
        rw [this] <;> rfl
      cases r with
      | val d' =>
        cases h1
        obtain ⟨x, e, q⟩ := a0.rel.slot _ _ _ hv hs
        cases e
        exact ⟨F, fun _ _ z => z, a0, q⟩
      | own es' =>
        cases h1
        obtain ⟨p, ys, e1, _⟩ := a0.rel.slot _ _ _ hv hs
        cases e1
        obtain ⟨F', ex, r', rp⟩ := a0.rel.freeze hv hs
        exact ⟨F', ex, ⟨by rw [← setAt (s := (Rs.own es').slot) rfl]; exact r', a0.len⟩, rp⟩
      | ref i =>
        have hi : σ[i]? = some (some v) := hr.1
        have hil : i < σ.length := (List.getElem?_eq_some_iff.mp hi).1
        have hi2 : (σ ++ ((τ ++ [some v]) ++ xs.map some))[i]? = some (some v) := by rw [List.getElem?_append_left hil]; exact hi
        -- a forgotten place may be told of frozen data
        have tell : ∀ {ρ0 : Sl} {F' : Hp} {d : Dt}, ρ0.length = ρ.length → Rel K R (σ ++ ((τ ++ [some v]) ++ xs.map some)) (ρ0 ++ ((θ ++ [Slot.any]) ++ rs.map Rs.slot)) F' H → Rp K F' v d →
            At K R σ ((τ ++ [some v]) ++ xs.map some) ρ0 ((θ ++ [.frz d]) ++ rs.map Rs.slot) F' H := fun {ρ0 F' d} h0 q hp => by
          refine ⟨?_, by rw [h0]; exact a0.len⟩
          rw [← setAt (s := .any) (t := .frz d) h0]
          have hlt : σ.length + τ.length < (ρ0 ++ ((θ ++ [Slot.any]) ++ rs.map Rs.slot)).length := by have := a.len; simp; omega
          refine ⟨by rw [List.length_set]; exact q.len, q.exF, q.fz, q.new, q.kept, q.pinH, fun j w t g1 g2 => ?_, fun j k p t t' hjk g1 g2 g3 g4 o1 o2 => ?_⟩
          · by_cases hj : j = σ.length + τ.length
            · subst hj
              rw [List.getElem?_set_self hlt] at g2; cases g2
              rw [hv] at g1; cases g1
              exact ⟨v, rfl, hp⟩
            · rw [List.getElem?_set_ne (Ne.symm hj)] at g2
              exact q.slot j w t g1 g2
          · have fix : ∀ {j : Nat} {t : Slot}, ((ρ0 ++ ((θ ++ [Slot.any]) ++ rs.map Rs.slot)).set (σ.length + τ.length) (.frz d))[j]? = some t → t.own = true → (ρ0 ++ ((θ ++ [Slot.any]) ++ rs.map Rs.slot))[j]? = some t := fun {j t} g o => by
              by_cases hj : j = σ.length + τ.length
              · subst hj
                rw [List.getElem?_set_self hlt] at g; cases g; cases o
              · rw [List.getElem?_set_ne (Ne.symm hj)] at g; exact g
            exact q.sep j k p t t' hjk g1 g2 (fix g3 o1) (fix g4 o2) o1 o2
        unfold freeze1 at h1
        cases e : ρ[i]? with
        | none => simp [e] at h1
        | some s =>
          have hs2 : (ρ ++ ((θ ++ [Slot.any]) ++ rs.map Rs.slot))[i]? = some s := by rw [List.getElem?_append_left (List.getElem?_eq_some_iff.mp e).1]; exact e
          cases s with
          | any => simp [e] at h1
          | frz d' =>
            simp [e] at h1
            obtain ⟨g1, g2⟩ := h1
            subst g1; subst g2
            obtain ⟨x, e1, q⟩ := a0.rel.slot _ _ _ hi2 hs2
            cases e1
            exact ⟨F, fun _ _ z => z, tell rfl a0.rel q, q⟩
          | loc es' =>
            simp [e] at h1
            obtain ⟨g1, g2⟩ := h1
            subst g1; subst g2
            obtain ⟨p, ys, e1, _⟩ := a0.rel.slot _ _ _ hi2 hs2
            cases e1
            obtain ⟨F', ex, r', rp⟩ := a0.rel.freeze hi2 hs2
            rw [set_pre (List.getElem?_eq_some_iff.mp e).1] at r'
            exact ⟨F', ex, tell (by simp) r' rp, rp⟩
          | io es' => simp [e] at h1
          | lock es' => simp [e] at h1
    obtain ⟨F1, ex1, a1, rp1⟩ := key
    obtain ⟨F2, ex2, a2, rp2⟩ := freezeAll_ok a1 (by simp [hl]) hr.2 h2
    exact ⟨F2, ex1.trans ex2, a2.drop (t2 := [some v]) (s2 := [.frz d]) rfl, .cons (rp1.mono ex2) rp2⟩

def eTup (fa : Sl → O (List Rs × Sl)) : Sl → O (Rs × Sl) := fun ρ => (fa ρ).bind fun q => match freezeAll q.1 q.2 with
  | some (ds, ρ') => if ds.length ≤ 100000 then .ok (.val (.tup ds), ρ') else .bad
  | none => .bad
def eLst (fa : Sl → O (List Rs × Sl)) : Sl → O (Rs × Sl) := fun ρ => (fa ρ).bind fun q => match freezeAll q.1 q.2 with
  | some (ds, ρ') => if ds.length ≤ 100000 then .ok (.own ds, ρ') else .bad
  | none => .bad
theorem de_tup {fa : Sl → O (List Rs × Sl)} {Q : VK} (h : dE K mg W (eTup fa) σ H Q) : tTup (dA K mg W fa) σ H Q := by
  obtain ⟨R, τ, θ, ρ, F, a, h⟩ := h
  refine dA_bind (kB := kE K mg W R σ τ θ Q) a.nil rfl kE_x kE_b h fun rs ρ1 xs F1 H1 a1 hr1 h1 => ?_
  simp only [List.nil_append] at a1
  cases e : freezeAll rs ρ1 with
  | none => simp only [e] at h1; exact h1.elim
  | some q =>
    obtain ⟨ds, ρ2⟩ := q
    simp only [e] at h1
    by_cases hz : ds.length ≤ 100000
    · rw [if_pos hz] at h1
      obtain ⟨F2, ex, a2, rp⟩ := freezeAll_ok a1 a.tlen hr1 e
      have hx : xs.length ≤ sizeLine := by rw [rp.length]; exact Evl.sz_of hz
      refine ⟨hx, fun p hp => ?_⟩
      exact h1 (.ref p) _ _ (At.of_rel ((a2.rel.allocF (o := .tup xs) hp).pushF (.tup (SqT.of upd_same) hx (rp.mono (ex_upd (a2.rel.freshF hp))))) a2.len) trivial
    · rw [if_neg hz] at h1; exact h1.elim
theorem de_lst {fa : Sl → O (List Rs × Sl)} {Q : VK} (h : dE K mg W (eLst fa) σ H Q) : tLst (dA K mg W fa) σ H Q := by
  obtain ⟨R, τ, θ, ρ, F, a, h⟩ := h
  refine dA_bind (kB := kE K mg W R σ τ θ Q) a.nil rfl kE_x kE_b h fun rs ρ1 xs F1 H1 a1 hr1 h1 => ?_
  simp only [List.nil_append] at a1
  cases e : freezeAll rs ρ1 with
  | none => simp only [e] at h1; exact h1.elim
  | some q =>
    obtain ⟨ds, ρ2⟩ := q
    simp only [e] at h1
    by_cases hz : ds.length ≤ 100000
    · rw [if_pos hz] at h1
      obtain ⟨F2, ex, a2, rp⟩ := freezeAll_ok a1 a.tlen hr1 e
      have hx : xs.length ≤ sizeLine := by rw [rp.length]; exact Evl.sz_of hz
      refine ⟨hx, fun p hp => ?_⟩
      exact h1 (.ref p) _ _ (At.of_rel (a2.rel.allocM hp rp hx) a2.len) trivial
    · rw [if_neg hz] at h1; exact h1.elim
end
end FX

/-! FX4: tests, statements. -/
namespace FX
open PySem L2
open Evl (Ex ex_t)
section
variable {K : PySem.W.Frag} {mg : Str → Option Value} {R : RC} {F F' H H' : Hp} {vs ws : List (Option V)} {ss ts : Sl}
variable {σ : L2.St} {τ t2 : List (Option V)} {ρ θ s2 : Sl} {W : WX}

theorem Rp.bl_of {F : Hp} {v : V} {b : Bool} (h : Rp K F v (.bl b)) : v = .bl b := by cases h; rfl
theorem Rp.int_of {F : Hp} {v : V} {b : Int} (h : Rp K F v (.int b)) : v = .int b := by cases h; rfl
theorem Rp.str_of {F : Hp} {v : V} {b : Str} (h : Rp K F v (.str b)) : v = .str b := by cases h; rfl
theorem Rp.non_of {F : Hp} {v : V} (h : Rp K F v .non) : v = .non := by cases h; rfl
/-! ### tests -/
/-- the value's truth -/
def Dt.truth : Dt → Option Bool
  | .non => some false
  | .bl b => some b
  | .int i => some (i != 0)
  | .str x => if x.length ≤ sizeLine then some ((x.length : Int) != 0) else none
  | .tup ds => some (!ds.isEmpty)
  | .lst ds => some (!ds.isEmpty)
  | .scr ns => some (!ns.isEmpty)
  | .emp => none
@[simp] theorem truth_bl (b : Bool) : (Dt.bl b).truth = some b := rfl
@[simp] theorem truth_lst (ds : List Dt) : (Dt.lst ds).truth = some (!ds.isEmpty) := rfl
@[simp] theorem truth_tup (ds : List Dt) : (Dt.tup ds).truth = some (!ds.isEmpty) := rfl
@[simp] theorem truth_int (i : Int) : (Dt.int i).truth = some (i != 0) := rfl
theorem RpAll.empty : ∀ {F : Hp} {vs : List V} {ds : List Dt}, RpAll K F vs ds → (!vs.isEmpty) = !ds.isEmpty
  | _, _, _, .nil => rfl
  | _, _, _, .cons _ _ => rfl
theorem truth_ok {v : V} {d : Dt} {b : Bool} (h : Rp K H v d) (e : d.truth = some b) : TruV K v H b := by
  cases h with
  | non => cases e; rfl
  | bl b => cases e; rfl
  | int i => cases e; rfl
  | str x =>
    have e : (if x.length ≤ sizeLine then some ((x.length : Int) != 0) else none) = some b := e
    by_cases hz : x.length ≤ sizeLine
    · rw [if_pos hz] at e; cases e; exact ⟨hz, rfl⟩
    · rw [if_neg hz] at e; cases e
  | tup h z r => cases e; exact .inr (.inl ⟨_, h, by rw [r.empty]⟩)
  | lst h z r => cases e; exact .inl ⟨_, SqL.of h, by rw [r.empty]⟩
  | scr h => cases e; exact .inl ⟨_, h, by simp⟩
  | emp h => cases e
def tst1 (q : Rs × Sl) : O (Bool × Sl) := match (deref q.2 q.1).bind Dt.truth with
  | some b => .ok (b, q.2)
  | none => .bad
def tst (f : Sl → O (Rs × Sl)) : Sl → O (Bool × Sl) := fun ρ => (f ρ).bind tst1
/-- a test that must be a bool -/
def tstB1 (q : Rs × Sl) : O (Bool × Sl) := match q.1 with
  | .val (.bl b) => .ok (b, q.2)
  | _ => .bad
def tstB (f : Sl → O (Rs × Sl)) : Sl → O (Bool × Sl) := fun ρ => (f ρ).bind tstB1
@[simp] theorem tstB1_bl (b : Bool) (ρ : Sl) : tstB1 (.val (.bl b), ρ) = .ok (b, ρ) := rfl
@[simp] theorem tst1_val (d : Dt) (ρ : Sl) : tst1 (.val d, ρ) = match d.truth with | some b => .ok (b, ρ) | none => .bad := rfl
theorem dt_tst {f : Sl → O (Rs × Sl)} {Q : Bool → Hp → Prop} (h : dT K mg W (tst f) σ H Q) : dE K mg W f σ H fun x H' => ∃ k, TruV K x H' k ∧ Q k H' := by
  obtain ⟨R, τ, θ, ρ, F, a, h⟩ := h
  refine dE_bind (kB := kT K mg W R σ τ θ Q) a.nil rfl kT_x kT_b h fun r1 ρ1 x F1 H1 a1 hr1 h1 => ?_
  have ht := (a1.drop (t2 := [some x]) (s2 := [r1.slot]) rfl).tlen
  unfold tst1 at h1
  cases e1 : deref ρ1 r1 with
  | none => simp only [e1] at h1; exact h1.elim
  | some d =>
    cases e2 : d.truth with
    | none => simp [e1, e2] at h1; exact h1.elim
    | some b =>
      simp only [e1, Option.bind_some, e2] at h1
      have v1 := a1.view (k := τ.length) (by simp) (by simp [ht]) hr1 e1
      exact ⟨b, truth_ok (v1.full a1.rel.fz) e2, h1 F1 H1 (a1.drop (t2 := [some x]) (s2 := [r1.slot]) rfl)⟩
theorem dt_tstB {f : Sl → O (Rs × Sl)} {Q : Bool → Hp → Prop} (h : dT K mg W (tstB f) σ H Q) : dE K mg W f σ H fun x H' => ∃ k, x = .bl k ∧ Q k H' := by
  obtain ⟨R, τ, θ, ρ, F, a, h⟩ := h
  refine dE_bind (kB := kT K mg W R σ τ θ Q) a.nil rfl kT_x kT_b h fun r1 ρ1 x F1 H1 a1 hr1 h1 => ?_
  have ht := (a1.drop (t2 := [some x]) (s2 := [r1.slot]) rfl).tlen
  unfold tstB1 at h1
  split at h1
  · rename_i b hb
    have hb : r1 = .val (.bl b) := hb
    subst hb
    have v1 := a1.view (k := τ.length) (d := .bl b) (by simp) (by simp [ht]) hr1 rfl
    exact ⟨b, (v1.full a1.rel.fz).bl_of, h1 F1 H1 (a1.drop (t2 := [some x]) (s2 := [(Rs.val (.bl b)).slot]) rfl)⟩
  · exact h1.elim
def tAndD (f g : Sl → O (Bool × Sl)) : Sl → O (Bool × Sl) := fun ρ => (f ρ).bind fun q => if q.1 = true then g q.2 else .ok (false, q.2)
def tOrD (f g : Sl → O (Bool × Sl)) : Sl → O (Bool × Sl) := fun ρ => (f ρ).bind fun q => if q.1 = true then .ok (true, q.2) else g q.2
def tNotD (f : Sl → O (Bool × Sl)) : Sl → O (Bool × Sl) := fun ρ => (f ρ).bind fun q => .ok (!q.1, q.2)
theorem dT_in {f : Sl → O (Bool × Sl)} {Q : Bool → Hp → Prop} (a : At K R σ τ ρ θ F H) (h : kT K mg W R σ τ θ Q (f ρ)) : dT K mg W f σ H Q := ⟨R, τ, θ, ρ, F, a, h⟩
theorem dt_and {f g : Sl → O (Bool × Sl)} {Q : Bool → Hp → Prop} (h : dT K mg W (tAndD f g) σ H Q) : tAnd (dT K mg W f) (dT K mg W g) σ H Q := by
  obtain ⟨R, τ, θ, ρ, F, a, h⟩ := h
  refine dT_bind (kB := kT K mg W R σ τ θ Q) a.nil rfl kT_x kT_b h fun b ρ1 F1 H1 a1 h1 => ?_
  cases b with
  | true => exact iteT (dT_in a1.unnil h1)
  | false => exact iteF (h1 F1 H1 a1.unnil)
theorem dt_or {f g : Sl → O (Bool × Sl)} {Q : Bool → Hp → Prop} (h : dT K mg W (tOrD f g) σ H Q) : tOr (dT K mg W f) (dT K mg W g) σ H Q := by
  obtain ⟨R, τ, θ, ρ, F, a, h⟩ := h
  refine dT_bind (kB := kT K mg W R σ τ θ Q) a.nil rfl kT_x kT_b h fun b ρ1 F1 H1 a1 h1 => ?_
  cases b with
  | true => exact iteT (h1 F1 H1 a1.unnil)
  | false => exact iteF (dT_in a1.unnil h1)
theorem dt_not {f : Sl → O (Bool × Sl)} {Q : Bool → Hp → Prop} (h : dT K mg W (tNotD f) σ H Q) : tNot (dT K mg W f) σ H Q := by
  obtain ⟨R, τ, θ, ρ, F, a, h⟩ := h
  exact dT_bind (kB := kT K mg W R σ τ θ Q) a.nil rfl kT_x kT_b h fun b ρ1 F1 H1 a1 h1 => h1 F1 H1 a1.unnil
/-- a bool's test as a value -/
def eBool (f : Sl → O (Bool × Sl)) : Sl → O (Rs × Sl) := fun ρ => (f ρ).bind fun q => .ok (.val (.bl q.1), q.2)
def eAndV (f g : Sl → O (Rs × Sl)) : Sl → O (Rs × Sl) := fun ρ => (tstB f ρ).bind fun q => if q.1 = true then g q.2 else .ok (.val (.bl false), q.2)
def eOrV (f g : Sl → O (Rs × Sl)) : Sl → O (Rs × Sl) := fun ρ => (tstB f ρ).bind fun q => if q.1 = true then .ok (.val (.bl true), q.2) else g q.2
def eNotV (f : Sl → O (Rs × Sl)) : Sl → O (Rs × Sl) := fun ρ => (tstB f ρ).bind fun q => .ok (.val (.bl (!q.1)), q.2)
def eIf (c : Sl → O (Bool × Sl)) (f g : Sl → O (Rs × Sl)) : Sl → O (Rs × Sl) := fun ρ => (c ρ).bind fun q => if q.1 = true then f q.2 else g q.2
theorem dE_in {f : Sl → O (Rs × Sl)} {Q : VK} (a : At K R σ τ ρ θ F H) (h : kE K mg W R σ τ θ Q (f ρ)) : dE K mg W f σ H Q := ⟨R, τ, θ, ρ, F, a, h⟩
theorem de_if {c : Sl → O (Bool × Sl)} {f g : Sl → O (Rs × Sl)} {Q : VK} (h : dE K mg W (eIf c f g) σ H Q) : tIf (dT K mg W c) (dE K mg W f) (dE K mg W g) σ H Q := by
  obtain ⟨R, τ, θ, ρ, F, a, h⟩ := h
  refine dT_bind (kB := kE K mg W R σ τ θ Q) a.nil rfl kE_x kE_b h fun b ρ1 F1 H1 a1 h1 => ?_
  cases b with
  | true => exact iteT (dE_in a1.unnil h1)
  | false => exact iteF (dE_in a1.unnil h1)
theorem dE_bindB {f : Sl → O (Rs × Sl)} {β : Type} {kB : O β → Prop} {g : Bool × Sl → O β} {Q' : VK} (a : At K R σ τ ρ θ F H)
    (hx : ∀ e ρ', kB (.exc e ρ') → ∀ cls d F' H', At K R σ τ ρ' θ F' H' → ExRel K mg e cls d F' H' → W cls d σ H') (hb : ¬ kB .bad) (h : kB ((tstB f ρ).bind g))
    (next : ∀ b ρ1 F1 H1, At K R σ τ ρ1 θ F1 H1 → kB (g (b, ρ1)) → Q' (.bl b) H1) : dE K mg W f σ H Q' := by
  have h' : kB ((f ρ).bind fun q => (tstB1 q).bind g) := by
    unfold tstB at h
    cases e : f ρ with
    | ok q => rw [e] at h; exact h
    | exc x ρ1 => rw [e] at h; exact h
    | bad => rw [e] at h; exact h
  refine dE_bind (kB := kB) a.nil rfl hx hb h' fun r1 ρ1 x F1 H1 a1 hr1 h1 => ?_
  have ht := (a1.drop (t2 := [some x]) (s2 := [r1.slot]) rfl).tlen
  unfold tstB1 at h1
  split at h1
  · rename_i b hb'
    have hb' : r1 = .val (.bl b) := hb'
    subst hb'
    have v1 := a1.view (k := τ.length) (d := .bl b) (by simp) (by simp [ht]) hr1 rfl
    have e := (v1.full a1.rel.fz).bl_of
    subst e
    exact next b ρ1 F1 H1 (a1.drop (t2 := [some _]) (s2 := [(Rs.val (.bl b)).slot]) rfl) h1
  · exact absurd h1 hb
theorem de_andV {f g : Sl → O (Rs × Sl)} {Q : VK} (h : dE K mg W (eAndV f g) σ H Q) : tAndV (dE K mg W f) (dE K mg W g) σ H Q := by
  obtain ⟨R, τ, θ, ρ, F, a, h⟩ := h
  refine dE_bindB (kB := kE K mg W R σ τ θ Q) a kE_x kE_b h fun b ρ1 F1 H1 a1 h1 => ⟨b, rfl, ?_⟩
  cases b with
  | true => exact iteT (dE_in a1 h1)
  | false => exact iteF (h1 (.bl false) F1 H1 (At.of_rel (a1.rel.pushF (.bl false)) a1.len) trivial)
theorem de_orV {f g : Sl → O (Rs × Sl)} {Q : VK} (h : dE K mg W (eOrV f g) σ H Q) : tOrV (dE K mg W f) (dE K mg W g) σ H Q := by
  obtain ⟨R, τ, θ, ρ, F, a, h⟩ := h
  refine dE_bindB (kB := kE K mg W R σ τ θ Q) a kE_x kE_b h fun b ρ1 F1 H1 a1 h1 => ⟨b, rfl, ?_⟩
  cases b with
  | true => exact iteT (h1 (.bl true) F1 H1 (At.of_rel (a1.rel.pushF (.bl true)) a1.len) trivial)
  | false => exact iteF (dE_in a1 h1)
theorem de_notV {f : Sl → O (Rs × Sl)} {Q : VK} (h : dE K mg W (eNotV f) σ H Q) : tNotV (dE K mg W f) σ H Q := by
  obtain ⟨R, τ, θ, ρ, F, a, h⟩ := h
  refine dE_bindB (kB := kE K mg W R σ τ θ Q) a kE_x kE_b h fun b ρ1 F1 H1 a1 h1 => ⟨b, rfl, ?_⟩
  exact h1 (.bl (!b)) F1 H1 (At.of_rel (a1.rel.pushF (.bl _)) a1.len) trivial
/-- a chain of two comparisons, both bools -/
def eChain (o1 o2 : Dt → Dt → Option Rs) (f g k : Sl → O (Rs × Sl)) : Sl → O (Rs × Sl) := fun ρ => (f ρ).bind fun q1 => (g q1.2).bind fun q2 => (bin2 o1 q1.1 q2.1 q2.2).bind fun z => (tstB1 z).bind fun b =>
  if b.1 = true then (k b.2).bind fun q3 => bin2 o2 q2.1 q3.1 q3.2 else .ok (.val (.bl false), b.2)
/-! ### statements -/
theorem dS_in {f : Sl → O (Fl × Sl)} {D : Ends} (a : At K R σ τ ρ θ F H) (h : kS K mg W R τ θ D (f ρ)) : dS K mg W f D σ H := ⟨R, τ, θ, ρ, F, a, h⟩
def sSeq (s t : Sl → O (Fl × Sl)) : Sl → O (Fl × Sl) := fun ρ => (s ρ).bind fun q => match q.1 with
  | .nx => t q.2
  | _ => .ok q
def sNx : Sl → O (Fl × Sl) := fun ρ => .ok (.nx, ρ)
def sBk : Sl → O (Fl × Sl) := fun ρ => .ok (.bk, ρ)
def sCt : Sl → O (Fl × Sl) := fun ρ => .ok (.ct, ρ)
theorem ds_seq {s t : Sl → O (Fl × Sl)} {D : Ends} (h : dS K mg W (sSeq s t) D σ H) : tSeq (dS K mg W s) (dS K mg W t) D σ H := by
  obtain ⟨R, τ, θ, ρ, F, a, h⟩ := h
  refine dS_in a ?_
  unfold sSeq at h
  cases e : s ρ with
  | ok q =>
    obtain ⟨fl, ρ1⟩ := q
    rw [e] at h
    cases fl with
    | nx => exact fun σ' F' H' a' => dS_in a' h
    | rt r => exact h
    | bk => exact h
    | ct => exact h
  | exc x ρ1 => rw [e] at h; exact h
  | bad => rw [e] at h; exact h
theorem ds_nx {D : Ends} (h : dS K mg W sNx D σ H) : tNext D σ H := by
  obtain ⟨R, τ, θ, ρ, F, a, h⟩ := h
  exact h σ F H a
theorem ds_bk {D : Ends} (h : dS K mg W sBk D σ H) : tBreak D σ H := by
  obtain ⟨R, τ, θ, ρ, F, a, h⟩ := h
  exact h σ F H a
theorem ds_ct {D : Ends} (h : dS K mg W sCt D σ H) : tCont D σ H := by
  obtain ⟨R, τ, θ, ρ, F, a, h⟩ := h
  exact h σ F H a
def sIf (c : Sl → O (Bool × Sl)) (s t : Sl → O (Fl × Sl)) : Sl → O (Fl × Sl) := fun ρ => (c ρ).bind fun q => if q.1 = true then s q.2 else t q.2
theorem ds_if {c : Sl → O (Bool × Sl)} {s t : Sl → O (Fl × Sl)} {D : Ends} (h : dS K mg W (sIf c s t) D σ H) : tIfS (dT K mg W c) (dS K mg W s) (dS K mg W t) D σ H := by
  obtain ⟨R, τ, θ, ρ, F, a, h⟩ := h
  refine dT_bind (kB := kS K mg W R τ θ D) a.nil rfl kS_x kS_b h fun b ρ1 F1 H1 a1 h1 => ?_
  cases b with
  | true => exact iteT (dS_in a1.unnil h1)
  | false => exact iteF (dS_in a1.unnil h1)
/-- the list handed back is the caller's from then on -/
def sRet (f : Sl → O (Rs × Sl)) : Sl → O (Fl × Sl) := fun ρ => (f ρ).bind fun q => match q.1 with
  | .ref i => (match q.2[i]? with
    | some (.loc ds) => .ok (.rt (.own ds), q.2.set i .any)
    | _ => .bad)
  | r => .ok (.rt r, q.2)
def sRetN : Sl → O (Fl × Sl) := fun ρ => .ok (.rt (.val .non), ρ)
theorem ds_retN {D : Ends} (h : dS K mg W sRetN D σ H) : tRetN D σ H := by
  obtain ⟨R, τ, θ, ρ, F, a, h⟩ := h
  exact h .non σ F H (At.of_rel (a.rel.pushF .non) a.len)
/-- a name's list moves into flight -/
theorem At.move {i : Nat} {v : V} {ds : List Dt} (a : At K R σ (τ ++ [some v]) ρ (θ ++ [.any]) F H) (hv : σ[i]? = some (some v)) (hs : ρ[i]? = some (.loc ds)) : At K R σ (τ ++ [some v]) (ρ.set i .any) (θ ++ [.loc ds]) F H := by
  have hi : i < σ.length := (List.getElem?_eq_some_iff.mp hv).1
  have hi' : i < ρ.length := (List.getElem?_eq_some_iff.mp hs).1
  have r0 := a.drop (t2 := [some v]) (s2 := [Slot.any]) rfl
  refine At.of_rel ?_ (by rw [List.length_set]; exact a.len)
  have hv2 : (σ ++ τ)[i]? = some (some v) := by rw [List.getElem?_append_left hi]; exact hv
  have hs2 : (ρ ++ θ)[i]? = some (.loc ds) := by rw [List.getElem?_append_left hi']; exact hs
  have r1 : Rel K R (σ ++ τ) ((ρ ++ θ).set i .any) F H := by
    have q := r0.rel
    refine ⟨by rw [List.length_set]; exact q.len, q.exF, q.fz, q.new, q.kept, q.pinH, fun j w t g1 g2 => ?_, fun j k p t t' hjk g1 g2 g3 g4 o1 o2 => ?_⟩
    · by_cases hj : j = i
      · subst hj
        rw [List.getElem?_set_self (by simp; omega)] at g2; cases g2
        trivial
      · rw [List.getElem?_set_ne (Ne.symm hj)] at g2
        exact q.slot j w t g1 g2
    · have fix : ∀ {j : Nat} {t : Slot}, ((ρ ++ θ).set i .any)[j]? = some t → t.own = true → (ρ ++ θ)[j]? = some t := fun {j t} g o => by
        by_cases hj : j = i
        · subst hj
          rw [List.getElem?_set_self (by simp; omega)] at g; cases g; cases o
        · rw [List.getElem?_set_ne (Ne.symm hj)] at g; exact g
      exact q.sep j k p t t' hjk g1 g2 (fix g3 o1) (fix g4 o2) o1 o2
  rw [← set_pre hi']
  refine r1.push ((r0.rel.slot i _ _ hv2 hs2).at rfl) fun p _ e j t g1 g2 ho => ?_
  cases e
  by_cases hj : j = i
  · subst hj
    rw [List.getElem?_set_self (by simp; omega)] at g2; cases g2; cases ho
  · rw [List.getElem?_set_ne (Ne.symm hj)] at g2
    exact r0.rel.sep j i p t (.loc ds) hj g1 hv2 g2 hs2 ho rfl
theorem ds_ret {f : Sl → O (Rs × Sl)} {D : Ends} (h : dS K mg W (sRet f) D σ H) : tRet (dE K mg W f) D σ H := by
  obtain ⟨R, τ, θ, ρ, F, a, h⟩ := h
  refine dE_bind (kB := kS K mg W R τ θ D) a.nil rfl kS_x kS_b h fun r1 ρ1 x F1 H1 a1 hr1 h1 => ?_
  simp only [List.nil_append] at a1
  cases r1 with
  | val d => exact h1 x σ F1 H1 a1
  | own ds => exact h1 x σ F1 H1 a1
  | ref i =>
    simp only at h1
    split at h1
    · rename_i ds e
      exact h1 x σ F1 H1 (a1.move hr1 e)
    · exact h1.elim
/-! ### storing -/
def setS (i : Nat) (s : Slot) (ρ : Sl) : O (Fl × Sl) := match ρ[i]? with
  | some t => if t.pin = true then .bad else .ok (.nx, ρ.set i s)
  | none => .bad
/-- what is in flight is laid into a name -/
theorem At.lay {i : Nat} {v : Option V} {s t : Slot} (a : At K R σ (τ ++ [v]) ρ (θ ++ [s]) F H) (ht : ρ[i]? = some t) (hp : s.pin = false) : At K R (σ.set i v) τ (ρ.set i s) θ F H := by
  have hi' : i < ρ.length := (List.getElem?_eq_some_iff.mp ht).1
  have hl := a.len
  have hi : i < σ.length := by omega
  have q := a.rel
  have tl := (a.drop (t2 := [v]) (s2 := [s]) rfl).tlen
  -- where a place of the new lists stood before
  have look : ∀ {j : Nat} {w : Option V} {t : Slot}, (σ.set i v ++ τ)[j]? = some w → (ρ.set i s ++ θ)[j]? = some t →
      (j = i ∧ w = v ∧ t = s) ∨ (j ≠ i ∧ (σ ++ (τ ++ [v]))[j]? = some w ∧ (ρ ++ (θ ++ [s]))[j]? = some t) := fun {j w t} g1 g2 => by
    by_cases hj : j = i
    · subst hj
      rw [List.getElem?_append_left (by simpa using hi), List.getElem?_set_self hi] at g1
      rw [List.getElem?_append_left (by simpa using hi'), List.getElem?_set_self hi'] at g2
      exact .inl ⟨rfl, (Option.some.inj g1).symm, (Option.some.inj g2).symm⟩
    · refine .inr ⟨hj, ?_, ?_⟩
      · by_cases hjl : j < σ.length
        · rw [List.getElem?_append_left (by simpa using hjl), List.getElem?_set_ne (Ne.symm hj)] at g1
          rw [List.getElem?_append_left hjl]; exact g1
        · rw [List.getElem?_append_right (by simpa using Nat.le_of_not_lt hjl)] at g1
          rw [List.getElem?_append_right (by omega)]
          simp only [List.length_set] at g1
          rw [List.getElem?_append_left (List.getElem?_eq_some_iff.mp g1).1]; exact g1
      · by_cases hjl : j < ρ.length
        · rw [List.getElem?_append_left (by simpa using hjl), List.getElem?_set_ne (Ne.symm hj)] at g2
          rw [List.getElem?_append_left hjl]; exact g2
        · rw [List.getElem?_append_right (by simpa using Nat.le_of_not_lt hjl)] at g2
          rw [List.getElem?_append_right (by omega)]
          simp only [List.length_set] at g2
          rw [List.getElem?_append_left (List.getElem?_eq_some_iff.mp g2).1]; exact g2
  have lastV : (σ ++ (τ ++ [v]))[σ.length + τ.length]? = some v := by rw [← List.append_assoc, List.getElem?_append_right (by simp)]; simp
  have lastS : (ρ ++ (θ ++ [s]))[σ.length + τ.length]? = some s := by rw [← List.append_assoc, List.getElem?_append_right (by simp; omega)]; simp [tl, hl]
  have small : ∀ {j : Nat} {w : Option V}, (σ.set i v ++ τ)[j]? = some w → j < σ.length + τ.length := fun {j w} g => by
    have := (List.getElem?_eq_some_iff.mp g).1
    simpa using this
  refine ⟨⟨by simp; omega, q.exF, q.fz, q.new, q.kept, q.pinH, fun j w t g1 g2 => ?_, fun j k p t t' hjk g1 g2 g3 g4 o1 o2 => ?_⟩, by simp [hl]⟩
  · rcases look g1 g2 with ⟨e1, e2, e3⟩ | ⟨_, e1, e2⟩
    · subst e2; subst e3
      exact (q.slot _ _ _ lastV lastS).at hp
    · exact q.slot j w t e1 e2
  · have sj := small g1
    have sk := small g2
    rcases look g1 g3 with ⟨e1, e2, e3⟩ | ⟨n1, e1, e2⟩ <;> rcases look g2 g4 with ⟨f1, f2, f3⟩ | ⟨n2, f1, f2⟩
    · omega
    · subst e3
      exact q.sep (σ.length + τ.length) k p t t' (by omega) (e2 ▸ lastV) f1 lastS f2 o1 o2
    · subst f3
      exact q.sep j (σ.length + τ.length) p t t' (by omega) e1 (f2 ▸ lastV) e2 lastS o1 o2
    · exact q.sep j k p t t' hjk e1 f1 e2 f2 o1 o2
def sSet (i : Nat) (f : Sl → O (Rs × Sl)) : Sl → O (Fl × Sl) := fun ρ => (f ρ).bind fun q => match q.1 with
  | .val d => setS i (.frz d) q.2
  | .own ds => setS i (.loc ds) q.2
  | .ref _ => .bad
theorem setS_ok {i : Nat} {s : Slot} {v : Option V} {D : Ends} (a : At K R σ (τ ++ [v]) ρ (θ ++ [s]) F H) (hp : s.pin = false) (h : kS K mg W R τ θ D (setS i s ρ)) : D.nx (σ.set i v) H := by
  unfold setS at h
  cases e : ρ[i]? with
  | none => rw [e] at h; exact h.elim
  | some t =>
    simp only [e] at h
    by_cases ht : t.pin = true
    · rw [if_pos ht] at h; exact h.elim
    · rw [if_neg ht] at h
      exact h _ F H (a.lay e hp)
theorem ds_set {i : Nat} {f : Sl → O (Rs × Sl)} {D : Ends} (h : dS K mg W (sSet i f) D σ H) : tAsg (dE K mg W f) (gName i) D σ H := by
  obtain ⟨R, τ, θ, ρ, F, a, h⟩ := h
  refine dE_bind (kB := kS K mg W R τ θ D) a.nil rfl kS_x kS_b h fun r1 ρ1 x F1 H1 a1 hr1 h1 => ?_
  simp only [List.nil_append] at a1
  cases r1 with
  | val d => exact setS_ok a1 rfl h1
  | own ds => exact setS_ok a1 rfl h1
  | ref i => exact h1.elim
/-- targets, by data; ix: the places that may change -/
def TgOk (K : PySem.W.Frag) (ix : List Nat) (g : TG) (b : Dt → Sl → Option Sl) : Prop :=
  ∀ (R : RC) (σ : L2.St) (τ : List (Option V)) (ρ θ : Sl) (F H : Hp) (v : V) (d : Dt) (ρ' : Sl) (Q : L2.St → Hp → Prop), At K R σ τ ρ θ F H → Rp K F v d → b d ρ = some ρ' →
    (∀ σ', At K R σ' τ ρ' θ F H → (σ'.length = σ.length ∧ ∀ j, j ∉ ix → σ'[j]? = σ[j]?) → Q σ' H) → g v σ H Q
def TgsOk (K : PySem.W.Frag) (ix : List Nat) (g : TGs) (b : List Dt → Sl → Option Sl) : Prop :=
  ∀ (R : RC) (σ : L2.St) (τ : List (Option V)) (ρ θ : Sl) (F H : Hp) (vs : List V) (ds : List Dt) (ρ' : Sl) (Q : L2.St → Hp → Prop), At K R σ τ ρ θ F H → RpAll K F vs ds → b ds ρ = some ρ' →
    (∀ σ', At K R σ' τ ρ' θ F H → (σ'.length = σ.length ∧ ∀ j, j ∉ ix → σ'[j]? = σ[j]?) → Q σ' H) → g vs σ H Q
def bName (i : Nat) (d : Dt) (ρ : Sl) : Option Sl := match ρ[i]? with
  | some t => if t.pin = true then none else some (ρ.set i (.frz d))
  | none => none
theorem tg_name {i : Nat} : TgOk K [i] (gName i) (bName i) := by
  intro R σ τ ρ θ F H v d ρ' Q a hd h k
  unfold bName at h
  cases e : ρ[i]? with
  | none => rw [e] at h; cases h
  | some t =>
    simp only [e] at h
    by_cases ht : t.pin = true
    · rw [if_pos ht] at h; cases h
    · rw [if_neg ht] at h; cases h
      refine k _ ((At.of_rel (a.rel.pushF hd) a.len).lay e rfl) ⟨List.length_set, fun j hj => ?_⟩
      rw [List.getElem?_set_ne (fun z => hj (by rw [z]; exact List.mem_singleton.mpr rfl))]
def bNil (ds : List Dt) (ρ : Sl) : Option Sl := match ds with
  | [] => some ρ
  | _ => none
def bCons (b : Dt → Sl → Option Sl) (bs : List Dt → Sl → Option Sl) (ds : List Dt) (ρ : Sl) : Option Sl := match ds with
  | d :: r => (b d ρ).bind (bs r)
  | [] => none
theorem tgs_nil : TgsOk K [] gNil bNil := by
  intro R σ τ ρ θ F H vs ds ρ' Q a hd h k
  cases hd with
  | nil => cases h; exact ⟨rfl, k σ a ⟨rfl, fun _ _ => rfl⟩⟩
  | cons _ _ => cases h
theorem tgs_cons {ix jx : List Nat} {g : TG} {gs : TGs} {b : Dt → Sl → Option Sl} {bs : List Dt → Sl → Option Sl} (h1 : TgOk K ix g b) (h2 : TgsOk K jx gs bs) : TgsOk K (ix ++ jx) (gCons g gs) (bCons b bs) := by
  intro R σ τ ρ θ F H vs ds ρ' Q a hd h k
  cases hd with
  | nil => cases h
  | cons hv hr =>
    obtain ⟨ρ1, e1, e2⟩ := Option.bind_eq_some_iff.mp h
    exact ⟨_, _, rfl, h1 R σ τ ρ θ F H _ _ ρ1 _ a hv e1 fun σ1 a1 q1 => h2 R σ1 τ ρ1 θ F H _ _ ρ' Q a1 hr e2 fun σ2 a2 q2 => k σ2 a2 ⟨q2.1.trans q1.1, fun j hj =>
      (q2.2 j fun z => hj (List.mem_append_right _ z)).trans (q1.2 j fun z => hj (List.mem_append_left _ z))⟩⟩
def bTup (n : Nat) (bs : List Dt → Sl → Option Sl) (d : Dt) (ρ : Sl) : Option Sl := match d with
  | .tup ds => if ds.length = n then bs ds ρ else none
  | _ => none
theorem tg_tup {ix : List Nat} {n : Nat} {gs : TGs} {bs : List Dt → Sl → Option Sl} (h : TgsOk K ix gs bs) : TgOk K ix (gTup K n gs) (bTup n bs) := by
  intro R σ τ ρ θ F H v d ρ' Q a hd h' k
  cases hd with
  | tup ht hz hr =>
    unfold bTup at h'
    simp only at h'
    split at h'
    · rename_i hn
      exact ⟨_, _, rfl, ex_t a.rel.fz ht, by rw [hr.length, hn], h R σ τ ρ θ F H _ _ ρ' Q a hr h' k⟩
    · cases h'
  | _ => cases h'
/-- a target that takes data -/
def sTgt (b : Dt → Sl → Option Sl) (f : Sl → O (Rs × Sl)) : Sl → O (Fl × Sl) := fun ρ => (f ρ).bind fun q => match q.1 with
  | .val d => (O.of (b d q.2)).bind fun ρ' => .ok (.nx, ρ')
  | _ => .bad
theorem ds_tgt {g : TG} {b : Dt → Sl → Option Sl} {f : Sl → O (Rs × Sl)} {D : Ends} {ix : List Nat} (hg : TgOk K ix g b) (h : dS K mg W (sTgt b f) D σ H) : tAsg (dE K mg W f) g D σ H := by
  obtain ⟨R, τ, θ, ρ, F, a, h⟩ := h
  refine dE_bind (kB := kS K mg W R τ θ D) a.nil rfl kS_x kS_b h fun r1 ρ1 x F1 H1 a1 hr1 h1 => ?_
  simp only [List.nil_append] at a1
  have ht := (a1.drop (t2 := [some x]) (s2 := [r1.slot]) rfl).tlen
  cases r1 with
  | val d =>
    simp only at h1
    cases e : b d ρ1 with
    | none => rw [e] at h1; exact h1.elim
    | some ρ2 =>
      rw [e] at h1
      have hv : (σ ++ (τ ++ [some x]))[σ.length + τ.length]? = some (some x) := by rw [← List.append_assoc, List.getElem?_append_right (by simp)]; simp
      have hs : (ρ1 ++ (θ ++ [(Rs.val d).slot]))[σ.length + τ.length]? = some (.frz d) := by
        have := a1.len
        rw [← List.append_assoc, List.getElem?_append_right (by simp; omega)]; simp [ht, this]
      obtain ⟨y, e1, rp⟩ := a1.rel.slot _ _ _ hv hs
      cases e1
      exact hg R σ τ ρ1 θ F1 H1 x d ρ2 _ (a1.drop (t2 := [some x]) (s2 := [(Rs.val d).slot]) rfl) rp e fun σ' a' _ => h1 σ' F1 H1 a'
  | own ds => exact h1.elim
  | ref i => exact h1.elim
/-- an expression alone -/
def sExpr (f : Sl → O (Rs × Sl)) : Sl → O (Fl × Sl) := fun ρ => (f ρ).bind fun q => .ok (.nx, q.2)
theorem ds_expr {f : Sl → O (Rs × Sl)} {D : Ends} (h : dS K mg W (sExpr f) D σ H) : tDrop (dE K mg W f) D σ H := by
  obtain ⟨R, τ, θ, ρ, F, a, h⟩ := h
  refine dE_bind (kB := kS K mg W R τ θ D) a.nil rfl kS_x kS_b h fun r1 ρ1 x F1 H1 a1 hr1 h1 => ?_
  exact h1 σ F1 H1 (a1.drop (t2 := [] ++ [some x]) (s2 := [] ++ [r1.slot]) rfl)
/-- name op= e, the old value data -/
def sAug (i : Nat) (opf : Dt → Dt → Option Rs) (f : Sl → O (Rs × Sl)) : Sl → O (Fl × Sl) := fun ρ => match ρ[i]? with
  | some (.frz d) => (f ρ).bind fun q => match (deref q.2 q.1).bind (opf d) with
    | some (.val z) => setS i (.frz z) q.2
    | some (.own z) => setS i (.loc z) q.2
    | _ => .bad
  | _ => .bad
theorem ds_aug {i : Nat} {ti : TIp} {opf : Dt → Dt → Option Rs} {f : Sl → O (Rs × Sl)} {D : Ends} (hv : VOp2 K ti opf) (h : dS K mg W (sAug i opf f) D σ H) : tAug i (dE K mg W f) ti D σ H := by
  obtain ⟨R, τ, θ, ρ, F, a, h⟩ := h
  unfold sAug at h
  split at h
  · rename_i d e
    have hi : i < ρ.length := (List.getElem?_eq_some_iff.mp e).1
    have hi' : i < σ.length := by rw [a.len]; exact hi
    have hs2 : (ρ ++ θ)[i]? = some (.frz d) := by rw [List.getElem?_append_left hi]; exact e
    have hv1 : σ[i]? = some σ[i] := List.getElem?_eq_getElem hi'
    have hv2 : (σ ++ τ)[i]? = some σ[i] := by rw [List.getElem?_append_left hi']; exact hv1
    obtain ⟨x, e1, rp⟩ := a.rel.slot i _ _ hv2 hs2
    refine ⟨x, by rw [hv1, e1], ?_⟩
    -- the old value goes along in flight
    have a0 : At K R σ (τ ++ [some x]) ρ (θ ++ [.frz d]) F H := At.of_rel (a.rel.pushF rp) a.len
    refine dE_bind (kB := kS K mg W R τ θ D) a0 rfl kS_x kS_b h fun r1 ρ1 y F1 H1 a1 hr1 h1 => ?_
    simp only [List.singleton_append] at a1
    have ht := (a1.drop (t2 := [some x, some y]) (s2 := [.frz d, r1.slot]) rfl).tlen
    simp only at h1
    cases e1 : deref ρ1 r1 with
    | none => simp [e1] at h1; exact h1.elim
    | some d1 =>
      have v1 := a1.view (v := x) (r := .val d) (d := d) (k := τ.length) (by simp) (by simp [ht]) trivial rfl
      have v2 := a1.view (v := y) (k := τ.length + 1) (by simp) (by simp [ht]) hr1 e1
      simp only [e1, Option.bind_some] at h1
      have a2 := a1.drop (t2 := [some x, some y]) (s2 := [.frz d, r1.slot]) rfl
      cases e3 : opf d d1 with
      | none => rw [e3] at h1; exact h1.elim
      | some o =>
        rw [e3] at h1
        refine hv R _ _ F1 H1 x y d d1 o _ a2.rel v1 v2 e3 fun v F' H' hrel hat => ?_
        cases o with
        | val z => exact setS_ok (At.of_rel hrel a2.len) rfl h1
        | own z => exact setS_ok (At.of_rel hrel a2.len) rfl h1
        | ref j => exact h1.elim
  · exact h.elim
end
end FX

/-! FX5: calls of defs: the promise by a function, the caller's side, the def's side. -/
namespace FX
open PySem L2
open Evl (Ex ex_t)
def Rs.isVal : Rs → Bool
  | .val _ => true
  | _ => false
def Rs.isRef (i : Nat) : Rs → Bool
  | .ref j => i == j
  | _ => false
def Rs.plain : Rs → Bool
  | .ref _ => false
  | _ => true
def Rs.flat : Rs → Bool
  | .val d => d.flat
  | .own ds => Dt.flat.go ds
  | .ref _ => false
def Slot.flat : Slot → Bool
  | .io ds => Dt.flat.go ds
  | _ => true
def argSlot (b : Bool) (r : Rs) (ρ : Sl) : Option Slot := match b with
  | false => (derefO ρ r).map Slot.frz
  | true => match r with
    | .own ds => some (.io ds)
    | .ref i => (match ρ[i]? with
      | some (.loc ds) => some (.io ds)
      | some (.io ds) => some (.io ds)
      | _ => none)
    | .val _ => none
def argSlots : List Bool → List Rs → Sl → Option Sl
  | [], [], _ => some []
  | b :: bs, r :: rs, ρ => (argSlot b r ρ).bind fun s => (argSlots bs rs ρ).bind fun ss => some (s :: ss)
  | _, _, _ => none
def anyIo (i : Nat) : List Bool → List Rs → Bool
  | b :: bs, r :: rs => (b && r.isRef i) || anyIo i bs rs
  | _, _ => false
def okRefs : List Bool → List Rs → Bool
  | b :: bs, r :: rs => (match r with
    | .ref i => if b then !(rs.any (Rs.isRef i)) else !(anyIo i bs rs)
    | _ => true) && okRefs bs rs
  | _, _ => true
def anyView : List Bool → List Rs → Bool
  | b :: bs, r :: rs => (!b && !r.isVal) || anyView bs rs
  | _, _ => false
def back1 (r : Rs) (s : Slot) (ρ : Sl) : Sl := match r, s with
  | .ref i, .io ds => (match ρ[i]? with
    | some (.loc _) => ρ.set i (.loc ds)
    | some (.io _) => ρ.set i (.io ds)
    | _ => ρ)
  | _, _ => ρ
def putBack : List Rs → Sl → Sl → Sl
  | r :: rs, s :: ss, ρ => putBack rs ss (back1 r s ρ)
  | _, _, ρ => ρ
def sameIo : Sl → Sl → Bool
  | s :: ss, t :: ts => (match s, t with
    | .io _, .io _ => true
    | .io _, _ => false
    | _, _ => true) && sameIo ss ts
  | _, _ => true
def exnFlat (e : Exn) : Bool := e.fs.all fun p => p.2.flat
def callD (io : List Bool) (Fd : Sl → O (Rs × Sl)) (rs : List Rs) (ρ : Sl) : O (Rs × Sl) :=
  match argSlots io rs ρ with
  | none => .bad
  | some ss => if okRefs io rs = true then
      (match Fd ss with
      | .ok (r, ss') => if sameIo ss ss' = true ∧ (anyView io rs = false ∨ (r.flat && ss'.all Slot.flat) = true) ∧ r.plain = true then .ok (r, putBack rs ss' ρ) else .bad
      | .exc e ss' => if sameIo ss ss' = true ∧ (anyView io rs = false ∨ (exnFlat e && ss'.all Slot.flat) = true) then .exc e (putBack rs ss' ρ) else .bad
      | .bad => .bad)
    else .bad
def eCall (io : List Bool) (Fd : Sl → O (Rs × Sl)) (fa : Sl → O (List Rs × Sl)) : Sl → O (Rs × Sl) := fun ρ => (fa ρ).bind fun q => callD io Fd q.1 q.2

/-- the promise of a def by a function -/
def spD (K : PySem.W.Frag) (mg : Str → Option Value) (n : Nat) (Fd : Sl → O (Rs × Sl)) : Sp := fun vs H Q E =>
  vs.length = n ∧ ∃ F ss pin, Rel K ⟨H, F, pin⟩ (vs.map some) ss F H ∧ (∀ (i : Nat) s, ss[i]? = some s → (∃ d, s = .frz d) ∨ ∃ ds, s = .io ds) ∧ (∀ (i : Nat) p, (i, p) ∈ pin → vs[i]? = some (.ref p) ∧ ∃ ds, ss[i]? = some (.io ds)) ∧
    match Fd ss with
    | .ok (r, ss') => ∀ v F' H', Rel K ⟨H, F, pin⟩ (vs.map some ++ [some v]) (ss' ++ [r.slot]) F' H' → Q v H'
    | .exc e ss' => ∀ cls d F' H', Rel K ⟨H, F, pin⟩ (vs.map some) ss' F' H' → ExRel K mg e cls d F' H' → E cls d H'
    | .bad => False

section
variable {K : PySem.W.Frag} {mg : Str → Option Value} {R : RC} {F F' H H' : Hp} {vs ws : List (Option V)} {ss ts : Sl}
variable {σ : L2.St} {τ t2 : List (Option V)} {ρ θ s2 : Sl} {W : WX}

theorem argSlots_get : ∀ {io : List Bool} {rs : List Rs} {ρ ss : Sl}, argSlots io rs ρ = some ss → io.length = rs.length ∧ ss.length = rs.length ∧
    ∀ (k : Nat) r, rs[k]? = some r → ∃ b s, io[k]? = some b ∧ ss[k]? = some s ∧ argSlot b r ρ = some s
  | [], [], _, _, h => by cases h; exact ⟨rfl, rfl, fun k r e => by simp at e⟩
  | [], _ :: _, _, _, h => by cases h
  | _ :: _, [], _, _, h => by cases h
  | b :: bs, r :: rs, ρ, _, h => by
    unfold argSlots at h
    obtain ⟨s, h1, h⟩ := Option.bind_eq_some_iff.mp h
    obtain ⟨ss, h2, h⟩ := Option.bind_eq_some_iff.mp h
    cases h
    obtain ⟨l1, l2, ih⟩ := argSlots_get h2
    refine ⟨by simp [l1], by simp [l2], fun k r' e => ?_⟩
    cases k with
    | zero => simp at e; subst e; exact ⟨b, s, rfl, rfl, h1⟩
    | succ k => simpa using ih k r' (by simpa using e)
theorem RsAt.get : ∀ {vs : List V} {rs : List Rs} {k : Nat} {v : V} {r : Rs}, RsAt σ vs rs → vs[k]? = some v → rs[k]? = some r → r.at σ v
  | [], [], _, _, _, _, h, _ => by simp at h
  | [], _ :: _, _, _, _, h, _, _ => h.elim
  | _ :: _, [], _, _, _, h, _, _ => h.elim
  | v :: vs, r :: rs, 0, _, _, h, h1, h2 => by simp at h1 h2; subst h1; subst h2; exact h.1
  | v :: vs, r :: rs, k + 1, _, _, h, h1, h2 => RsAt.get (k := k) h.2 (by simpa using h1) (by simpa using h2)
theorem RsAt.length : ∀ {vs : List V} {rs : List Rs}, RsAt σ vs rs → vs.length = rs.length
  | [], [], _ => rfl
  | [], _ :: _, h => h.elim
  | _ :: _, [], h => h.elim
  | _ :: _, _ :: _, h => by simp [RsAt.length h.2]
theorem anyIo_get {i : Nat} : ∀ {io : List Bool} {rs : List Rs}, anyIo i io rs = false → ∀ k : Nat, io[k]? = some true → rs[k]? = some (.ref i) → False
  | [], _, _, k, h, _ => by simp at h
  | _ :: _, [], _, k, _, h => by simp at h
  | b :: bs, r :: rs, h, 0, h1, h2 => by
    simp at h1 h2; subst h1; subst h2
    simp [anyIo, Rs.isRef] at h
  | b :: bs, r :: rs, h, k + 1, h1, h2 => by
    unfold anyIo at h
    rw [Bool.or_eq_false_iff] at h
    exact anyIo_get h.2 k (by simpa using h1) (by simpa using h2)
theorem any_ref {i : Nat} : ∀ {rs : List Rs}, rs.any (Rs.isRef i) = false → ∀ k : Nat, rs[k]? = some (.ref i) → False
  | [], _, k, h => by simp at h
  | r :: rs, h, 0, h2 => by
    simp at h2; subst h2
    simp [Rs.isRef] at h
  | r :: rs, h, k + 1, h2 => by
    rw [List.any_cons, Bool.or_eq_false_iff] at h
    exact any_ref h.2 k (by simpa using h2)
theorem okRefs_get : ∀ {io : List Bool} {rs : List Rs}, okRefs io rs = true → ∀ (k k' i : Nat) (b : Bool), k ≠ k' → io[k]? = some true → rs[k]? = some (.ref i) → io[k']? = some b → rs[k']? = some (.ref i) → False
  | [], _, _, k, _, _, _, _, h, _, _, _ => by simp at h
  | _ :: _, [], _, _, _, _, _, _, _, h, _, _ => by simp at h
  | b :: bs, r :: rs, h, k, k', i, b', hk, h1, h2, h3, h4 => by
    unfold okRefs at h
    rw [Bool.and_eq_true] at h
    cases k with
    | zero =>
      cases k' with
      | zero => exact hk rfl
      | succ k' =>
        simp at h1 h2 h3 h4; subst h1; subst h2
        have h5 := h.1
        simp only [if_true] at h5
        exact any_ref (i := i) (rs := rs) (by simpa using h5) k' h4
    | succ k =>
      cases k' with
      | zero =>
        simp at h1 h2 h3 h4; subst h3; subst h4
        have h5 := h.1
        simp only at h5
        cases b with
        | true => simp only [if_true] at h5; exact any_ref (i := i) (rs := rs) (by simpa using h5) k h2
        | false => simp only [Bool.false_eq_true, if_false] at h5; exact anyIo_get (i := i) (io := bs) (rs := rs) (by simpa using h5) k h1 h2
      | succ k' => exact okRefs_get h.2 k k' i b' (by omega) (by simpa using h1) (by simpa using h2) (by simpa using h3) (by simpa using h4)
theorem anyView_get : ∀ {io : List Bool} {rs : List Rs}, anyView io rs = false → ∀ (k : Nat) (r : Rs), io[k]? = some false → rs[k]? = some r → r.isVal = true
  | [], _, _, k, _, h, _ => by simp at h
  | _ :: _, [], _, k, _, _, h => by simp at h
  | b :: bs, r :: rs, h, 0, _, h1, h2 => by
    simp at h1 h2; subst h1; subst h2
    unfold anyView at h
    rw [Bool.or_eq_false_iff] at h
    simpa using h.1
  | b :: bs, r :: rs, h, k + 1, _, h1, h2 => by
    unfold anyView at h
    rw [Bool.or_eq_false_iff] at h
    exact anyView_get h.2 k _ (by simpa using h1) (by simpa using h2)
theorem back1_len (r : Rs) (s : Slot) (ρ : Sl) : (back1 r s ρ).length = ρ.length := by
  unfold back1
  split
  · split <;> simp
  · rfl
theorem putBack_len : ∀ (rs : List Rs) (ss ρ : Sl), (putBack rs ss ρ).length = ρ.length
  | [], _, _ => by unfold putBack; rfl
  | _ :: _, [], _ => by unfold putBack; rfl
  | r :: rs, s :: ss, ρ => by unfold putBack; rw [putBack_len rs ss, back1_len]
def Slot.redo (s : Slot) (ds : List Dt) : Slot := match s with
  | .loc _ => .loc ds
  | .io _ => .io ds
  | t => t
theorem back1_get {r : Rs} {s : Slot} {ρ : Sl} {j : Nat} {t : Slot} (h : ρ[j]? = some t) : (back1 r s ρ)[j]? = some (match r, s with | .ref i, .io ds => if i = j then t.redo ds else t | _, _ => t) := by
  have hj : j < ρ.length := (List.getElem?_eq_some_iff.mp h).1
  unfold back1
  split
  · rename_i i ds
    by_cases hij : i = j
    · subst hij
      simp only [if_true]
      rw [h]
      cases t <;> first | exact h | simp [Slot.redo, hj]
    · simp only [if_neg hij]
      split <;> first | (rw [List.getElem?_set_ne hij]; exact h) | exact h
  · exact h
theorem putBack_keep : ∀ {rs : List Rs} {ss ρ : Sl} {j : Nat} {t : Slot}, ρ[j]? = some t → (∀ (k : Nat) ds, rs[k]? = some (.ref j) → ss[k]? = some (.io ds) → False) → (putBack rs ss ρ)[j]? = some t
  | [], _, _, _, _, h, _ => by unfold putBack; exact h
  | _ :: _, [], _, _, _, h, _ => by unfold putBack; exact h
  | r :: rs, s :: ss, ρ, j, t, h, hn => by
    unfold putBack
    refine putBack_keep ?_ fun k ds h1 h2 => hn (k + 1) ds (by simpa using h1) (by simpa using h2)
    rw [back1_get h]
    split
    · rename_i i ds
      by_cases hij : i = j
      · subst hij; exact (hn 0 ds rfl rfl).elim
      · rw [if_neg hij]
    · rfl
theorem putBack_set : ∀ {rs : List Rs} {ss ρ : Sl} {j k : Nat} {t : Slot} {ds : List Dt}, ρ[j]? = some t → rs[k]? = some (.ref j) → ss[k]? = some (.io ds) → (∀ (k' : Nat) es, k' ≠ k → rs[k']? = some (.ref j) → ss[k']? = some (.io es) → False) →
    (putBack rs ss ρ)[j]? = some (t.redo ds)
  | [], _, _, _, _, _, _, _, h, _, _ => by simp at h
  | _ :: _, [], _, _, _, _, _, _, _, h, _ => by simp at h
  | r :: rs, s :: ss, ρ, j, 0, t, ds, h, h1, h2, hn => by
    simp at h1 h2; subst h1; subst h2
    unfold putBack
    refine putBack_keep ?_ fun k es g1 g2 => hn (k + 1) es (by simp) (by simpa using g1) (by simpa using g2)
    rw [back1_get h]
    simp
  | r :: rs, s :: ss, ρ, j, k + 1, t, ds, h, h1, h2, hn => by
    unfold putBack
    refine putBack_set (k := k) ?_ (by simpa using h1) (by simpa using h2) fun k' es hk g1 g2 => hn (k' + 1) es (by omega) (by simpa using g1) (by simpa using g2)
    rw [back1_get h]
    split
    · rename_i i es
      by_cases hij : i = j
      · subst hij; exact (hn 0 es (by omega) rfl rfl).elim
      · rw [if_neg hij]
    · rfl
theorem redo_own (s : Slot) (ds : List Dt) : (s.redo ds).own = s.own := by cases s <;> rfl
theorem putBack_own : ∀ {rs : List Rs} {ss ρ : Sl} {j : Nat} {t s0 : Slot}, ρ[j]? = some s0 → (putBack rs ss ρ)[j]? = some t → t.own = s0.own
  | [], _, _, _, _, _, h, g => by unfold putBack at g; rw [h] at g; cases g; rfl
  | _ :: _, [], _, _, _, _, h, g => by unfold putBack at g; rw [h] at g; cases g; rfl
  | r :: rs, s :: ss, ρ, j, t, s0, h, g => by
    unfold putBack at g
    have e := putBack_own (back1_get (r := r) (s := s) h) g
    rw [e]
    split
    · rename_i i ds
      by_cases hij : i = j
      · rw [if_pos hij, redo_own]
      · rw [if_neg hij]
    · rfl
theorem sameIo_get : ∀ {ss ts : Sl}, sameIo ss ts = true → ∀ (k : Nat) (ds : List Dt) (t : Slot), ss[k]? = some (.io ds) → ts[k]? = some t → ∃ es, t = .io es
  | [], _, _, k, _, _, h, _ => by simp at h
  | _ :: _, [], _, k, _, _, _, h => by simp at h
  | s :: ss, t :: ts, h, 0, ds, t', h1, h2 => by
    simp at h1 h2; subst h1; subst h2
    unfold sameIo at h
    rw [Bool.and_eq_true] at h
    have h := h.1
    cases t with
    | io es => exact ⟨es, rfl⟩
    | _ => cases h
  | s :: ss, t :: ts, h, k + 1, ds, t', h1, h2 => by
    unfold sameIo at h
    rw [Bool.and_eq_true] at h
    exact sameIo_get h.2 k ds t' (by simpa using h1) (by simpa using h2)
theorem all_get {ss : Sl} (h : ss.all Slot.flat = true) {k : Nat} {s : Slot} (e : ss[k]? = some s) : s.flat = true := List.all_eq_true.mp h s (List.mem_of_getElem? e)

/-- the caller's side: what the callee is handed, and what comes back -/
theorem call_ok {io : List Bool} {rs : List Rs} {args : List V} {ss : Sl} (a : At K R σ (τ ++ args.map some) ρ (θ ++ rs.map Rs.slot) F H) (hl : τ.length = θ.length) (hr : RsAt σ args rs) (hs : argSlots io rs ρ = some ss) (hok : okRefs io rs = true) :
    ∃ Fc pin, Rel K ⟨H, Fc, pin⟩ (args.map some) ss Fc H ∧ (∀ (i : Nat) s, ss[i]? = some s → (∃ d, s = .frz d) ∨ ∃ ds, s = .io ds) ∧ (∀ (i : Nat) p, (i, p) ∈ pin → args[i]? = some (.ref p) ∧ ∃ ds, ss[i]? = some (.io ds)) ∧
      ∀ (ss' : Sl) (F' H' : Hp), Rel K ⟨H, Fc, pin⟩ (args.map some) ss' F' H' → (anyView io rs = false ∨ ss'.all Slot.flat = true) → sameIo ss ss' = true →
        ∃ F2, At K R σ τ (putBack rs ss' ρ) θ F2 H' ∧ (∀ a o, F' a = some o → (∀ xs, o ≠ .lst xs) → F2 a = some o) ∧ (∀ a, F' a = none → F2 a = none) ∧ (anyView io rs = false → F2 = F') := by
  classical
  obtain ⟨l1, l2, get⟩ := argSlots_get hs
  have l3 := hr.length
  have ht := a.tlen
  have hlen := a.len
  -- an argument's own place among the caller's
  have place : ∀ {k : Nat} {v : V} {r : Rs}, args[k]? = some v → rs[k]? = some r → (σ ++ (τ ++ args.map some))[σ.length + τ.length + k]? = some (some v) ∧ (ρ ++ (θ ++ rs.map Rs.slot))[σ.length + τ.length + k]? = some r.slot := fun {k v r} h1 h2 => by
    refine ⟨?_, ?_⟩
    · rw [← List.append_assoc, List.getElem?_append_right (by simp)]; simp [h1]
    · rw [← List.append_assoc, List.getElem?_append_right (by simp; omega)]
      have : σ.length + τ.length + k - (ρ ++ θ).length = k := by simp; omega
      rw [this]; simp [h2]
  have nameV : ∀ {i : Nat} {v : V}, σ[i]? = some (some v) → (σ ++ (τ ++ args.map some))[i]? = some (some v) := fun {i v} h => by rw [List.getElem?_append_left (List.getElem?_eq_some_iff.mp h).1]; exact h
  have nameS : ∀ {i : Nat} {s : Slot}, ρ[i]? = some s → (ρ ++ (θ ++ rs.map Rs.slot))[i]? = some s := fun {i s} h => by rw [List.getElem?_append_left (List.getElem?_eq_some_iff.mp h).1]; exact h
  -- who owns the list of an argument that is no value
  have owner : ∀ {k : Nat} {v : V} {r : Rs}, args[k]? = some v → rs[k]? = some r → r.isVal = false → (∃ d, derefO ρ r = some d) →
      ∃ J p t xs ds, v = .ref p ∧ (σ ++ (τ ++ args.map some))[J]? = some (some (.ref p)) ∧ (ρ ++ (θ ++ rs.map Rs.slot))[J]? = some t ∧ t.own = true ∧ F p = none ∧ H p = some (.lst xs) ∧ xs.length ≤ sizeLine ∧ RpAll K F xs ds ∧ derefO ρ r = some (.lst ds) ∧
        (R.H0 p = none ∨ (J, p) ∈ R.pin) ∧ ((r = .own ds ∧ J = σ.length + τ.length + k) ∨ (r = .ref J ∧ J < σ.length ∧ ρ[J]? = some t ∧ t.seen = some ds)) := fun {k v r} h1 h2 h3 h4 => by
    obtain ⟨pv, ps⟩ := place h1 h2
    cases r with
    | val d => cases h3
    | own ds =>
      obtain ⟨p, xs, es, e1, e2, e3, e4, e5, e6, e7⟩ := ownAt a.rel pv ps rfl
      have : ds = es := by
        rcases e7 with z | z | z
        · have z : Slot.loc ds = Slot.loc es := z
          injection z
        · exact nomatch z
        · exact nomatch z
      subst this
      cases e1
      exact ⟨_, p, _, xs, ds, rfl, pv, ps, rfl, e2, e4, e5, e6, rfl, e3, .inl ⟨rfl, rfl⟩⟩
    | ref i =>
      have hi : σ[i]? = some (some v) := hr.get h1 h2
      obtain ⟨d, h4⟩ := h4
      have h4 : (ρ[i]?.bind Slot.seen).map Dt.lst = some d := h4
      cases e : ρ[i]? with
      | none => rw [e] at h4; cases h4
      | some t =>
        rw [e] at h4
        cases e2 : t.seen with
        | none => simp [e2] at h4
        | some ds =>
          have ho : t.own = true := by cases t <;> first | rfl | cases e2
          obtain ⟨p, xs, es, e1, e2', e3, e4, e5, e6, e7⟩ := ownAt a.rel (nameV hi) (nameS e) ho
          have : ds = es := by rcases e7 with z | z | z <;> (subst z; cases e2; rfl)
          subst this
          cases e1
          exact ⟨i, p, t, xs, ds, rfl, nameV hi, nameS e, ho, e2', e4, e5, e6, by show (ρ[i]?.bind Slot.seen).map Dt.lst = _; rw [e]; simp [e2], e3, .inr ⟨rfl, (List.getElem?_eq_some_iff.mp hi).1, e, e2⟩⟩
  -- the lists that are shown
  let Vw : Addr → Prop := fun p => ∃ (k : Nat) (r : Rs), io[k]? = some false ∧ args[k]? = some (.ref p) ∧ rs[k]? = some r ∧ r.isVal = false
  have vwIs : ∀ {p : Addr}, Vw p → F p = none ∧ ∃ xs, H p = some (.lst xs) := fun {p} ⟨k, r, h0, h1, h2, h3⟩ => by
    obtain ⟨b, s, g1, g2, g3⟩ := get k r h2
    rw [h0] at g1; cases g1
    have hd : ∃ d, derefO ρ r = some d := by
      unfold argSlot at g3
      cases e : derefO ρ r with
      | none => simp [e] at g3
      | some d => exact ⟨d, rfl⟩
    obtain ⟨J, p', t, xs, ds, e1, _, _, _, e5, e6, _⟩ := owner h1 h2 h3 hd
    cases e1
    exact ⟨e5, xs, e6⟩
  let Fc : Hp := fun b => if Vw b then H b else F b
  have exC : Ex F Fc := fun b o h => by
    show (if Vw b then H b else F b) = some o
    by_cases hb : Vw b
    · rw [(vwIs hb).1] at h; cases h
    · rw [if_neg hb]; exact h
  have exH : Ex Fc H := fun b o h => by
    have h : (if Vw b then H b else F b) = some o := h
    by_cases hb : Vw b
    · rw [if_pos hb] at h; exact h
    · rw [if_neg hb] at h; exact a.rel.fz _ _ h
  -- the io arguments
  have ioIs : ∀ {k : Nat}, io[k]? = some true → ∃ J p t xs ds r, args[k]? = some (.ref p) ∧ rs[k]? = some r ∧ ss[k]? = some (.io ds) ∧ (σ ++ (τ ++ args.map some))[J]? = some (some (.ref p)) ∧ (ρ ++ (θ ++ rs.map Rs.slot))[J]? = some t ∧ t.own = true ∧ F p = none ∧
      H p = some (.lst xs) ∧ xs.length ≤ sizeLine ∧ RpAll K F xs ds ∧ (R.H0 p = none ∨ (J, p) ∈ R.pin) ∧ ((r = .own ds ∧ J = σ.length + τ.length + k) ∨ (r = .ref J ∧ J < σ.length ∧ ρ[J]? = some t ∧ (t = .loc ds ∨ t = .io ds))) := fun {k} h0 => by
    have hk : k < io.length := (List.getElem?_eq_some_iff.mp h0).1
    have h2 : rs[k]? = some rs[k] := List.getElem?_eq_getElem (by omega)
    have h1 : args[k]? = some args[k] := List.getElem?_eq_getElem (by omega)
    obtain ⟨b, s, g1, g2, g3⟩ := get k _ h2
    rw [h0] at g1; cases g1
    generalize rs[k] = r at h2 g3
    generalize args[k] = v at h1
    cases r with
    | val d => cases g3
    | own ds =>
      cases g3
      obtain ⟨J, p, t, xs, es, e1, e2, e3, e4, e5, e6, e7, e8, e9, e10, e11⟩ := owner h1 h2 rfl ⟨_, rfl⟩
      cases e9
      cases e1
      rcases e11 with ⟨_, e12⟩ | ⟨e12, _⟩
      · exact ⟨J, p, t, xs, ds, _, h1, h2, g2, e2, e3, e4, e5, e6, e7, e8, e10, .inl ⟨rfl, e12⟩⟩
      · cases e12
    | ref i =>
      unfold argSlot at g3
      simp only at g3
      have hd : ∃ ds, s = .io ds ∧ (ρ[i]? = some (.loc ds) ∨ ρ[i]? = some (.io ds)) := by
        split at g3
        · rename_i ds e; cases g3; exact ⟨ds, rfl, .inl e⟩
        · rename_i ds e; cases g3; exact ⟨ds, rfl, .inr e⟩
        · cases g3
      obtain ⟨ds, rfl, hd⟩ := hd
      have hde : derefO ρ (.ref i) = some (.lst ds) := by
        show (ρ[i]?.bind Slot.seen).map Dt.lst = _
        rcases hd with e | e <;> (rw [e]; rfl)
      obtain ⟨J, p, t, xs, es, e1, e2, e3, e4, e5, e6, e7, e8, e9, e10, e11⟩ := owner h1 h2 rfl ⟨_, hde⟩
      rw [hde] at e9; cases e9
      cases e1
      rcases e11 with ⟨e12, _⟩ | ⟨e12, e13, e14, _⟩
      · cases e12
      · cases e12
        refine ⟨i, p, t, xs, ds, _, h1, h2, g2, e2, e3, e4, e5, e6, e7, e8, e10, .inr ⟨rfl, e13, e14, ?_⟩⟩
        rcases hd with e | e <;> (rw [e14] at e; cases e)
        · exact .inl rfl
        · exact .inr rfl
  -- two io arguments, an io argument and a view stand apart
  have apart : ∀ {k k' : Nat} {p : Addr} {b : Bool} {r' : Rs}, k ≠ k' → io[k]? = some true → io[k']? = some b → args[k]? = some (.ref p) → args[k']? = some (.ref p) → rs[k']? = some r' → r'.isVal = false → False := fun {k k' p b r'} hk h0 h0' h1 h1' h2' h3' => by
    obtain ⟨J, p1, t, xs, ds, r, f1, f2, f3, f4, f5, f6, f7, f8, f9, f10, f11, f12⟩ := ioIs h0
    rw [h1] at f1; cases f1
    obtain ⟨b2, s2, g1, g2, g3⟩ := get k' r' h2'
    rw [h0'] at g1; cases g1
    have hd : ∃ d, derefO ρ r' = some d := by
      cases b with
      | false =>
        unfold argSlot at g3
        cases e : derefO ρ r' with
        | none => simp [e] at g3
        | some d => exact ⟨d, rfl⟩
      | true =>
        obtain ⟨_, _, _, _, ds', r'', _, q2, _, _, _, _, _, _, _, _, _, q12⟩ := ioIs h0'
        rw [h2'] at q2; cases q2
        rcases q12 with ⟨z, _⟩ | ⟨z, _, z1, z2⟩
        · exact ⟨_, by rw [z]; rfl⟩
        · refine ⟨.lst ds', ?_⟩
          rw [z]
          show (ρ[_]?.bind Slot.seen).map Dt.lst = _
          rw [z1]
          rcases z2 with z2 | z2 <;> (rw [z2]; rfl)
    obtain ⟨J', p', t', xs', ds', e1, e2, e3, e4, e5, e6, e7, e8, e9, e10, e11⟩ := owner h1' h2' h3' hd
    cases e1
    by_cases hJ : J = J'
    · subst hJ
      rcases f12 with ⟨_, z⟩ | ⟨z, zl, _⟩ <;> rcases e11 with ⟨_, y⟩ | ⟨y, yl, _⟩
      · omega
      · omega
      · omega
      · subst z; subst y
        exact okRefs_get hok k k' J b hk h0 f2 h0' h2'
    · exact a.rel.sep J J' p t t' hJ f4 e2 f5 e3 f6 e4
  let pin : List (Nat × Addr) := (List.range args.length).filterMap fun k => match io[k]?, args[k]? with
    | some true, some (V.ref p) => some (k, p)
    | _, _ => none
  have pinMem : ∀ {k : Nat} {p : Addr}, (k, p) ∈ pin ↔ io[k]? = some true ∧ args[k]? = some (.ref p) := fun {k p} => by
    show (k, p) ∈ List.filterMap _ _ ↔ _
    rw [List.mem_filterMap]
    constructor
    · rintro ⟨j, _, h⟩
      split at h
      · rename_i q h1 h2
        cases h
        exact ⟨h1, h2⟩
      · cases h
    · rintro ⟨h1, h2⟩
      refine ⟨k, List.mem_range.mpr (List.getElem?_eq_some_iff.mp h2).1, ?_⟩
      rw [h1, h2]
  have notVw : ∀ {k : Nat} {p : Addr}, (k, p) ∈ pin → ¬ Vw p := fun {k p} h hv => by
    obtain ⟨h0, h1⟩ := pinMem.mp h
    obtain ⟨k', r', g0, g1, g2, g3⟩ := hv
    have hk : k ≠ k' := fun z => by subst z; rw [h0] at g0; cases g0
    exact apart hk h0 g0 h1 g1 g2 g3
  refine ⟨Fc, pin, ⟨by simp [l2, l3], fun _ _ h => h, exH, fun b hb => .inl hb, fun _ _ _ h => h, fun i p h => ?_, fun k v s h1 h2 => ?_, fun k k' p s t hk h1 h2 h3 h4 o1 o2 => ?_⟩, fun k s h => ?_, fun k p h => ?_, ?_⟩
  · obtain ⟨h0, h1⟩ := pinMem.mp h
    obtain ⟨J, p1, t, xs, ds, r, f1, f2, f3, f4, f5, f6, f7, f8, _⟩ := ioIs h0
    rw [h1] at f1; cases f1
    exact ⟨xs, f8⟩
  · -- the callee's slots
    have hk : k < rs.length := by rw [← l2]; exact (List.getElem?_eq_some_iff.mp h2).1
    have hrk : rs[k]? = some rs[k] := List.getElem?_eq_getElem hk
    have hak : args[k]? = some args[k] := List.getElem?_eq_getElem (by omega)
    rw [List.getElem?_map, hak] at h1
    cases h1
    obtain ⟨b, s', g1, g2, g3⟩ := get k _ hrk
    rw [h2] at g2; cases g2
    cases b with
    | false =>
      unfold argSlot at g3
      cases e : derefO ρ rs[k] with
      | none => simp [e] at g3
      | some d =>
        simp [e] at g3
        subst g3
        refine ⟨args[k], rfl, ?_⟩
        by_cases hv : rs[k].isVal = true
        · cases er : rs[k] with
          | val d' =>
            rw [er] at e; cases e
            obtain ⟨pv, ps⟩ := place hak hrk
            rw [er] at ps
            obtain ⟨x, e1, e2⟩ := a.rel.slot _ _ _ pv ps
            cases e1
            exact e2.mono exC
          | own ds => rw [er] at hv; cases hv
          | ref i => rw [er] at hv; cases hv
        · have hv : rs[k].isVal = false := by simpa using hv
          obtain ⟨J, p, t, xs, ds, e1, e2, e3, e4, e5, e6, e7, e8, e9, _⟩ := owner hak hrk hv ⟨d, e⟩
          rw [e] at e9; cases e9
          rw [e1]
          have vw : Vw p := ⟨k, _, g1, by rw [hak, e1], hrk, hv⟩
          refine .lst ?_ e7 (e8.mono exC)
          show (if Vw p then H p else F p) = _
          rw [if_pos vw]; exact e6
    | true =>
      obtain ⟨J, p, t, xs, ds, r, f1, f2, f3, f4, f5, f6, f7, f8, f9, f10, _⟩ := ioIs g1
      rw [h2] at f3; cases f3
      have hp : (k, p) ∈ pin := pinMem.mpr ⟨g1, f1⟩
      rw [hak] at f1
      refine ⟨p, xs, f1, ?_, hp, f8, f9, f10.mono exC⟩
      show (if Vw p then H p else F p) = none
      rw [if_neg (notVw hp)]; exact f7
  · -- apart
    rw [List.getElem?_map] at h1 h2
    cases ea : args[k]? with
    | none => rw [ea] at h1; cases h1
    | some v1 =>
      cases eb : args[k']? with
      | none => rw [eb] at h2; cases h2
      | some v2 =>
        rw [ea] at h1; rw [eb] at h2
        cases h1; cases h2
        have kr : k < rs.length := by rw [← l2]; exact (List.getElem?_eq_some_iff.mp h3).1
        have kr' : k' < rs.length := by rw [← l2]; exact (List.getElem?_eq_some_iff.mp h4).1
        obtain ⟨b, s1, g1, g2, g3⟩ := get k _ (List.getElem?_eq_getElem kr)
        obtain ⟨b', s1', g1', g2', g3'⟩ := get k' _ (List.getElem?_eq_getElem kr')
        rw [h3] at g2; cases g2
        rw [h4] at g2'; cases g2'
        have isIo : ∀ {b : Bool} {r : Rs} {s : Slot}, argSlot b r ρ = some s → s.own = true → b = true ∧ r.isVal = false := fun {b r s} h o => by
          cases b with
          | false =>
            unfold argSlot at h
            cases e : derefO ρ r with
            | none => simp [e] at h
            | some d => simp [e] at h; subst h; cases o
          | true =>
            cases r with
            | val d => cases h
            | own ds => exact ⟨rfl, rfl⟩
            | ref i => exact ⟨rfl, rfl⟩
        obtain ⟨z1, _⟩ := isIo g3 o1
        obtain ⟨z2, z3⟩ := isIo g3' o2
        subst z1; subst z2
        exact apart hk g1 g1' ea eb (List.getElem?_eq_getElem kr') z3
  · have hk : k < rs.length := by rw [← l2]; exact (List.getElem?_eq_some_iff.mp h).1
    obtain ⟨b, s', g1, g2, g3⟩ := get k _ (List.getElem?_eq_getElem hk)
    rw [h] at g2; cases g2
    cases b with
    | false =>
      unfold argSlot at g3
      cases e : derefO ρ rs[k] with
      | none => simp [e] at g3
      | some d => simp [e] at g3; exact .inl ⟨d, g3.symm⟩
    | true =>
      obtain ⟨J, p, t, xs, ds, r, f1, f2, f3, _⟩ := ioIs g1
      rw [h] at f3; cases f3
      exact .inr ⟨ds, rfl⟩
  · obtain ⟨h0, h1⟩ := pinMem.mp h
    obtain ⟨J, p1, t, xs, ds, r, f1, f2, f3, _⟩ := ioIs h0
    exact ⟨h1, ds, f3⟩
  · -- behind the call
    intro ss' F' H' r' hfl hsm
    let F2 : Hp := fun b => if Vw b then none else F' b
    have kept : ∀ {b : Addr} {o : HO}, (∀ k, (k, b) ∉ pin) → H b = some o → H' b = some o := fun {b o} h q => r'.kept b o h q
    have exF2 : Ex F F2 := fun b o h => by
      show (if Vw b then none else F' b) = some o
      rw [if_neg fun hb => by rw [(vwIs hb).1] at h; cases h]
      exact r'.exF b o (exC b o h)
    have toF' : ∀ {b : Addr} {o : HO}, F2 b = some o → F' b = some o := fun {b o} h => by
      have h : (if Vw b then none else F' b) = some o := h
      by_cases hb : Vw b
      · rw [if_pos hb] at h; cases h
      · rw [if_neg hb] at h; exact h
    have noVw : anyView io rs = false → ∀ p, ¬ Vw p := fun h p ⟨k, r, g0, _, g2, g3⟩ => by rw [anyView_get h k r g0 g2] at g3; cases g3
    have keepF : ∀ a o, F' a = some o → (∀ xs, o ≠ .lst xs) → F2 a = some o := fun b o h hn => by
      show (if Vw b then none else F' b) = some o
      by_cases hb : Vw b
      · obtain ⟨_, xs, e⟩ := vwIs hb
        have e2 := kept (b := b) (fun k hk => notVw hk hb) e
        have e3 := r'.fz b o h
        rw [e2] at e3; cases e3
        exact (hn _ rfl).elim
      · rw [if_neg hb]; exact h
    have eqF : anyView io rs = false → F2 = F' := fun h => funext fun b => by
      show (if Vw b then none else F' b) = F' b
      rw [if_neg (noVw h b)]
    have items : ∀ {xs : List V} {ds : List Dt}, RpAll K F' xs ds → (anyView io rs = false ∨ Dt.flat.go ds = true) → RpAll K F2 xs ds := fun {xs ds} h hf => by
      rcases hf with hf | hf
      · rw [eqF hf]; exact h
      · exact h.keep keepF hf
    refine ⟨F2, ⟨⟨?_, a.rel.exF.trans exF2, fun b o h => r'.fz b o (toF' h), fun b h => ?_, fun b o n q => ?_, fun i b h => ?_, fun j v s h1 h2 => ?_, fun j k p s t hjk h1 h2 h3 h4 o1 o2 => ?_⟩, by rw [putBack_len]; exact hlen⟩, keepF, fun b h => ?_, eqF⟩
    · have := a.rel.len
      simp [putBack_len] at this ⊢
      omega
    · cases e : F2 b with
      | none => exact absurd e h
      | some o =>
        have e' := toF' e
        rcases r'.new b (by rw [e']; simp) with z | z
        · have z : (if Vw b then H b else F b) ≠ none := z
          by_cases hb : Vw b
          · have e : (if Vw b then none else F' b) = some o := e
            rw [if_pos hb] at e; cases e
          · rw [if_neg hb] at z; exact a.rel.new b z
        · exact .inr (a.rel.fresh0 z)
    · refine kept (fun k hk => ?_) (a.rel.kept b o n q)
      obtain ⟨h0, h1⟩ := pinMem.mp hk
      obtain ⟨J, p1, t, xs, ds, r, f1, f2, f3, f4, f5, f6, f7, f8, f9, f10, f11, _⟩ := ioIs h0
      rw [h1] at f1; cases f1
      rcases f11 with f11 | f11
      · rw [q] at f11; cases f11
      · exact n _ f11
    · obtain ⟨xs, e⟩ := a.rel.pinH i b h
      by_cases hb : ∃ k, (k, b) ∈ pin
      · obtain ⟨k, hk⟩ := hb
        exact r'.pinH k b hk
      · exact ⟨xs, kept (fun k hk => hb ⟨k, hk⟩) e⟩
    · -- the caller's slots
      -- how the place stood before
      have hj : j < (ρ ++ θ).length := by
        have := (List.getElem?_eq_some_iff.mp h2).1
        simpa [putBack_len] using this
      have hv0 : (σ ++ (τ ++ args.map some))[j]? = some v := by
        rw [← List.append_assoc, List.getElem?_append_left (List.getElem?_eq_some_iff.mp h1).1]; exact h1
      have old : ∃ s0, (ρ ++ θ)[j]? = some s0 := ⟨_, List.getElem?_eq_getElem hj⟩
      obtain ⟨s0, hs0⟩ := old
      have hs00 : (ρ ++ (θ ++ rs.map Rs.slot))[j]? = some s0 := by
        rw [← List.append_assoc, List.getElem?_append_left hj]; exact hs0
      have so := a.rel.slot j v s0 hv0 hs00
      by_cases hio : ∃ (k : Nat) (ds : List Dt), j < ρ.length ∧ rs[k]? = some (.ref j) ∧ ss'[k]? = some (.io ds)
      · obtain ⟨k, ds, hjl, hk1, hk2⟩ := hio
        have kl : k < io.length := by rw [l1]; exact (List.getElem?_eq_some_iff.mp hk1).1
        have ka : args[k]? = some args[k] := List.getElem?_eq_getElem (by omega)
        have so' := r'.slot k (some args[k]) _ (by rw [List.getElem?_map, ka]; rfl) hk2
        obtain ⟨p, xs, e1, e2, e3, e4, e5, e6⟩ := so'
        obtain ⟨g0, g1⟩ := pinMem.mp e3
        obtain ⟨J, p1, t, ys, es, r, f1, f2, f3, f4, f5, f6, f7, f8, f9, f10, f11, f12⟩ := ioIs g0
        rw [hk1] at f2; cases f2
        rw [g1] at f1; cases f1
        rcases f12 with ⟨z, _⟩ | ⟨z, zl, z1, z2⟩
        · cases z
        · cases z
          have hvp : v = some (.ref p) := by rw [hv0] at f4; cases f4; rfl
          have hs2' : (putBack rs ss' ρ)[j]? = some (t.redo ds) := putBack_set z1 hk1 hk2 fun k' es' hk' g2 g3 => by
            have k'l : k' < io.length := by rw [l1]; exact (List.getElem?_eq_some_iff.mp g2).1
            exact okRefs_get hok k k' j _ (Ne.symm hk') g0 hk1 (List.getElem?_eq_getElem k'l) g2
          rw [List.getElem?_append_left (by rw [putBack_len]; exact hjl), hs2'] at h2
          cases h2
          have hs0' : s0 = t := by
            rw [List.getElem?_append_left hjl, z1] at hs0; cases hs0; rfl
          subst hs0'
          have fl : anyView io rs = false ∨ Dt.flat.go ds = true := hfl.imp id fun h => all_get h hk2
          have f2n : F2 p = none := by
            show (if Vw p then none else F' p) = none
            rw [if_neg (notVw e3)]; exact e2
          rcases z2 with z2 | z2
          · subst z2
            obtain ⟨q, _, y1, y2, y3, _⟩ := so
            rw [hvp] at y1; cases y1
            exact ⟨p, xs, hvp, f2n, y3, e4, e5, items e6 fl⟩
          · subst z2
            obtain ⟨q, _, y1, y2, y3, _⟩ := so
            rw [hvp] at y1; cases y1
            exact ⟨p, xs, hvp, f2n, y3, e4, e5, items e6 fl⟩
      · -- a place that the call leaves
        have hs2 : s = s0 := by
          by_cases hjl : j < ρ.length
          · rw [List.getElem?_append_left (by rw [putBack_len]; exact hjl)] at h2
            rw [List.getElem?_append_left hjl] at hs0
            rw [putBack_keep hs0 fun k ds g1 g2 => hio ⟨k, ds, hjl, g1, g2⟩] at h2
            cases h2; rfl
          · rw [List.getElem?_append_right (by rw [putBack_len]; omega), putBack_len] at h2
            rw [List.getElem?_append_right (by omega)] at hs0
            rw [hs0] at h2; cases h2; rfl
        subst hs2
        refine so.step exF2 fun ho p hp => ?_
        obtain ⟨p', xs, ds, e1, e2, e3, e4, e5, e6, e7⟩ := so.list ho
        rw [hp] at e1; cases e1
        have np : ∀ k, (k, p) ∉ pin := fun k hk => by
          obtain ⟨g0, g1⟩ := pinMem.mp hk
          obtain ⟨J, p1, t, ys, es, r, f1, f2, f3, f4, f5, f6, f7, f8, f9, f10, f11, f12⟩ := ioIs g0
          rw [g1] at f1; cases f1
          by_cases hJ : J = j
          · subst hJ
            rcases f12 with ⟨_, z⟩ | ⟨z, zl, z1, z2⟩
            · have := (List.getElem?_eq_some_iff.mp h1).1
              simp at this; omega
            · subst z
              -- the io argument's own slot comes back as an io slot
              have kl : k < ss'.length := by
                have := r'.len
                simp at this
                have := (List.getElem?_eq_some_iff.mp g1).1
                omega
              have so2 := r'.slot k _ _ (by rw [List.getElem?_map, g1]; rfl) (List.getElem?_eq_getElem kl)
              obtain ⟨es', hq⟩ := sameIo_get hsm k _ _ f3 (List.getElem?_eq_getElem kl)
              exact hio ⟨k, es', by omega, f2, by rw [List.getElem?_eq_getElem kl, hq]⟩
          · exact a.rel.sep J j p t s hJ f4 (hp ▸ hv0) f5 hs00 f6 ho
        refine ⟨?_, fun ys z => kept np z⟩
        show (if Vw p then none else F' p) = none
        by_cases hb : Vw p
        · rw [if_pos hb]
        · rw [if_neg hb]
          cases e : F' p with
          | none => rfl
          | some o =>
            rcases r'.new p (by rw [e]; simp) with z | z
            · have z : (if Vw p then H p else F p) ≠ none := z
              rw [if_neg hb, e2] at z
              exact absurd rfl z
            · have z : H p = none := z
              rw [e4] at z; cases z
    · -- apart
      have back : ∀ {j : Nat} {t : Slot}, (putBack rs ss' ρ ++ θ)[j]? = some t → t.own = true → ∃ t0, (ρ ++ (θ ++ rs.map Rs.slot))[j]? = some t0 ∧ t0.own = true := fun {j t} g o => by
        have hj : j < (ρ ++ θ).length := by
          have := (List.getElem?_eq_some_iff.mp g).1
          simpa [putBack_len] using this
        have e0 : (ρ ++ θ)[j]? = some (ρ ++ θ)[j] := List.getElem?_eq_getElem hj
        refine ⟨(ρ ++ θ)[j], by rw [← List.append_assoc, List.getElem?_append_left hj]; exact e0, ?_⟩
        by_cases hjl : j < ρ.length
        · rw [List.getElem?_append_left (by rw [putBack_len]; exact hjl)] at g
          rw [List.getElem?_append_left hjl] at e0
          rw [← putBack_own e0 g]; exact o
        · rw [List.getElem?_append_right (by rw [putBack_len]; omega), putBack_len] at g
          rw [List.getElem?_append_right (by omega)] at e0
          rw [e0] at g; cases g; exact o
      obtain ⟨t0, g1, g2⟩ := back h3 o1
      obtain ⟨t1, g3, g4⟩ := back h4 o2
      have up : ∀ {j : Nat} {w : Option V}, (σ ++ τ)[j]? = some w → (σ ++ (τ ++ args.map some))[j]? = some w := fun {j w} g => by
        rw [← List.append_assoc, List.getElem?_append_left (List.getElem?_eq_some_iff.mp g).1]; exact g
      exact a.rel.sep j k p t0 t1 hjk (up h1) (up h2) g1 g3 g2 g4
    · show (if Vw b then none else F' b) = none
      by_cases hb : Vw b
      · rw [if_pos hb]
      · rw [if_neg hb]; exact h
end
end FX

/-! FX6: a call, a def's body. -/
namespace FX
open PySem L2 PyProof.Rows
open Evl (Ex ex_t)
section
variable {K : PySem.W.Frag} {mg : Str → Option Value} {R : RC} {F F' H H' : Hp} {vs ws : List (Option V)} {ss ts : Sl}
variable {σ : L2.St} {τ t2 : List (Option V)} {ρ θ s2 : Sl} {W : WX}
theorem Rs.at_plain {r : Rs} {v : V} (h : r.plain = true) (σ : L2.St) : r.at σ v := by cases r <;> first | trivial | cases h
/-- the callee's value in the caller's world -/
theorem back_val {F2 : Hp} {v : V} {r : Rs} {a2 : At K R σ τ ρ θ F2 H'} {Rc : RC} {vs : List (Option V)} {ss : Sl} (hc : Rel K Rc (vs ++ [some v]) (ss ++ [r.slot]) F' H') (h0 : ∀ p, Rc.H0 p = none → R.H0 p = none ∧ ∀ (j : Nat) (t : Slot), (σ ++ τ)[j]? = some (some (.ref p)) → (ρ ++ θ)[j]? = some t → t.own = true → False) (hp : r.plain = true)
    (keep : ∀ a o, F' a = some o → (∀ xs, o ≠ .lst xs) → F2 a = some o) (hn : ∀ a, F' a = none → F2 a = none) (hf : F2 = F' ∨ r.flat = true) : At K R σ (τ ++ [some v]) ρ (θ ++ [r.slot]) F2 H' := by
  have hv : (vs ++ [some v])[vs.length]? = some (some v) := by simp
  have hs : (ss ++ [r.slot])[vs.length]? = some r.slot := by
    have := hc.len
    simp at this
    rw [this]; simp
  have so := hc.slot _ _ _ hv hs
  cases r with
  | val d =>
    obtain ⟨x, e1, e2⟩ := so
    cases e1
    refine At.of_rel (a2.rel.pushF ?_) a2.len
    rcases hf with hf | hf
    · rw [hf]; exact e2
    · exact e2.keep keep hf
  | own ds =>
    obtain ⟨p, xs, e1, e2, e3, e4, e5, e6⟩ := so
    cases e1
    obtain ⟨g1, g2⟩ := h0 p e3
    refine At.of_rel (a2.rel.push ⟨p, xs, rfl, hn p e2, g1, e4, e5, ?_⟩ fun q _ e i t k1 k2 ko => ?_) a2.len
    · rcases hf with hf | hf
      · rw [hf]; exact e6
      · exact e6.keep keep hf
    · cases e
      exact g2 i t k1 k2 ko
  | ref i => cases hp
theorem exrel_back {F2 : Hp} {e : Exn} {cls : Value} {d : Option Addr} (h : ExRel K mg e cls d F' H') (keep : ∀ a o, F' a = some o → (∀ xs, o ≠ .lst xs) → F2 a = some o) (hf : F2 = F' ∨ exnFlat e = true) : ExRel K mg e cls d F2 H' := by
  obtain ⟨C, h1, h2, h3⟩ := h
  refine ⟨C, h1, h2, h3.imp id fun ⟨f, x, dd, v, g1, g2, g3, g4⟩ => ⟨f, x, dd, v, g1, g2, g3, ?_⟩⟩
  rcases hf with hf | hf
  · rw [hf]; exact g4
  · refine g4.keep keep ?_
    unfold exnFlat at hf
    rw [g1] at hf
    simpa using hf
theorem call_go {io : List Bool} {Fd : Sl → O (Rs × Sl)} {rs : List Rs} {xs : List V} {n : Nat} {Q : VK} {F1 H1 : Hp} (hn : io.length = n) (a1 : At K R σ (τ ++ xs.map some) ρ (θ ++ rs.map Rs.slot) F1 H1) (hl : τ.length = θ.length) (hr1 : RsAt σ xs rs)
    (h1 : kE K mg W R σ τ θ Q (callD io Fd rs ρ)) : spD K mg n Fd xs H1 Q (WE W σ) := by
  unfold callD at h1
  cases es : argSlots io rs ρ with
  | none => rw [es] at h1; exact h1.elim
  | some ss =>
    simp only [es] at h1
    by_cases hok : okRefs io rs = true
    · rw [if_pos hok] at h1
      obtain ⟨Fc, pin, rc, sh, ph, after⟩ := call_ok a1 hl hr1 es hok
      refine ⟨by rw [hr1.length, ← (argSlots_get es).1, hn], Fc, ss, pin, rc, sh, ph, ?_⟩
      have a0 := a1.drop (t2 := xs.map some) (s2 := rs.map Rs.slot) (by simp [hr1.length])
      cases ef : Fd ss with
      | ok q =>
        obtain ⟨r, ss'⟩ := q
        rw [ef] at h1
        simp only at h1 ⊢
        split at h1
        · rename_i hc
          obtain ⟨c1, c2, c3⟩ := hc
          intro v F' H' rv
          obtain ⟨F2, a2, keep, hnn, heq⟩ := after ss' F' H' (rv.pre (by have := rv.len; simp at this; simpa using this)) (c2.imp id fun h => by rw [Bool.and_eq_true] at h; exact h.2) c1
          refine h1 v F2 H' (back_val (a2 := a2) rv (fun p hp => ⟨a0.rel.fresh0 hp, fun j t k1 k2 ko => ?_⟩) c3 keep hnn (c2.imp heq fun h => by rw [Bool.and_eq_true] at h; exact h.1)) (Rs.at_plain c3 σ)
          -- a list of the caller's stood before the call
          have hj : j < (ρ ++ θ).length := by
            have := (List.getElem?_eq_some_iff.mp k2).1
            simpa [putBack_len] using this
          have e0 : (ρ ++ θ)[j]? = some (ρ ++ θ)[j] := List.getElem?_eq_getElem hj
          have ho : ((ρ ++ θ)[j]).own = true := by
            by_cases hjl : j < ρ.length
            · rw [List.getElem?_append_left (by rw [putBack_len]; exact hjl)] at k2
              rw [List.getElem?_append_left hjl] at e0
              rw [← putBack_own e0 k2]; exact ko
            · rw [List.getElem?_append_right (by rw [putBack_len]; omega), putBack_len] at k2
              rw [List.getElem?_append_right (by omega)] at e0
              rw [e0] at k2; cases k2; exact ko
          obtain ⟨p', _, _, z1, _, _, z4, _⟩ := ownAt a0.rel k1 e0 ho
          cases z1
          have hp : H1 p = none := hp
          rw [hp] at z4; cases z4
        · exact h1.elim
      | exc e ss' =>
        rw [ef] at h1
        simp only at h1 ⊢
        split at h1
        · rename_i hc
          obtain ⟨c1, c2⟩ := hc
          intro cls d F' H' rv xr
          obtain ⟨F2, a2, keep, hnn, heq⟩ := after ss' F' H' rv (c2.imp id fun h => by rw [Bool.and_eq_true] at h; exact h.2) c1
          exact h1 cls d F2 H' a2 (exrel_back xr keep (c2.imp heq fun h => by rw [Bool.and_eq_true] at h; exact h.1))
        · exact h1.elim
      | bad => rw [ef] at h1; exact h1.elim
    · rw [if_neg hok] at h1; exact h1.elim
theorem de_call {io : List Bool} {Fd : Sl → O (Rs × Sl)} {fa : Sl → O (List Rs × Sl)} {n : Nat} {Q : VK} (hn : io.length = n) (h : dE K mg W (eCall io Fd fa) σ H Q) : tCallS (spD K mg n Fd) (WE W) (dA K mg W fa) σ H Q := by
  obtain ⟨R, τ, θ, ρ, F, a, h⟩ := h
  refine dA_bind (kB := kE K mg W R σ τ θ Q) a.nil rfl kE_x kE_b h fun rs ρ1 xs F1 H1 a1 hr1 h1 => ?_
  simp only [List.nil_append] at a1
  exact call_go hn a1 a.tlen hr1 h1

/-! ### a def by its body -/
def outS : Sl → Sl → Sl
  | [], _ => []
  | s :: ss, t :: ts => (match s, t with
    | .io _, .io ds => .io ds
    | _, _ => .any) :: outS ss ts
  | _ :: ss, [] => .any :: outS ss []
def fnD (n extra : Nat) (g : Sl → O (Fl × Sl)) : Sl → O (Rs × Sl) := fun ss => if ss.length = n then
    (match g (ss ++ List.replicate extra .any) with
    | .ok (.nx, ρ') => .ok (.val .non, outS ss ρ')
    | .ok (.rt r, ρ') => .ok (r, outS ss ρ')
    | .ok _ => .bad
    | .exc e ρ' => .exc e (outS ss ρ')
    | .bad => .bad)
  else .bad
theorem outS_len : ∀ {ss ts : Sl}, (outS ss ts).length = ss.length
  | [], _ => by simp [outS]
  | _ :: ss, [] => by simp [outS, outS_len (ss := ss) (ts := [])]
  | s :: ss, t :: ts => by simp [outS, outS_len (ss := ss) (ts := ts)]
theorem outS_get : ∀ {ss ts : Sl} {k : Nat} {t : Slot}, (outS ss ts)[k]? = some t → t = .any ∨ ∃ ds, t = .io ds ∧ ts[k]? = some (.io ds)
  | [], _, _, _, h => by simp [outS] at h
  | _ :: ss, [], 0, t, h => by simp [outS] at h; exact .inl h.symm
  | _ :: ss, [], k + 1, t, h => by
    simp only [outS, List.getElem?_cons_succ] at h
    rcases outS_get h with e | ⟨ds, _, e⟩
    · exact .inl e
    · simp at e
  | s :: ss, t' :: ts, 0, t, h => by
    simp only [outS, List.getElem?_cons_zero, Option.some.injEq] at h
    split at h
    · rename_i es ds
      exact .inr ⟨ds, h.symm, rfl⟩
    · exact .inl h.symm
  | s :: ss, t' :: ts, k + 1, t, h => by
    simp only [outS, List.getElem?_cons_succ] at h
    simpa using outS_get h
theorem Rel.out {xs : List V} {v : V} {s : Slot} (a : At K R σ ([] ++ [some v]) ρ ([] ++ [s]) F H) (hs : s.pin = false) (hx : xs.length = ss.length) (hp : ∀ (i : Nat) p, (i, p) ∈ R.pin → xs[i]? = some (.ref p)) :
    Rel K R (xs.map some ++ [some v]) (outS ss ρ ++ [s]) F H := by
  have q := a.rel
  have hln := a.len
  simp only [List.nil_append] at q
  -- a place of the new lists, where it stood
  have look : ∀ {j : Nat} {w : Option V} {t : Slot}, (xs.map some ++ [some v])[j]? = some w → (outS ss ρ ++ [s])[j]? = some t → t = .any ∨ (j < xs.length ∧ j < ρ.length ∧ (σ ++ [some v])[j]? = some w ∧ (ρ ++ [s])[j]? = some t) ∨ (j = xs.length ∧ w = some v ∧ t = s) := fun {j w t} g1 g2 => by
    by_cases hj : j < xs.length
    · rw [List.getElem?_append_left (by simpa using hj)] at g1
      rw [List.getElem?_append_left (by rw [outS_len]; omega)] at g2
      rcases outS_get g2 with e | ⟨ds, e, e2⟩
      · exact .inl e
      · subst e
        have hr : j < ρ.length := (List.getElem?_eq_some_iff.mp e2).1
        refine .inr (.inl ⟨hj, hr, ?_, by rw [List.getElem?_append_left hr]; exact e2⟩)
        have hv : (σ ++ [some v])[j]? = some σ[j] := by rw [List.getElem?_append_left (by omega)]; exact List.getElem?_eq_getElem (by omega)
        obtain ⟨p, ys, e3, _, e4, _⟩ := q.slot j _ _ hv (by rw [List.getElem?_append_left hr]; exact e2)
        have e5 := hp j p e4
        rw [List.getElem?_map, e5] at g1
        cases g1
        rw [hv, e3]
    · have g2l := (List.getElem?_eq_some_iff.mp g2).1
      rw [List.length_append, outS_len] at g2l
      have hj' : j = xs.length := by simp at g2l; omega
      subst hj'
      rw [List.getElem?_append_right (by simp)] at g1
      rw [List.getElem?_append_right (by rw [outS_len]; omega), outS_len] at g2
      simp at g1
      rw [hx] at g2
      simp at g2
      exact .inr (.inr ⟨rfl, g1.symm, g2.symm⟩)
  have lastV : (σ ++ [some v])[σ.length]? = some (some v) := by simp
  have lastS : (ρ ++ [s])[σ.length]? = some s := by rw [hln]; simp
  refine ⟨by simp [outS_len, hx], q.exF, q.fz, q.new, q.kept, q.pinH, fun j w t g1 g2 => ?_, fun j k p t t' hjk g1 g2 g3 g4 o1 o2 => ?_⟩
  · rcases look g1 g2 with e | ⟨_, _, e1, e2⟩ | ⟨e1, e2, e3⟩
    · subst e; trivial
    · exact q.slot j w t e1 e2
    · subst e2; subst e3
      exact (q.slot _ _ _ lastV lastS).at hs
  · rcases look g1 g3 with e | ⟨l1, l1', e1, e2⟩ | ⟨e1, e2, e3⟩
    · subst e; cases o1
    · rcases look g2 g4 with f | ⟨l2, l2', f1, f2⟩ | ⟨f1, f2, f3⟩
      · subst f; cases o2
      · exact q.sep j k p t t' hjk e1 f1 e2 f2 o1 o2
      · subst f3
        exact q.sep j σ.length p t t' (by omega) e1 (f2 ▸ lastV) e2 lastS o1 o2
    · rcases look g2 g4 with f | ⟨l2, l2', f1, f2⟩ | ⟨f1, f2, f3⟩
      · subst f; cases o2
      · subst e3
        exact q.sep σ.length k p t t' (by omega) (e2 ▸ lastV) f1 lastS f2 o1 o2
      · omega
theorem Rel.outN {xs : List V} (a : At K R σ [] ρ [] F H) (hx : xs.length = ss.length) (hp : ∀ (i : Nat) p, (i, p) ∈ R.pin → xs[i]? = some (.ref p)) : Rel K R (xs.map some) (outS ss ρ) F H := by
  have h := Rel.out (v := .non) (s := .any) (ss := ss) (xs := xs) (At.of_rel (a.rel.pushA (v := some .non)) a.len) rfl hx hp
  exact h.pre (by simp [outS_len, hx])
theorem rep_get {α : Type} {n i : Nat} {x y : α} (h : (List.replicate n x)[i]? = some y) : y = x := by
  rw [List.getElem?_replicate] at h
  split at h <;> cases h
  rfl
theorem Rel.pad (r : Rel K R vs ss F H) (n : Nat) : Rel K R (vs ++ List.replicate n none) (ss ++ List.replicate n .any) F H := by
  have hl := r.len
  have look : ∀ {j : Nat} {w : Option V} {t : Slot}, (vs ++ List.replicate n none)[j]? = some w → (ss ++ List.replicate n Slot.any)[j]? = some t → t = .any ∨ (vs[j]? = some w ∧ ss[j]? = some t) := fun {j w t} g1 g2 => by
    by_cases hj : j < vs.length
    · rw [List.getElem?_append_left hj] at g1
      rw [List.getElem?_append_left (by omega)] at g2
      exact .inr ⟨g1, g2⟩
    · rw [List.getElem?_append_right (by omega)] at g2
      exact .inl (rep_get g2)
  refine ⟨by simp [hl], r.exF, r.fz, r.new, r.kept, r.pinH, fun j w t g1 g2 => ?_, fun j k p t t' hjk g1 g2 g3 g4 o1 o2 => ?_⟩
  · rcases look g1 g2 with e | ⟨e1, e2⟩
    · subst e; trivial
    · exact r.slot j w t e1 e2
  · rcases look g1 g3 with e | ⟨e1, e2⟩
    · subst e; cases o1
    · rcases look g2 g4 with f | ⟨f1, f2⟩
      · subst f; cases o2
      · exact r.sep j k p t t' hjk e1 f1 e2 f2 o1 o2
/-- the wish of a def about exceptions -/
def wOut (E : XK) : WX := fun cls d _ H => E cls d H
theorem start_ok {N : List Str} {n extra : Nat} {g : Sl → O (Fl × Sl)} {xs : List V} {H : Hp} {Q : VK} {E : XK} (hN : N.length = n + extra) (h : spD K mg n (fnD n extra g) xs H Q E) :
    dS K mg (wOut E) g { nx := fun _ H' => Q .non H', rt := Q } (L2.start N xs) H := by
  obtain ⟨hl, F, ss, pin, r, sh, ph, h⟩ := h
  have hss : ss.length = n := by have := r.len; simp at this; omega
  have e : L2.start N xs = xs.map some ++ List.replicate extra none := by
    unfold L2.start
    rw [hN, hl, Nat.add_sub_cancel_left]
  have a : At K ⟨H, F, pin⟩ (L2.start N xs) [] (ss ++ List.replicate extra .any) [] F H := by
    refine ⟨?_, by rw [e]; simp [hss, hl]⟩
    rw [e]
    simpa using r.pad extra
  refine dS_in a ?_
  unfold fnD at h
  rw [if_pos hss] at h
  have hp : ∀ (i : Nat) p, (i, p) ∈ pin → xs[i]? = some (.ref p) := fun i p q => (ph i p q).1
  cases eg : g (ss ++ List.replicate extra .any) with
  | ok q =>
    obtain ⟨fl, ρ'⟩ := q
    rw [eg] at h
    cases fl with
    | nx => exact fun σ' F' H' a' => h .non F' H' (Rel.out (At.of_rel (a'.rel.pushF .non) a'.len) rfl (by omega) hp)
    | rt r0 => exact fun v σ' F' H' a' => h v F' H' (Rel.out a' (by cases r0 <;> rfl) (by omega) hp)
    | bk => exact h.elim
    | ct => exact h.elim
  | exc x ρ' =>
    rw [eg] at h
    exact fun cls d σ' F' H' a' xr => h cls d F' H' (Rel.outN a' (by omega) hp) xr
  | bad => rw [eg] at h; exact h.elim
end
/-! ### promises under nothing that is being shown: room, and no guard of repr around -/
/-- room for k calls, and no repr under way -/
structure RoomG (k : Nat) (A : Around) : Prop where
  r : Room k A
  g : A.guards = some []
theorem RoomG.less {j k : Nat} {A : Around} (x : RoomG k A) (h : j ≤ k) : RoomG j A := ⟨x.r.mono h, x.g⟩
/-- the def at f answers as sp says -/
structure FnG (P : Program) (w : World) (K : PySem.W.Frag) (mg : Str → Option Value) (base : Heap) (k : Nat) (f : Addr) (fd : FuncData) (ps : List Str) (sp : Sp) : Prop where
  ln : ∀ {vs : List V} {H : Hp} {Q : VK} {E : XK}, sp vs H Q E → vs.length = ps.length
  go : ∀ {A : Around} {outer : List Env} {s : Shared} {H : Hp} {args : Args} {us : List Value} {vs : List V} {Q : VK} {E : XK},
    RoomG k A → Env0 P w K mg base A outer s H → BindsTo s fd args (ps.zip us) → Vals vs us → sp vs H Q E →
      codeAny (model P w) A (.call (.ref f) args) (CR (L2.CX P w) outer P w H s Q E) s
theorem FnG.up {P : Program} {w : World} {K : PySem.W.Frag} {mg : Str → Option Value} {base : Heap} {j k : Nat} {f : Addr} {fd : FuncData} {ps : List Str} {sp : Sp} (F : FnG P w K mg base j f fd ps sp) (h : j ≤ k) : FnG P w K mg base k f fd ps sp :=
  ⟨F.ln, fun hr => F.go (hr.less h)⟩
theorem FnG.as {P : Program} {w : World} {K : PySem.W.Frag} {mg : Str → Option Value} {base : Heap} {k : Nat} {f : Addr} {fd : FuncData} {ps : List Str} {sp sp' : Sp} (F : FnG P w K mg base k f fd ps sp) (h : ∀ vs H Q E, sp' vs H Q E → sp vs H Q E) : FnG P w K mg base k f fd ps sp' :=
  ⟨fun q => F.ln (h _ _ _ _ q), fun hr e0 b r q => F.go hr e0 b r (h _ _ _ _ q)⟩
/-- by the body -/
theorem fnG_body {P : Program} {w : World} {K : PySem.W.Frag} {mg : Str → Option Value} {base : Heap} {x qual : Str} {st : Stmt} {f : Addr} {fd : FuncData} {N ps : List Str} {k : Nat} {sp : Sp} (F : Fun K x qual st f fd) (S : FnScope N ps (defScope st)) (hl : ∀ {vs : List V} {H : Hp} {Q : VK} {E : XK}, sp vs H Q E → vs.length = ps.length)
    (hb : ∀ (cdv : Value) (A : Around) (outer : List Env) (s : Shared) (H : Hp) (vs : List V) (Q : VK) (E : XK), RoomG k (A.deeper (envOfC qual (defScope st) s.heap.objs.size f cdv)) → sp vs H Q E →
      ∃ t, PSs (cxOf (L2.CX P w) P w K mg base N qual (defScope st) f cdv A outer s H E) (defBody st) t ∧ t { nx := fun _ H1 => Q .non H1, rt := Q } (L2.start N vs) H) : FnG P w K mg base (k + 1) f fd ps sp := by
  obtain ⟨oc, od, kV, doc, pm, an, cdv, ct, osl, rfl, found, code⟩ := F.ex
  refine ⟨hl, ?_⟩
  intro A outer s H args us vs Q E room e0 bnd rel prom
  have many := hl prom
  have ks := e0.mod.kin.keeps (h' := s.heap) fun b o e => (e0.bs b o e).1
  have nl := e0.mod.nolimit.keeps (h' := s.heap) fun b o e => (e0.bs b o e).1
  refine codeAny_call_function room.r.depth (ks _ _ found) rfl S.co S.gen rfl (PySem.W.codeRec_of ks code) (bnd _ _ _ _ ?_)
  refine wpAny_newFunctionEnv_cells S.kind (fun y hy => ?_) fun env he s1 inC => ?_
  · obtain ⟨n, v⟩ := y
    exact (S.par n (List.of_mem_zip hy).1).elim .inl fun q => .inr ⟨q, PySem.W.cellsFrom_some _ _ _ (.inl q)⟩
  subst he
  refine ⟨nl.keeps inC.toInCall.keep, codeAny_func ?_⟩
  obtain ⟨t, ht, hq⟩ := hb cdv A outer s H vs Q E ⟨room.r.deeper _, room.g⟩ prom
  refine wpAny_mono (ht.run [] s1 (L2.start N vs) H _ (inv_start S room.r.hd e0 many rel inC) hq) (fun fl s2 out => ?_) fun _ _ z => z
  match fl, out with
  | .ret _, ⟨v, _, H2, J, rv, q⟩ => exact ⟨v, H2, J.os, J.bare, J.base, J.hok, rv, q⟩
  | .next, ⟨_, H2, J, q⟩ => exact ⟨V.non, H2, J.os, J.bare, J.base, J.hok, rfl, q⟩
  | .brk, ⟨_, _, _, q⟩ => exact q.elim
  | .cont, ⟨_, _, _, q⟩ => exact q.elim
/-- a def of the text keeps the promise by the function of its body -/
theorem fn_ok {P : Program} {w : World} {K : PySem.W.Frag} {mg : Str → Option Value} {base : Heap} {x qual : Str} {st : Stmt} {f : Addr} {fd : FuncData} {N ps : List Str} {k extra : Nat} {g : Sl → O (Fl × Sl)} (F : Fun K x qual st f fd) (S : FnScope N ps (defScope st)) (hN : N.length = ps.length + extra)
    (hbody : ∀ (cdv : Value) (A : Around) (outer : List Env) (s : Shared) (H : Hp) (E : XK), RoomG k (A.deeper (envOfC qual (defScope st) s.heap.objs.size f cdv)) →
      PSs (cxOf (L2.CX P w) P w K mg base N qual (defScope st) f cdv A outer s H E) (defBody st) (dS K mg (wOut E) g)) : FnG P w K mg base (k + 1) f fd ps (spD K mg ps.length (fnD ps.length extra g)) := by
  refine fnG_body F S (fun h => h.1) fun cdv A outer s H vs Q E hr h => ⟨_, hbody cdv A outer s H E hr, start_ok hN h⟩
section
variable {X : Cx} {k : Nat} {f : Addr} {fd : FuncData} {ps : List Str} {sp : Sp} {pins : List (Addr × Obj)} {σ : L2.St} {H : Hp} {s : Shared} {Q : VK} {W : WX}
/-- the call itself, however the arguments were given -/
theorem goG {us zs : List Value} {kw : List (Str × Value)} {vs : List V} (F : FnG X.prog X.w X.K X.mg X.base k f fd ps sp) (hr : RoomG k X.A) (tk : Takes X W) (hb : BindsTo s fd ⟨us, kw⟩ (ps.zip zs)) (I : Inv X pins σ H s) (r : Vals vs zs) (h : sp vs H Q (WE W σ)) :
    wpAny (model X.prog X.w) X.A (call (.ref f) us kw) (EP X pins σ Q) X.xe s := by
  refine wpAny_call (codeAny_mono (F.go hr I.env0 hb r h) fun out s2 z => ?_)
  match out, z with
  | .error e, z => exact passAt tk σ pins H s e s2 I z
  | .ok (.ret _), z => exact I.after z
  | .ok .next, z => exact False.elim z
  | .ok .brk, z => exact False.elim z
  | .ok .cont, z => exact False.elim z
theorem pe_callG {x : Str} {p pos : Pos} {e : Expr} {es : List Expr} {t : TA} (F : FnG X.prog X.w X.K X.mg X.base k f fd ps sp) (hr : RoomG k X.A) (hg : Gl X x) (hm : X.mg x = some (.ref f)) (hk : PySem.W.keepIn X.K (.ref f) = true) (hb : Binds X.K fd ps []) (tk : Takes X W) (ha : PA X (e :: es) t)
    (hdb : (x == ("__debug__" : Str)) = false) (he : starEach (e :: es) X.env = (false, eval e X.env) :: starEach es X.env) (hpl : (backTo pos (starEach es X.env)).any (·.1) = false) : PE X (.Call (.Name x p) (e :: es) [] pos) (tCallS sp (WE W) t) := by
  refine ⟨fun pins s σ H Q I h => wpAny_Call_Name_kw (ld_glob I hg hm ?_ hdb)⟩
  refine PySem.W.callWith_K (h₀ := X.base) I.ok.mod.kin hk (thn (ha.run pos pins s σ H _ I h) fun us s1 ⟨vs, H1, I1, r, q⟩ => ⟨I1.kIn, ?_⟩) he hpl
  refine goG F hr tk (zs := us) ?_ I1 r q
  have := hb s1 us I1.kIn (by rw [List.append_nil, ← r.length]; exact F.ln q)
  rwa [List.append_nil] at this
end
end FX

/-! FX7: operators by data. -/
namespace FX
open PySem L2 PyProof.Rows
open Evl (Ex ex_t)
section
variable {K : PySem.W.Frag}
/-! ### sizes of ints -/
def big : Nat := 2 ^ 8000
def Fit (i : Int) : Prop := i.natAbs < big
instance (i : Int) : Decidable (Fit i) := Nat.decLt _ _
theorem fit_of {i : Int} (h1 : -(10 ^ 400) ≤ i) (h2 : i ≤ 10 ^ 400) : Fit i := by
  have hb : (10 ^ 400 : Nat) < big := by unfold big; decide +kernel
  have e : ((10 : Int) ^ 400) = ((10 ^ 400 : Nat) : Int) := by
    rw [Int.natCast_pow]; rfl
  rw [e] at h1 h2
  unfold Fit
  generalize (10 ^ 400 : Nat) = B at *
  omega
theorem Fit.lt {i : Int} (h : Fit i) : i.natAbs < 2 ^ 8000 := h
/-- what * of ints asks -/
def Fits (i j : Int) : Prop := i.natAbs.log2 + j.natAbs.log2 < 100000000
instance (i j : Int) : Decidable (Fits i j) := Nat.decLt _ _
theorem Fit.mul {i j : Int} (h1 : Fit i) (h2 : Fit j) : Fits i j := by
  have a := PySem.Flt.log2_lt_of (by decide) h1.lt
  have b := PySem.Flt.log2_lt_of (by decide) h2.lt
  unfold Fits
  omega
theorem fits_bits {i j : Int} (h1 : Builtin.Int.intBits i ≤ 2000000) (h2 : Fit j) : Fits i j := by
  have b := PySem.Flt.log2_lt_of (by decide) h2.lt
  have a : i.natAbs.log2 ≤ Builtin.Int.intBits i := by
    unfold Builtin.Int.intBits
    split
    · rename_i h
      have : i.natAbs = 0 := by simpa using h
      rw [this]; decide
    · omega
  unfold Fits
  omega
theorem Fits.ok {i j : Int} (h : Fits i j) : IntMulOk i j := by
  have bt : ∀ x : Int, Builtin.Int.intBits x ≤ x.natAbs.log2 + 1 := by
    intro x
    unfold Builtin.Int.intBits
    split <;> omega
  have hi := bt i
  have hj := bt j
  have ln : bitsLine = 134217728 := by decide
  have hs : i.natAbs.log2 + j.natAbs.log2 < 100000000 := h
  intro z
  have z1 := ((Bool.and_eq_true _ _).mp z).2
  have z2 : _ < _ := of_decide_eq_true (by simpa [Builtin.Int.intTooBig] using z1)
  rw [ln] at z2
  omega

theorem vop_sc {r : R2} {opf : Dt → Dt → Option Rs} (h : ∀ (H : Hp) (x y : V) (d1 d2 : Dt) (out : Rs) (Q : VK), Rp K H x d1 → Rp K H y d2 → opf d1 d2 = some out → ∃ d v, out = .val d ∧ d.sc = some v ∧ (Q v H → r x y H Q)) : VOp2 K r opf := by
  intro R vs ss F H x y d1 d2 out Q rel v1 v2 e k
  obtain ⟨d, v, e1, e2, e3⟩ := h H x y d1 d2 out Q (v1.full rel.fz) (v2.full rel.fz) e
  subst e1
  exact e3 (k v F H (rel.pushF (Dt.sc_rp e2)) fun _ => trivial)
theorem vop1_sc {r : V → Hp → VK → Prop} {opf : Dt → Option Rs} (h : ∀ (H : Hp) (x : V) (d1 : Dt) (out : Rs) (Q : VK), Rp K H x d1 → opf d1 = some out → ∃ d v, out = .val d ∧ d.sc = some v ∧ (Q v H → r x H Q)) : VOp1 K r opf := by
  intro R vs ss F H x d1 out Q rel v1 e k
  obtain ⟨d, v, e1, e2, e3⟩ := h H x d1 out Q (v1.full rel.fz) e
  subst e1
  exact e3 (k v F H (rel.pushF (Dt.sc_rp e2)) fun _ => trivial)
theorem VOp2.or {r r' : R2} {opf : Dt → Dt → Option Rs} (h : ∀ (R : RC) (vs : List (Option V)) (ss : Sl) (F H : Hp) (x y : V) (d1 d2 : Dt) (out : Rs) (Q : VK), Rel K R vs ss F H → RpV K F H x d1 → RpV K F H y d2 → opf d1 d2 = some out →
    (∀ v F' H', Rel K R (vs ++ [some v]) (ss ++ [out.slot]) F' H' → (∀ σ, out.at σ v) → Q v H') → r x y H Q ∨ r' x y H Q) : VOp2 K (fun x y H Q => r x y H Q ∨ r' x y H Q) opf := h

/-! ### + -/
def rAddS2 : R2 := fun x y H Q => ∃ i j, x = .str i ∧ y = .str j ∧ i.length + j.length ≤ sizeLine ∧ Q (.str (i ++ j)) H
def rAddIB : R2 := fun x y H Q => ∃ i k, x = .int i ∧ y = .bl k ∧ Q (.int (i + b2i k)) H
def rAddD (K : PySem.W.Frag) : R2 := fun x y H Q => (rI0 fun i j => .int (i + j)) x y H Q ∨ rAddS2 x y H Q ∨ rCat x y H Q ∨ rCatA K x y H Q ∨ rAddIB x y H Q
theorem op_addD {X : Cx} : OpR X (binaryOp .Add) (rAddD X.K) := op_add.or (op_add_str.or (op_cat.or (op_catA.or op_add_ib)))
def addD : Dt → Dt → Option Rs
  | .int i, .int j => some (.val (.int (i + j)))
  | .str x, .str y => if x.length + y.length ≤ 16777216 then some (.val (.str (x ++ y))) else none
  | .lst xs, .lst ys => if xs.length + ys.length ≤ 16777216 then some (.own (xs ++ ys)) else none
  | .tup xs, .tup ys => if xs.length + ys.length ≤ 16777216 then some (.val (.tup (xs ++ ys))) else none
  | .int i, .bl k => some (.val (.int (i + b2i k)))
  | _, _ => none
@[simp] theorem addD_int (i j : Int) : addD (.int i) (.int j) = some (.val (.int (i + j))) := rfl
@[simp] theorem addD_ib (i : Int) (k : Bool) : addD (.int i) (.bl k) = some (.val (.int (i + b2i k))) := rfl
@[simp] theorem addD_lst (xs ys : List Dt) : addD (.lst xs) (.lst ys) = if xs.length + ys.length ≤ 16777216 then some (.own (xs ++ ys)) else none := rfl
@[simp] theorem addD_tup (xs ys : List Dt) : addD (.tup xs) (.tup ys) = if xs.length + ys.length ≤ 16777216 then some (.val (.tup (xs ++ ys))) else none := rfl
@[simp] theorem addD_str (xs ys : Str) : addD (.str xs) (.str ys) = if xs.length + ys.length ≤ 16777216 then some (.val (.str (xs ++ ys))) else none := rfl
/-- a list in view: where it stands -/
theorem RpV.lst_of {F H : Hp} {v : V} {ds : List Dt} (e : Ex F H) (h : RpV K F H v (.lst ds)) : ∃ p xs, v = .ref p ∧ H p = some (.lst xs) ∧ xs.length ≤ sizeLine ∧ RpAll K F xs ds := by
  rcases h with h | ⟨p, xs, es, h1, h2, h3, h4, h5⟩
  · cases h with
    | lst a b c => exact ⟨_, _, rfl, e _ _ a, b, c⟩
  · cases h2; exact ⟨p, xs, h1, h3, h4, h5⟩
theorem RpV.tup_of {F H : Hp} {v : V} {ds : List Dt} (e : Ex F H) (h : RpV K F H v (.tup ds)) : ∃ p xs, v = .ref p ∧ SqT K F p xs ∧ xs.length ≤ sizeLine ∧ RpAll K F xs ds := by
  rcases h with h | ⟨p, xs, es, h1, h2, h3, h4, h5⟩
  · cases h with
    | tup a b c => exact ⟨_, _, rfl, a, b, c⟩
  · cases h2
theorem RpV.int_of {F H : Hp} {v : V} {i : Int} (h : RpV K F H v (.int i)) : v = .int i := by
  rcases h with h | ⟨p, xs, es, h1, h2, h3, h4, h5⟩
  · exact h.int_of
  · cases h2
theorem RpV.str_of {F H : Hp} {v : V} {i : Str} (h : RpV K F H v (.str i)) : v = .str i := by
  rcases h with h | ⟨p, xs, es, h1, h2, h3, h4, h5⟩
  · exact h.str_of
  · cases h2
theorem RpV.bl_of {F H : Hp} {v : V} {i : Bool} (h : RpV K F H v (.bl i)) : v = .bl i := by
  rcases h with h | ⟨p, xs, es, h1, h2, h3, h4, h5⟩
  · exact h.bl_of
  · cases h2
theorem RpV.non_of {F H : Hp} {v : V} (h : RpV K F H v .non) : v = .non := by
  rcases h with h | ⟨p, xs, es, h1, h2, h3, h4, h5⟩
  · exact h.non_of
  · cases h2
theorem line_of {n : Nat} (h : n ≤ 16777216) : n ≤ sizeLine := by rw [sizeLine_eq]; exact h
section
variable {R : RC} {vs : List (Option V)} {ss : Sl} {F H : Hp} {Q : VK}
/-- the ends: data, a new tuple, a new list -/
theorem endF {v : V} {d : Dt} (rel : Rel K R vs ss F H) (k : ∀ v F' H', Rel K R (vs ++ [some v]) (ss ++ [(Rs.val d).slot]) F' H' → (∀ σ, (Rs.val d).at σ v) → Q v H') (h : Rp K F v d) : Q v H := k v F H (rel.pushF h) fun _ => trivial
theorem endT {xs : List V} {ds : List Dt} (rel : Rel K R vs ss F H) (k : ∀ v F' H', Rel K R (vs ++ [some v]) (ss ++ [(Rs.val (.tup ds)).slot]) F' H' → (∀ σ, (Rs.val (.tup ds)).at σ v) → Q v H') (h : RpAll K F xs ds) (hz : xs.length ≤ sizeLine) {p : Addr} (hp : H p = none) : Q (.ref p) (upd H p (.tup xs)) :=
  k (.ref p) _ _ ((rel.allocF (o := .tup xs) hp).pushF (.tup (SqT.of upd_same) hz (h.mono (ex_upd (rel.freshF hp))))) fun _ => trivial
theorem endL {xs : List V} {ds : List Dt} (rel : Rel K R vs ss F H) (k : ∀ v F' H', Rel K R (vs ++ [some v]) (ss ++ [(Rs.own ds).slot]) F' H' → (∀ σ, (Rs.own ds).at σ v) → Q v H') (h : RpAll K F xs ds) (hz : xs.length ≤ sizeLine) {p : Addr} (hp : H p = none) : Q (.ref p) (upd H p (.lst xs)) :=
  k (.ref p) _ _ (rel.allocM hp h hz) fun _ => trivial
end
theorem v_add : VOp2 K (rAddD K) addD := by
  intro R vs ss F H x y d1 d2 out Q rel v1 v2 e k
  unfold addD at e
  split at e
  · cases e
    exact .inl ⟨_, _, v1.int_of, v2.int_of, endF rel k (.int _)⟩
  · split at e
    · rename_i hz
      cases e
      exact .inr (.inl ⟨_, _, v1.str_of, v2.str_of, line_of hz, endF rel k (.str _)⟩)
    · cases e
  · split at e
    · rename_i hz
      cases e
      obtain ⟨p, xs, h1, h2, h3, h4⟩ := v1.lst_of rel.fz
      obtain ⟨q, ys, g1, g2, g3, g4⟩ := v2.lst_of rel.fz
      have z : xs.length + ys.length ≤ sizeLine := by rw [h4.length, g4.length]; exact line_of hz
      exact .inr (.inr (.inl ⟨p, q, xs, ys, h1, g1, h2, g2, z, fun r hr => endL rel k (h4.append g4) (by rw [List.length_append]; exact z) hr⟩))
    · cases e
  · split at e
    · rename_i hz
      cases e
      obtain ⟨p, xs, h1, h2, h3, h4⟩ := v1.tup_of rel.fz
      obtain ⟨q, ys, g1, g2, g3, g4⟩ := v2.tup_of rel.fz
      have z : xs.length + ys.length ≤ sizeLine := by rw [h4.length, g4.length]; exact line_of hz
      refine .inr (.inr (.inr (.inl ⟨p, q, xs, ys, h1, g1, ex_t rel.fz h2, ex_t rel.fz g2, z, fun e => ?_, fun _ e => ?_, fun _ _ r hr => endT rel k (h4.append g4) (by rw [List.length_append]; exact z) hr⟩)))
      · subst e
        cases h4
        exact endF rel k (.tup g2 g3 g4)
      · subst e
        cases g4
        exact endF rel k (by rw [List.append_nil]; exact .tup h2 h3 h4)
    · cases e
  · cases e
    exact .inr (.inr (.inr (.inr ⟨_, _, v1.int_of, v2.bl_of, endF rel k (.int _)⟩)))
  · cases e
/-! ### -, *, //, %, ** -/
def subD : Dt → Dt → Option Rs
  | .int i, .int j => some (.val (.int (i - j)))
  | _, _ => none
@[simp] theorem subD_int (i j : Int) : subD (.int i) (.int j) = some (.val (.int (i - j))) := rfl
theorem v_sub : VOp2 K (rI0 fun i j => .int (i - j)) subD := by
  intro R vs ss F H x y d1 d2 out Q rel v1 v2 e k
  unfold subD at e
  split at e
  · cases e
    exact ⟨_, _, v1.int_of, v2.int_of, endF rel k (.int _)⟩
  · cases e
def fdivD : Dt → Dt → Option Rs
  | .int i, .int j => if 0 < j ∧ Fit j then some (.val (.int (i / j))) else none
  | _, _ => none
@[simp] theorem fdivD_int (i j : Int) : fdivD (.int i) (.int j) = if 0 < j ∧ Fit j then some (.val (.int (i / j))) else none := rfl
theorem v_fdiv : VOp2 K (rI CDivW fun i j => .int (i / j)) fdivD := by
  intro R vs ss F H x y d1 d2 out Q rel v1 v2 e k
  unfold fdivD at e
  split at e
  · split at e
    · rename_i hc
      cases e
      exact ⟨_, _, v1.int_of, v2.int_of, wide_div hc.1 hc.2.lt (by decide) (by decide), endF rel k (.int _)⟩
    · cases e
  · cases e
def modD : Dt → Dt → Option Rs
  | .int i, .int j => if 0 < j then some (.val (.int (i % j))) else none
  | _, _ => none
@[simp] theorem modD_int (i j : Int) : modD (.int i) (.int j) = if 0 < j then some (.val (.int (i % j))) else none := rfl
theorem v_mod : VOp2 K (rI (fun _ j => 0 < j) fun i j => .int (i % j)) modD := by
  intro R vs ss F H x y d1 d2 out Q rel v1 v2 e k
  unfold modD at e
  split at e
  · split at e
    · rename_i hc
      cases e
      exact ⟨_, _, v1.int_of, v2.int_of, hc, endF rel k (.int _)⟩
    · cases e
  · cases e
def CPowW (i j : Int) : Prop := 0 ≤ j ∧ (Builtin.Int.intBits i : Int) * j ≤ 2 ^ 27
theorem op_powW {X : Cx} : OpR X (binaryOp .Pow) (rI CPowW fun i j => .int (i ^ j.toNat)) := opI fun _ _ _ _ _ _ _ hc q => pow_int hc.1 hc.2 q
def powD : Dt → Dt → Option Rs
  | .int i, .int j => if Fit i ∧ 0 ≤ j ∧ j ≤ 1000 then some (.val (.int (i ^ j.toNat))) else none
  | _, _ => none
@[simp] theorem powD_int (i j : Int) : powD (.int i) (.int j) = if Fit i ∧ 0 ≤ j ∧ j ≤ 1000 then some (.val (.int (i ^ j.toNat))) else none := rfl
theorem v_pow : VOp2 K (rI CPowW fun i j => .int (i ^ j.toNat)) powD := by
  intro R vs ss F H x y d1 d2 out Q rel v1 v2 e k
  unfold powD at e
  split at e
  · rename_i i j
    split at e
    · rename_i hc
      cases e
      have h1 : Builtin.Int.intBits i ≤ 8000 := intBits_le hc.1.lt
      have h2 : (Builtin.Int.intBits i : Int) * j ≤ 8000 * 1000 := Int.mul_le_mul (by omega) hc.2.2 hc.2.1 (by omega)
      exact ⟨_, _, v1.int_of, v2.int_of, ⟨hc.2.1, by omega⟩, endF rel k (.int _)⟩
    · cases e
  · cases e
def repL (n : Nat) (ds : List Dt) : List Dt := (List.replicate n ds).flatten
theorem RpAll.rep {F : Hp} {xs : List V} {ds : List Dt} (h : RpAll K F xs ds) : ∀ n : Nat, RpAll K F (List.replicate n xs).flatten (repL n ds)
  | 0 => .nil
  | n + 1 => by
    unfold repL
    rw [List.replicate_succ, List.replicate_succ, List.flatten_cons, List.flatten_cons]
    exact h.append (RpAll.rep h n)
theorem rep_len {α : Type} (n : Nat) (xs : List α) : (List.replicate n xs).flatten.length = n * xs.length := by
  induction n with
  | zero => simp
  | succ n ih => rw [List.replicate_succ, List.flatten_cons, List.length_append, ih, Nat.succ_mul, Nat.add_comm]
def repS (x : Str) (n : Nat) : Str := ⟨(List.replicate n x.cps.toList).flatten.toArray⟩
theorem foldl_cps (c : Array Nat) : ∀ (n : Nat) (acc : Array Nat), (List.replicate n c).foldl (· ++ ·) acc = acc ++ (List.replicate n c.toList).flatten.toArray
  | 0, acc => by simp
  | n + 1, acc => by
    rw [List.replicate_succ, List.foldl_cons, foldl_cps c n, List.replicate_succ, List.flatten_cons]
    apply Array.ext'
    simp
def rMulS : R2 := fun x y H Q => ∃ z n, x = .str z ∧ y = .int n ∧ 0 ≤ n ∧ n ≤ 100000 ∧ z.length ≤ 100 ∧ Q (.str (repS z n.toNat)) H
theorem op_mulS {X : Cx} : OpR X (binaryOp .Mult) rMulS := by
  intro pins s σ H x y v u Q I rx ry h
  obtain ⟨z, n, e1, e2, h1, h2, h3, q⟩ := h
  subst e1; subst e2
  obtain ⟨t, rfl⟩ := rx
  obtain ⟨t', rfl⟩ := ry
  have hz : z.length * n.toNat ≤ 10000000 := Nat.le_trans (Nat.mul_le_mul h3 (show n.toNat ≤ 100000 by omega)) (by decide)
  refine PySem.P.mul_str (by rw [decide_eq_false (by omega), decide_eq_false (by omega)]; rfl) (fun a b => ?_) (fun a b => ?_) ?_
  · have hn : 1 ≤ n := by omega
    have h4 : (100 : Int) ≤ (2 ^ 63 - 1) / n := by
      rw [Int.le_ediv_iff_mul_le (by omega)]
      omega
    omega
  · exact decide_eq_false (by rw [sizeLine_eq]; omega)
  · by_cases c1 : n < 1
    · rw [if_pos c1]
      have e0 : n = 0 := by omega
      refine ⟨by decide, .str (repS z n.toNat), H, I.tok _, ⟨s.toks, ?_⟩, q⟩
      rw [e0]; rfl
    · rw [if_neg c1]
      by_cases c2 : (n == 1 || z.length == 0) = true
      · rw [if_pos c2]
        refine ⟨.str (repS z n.toNat), H, I, ⟨t, ?_⟩, q⟩
        congr 1
        rw [Bool.or_eq_true] at c2
        rcases c2 with c2 | c2
        · have e1 : n = 1 := by simpa using c2
          rw [e1]
          unfold repS
          simp
        · have e0 : z.cps = #[] := Array.eq_empty_of_size_eq_zero (show z.cps.size = 0 from beq_iff_eq.mp c2)
          obtain ⟨c⟩ := z
          simp only at e0
          subst e0
          unfold repS
          congr 1
          apply Array.ext'
          simp
      · rw [if_neg c2]
        have hsz : ((List.replicate n.toNat z.cps).foldl (· ++ ·) #[]) = (List.replicate n.toNat z.cps.toList).flatten.toArray := by rw [foldl_cps]; simp
        refine ⟨?_, .str (repS z n.toNat), H, I.tok _, ⟨s.toks, ?_⟩, q⟩
        · show Array.size _ ≤ _
          rw [hsz, List.size_toArray, rep_len, Array.length_toList]
          have : n.toNat * z.cps.size = z.length * n.toNat := Nat.mul_comm _ _
          first
            | omega
            | (rw [this, sizeLine_eq]; omega)
        · rw [hsz]
          rfl
theorem op_mulX {X : Cx} : OpR X (binaryOp .Mult) (rI Fits fun i j => .int (i * j)) := opI fun i j t u s H Q hc q => mul_int q (Fits.ok hc)
def rMulD (K : PySem.W.Frag) : R2 := fun x y H Q => (rI Fits fun i j => .int (i * j)) x y H Q ∨ rRep x y H Q ∨ rRepT K x y H Q ∨ rMulS x y H Q
theorem op_mulD {X : Cx} : OpR X (binaryOp .Mult) (rMulD X.K) := op_mulX.or (op_rep.or (op_repT.or op_mulS))
def mulD : Dt → Dt → Option Rs
  | .int i, .int j => if Fits i j then some (.val (.int (i * j))) else none
  | .lst ds, .int k => if -1000000 ≤ k ∧ k ≤ 1000000 ∧ ds.length * k.toNat ≤ 16777216 then some (.own (repL k.toNat ds)) else none
  | .tup ds, .int k => if ds ≠ [] ∧ 2 ≤ k ∧ k ≤ 1000 ∧ ds.length ≤ 1000 then some (.val (.tup (repL k.toNat ds))) else none
  | .str z, .int k => if 0 ≤ k ∧ k ≤ 100000 ∧ z.length ≤ 100 then some (.val (.str (repS z k.toNat))) else none
  | _, _ => none
@[simp] theorem mulD_int (i j : Int) : mulD (.int i) (.int j) = if Fits i j then some (.val (.int (i * j))) else none := rfl
@[simp] theorem mulD_lst (ds : List Dt) (k : Int) : mulD (.lst ds) (.int k) = if -1000000 ≤ k ∧ k ≤ 1000000 ∧ ds.length * k.toNat ≤ 16777216 then some (.own (repL k.toNat ds)) else none := rfl
@[simp] theorem mulD_tup (ds : List Dt) (k : Int) : mulD (.tup ds) (.int k) = if ds ≠ [] ∧ 2 ≤ k ∧ k ≤ 1000 ∧ ds.length ≤ 1000 then some (.val (.tup (repL k.toNat ds))) else none := rfl
@[simp] theorem mulD_str (z : Str) (k : Int) : mulD (.str z) (.int k) = if 0 ≤ k ∧ k ≤ 100000 ∧ z.length ≤ 100 then some (.val (.str (repS z k.toNat))) else none := rfl
instance {ds : List Dt} : Decidable (ds ≠ []) := match ds with
  | [] => isFalse fun h => h rfl
  | _ :: _ => isTrue fun h => nomatch h
theorem v_mul : VOp2 K (rMulD K) mulD := by
  intro R vs ss F H x y d1 d2 out Q rel v1 v2 e k
  unfold mulD at e
  split at e
  · split at e
    · rename_i hc
      cases e
      exact .inl ⟨_, _, v1.int_of, v2.int_of, hc, endF rel k (.int _)⟩
    · cases e
  · split at e
    · rename_i ds n hc
      cases e
      obtain ⟨p, xs, h1, h2, h3, h4⟩ := v1.lst_of rel.fz
      refine .inr (.inl ⟨p, _, xs, h1, v2.int_of, h2, by omega, by omega, by rw [h4.length]; exact line_of hc.2.2, fun r hr => endL rel k (h4.rep _) ?_ hr⟩)
      rw [rep_len, h4.length, Nat.mul_comm]; exact line_of hc.2.2
    · cases e
  · split at e
    · rename_i ds n hc
      cases e
      obtain ⟨p, xs, h1, h2, h3, h4⟩ := v1.tup_of rel.fz
      have hl := h4.length
      refine .inr (.inr (.inl ⟨p, _, xs, h1, v2.int_of, ex_t rel.fz h2, fun z => ?_, hc.2.1, hc.2.2.1, by omega, fun r hr => endT rel k (h4.rep _) ?_ hr⟩))
      · subst z; cases h4; exact hc.1 rfl
      · rw [rep_len]
        exact Nat.le_trans (Nat.mul_le_mul (show n.toNat ≤ 1000 by omega) (show xs.length ≤ 1000 by omega)) (line_of (by decide))
    · cases e
  · split at e
    · rename_i z n hc
      cases e
      exact .inr (.inr (.inr ⟨_, _, v1.str_of, v2.int_of, hc.1, hc.2.1, hc.2.2, endF rel k (.str _)⟩))
    · cases e
  · cases e
/-! ### comparisons of ints -/
def cmpD (p : Int → Int → Bool) : Dt → Dt → Option Rs
  | .int i, .int j => some (.val (.bl (p i j)))
  | _, _ => none
@[simp] theorem cmpD_int (p : Int → Int → Bool) (i j : Int) : cmpD p (.int i) (.int j) = some (.val (.bl (p i j))) := rfl
theorem v_cmp (p : Int → Int → Bool) : VOp2 K (rI0 fun i j => .bl (p i j)) (cmpD p) := by
  intro R vs ss F H x y d1 d2 out Q rel v1 v2 e k
  unfold cmpD at e
  split at e
  · cases e
    exact ⟨_, _, v1.int_of, v2.int_of, endF rel k (.bl _)⟩
  · cases e
def ltD := cmpD fun i j => decide (i < j)
def leD := cmpD fun i j => decide (i ≤ j)
def gtD := cmpD fun i j => decide (j < i)
def geD := cmpD fun i j => decide (j ≤ i)
@[simp] theorem ltD_int (i j : Int) : ltD (.int i) (.int j) = some (.val (.bl (decide (i < j)))) := rfl
@[simp] theorem leD_int (i j : Int) : leD (.int i) (.int j) = some (.val (.bl (decide (i ≤ j)))) := rfl
@[simp] theorem gtD_int (i j : Int) : gtD (.int i) (.int j) = some (.val (.bl (decide (j < i)))) := rfl
@[simp] theorem geD_int (i j : Int) : geD (.int i) (.int j) = some (.val (.bl (decide (j ≤ i)))) := rfl
/-! ### ==, != of data -/
mutual
def toP : Dt → PyData
  | .non => .none
  | .bl b => .bool b
  | .int i => .int i
  | .str x => .str x
  | .tup ds => .tuple (toPs ds)
  | .lst ds => .list (toPs ds)
  | .scr ns => .list (ns.map PyData.int)
  | .emp => .dict []
def toPs : List Dt → List PyData
  | [] => []
  | d :: ds => toP d :: toPs ds
end
theorem dp_ints {F : Hp} : ∀ ns : List Int, DpAll K F (ns.map V.int) (ns.map PyData.int)
  | [] => .nil
  | n :: ns => .cons (.int n) (dp_ints ns)
/-- no dict within -/
def Dt.pl : Dt → Bool
  | .tup ds => go ds
  | .lst ds => go ds
  | .emp => false
  | _ => true
where go : List Dt → Bool
  | [] => true
  | d :: ds => Dt.pl d && go ds
mutual
theorem Rp.dp {F : Hp} : ∀ {v : V} {d : Dt}, Rp K F v d → d.pl = true → Dp K F v (toP d)
  | _, _, .non, _ => by unfold toP; exact .non
  | _, _, .bl b, _ => by unfold toP; exact .bl b
  | _, _, .int i, _ => by unfold toP; exact .int i
  | _, _, .str x, _ => by unfold toP; exact .str x
  | _, _, .tup h z r, e => by unfold toP; exact .tup h (RpAll.dp r (by unfold Dt.pl at e; exact e))
  | _, _, .lst h z r, e => by unfold toP; exact .lst (SqL.of h) (RpAll.dp r (by unfold Dt.pl at e; exact e))
  | _, _, .scr h, _ => by unfold toP; exact .lst h (dp_ints _)
  | _, _, .emp h, e => by unfold Dt.pl at e; cases e
theorem RpAll.dp {F : Hp} : ∀ {vs : List V} {ds : List Dt}, RpAll K F vs ds → Dt.pl.go ds = true → DpAll K F vs (toPs ds)
  | _, _, .nil, _ => by unfold toPs; exact .nil
  | _, _, .cons a r, e => by
    unfold Dt.pl.go at e
    rw [Bool.and_eq_true] at e
    unfold toPs; exact .cons (Rp.dp a e.1) (RpAll.dp r e.2)
end
/-- data that == can compare -/
def lay (d : Dt) : Bool := d.pl && SeqAt.shaped (toP d)
theorem lay_pl {d : Dt} (h : lay d = true) : d.pl = true := ((Bool.and_eq_true _ _).mp h).1
theorem lay_sh {d : Dt} (h : lay d = true) : SeqAt.shaped (toP d) = true := ((Bool.and_eq_true _ _).mp h).2
def eqB (d e : Dt) : Bool := PyData.eqv (toP d) (toP e)
def rEqAll (K : PySem.W.Frag) : R2 := fun x y H Q => rEq x y H Q ∨ rEqD K x y H Q
def rNeAll (K : PySem.W.Frag) : R2 := fun x y H Q => rNe x y H Q ∨ rNeD K x y H Q
theorem op_eqAll {X : Cx} (hu : X.A.units + 64 < cLine) : OpR X (compareOp .Eq) (rEqAll X.K) := op_eq.or (op_eqD hu)
theorem op_neAll {X : Cx} (hu : X.A.units + 64 < cLine) : OpR X (compareOp .NotEq) (rNeAll X.K) := op_ne.or (op_neD hu)
def eqX : Dt → Dt → Option Bool
  | .int i, .int j => some (i == j)
  | .str x, .str y => some (x == y)
  | .bl a, .bl b => some (a == b)
  | .non, .non => some true
  | d, e => if lay d = true ∧ lay e = true then some (eqB d e) else none
@[simp] theorem eqX_int (i j : Int) : eqX (.int i) (.int j) = some (i == j) := rfl
@[simp] theorem eqX_str (i j : Str) : eqX (.str i) (.str j) = some (i == j) := rfl
@[simp] theorem eqX_bl (i j : Bool) : eqX (.bl i) (.bl j) = some (i == j) := rfl
@[simp] theorem eqX_tup (xs ys : List Dt) : eqX (.tup xs) (.tup ys) = if lay (.tup xs) = true ∧ lay (.tup ys) = true then some (eqB (.tup xs) (.tup ys)) else none := rfl
@[simp] theorem eqX_lst (xs ys : List Dt) : eqX (.lst xs) (.lst ys) = if lay (.lst xs) = true ∧ lay (.lst ys) = true then some (eqB (.lst xs) (.lst ys)) else none := rfl
def eqD (d e : Dt) : Option Rs := (eqX d e).map fun b => .val (.bl b)
def neD (d e : Dt) : Option Rs := (eqX d e).map fun b => .val (.bl (!b))
theorem eqX_cases {d e : Dt} {b : Bool} (h : eqX d e = some b) : (∃ x y, d.sc = some x ∧ e.sc = some y ∧ scal x y = true ∧ b = decide (x = y)) ∨ (lay d = true ∧ lay e = true ∧ b = eqB d e) := by
  unfold eqX at h
  split at h
  · cases h; exact .inl ⟨_, _, rfl, rfl, rfl, dec_int.symm⟩
  · rename_i x y
    cases h; exact .inl ⟨_, _, rfl, rfl, rfl, by rw [dec_str] <;> first | rfl | exact Bool.beq_eq_decide_eq x y⟩
  · cases h; exact .inl ⟨_, _, rfl, rfl, rfl, dec_bl.symm⟩
  · cases h; exact .inl ⟨.non, .non, rfl, rfl, rfl, (decide_eq_true rfl).symm⟩
  · split at h
    · rename_i hc
      cases h; exact .inr ⟨hc.1, hc.2, rfl⟩
    · cases h
theorem Rp.sc_of {F : Hp} {v x : V} {d : Dt} (h : Rp K F v d) (e : d.sc = some x) : v = x := by
  cases h <;> first | (cases e; rfl) | cases e
theorem v_eq : VOp2 K (rEqAll K) eqD := by
  intro R vs ss F H x y d1 d2 out Q rel v1 v2 e k
  unfold eqD at e
  obtain ⟨b, h, e⟩ := Option.map_eq_some_iff.mp e
  subst e
  have q := endF rel k (.bl b)
  rcases eqX_cases h with ⟨a, c, h1, h2, h3, h4⟩ | ⟨h1, h2, h3⟩
  · have e1 := (v1.full rel.fz).sc_of h1
    have e2 := (v2.full rel.fz).sc_of h2
    subst e1; subst e2
    exact .inl ⟨h3, by rw [← h4]; exact q⟩
  · exact .inr ⟨_, _, (v1.full rel.fz).dp (lay_pl h1), (v2.full rel.fz).dp (lay_pl h2), lay_sh h1, lay_sh h2, by subst h3; exact q⟩
theorem v_ne : VOp2 K (rNeAll K) neD := by
  intro R vs ss F H x y d1 d2 out Q rel v1 v2 e k
  unfold neD at e
  obtain ⟨b, h, e⟩ := Option.map_eq_some_iff.mp e
  subst e
  have q := endF rel k (.bl (!b))
  rcases eqX_cases h with ⟨a, c, h1, h2, h3, h4⟩ | ⟨h1, h2, h3⟩
  · have e1 := (v1.full rel.fz).sc_of h1
    have e2 := (v2.full rel.fz).sc_of h2
    subst e1; subst e2
    exact .inl ⟨h3, by rw [← h4]; exact q⟩
  · exact .inr ⟨_, _, (v1.full rel.fz).dp (lay_pl h1), (v2.full rel.fz).dp (lay_pl h2), lay_sh h1, lay_sh h2, by subst h3; exact q⟩
/-! ### is None, is True -/
def rIsNB : R2 := fun x y H Q => (y = .non ∧ Q (.bl (decide (x = .non))) H) ∨ rIsB x y H Q
def rNotNB : R2 := fun x y H Q => (y = .non ∧ Q (.bl (!decide (x = .non))) H) ∨ rNotB x y H Q
theorem op_isNB {X : Cx} : OpR X (compareOp .Is) rIsNB := op_isN.or op_isBl
theorem op_notNB {X : Cx} : OpR X (compareOp .IsNot) rNotNB := op_notN.or op_notBl
def isX : Dt → Dt → Option Bool
  | .bl a, .bl b => some (decide (a = b))
  | .non, .non => some true
  | _, .non => some false
  | _, _ => none
@[simp] theorem isX_bl (a b : Bool) : isX (.bl a) (.bl b) = some (decide (a = b)) := rfl
def isD (d e : Dt) : Option Rs := (isX d e).map fun b => .val (.bl b)
def isNotD (d e : Dt) : Option Rs := (isX d e).map fun b => .val (.bl (!b))
theorem isX_cases {F : Hp} {x y : V} {d e : Dt} {b : Bool} (h : isX d e = some b) (rx : Rp K F x d) (ry : Rp K F y e) : (y = .non ∧ b = decide (x = .non)) ∨ ∃ a c : Bool, x = .bl a ∧ y = .bl c ∧ b = decide (a = c) := by
  unfold isX at h
  split at h
  · cases h; exact .inr ⟨_, _, rx.bl_of, ry.bl_of, rfl⟩
  · cases h
    have e1 := rx.non_of
    subst e1
    exact .inl ⟨ry.non_of, (decide_eq_true rfl).symm⟩
  · rename_i hn
    cases h
    refine .inl ⟨ry.non_of, (decide_eq_false fun z => ?_).symm⟩
    subst z
    cases rx
    exact hn rfl
  · cases h
theorem v_is : VOp2 K rIsNB isD := by
  intro R vs ss F H x y d1 d2 out Q rel v1 v2 e k
  unfold isD at e
  obtain ⟨b, h, e⟩ := Option.map_eq_some_iff.mp e
  subst e
  have q := endF rel k (.bl b)
  rcases isX_cases h (v1.full rel.fz) (v2.full rel.fz) with ⟨h1, h2⟩ | ⟨a, c, h1, h2, h3⟩
  · exact .inl ⟨h1, by rw [← h2]; exact q⟩
  · exact .inr ⟨a, c, h1, h2, by rw [← h3]; exact q⟩
theorem v_isNot : VOp2 K rNotNB isNotD := by
  intro R vs ss F H x y d1 d2 out Q rel v1 v2 e k
  unfold isNotD at e
  obtain ⟨b, h, e⟩ := Option.map_eq_some_iff.mp e
  subst e
  have q := endF rel k (.bl (!b))
  rcases isX_cases h (v1.full rel.fz) (v2.full rel.fz) with ⟨h1, h2⟩ | ⟨a, c, h1, h2, h3⟩
  · exact .inl ⟨h1, by rw [← h2]; exact q⟩
  · exact .inr ⟨a, c, h1, h2, by rw [← h3]; exact q⟩
/-! ### in -/
def rInAll (K : PySem.W.Frag) : R2 := fun x y H Q => (∃ i j, x = .str i ∧ y = .str j ∧ Q (.bl (!(Builtin.Str.occurrences j i 0 j.length 1).isEmpty)) H) ∨ rIn K false x y H Q ∨ rInD K x y H Q
def rNotInAll (K : PySem.W.Frag) : R2 := fun x y H Q => (∃ i j, x = .str i ∧ y = .str j ∧ Q (.bl (!(!(Builtin.Str.occurrences j i 0 j.length 1).isEmpty))) H) ∨ rIn K true x y H Q ∨ rNotInD K x y H Q
def Dt.flt : Dt → Bool
  | .non => true
  | .bl _ => true
  | .int _ => true
  | .str _ => true
  | _ => false
def eqF (y x : Dt) : Bool := match y, x with
  | .non, .non => true
  | .bl a, .bl b => a == b
  | .bl a, .int b => (if a then 1 else 0) == b
  | .int a, .bl b => a == (if b then 1 else 0)
  | .int a, .int b => a == b
  | .str a, .str b => a == b
  | _, _ => false
def inF (x : Dt) (xs : List Dt) : Bool := xs.any fun y => eqF y x
def strIn (i j : Str) : Bool := !(Builtin.Str.occurrences j i 0 j.length 1).isEmpty
def inX : Dt → Dt → Option Bool
  | .str i, .str j => some (strIn i j)
  | d, .lst ds => if d.flt = true ∧ ds.all Dt.flt = true then some (inF d ds) else if lay d = true ∧ lay (.lst ds) = true then some (ds.any fun z => eqB z d) else none
  | d, .tup ds => if d.flt = true ∧ ds.all Dt.flt = true then some (inF d ds) else none
  | _, _ => none
def inD (d e : Dt) : Option Rs := (inX d e).map fun b => .val (.bl b)
def notInD (d e : Dt) : Option Rs := (inX d e).map fun b => .val (.bl (!b))
theorem Rp.flt {F : Hp} {v : V} {d : Dt} (h : Rp K F v d) (e : d.flt = true) : flatV v = true := by
  cases h <;> first | rfl | cases e
theorem eqV_F {F : Hp} {x y : V} {d e : Dt} (hx : Rp K F x d) (hy : Rp K F y e) (fd : d.flt = true) (fe : e.flt = true) : eqV y x = eqF e d := by
  cases hx <;> first | (cases fd; done) | skip
  all_goals (cases hy <;> first | (cases fe; done) | rfl)
theorem inV_F {F : Hp} {x : V} {d : Dt} (hx : Rp K F x d) (fd : d.flt = true) : ∀ {ys : List V} {ds : List Dt}, RpAll K F ys ds → ds.all Dt.flt = true → ys.all flatV = true ∧ inV x ys = inF d ds
  | _, _, .nil, _ => ⟨rfl, rfl⟩
  | _, _, .cons a r, f => by
    rw [List.all_cons, Bool.and_eq_true] at f
    obtain ⟨h1, h2⟩ := inV_F hx fd r f.2
    refine ⟨by rw [List.all_cons, a.flt f.1, h1]; rfl, ?_⟩
    unfold inV inF at *
    rw [List.any_cons, List.any_cons, h2, eqV_F hx a fd f.1]
theorem any_toPs (d : Dt) : ∀ ds : List Dt, ((toPs ds).any fun z => PyData.eqv z (toP d)) = ds.any fun z => eqB z d
  | [] => by unfold toPs; rfl
  | e :: ds => by unfold toPs; rw [List.any_cons, List.any_cons, any_toPs d ds]; rfl
theorem inX_cases {F : Hp} {x y : V} {d e : Dt} {b : Bool} (h : inX d e = some b) (rx : Rp K F x d) (ry : Rp K F y e) :
    (∃ i j, x = .str i ∧ y = .str j ∧ b = strIn i j) ∨ (∃ p xs, y = .ref p ∧ (SqL K F p xs ∨ SqT K F p xs) ∧ flatV x = true ∧ xs.all flatV = true ∧ b = inV x xs) ∨
      (∃ d ds, Dp K F x d ∧ Dp K F y (.list ds) ∧ SeqAt.shaped d = true ∧ SeqAt.shaped (.list ds) = true ∧ b = ds.any fun z => PyData.eqv z d) := by
  unfold inX at h
  split at h
  · cases h; exact .inl ⟨_, _, rx.str_of, ry.str_of, rfl⟩
  · rename_i ds
    split at h
    · rename_i hc
      cases h
      cases ry with
      | lst h1 h2 h3 =>
        obtain ⟨g1, g2⟩ := inV_F rx hc.1 h3 hc.2
        exact .inr (.inl ⟨_, _, rfl, .inl (SqL.of h1), rx.flt hc.1, g1, g2.symm⟩)
    · split at h
      · rename_i hc
        cases h
        have e2 : toP (.lst ds) = .list (toPs ds) := by unfold toP; rfl
        refine .inr (.inr ⟨_, _, rx.dp (lay_pl hc.1), e2 ▸ ry.dp (lay_pl hc.2), lay_sh hc.1, e2 ▸ lay_sh hc.2, (any_toPs _ _).symm⟩)
      · cases h
  · rename_i ds
    split at h
    · rename_i hc
      cases h
      cases ry with
      | tup h1 h2 h3 =>
        obtain ⟨g1, g2⟩ := inV_F rx hc.1 h3 hc.2
        exact .inr (.inl ⟨_, _, rfl, .inr h1, rx.flt hc.1, g1, g2.symm⟩)
    · cases h
  · cases h
theorem v_in : VOp2 K (rInAll K) inD := by
  intro R vs ss F H x y d1 d2 out Q rel v1 v2 e k
  unfold inD at e
  obtain ⟨b, h, e⟩ := Option.map_eq_some_iff.mp e
  subst e
  have q := endF rel k (.bl b)
  rcases inX_cases h (v1.full rel.fz) (v2.full rel.fz) with ⟨i, j, h1, h2, h3⟩ | ⟨p, xs, h1, h2, h3, h4, h5⟩ | ⟨d, ds, h1, h2, h3, h4, h5⟩
  · exact .inl ⟨i, j, h1, h2, by rw [h3] at q; exact q⟩
  · exact .inr (.inl ⟨p, xs, h1, h2, h3, h4, by rw [h5] at q; exact q⟩)
  · exact .inr (.inr ⟨d, ds, h1, h2, h3, h4, by rw [h5] at q; exact q⟩)
theorem v_notIn : VOp2 K (rNotInAll K) notInD := by
  intro R vs ss F H x y d1 d2 out Q rel v1 v2 e k
  unfold notInD at e
  obtain ⟨b, h, e⟩ := Option.map_eq_some_iff.mp e
  subst e
  have q := endF rel k (.bl (!b))
  rcases inX_cases h (v1.full rel.fz) (v2.full rel.fz) with ⟨i, j, h1, h2, h3⟩ | ⟨p, xs, h1, h2, h3, h4, h5⟩ | ⟨d, ds, h1, h2, h3, h4, h5⟩
  · exact .inl ⟨i, j, h1, h2, by rw [h3] at q; exact q⟩
  · exact .inr (.inl ⟨p, xs, h1, h2, h3, h4, by rw [h5] at q; exact q⟩)
  · exact .inr (.inr ⟨d, ds, h1, h2, h3, h4, by rw [h5] at q; exact q⟩)
/-! ### items -/
def ixD : Dt → Dt → Option Rs
  | .lst ds, .int i => (atI ds i).map Rs.val
  | .tup ds, .int i => (atI ds i).map Rs.val
  | .scr ns, .int i => (atI ns i).map fun n => .val (.int n)
  | .str z, .int i => if z.length ≤ 16777216 then (atI z.cps.toList i).map fun c => .val (.str ⟨#[c]⟩) else none
  | _, _ => none
@[simp] theorem ixD_lst (ds : List Dt) (i : Int) : ixD (.lst ds) (.int i) = (atI ds i).map Rs.val := rfl
@[simp] theorem ixD_tup (ds : List Dt) (i : Int) : ixD (.tup ds) (.int i) = (atI ds i).map Rs.val := rfl
@[simp] theorem ixD_scr (ds : List Int) (i : Int) : ixD (.scr ds) (.int i) = (atI ds i).map fun n => .val (.int n) := rfl
theorem RpAll.atI {F : Hp} {vs : List V} {ds : List Dt} {i : Int} {d : Dt} (h : RpAll K F vs ds) (e : L2.atI ds i = some d) : ∃ v, L2.atI vs i = some v ∧ Rp K F v d := by
  unfold L2.atI at *
  rw [h.length]
  obtain ⟨j, h1, h2⟩ := Option.bind_eq_some_iff.mp e
  obtain ⟨v, h3, h4⟩ := h.get h2
  exact ⟨v, by rw [h1]; exact h3, h4⟩
theorem atI_map {α β : Type} (f : α → β) (xs : List α) (i : Int) : L2.atI (xs.map f) i = (L2.atI xs i).map f := by
  unfold L2.atI
  rw [List.length_map]
  cases ixN xs.length i with
  | none => rfl
  | some j => simp
theorem v_ix : VOp2 K (rIx K) ixD := by
  intro R vs ss F H x y d1 d2 out Q rel v1 v2 e k
  unfold ixD at e
  split at e
  · rename_i ds i
    obtain ⟨d, h, e⟩ := Option.map_eq_some_iff.mp e
    subst e
    rcases v1 with v1 | ⟨p, xs, es, h1, h2, h3, h4, h5⟩
    · cases v1 with
      | lst a b c =>
        obtain ⟨v, g1, g2⟩ := c.atI h
        exact .inl ⟨_, _, _, v, rfl, v2.int_of, SqL.of (rel.fz _ _ a), g1, endF rel k g2⟩
    · cases h2
      obtain ⟨v, g1, g2⟩ := h5.atI h
      exact .inl ⟨_, _, _, v, h1, v2.int_of, SqL.of h3, g1, endF rel k g2⟩
  · rename_i ds i
    obtain ⟨d, h, e⟩ := Option.map_eq_some_iff.mp e
    subst e
    obtain ⟨p, xs, h1, h2, h3, h4⟩ := v1.tup_of rel.fz
    obtain ⟨v, g1, g2⟩ := h4.atI h
    exact .inr (.inl ⟨_, _, _, v, h1, v2.int_of, ex_t rel.fz h2, g1, endF rel k g2⟩)
  · rename_i ns i
    obtain ⟨n, h, e⟩ := Option.map_eq_some_iff.mp e
    subst e
    rcases v1 with v1 | ⟨p, xs, es, h1, h2, h3, h4, h5⟩
    · cases v1 with
      | scr a =>
        refine .inl ⟨_, _, _, .int n, rfl, v2.int_of, Evl.ex_l rel.fz a, ?_, endF rel k (.int n)⟩
        rw [atI_map, h] <;> rfl
    · cases h2
  · rename_i z i
    split at e
    · rename_i hz
      obtain ⟨c, h, e⟩ := Option.map_eq_some_iff.mp e
      subst e
      exact .inr (.inr ⟨z, i, c, v1.str_of, v2.int_of, line_of hz, h, endF rel k (.str _)⟩)
    · cases e
  · cases e
/-! ### - of an int -/
def negD : Dt → Option Rs
  | .int i => some (.val (.int (-i)))
  | _ => none
@[simp] theorem negD_int (i : Int) : negD (.int i) = some (.val (.int (-i))) := rfl
theorem v_neg : VOp1 K (rU fun i => .int (-i)) negD := by
  intro R vs ss F H x d1 out Q rel v1 e k
  unfold negD at e
  split at e
  · cases e; exact ⟨_, v1.int_of, endF rel k (.int _)⟩
  · cases e
end
end FX

/-! FX8: built-ins by data, slices, methods. -/
namespace FX
open PySem L2 PyProof.Rows
open Evl (Ex ex_t ex_l)
section
variable {K : PySem.W.Frag} {mg : Str → Option Value} {R : RC} {F F' H H' : Hp}
variable {σ : L2.St} {τ t2 : List (Option V)} {ρ θ s2 : Sl} {W : WX}
def derefAll (ρ : Sl) : List Rs → Option (List Dt)
  | [] => some []
  | r :: rs => (deref ρ r).bind fun d => (derefAll ρ rs).bind fun ds => some (d :: ds)
@[simp] theorem derefAll_nil (ρ : Sl) : derefAll ρ [] = some [] := rfl
@[simp] theorem derefAll_cons (ρ : Sl) (r : Rs) (rs : List Rs) : derefAll ρ (r :: rs) = (deref ρ r).bind fun d => (derefAll ρ rs).bind fun ds => some (d :: ds) := rfl
inductive RpVs (K : PySem.W.Frag) (F H : Hp) : List V → List Dt → Prop
  | nil : RpVs K F H [] []
  | cons {v : V} {vs : List V} {d : Dt} {ds : List Dt} : RpV K F H v d → RpVs K F H vs ds → RpVs K F H (v :: vs) (d :: ds)
theorem At.views : ∀ {rs : List Rs} {xs : List V} {ds : List Dt} {τ : List (Option V)} {θ : Sl}, At K R σ (τ ++ xs.map some) ρ (θ ++ rs.map Rs.slot) F H → τ.length = θ.length → RsAt σ xs rs → derefAll ρ rs = some ds → RpVs K F H xs ds
  | [], [], ds, _, _, _, _, _, h => by cases h; exact .nil
  | [], _ :: _, _, _, _, _, _, h, _ => h.elim
  | _ :: _, [], _, _, _, _, _, h, _ => h.elim
  | r :: rs, x :: xs, ds, τ, θ, a, hl, hr, h => by
    obtain ⟨d, h1, h⟩ := Option.bind_eq_some_iff.mp h
    obtain ⟨es, h2, h⟩ := Option.bind_eq_some_iff.mp h
    cases h
    refine .cons (a.view (k := τ.length) (by simp) (by simp [hl]) hr.1 h1) (At.views (τ := τ ++ [some x]) (θ := θ ++ [r.slot]) (by simpa using a) (by simp [hl]) hr.2 h2)
def VOpN (K : PySem.W.Frag) (r : List V → Hp → VK → Prop) (opf : List Dt → Option Rs) : Prop :=
  ∀ (R : RC) (vs : List (Option V)) (ss : Sl) (F H : Hp) (xs : List V) (ds : List Dt) (out : Rs) (Q : VK), Rel K R vs ss F H → RpVs K F H xs ds → opf ds = some out →
    (∀ v F' H', Rel K R (vs ++ [some v]) (ss ++ [out.slot]) F' H' → (∀ σ, out.at σ v) → Q v H') → r xs H Q
def blt1 (opf : List Dt → Option Rs) (rs : List Rs) (ρ : Sl) : O (Rs × Sl) := match derefAll ρ rs with
  | some ds => (O.of (opf ds)).bind fun o => .ok (o, ρ)
  | none => .bad
def eBlt (opf : List Dt → Option Rs) (fa : Sl → O (List Rs × Sl)) : Sl → O (Rs × Sl) := fun ρ => (fa ρ).bind fun q => blt1 opf q.1 q.2
theorem de_blt {r : List V → Hp → VK → Prop} {opf : List Dt → Option Rs} {fa : Sl → O (List Rs × Sl)} {Q : VK} (hv : VOpN K r opf) (h : dE K mg W (eBlt opf fa) σ H Q) : tCB r (dA K mg W fa) σ H Q := by
  obtain ⟨R, τ, θ, ρ, F, a, h⟩ := h
  refine dA_bind (kB := kE K mg W R σ τ θ Q) a.nil rfl kE_x kE_b h fun rs ρ1 xs F1 H1 a1 hr1 h1 => ?_
  simp only [List.nil_append] at a1
  unfold blt1 at h1
  cases e : derefAll ρ1 rs with
  | none => simp only [e] at h1; exact h1.elim
  | some ds =>
    simp only [e] at h1
    cases e3 : opf ds with
    | none => rw [e3] at h1; exact h1.elim
    | some o =>
      rw [e3] at h1
      exact hv R _ _ F1 H1 xs ds o Q (a1.drop (t2 := xs.map some) (s2 := rs.map Rs.slot) (by simp [hr1.length])).rel (a1.views a.tlen hr1 e) e3 fun v F' H' hrel hat => h1 v F' H' (At.of_rel hrel a1.len) (hat σ)
/-! ### methods that change nothing -/
def Dt.ty : Dt → String
  | .str _ => "str"
  | .lst _ => "list"
  | .scr _ => "list"
  | .int _ => "int"
  | _ => ""
def VOpM (K : PySem.W.Frag) (r : V → List V → Hp → VK → Prop) (opf : Dt → List Dt → Option Rs) : Prop :=
  ∀ (R : RC) (vs : List (Option V)) (ss : Sl) (F H : Hp) (x : V) (xs : List V) (d : Dt) (ds : List Dt) (out : Rs) (Q : VK), Rel K R vs ss F H → RpV K F H x d → RpVs K F H xs ds → opf d ds = some out →
    (∀ v F' H', Rel K R (vs ++ [some v]) (ss ++ [out.slot]) F' H' → (∀ σ, out.at σ v) → Q v H') → r x xs H Q
def met1 (opf : Dt → List Dt → Option Rs) (r : Rs) (rs : List Rs) (ρ : Sl) : O (Rs × Sl) := match deref ρ r, derefAll ρ rs with
  | some d, some ds => (O.of (opf d ds)).bind fun o => .ok (o, ρ)
  | _, _ => .bad
def eMet (T : String) (opf : Dt → List Dt → Option Rs) (f : Sl → O (Rs × Sl)) (fa : Sl → O (List Rs × Sl)) : Sl → O (Rs × Sl) := fun ρ => (f ρ).bind fun q => match deref q.2 q.1 with
  | some d => if d.ty = T then (fa q.2).bind fun q2 => met1 opf q.1 q2.1 q2.2 else .bad
  | none => .bad
theorem ty_ok {T : String} {v : V} {d : Dt} (hT : T = "str" ∨ T = "list" ∨ T = "int") (h : RpV K F H v d) (e : Ex F H) (ht : d.ty = T) : tyV K T v H := by
  rcases h with h | ⟨p, xs, ds, rfl, rfl, h1, h2, h3⟩
  · cases h with
    | str x => exact ht.symm
    | int x => exact ht.symm
    | lst a b c => exact .inl ⟨ht.symm, _, SqL.of (e _ _ a)⟩
    | scr a => exact .inl ⟨ht.symm, _, ex_l e a⟩
    | non => rcases hT with z | z | z <;> (rw [← ht] at z; exact absurd (show ("" : String) = _ from z) (by decide))
    | bl b => rcases hT with z | z | z <;> (rw [← ht] at z; exact absurd (show ("" : String) = _ from z) (by decide))
    | tup a b c => rcases hT with z | z | z <;> (rw [← ht] at z; exact absurd (show ("" : String) = _ from z) (by decide))
    | emp a => rcases hT with z | z | z <;> (rw [← ht] at z; exact absurd (show ("" : String) = _ from z) (by decide))
  · exact .inl ⟨ht.symm, _, SqL.of h1⟩
theorem de_met {T : String} (hT : T = "str" ∨ T = "list" ∨ T = "int") {r : V → List V → Hp → VK → Prop} {opf : Dt → List Dt → Option Rs} {f : Sl → O (Rs × Sl)} {fa : Sl → O (List Rs × Sl)} {Q : VK} (hv : VOpM K r opf) (h : dE K mg W (eMet T opf f fa) σ H Q) : tBM K T r (dE K mg W f) (dA K mg W fa) σ H Q := by
  obtain ⟨R, τ, θ, ρ, F, a, h⟩ := h
  refine dE_bind (kB := kE K mg W R σ τ θ Q) a.nil rfl kE_x kE_b h fun r1 ρ1 x F1 H1 a1 hr1 h1 => ?_
  simp only [List.nil_append] at a1
  have ht := a.tlen
  cases e1 : deref ρ1 r1 with
  | none => simp only [e1] at h1; exact h1.elim
  | some d1 =>
    simp only [e1] at h1
    split at h1
    · rename_i hty
      have v1 := a1.view (k := τ.length) (by simp) (by simp [ht]) hr1 e1
      refine ⟨ty_ok hT v1 a1.rel.fz hty, ?_⟩
      refine dA_bind (kB := kE K mg W R σ τ θ Q) a1 rfl kE_x kE_b h1 fun rs ρ2 xs F2 H2 a2 hr2 h2 => ?_
      unfold met1 at h2
      cases e2 : deref ρ2 r1 with
      | none => simp only [e2] at h2; exact h2.elim
      | some d2 =>
        cases e3 : derefAll ρ2 rs with
        | none => simp only [e2, e3] at h2; exact h2.elim
        | some ds =>
          simp only [e2, e3] at h2
          cases e4 : opf d2 ds with
          | none => rw [e4] at h2; exact h2.elim
          | some o =>
            rw [e4] at h2
            have v2 := a2.view (v := x) (k := τ.length) (by simp) (by simp [ht]) hr1 e2
            have a3 : At K R σ ((τ ++ [some x]) ++ xs.map some) ρ2 ((θ ++ [r1.slot]) ++ rs.map Rs.slot) F2 H2 := by simpa using a2
            have v3 := a3.views (by simp [ht]) hr2 e3
            exact hv R _ _ F2 H2 x xs d2 ds o Q (a2.drop (t2 := [some x] ++ xs.map some) (s2 := [r1.slot] ++ rs.map Rs.slot) (by simp [hr2.length])).rel v2 v3 e4 fun v F' H' hrel hat => h2 v F' H' (At.of_rel hrel a2.len) (hat σ)
    · exact h1.elim
theorem de_met0 {T : String} (hT : T = "str" ∨ T = "list" ∨ T = "int") {r : V → List V → Hp → VK → Prop} {opf : Dt → List Dt → Option Rs} {f : Sl → O (Rs × Sl)} {Q : VK} (hv : VOpM K r opf) (h : dE K mg W (eMet T opf f aNil) σ H Q) : tBM0 K T r (dE K mg W f) σ H Q := by
  obtain ⟨R, τ, θ, ρ, F, a, h⟩ := h
  refine dE_bind (kB := kE K mg W R σ τ θ Q) a.nil rfl kE_x kE_b h fun r1 ρ1 x F1 H1 a1 hr1 h1 => ?_
  simp only [List.nil_append] at a1
  have ht := a.tlen
  cases e1 : deref ρ1 r1 with
  | none => simp only [e1] at h1; exact h1.elim
  | some d1 =>
    simp only [e1] at h1
    split at h1
    · rename_i hty
      have v1 := a1.view (k := τ.length) (by simp) (by simp [ht]) hr1 e1
      refine ⟨ty_ok hT v1 a1.rel.fz hty, ?_⟩
      simp only [aNil, O.bind_ok] at h1
      unfold met1 at h1
      simp only [e1, derefAll_nil] at h1
      cases e4 : opf d1 [] with
      | none => rw [e4] at h1; exact h1.elim
      | some o =>
        rw [e4] at h1
        exact hv R _ _ F1 H1 x [] d1 [] o Q (a1.drop (t2 := [some x]) (s2 := [r1.slot]) rfl).rel v1 .nil e4 fun v F' H' hrel hat => h1 v F' H' (At.of_rel hrel a1.len) (hat σ)
    · exact h1.elim

/-! ### built-ins -/
theorem RpVs.one_of {xs : List V} {d : Dt} (h : RpVs K F H xs [d]) : ∃ x, xs = [x] ∧ RpV K F H x d := by
  cases h with
  | cons a r => cases r; exact ⟨_, rfl, a⟩
theorem RpVs.two_of {xs : List V} {d e : Dt} (h : RpVs K F H xs [d, e]) : ∃ x y, xs = [x, y] ∧ RpV K F H x d ∧ RpV K F H y e := by
  cases h with
  | cons a r =>
    cases r with
    | cons b r => cases r; exact ⟨_, _, rfl, a, b⟩
/-- len -/
def lenD : List Dt → Option Rs
  | [.lst ds] => some (.val (.int ds.length))
  | [.tup ds] => some (.val (.int ds.length))
  | [.scr ns] => some (.val (.int ns.length))
  | [.str z] => if z.length ≤ 16777216 then some (.val (.int z.length)) else none
  | _ => none
@[simp] theorem lenD_lst (ds : List Dt) : lenD [.lst ds] = some (.val (.int ds.length)) := rfl
@[simp] theorem lenD_tup (ds : List Dt) : lenD [.tup ds] = some (.val (.int ds.length)) := rfl
@[simp] theorem lenD_scr (ds : List Int) : lenD [.scr ds] = some (.val (.int ds.length)) := rfl
@[simp] theorem lenD_str (z : Str) : lenD [.str z] = if z.length ≤ 16777216 then some (.val (.int z.length)) else none := rfl
def rLenAll (K : PySem.W.Frag) : List V → Hp → VK → Prop := fun xs H Q => (∃ p ys, xs = [.ref p] ∧ (SqL K H p ys ∨ SqT K H p ys) ∧ Q (.int ys.length) H) ∨ (∃ z, xs = [.str z] ∧ z.length ≤ sizeLine ∧ Q (.int z.length) H)
theorem cr_lenAll {X : Cx} : CallR X (.builtin "len") (rLenAll X.K) := call_len_seq.or call_len_str
theorem v_len : VOpN K (rLenAll K) lenD := by
  intro R vs ss F H xs ds out Q rel hv e k
  unfold lenD at e
  split at e
  · cases e
    obtain ⟨x, rfl, v⟩ := hv.one_of
    obtain ⟨p, ys, h1, h2, h3, h4⟩ := v.lst_of rel.fz
    exact .inl ⟨p, ys, by rw [h1], .inl (SqL.of h2), by rw [h4.length]; exact endF rel k (.int _)⟩
  · cases e
    obtain ⟨x, rfl, v⟩ := hv.one_of
    obtain ⟨p, ys, h1, h2, h3, h4⟩ := v.tup_of rel.fz
    exact .inl ⟨p, ys, by rw [h1], .inr (ex_t rel.fz h2), by rw [h4.length]; exact endF rel k (.int _)⟩
  · rename_i ns
    cases e
    obtain ⟨x, rfl, v⟩ := hv.one_of
    have v := v.full rel.fz
    cases v with
    | scr a => exact .inl ⟨_, _, rfl, .inl a, by rw [List.length_map]; exact endF rel k (.int _)⟩
  · split at e
    · rename_i z hz
      cases e
      obtain ⟨x, rfl, v⟩ := hv.one_of
      exact .inr ⟨z, by rw [v.str_of], line_of hz, endF rel k (.int _)⟩
    · cases e
  · cases e
/-- abs -/
def absD : List Dt → Option Rs
  | [.int i] => some (.val (.int (if i < 0 then -i else i)))
  | _ => none
@[simp] theorem absD_int (i : Int) : absD [.int i] = some (.val (.int (if i < 0 then -i else i))) := rfl
theorem v_abs : VOpN K (fun xs H Q => ∃ i, xs = [.int i] ∧ Q (.int (if i < 0 then -i else i)) H) absD := by
  intro R vs ss F H xs ds out Q rel hv e k
  unfold absD at e
  split at e
  · cases e
    obtain ⟨x, rfl, v⟩ := hv.one_of
    exact ⟨_, by rw [v.int_of], endF rel k (.int _)⟩
  · cases e
/-- int of an int or a bool -/
def intD : List Dt → Option Rs
  | [.int i] => some (.val (.int i))
  | [.bl b] => some (.val (.int (if b then 1 else 0)))
  | _ => none
@[simp] theorem intD_int (i : Int) : intD [.int i] = some (.val (.int i)) := rfl
@[simp] theorem intD_bl (b : Bool) : intD [.bl b] = some (.val (.int (if b then 1 else 0))) := rfl
theorem v_int : VOpN K (fun xs H Q => (∃ i, xs = [.int i] ∧ Q (.int i) H) ∨ ∃ k, xs = [.bl k] ∧ Q (.int (if k then 1 else 0)) H) intD := by
  intro R vs ss F H xs ds out Q rel hv e k
  unfold intD at e
  split at e
  · cases e
    obtain ⟨x, rfl, v⟩ := hv.one_of
    exact .inl ⟨_, by rw [v.int_of], endF rel k (.int _)⟩
  · cases e
    obtain ⟨x, rfl, v⟩ := hv.one_of
    exact .inr ⟨_, by rw [v.bl_of], endF rel k (.int _)⟩
  · cases e
/-- the ints of a list of data -/
def allInts : List Dt → Option (List Int)
  | [] => some []
  | .int i :: ds => (allInts ds).map (i :: ·)
  | _ => none
theorem allInts_of : ∀ {ds : List Dt} {ns : List Int}, allInts ds = some ns → ds = ns.map Dt.int
  | [], _, h => by cases h; rfl
  | .int i :: ds, _, h => by
    obtain ⟨ns, h1, h2⟩ := Option.map_eq_some_iff.mp h
    subst h2
    rw [List.map_cons, allInts_of h1]
  | .non :: _, _, h => by cases h
  | .bl _ :: _, _, h => by cases h
  | .str _ :: _, _, h => by cases h
  | .tup _ :: _, _, h => by cases h
  | .lst _ :: _, _, h => by cases h
  | .scr _ :: _, _, h => by cases h
  | .emp :: _, _, h => by cases h
@[simp] theorem allInts_map : ∀ ns : List Int, allInts (ns.map Dt.int) = some ns
  | [] => rfl
  | n :: ns => by show (allInts (ns.map Dt.int)).map _ = _; rw [allInts_map ns] <;> rfl
def maxL : List Int → Option Int
  | [] => none
  | n :: ns => some (ns.foldl (fun m x => if x > m then x else m) n)
def minL : List Int → Option Int
  | [] => none
  | n :: ns => some (ns.foldl (fun m x => if x < m then x else m) n)
theorem foldmax_ge : ∀ (ns : List Int) (m : Int), m ≤ ns.foldl (fun m x => if x > m then x else m) m ∧ (∀ y ∈ ns, y ≤ ns.foldl (fun m x => if x > m then x else m) m) ∧ (ns.foldl (fun m x => if x > m then x else m) m = m ∨ ns.foldl (fun m x => if x > m then x else m) m ∈ ns)
  | [], m => ⟨Int.le_refl _, fun _ h => (by cases h), .inl rfl⟩
  | n :: ns, m => by
    obtain ⟨h1, h2, h3⟩ := foldmax_ge ns (if n > m then n else m)
    rw [List.foldl_cons]
    refine ⟨?_, fun y hy => ?_, ?_⟩
    · by_cases c : n > m
      · rw [if_pos c] at h1 ⊢; omega
      · rw [if_neg c] at h1 ⊢; omega
    · rcases List.mem_cons.mp hy with e | e
      · subst e
        by_cases c : y > m
        · rw [if_pos c] at h1 ⊢; omega
        · rw [if_neg c] at h1 ⊢; omega
      · exact h2 y e
    · by_cases c : n > m
      · rw [if_pos c] at h3 ⊢
        rcases h3 with h3 | h3
        · exact .inr (by rw [h3]; exact List.mem_cons_self)
        · exact .inr (List.mem_cons_of_mem _ h3)
      · rw [if_neg c] at h3 ⊢
        rcases h3 with h3 | h3
        · exact .inl h3
        · exact .inr (List.mem_cons_of_mem _ h3)
theorem foldmin_le : ∀ (ns : List Int) (m : Int), ns.foldl (fun m x => if x < m then x else m) m ≤ m ∧ (∀ y ∈ ns, ns.foldl (fun m x => if x < m then x else m) m ≤ y) ∧ (ns.foldl (fun m x => if x < m then x else m) m = m ∨ ns.foldl (fun m x => if x < m then x else m) m ∈ ns)
  | [], m => ⟨Int.le_refl _, fun _ h => (by cases h), .inl rfl⟩
  | n :: ns, m => by
    obtain ⟨h1, h2, h3⟩ := foldmin_le ns (if n < m then n else m)
    rw [List.foldl_cons]
    refine ⟨?_, fun y hy => ?_, ?_⟩
    · by_cases c : n < m
      · rw [if_pos c] at h1 ⊢; omega
      · rw [if_neg c] at h1 ⊢; omega
    · rcases List.mem_cons.mp hy with e | e
      · subst e
        by_cases c : y < m
        · rw [if_pos c] at h1 ⊢; omega
        · rw [if_neg c] at h1 ⊢; omega
      · exact h2 y e
    · by_cases c : n < m
      · rw [if_pos c] at h3 ⊢
        rcases h3 with h3 | h3
        · exact .inr (by rw [h3]; exact List.mem_cons_self)
        · exact .inr (List.mem_cons_of_mem _ h3)
      · rw [if_neg c] at h3 ⊢
        rcases h3 with h3 | h3
        · exact .inl h3
        · exact .inr (List.mem_cons_of_mem _ h3)
theorem maxL_ok {ns : List Int} {m : Int} (h : maxL ns = some m) : m ∈ ns ∧ ∀ y ∈ ns, y ≤ m := by
  cases ns with
  | nil => cases h
  | cons n ns =>
    have e : ns.foldl (fun m x => if x > m then x else m) n = m := Option.some.inj h
    obtain ⟨h1, h2, h3⟩ := foldmax_ge ns n
    rw [e] at h1 h2 h3
    refine ⟨?_, fun y hy => ?_⟩
    · rcases h3 with h3 | h3
      · rw [h3]; exact List.mem_cons_self
      · exact List.mem_cons_of_mem _ h3
    · rcases List.mem_cons.mp hy with e | e
      · rw [e]; exact h1
      · exact h2 y e
theorem minL_ok {ns : List Int} {m : Int} (h : minL ns = some m) : m ∈ ns ∧ ∀ y ∈ ns, m ≤ y := by
  cases ns with
  | nil => cases h
  | cons n ns =>
    have e : ns.foldl (fun m x => if x < m then x else m) n = m := Option.some.inj h
    obtain ⟨h1, h2, h3⟩ := foldmin_le ns n
    rw [e] at h1 h2 h3
    refine ⟨?_, fun y hy => ?_⟩
    · rcases h3 with h3 | h3
      · rw [h3]; exact List.mem_cons_self
      · exact List.mem_cons_of_mem _ h3
    · rcases List.mem_cons.mp hy with e | e
      · rw [e]; exact h1
      · exact h2 y e
theorem RpV.ints_of {F H : Hp} {v : V} {ns : List Int} (e : Ex F H) (h : RpV K F H v (.lst (ns.map Dt.int))) : ∃ p, v = .ref p ∧ SqL K H p (ns.map V.int) := by
  obtain ⟨p, xs, h1, h2, _, h4⟩ := h.lst_of e
  rw [h4.ints_of] at h2
  exact ⟨p, h1, SqL.of h2⟩
/-- the ints of what is shown: a list of ints, the script -/
def intsOf : Dt → Option (List Int)
  | .lst ds => allInts ds
  | .scr ns => some ns
  | _ => none
@[simp] theorem intsOf_lst (ds : List Dt) : intsOf (.lst ds) = allInts ds := rfl
@[simp] theorem intsOf_scr (ns : List Int) : intsOf (.scr ns) = some ns := rfl
theorem intsOf_ok {F H : Hp} {v : V} {d : Dt} {ns : List Int} (e : Ex F H) (h : RpV K F H v d) (hd : intsOf d = some ns) : ∃ p, v = .ref p ∧ SqL K H p (ns.map V.int) := by
  cases d with
  | lst ds =>
    have e1 := allInts_of hd
    subst e1
    exact h.ints_of e
  | scr ms =>
    cases hd
    have h := h.full e
    cases h with
    | scr a => exact ⟨_, rfl, a⟩
  | _ => cases hd
def sumD : List Dt → Option Rs
  | [d] => (intsOf d).map fun ns => .val (.int ns.sum)
  | _ => none
@[simp] theorem sumD_one (d : Dt) : sumD [d] = (intsOf d).map fun ns => .val (.int ns.sum) := rfl
theorem v_sum : VOpN K (rSum K) sumD := by
  intro R vs ss F H xs ds out Q rel hv e k
  unfold sumD at e
  split at e
  · obtain ⟨ns, h1, h2⟩ := Option.map_eq_some_iff.mp e
    subst h2
    obtain ⟨x, rfl, v⟩ := hv.one_of
    obtain ⟨p, e1, e2⟩ := intsOf_ok rel.fz v h1
    exact ⟨p, ns, by rw [e1], e2, endF rel k (.int _)⟩
  · cases e
def maxD : List Dt → Option Rs
  | [d] => ((intsOf d).bind maxL).map fun m => .val (.int m)
  | [.int i, .int j] => some (.val (.int (if j > i then j else i)))
  | _ => none
def minD : List Dt → Option Rs
  | [d] => ((intsOf d).bind minL).map fun m => .val (.int m)
  | [.int i, .int j] => some (.val (.int (if j < i then j else i)))
  | _ => none
@[simp] theorem maxD_one (d : Dt) : maxD [d] = ((intsOf d).bind maxL).map fun m => .val (.int m) := by cases d <;> rfl
@[simp] theorem minD_one (d : Dt) : minD [d] = ((intsOf d).bind minL).map fun m => .val (.int m) := by cases d <;> rfl
@[simp] theorem maxD_two (i j : Int) : maxD [.int i, .int j] = some (.val (.int (if j > i then j else i))) := rfl
@[simp] theorem minD_two (i j : Int) : minD [.int i, .int j] = some (.val (.int (if j < i then j else i))) := rfl
def rMaxAll (K : PySem.W.Frag) : List V → Hp → VK → Prop := fun xs H Q => rMax K xs H Q ∨ ∃ i j, xs = [.int i, .int j] ∧ Q (.int (if j > i then j else i)) H
def rMinAll (K : PySem.W.Frag) : List V → Hp → VK → Prop := fun xs H Q => rMin K xs H Q ∨ ∃ i j, xs = [.int i, .int j] ∧ Q (.int (if j < i then j else i)) H
theorem cr_maxAll {X : Cx} (hc : X.calm = true) : CallR X (.builtin "max") (rMaxAll X.K) := (cr_max hc).or (call_max2 hc)
theorem cr_minAll {X : Cx} (hc : X.calm = true) : CallR X (.builtin "min") (rMinAll X.K) := (cr_min hc).or (call_min2 hc)
theorem v_max : VOpN K (rMaxAll K) maxD := by
  intro R vs ss F H xs ds out Q rel hv e k
  unfold maxD at e
  split at e
  · rename_i d
    obtain ⟨m, h1, h2⟩ := Option.map_eq_some_iff.mp e
    obtain ⟨ns, h1, h3⟩ := Option.bind_eq_some_iff.mp h1
    subst h2
    obtain ⟨x, rfl, v⟩ := hv.one_of
    obtain ⟨p, e1, e2⟩ := intsOf_ok rel.fz v h1
    obtain ⟨g1, g2⟩ := maxL_ok h3
    refine .inl ⟨p, ns, by rw [e1], e2, List.length_pos_of_mem g1, fun m' hm hle => ?_⟩
    have : m' = m := Int.le_antisymm (g2 _ hm) (hle _ g1)
    subst this
    exact endF rel k (.int _)
  · cases e
    obtain ⟨x, y, rfl, v1, v2⟩ := hv.two_of
    exact .inr ⟨_, _, by rw [v1.int_of, v2.int_of], endF rel k (.int _)⟩
  · cases e
theorem v_min : VOpN K (rMinAll K) minD := by
  intro R vs ss F H xs ds out Q rel hv e k
  unfold minD at e
  split at e
  · rename_i d
    obtain ⟨m, h1, h2⟩ := Option.map_eq_some_iff.mp e
    obtain ⟨ns, h1, h3⟩ := Option.bind_eq_some_iff.mp h1
    subst h2
    obtain ⟨x, rfl, v⟩ := hv.one_of
    obtain ⟨p, e1, e2⟩ := intsOf_ok rel.fz v h1
    obtain ⟨g1, g2⟩ := minL_ok h3
    refine .inl ⟨p, ns, by rw [e1], e2, List.length_pos_of_mem g1, fun m' hm hle => ?_⟩
    have : m' = m := Int.le_antisymm (hle _ g1) (g2 _ hm)
    subst this
    exact endF rel k (.int _)
  · cases e
    obtain ⟨x, y, rfl, v1, v2⟩ := hv.two_of
    exact .inr ⟨_, _, by rw [v1.int_of, v2.int_of], endF rel k (.int _)⟩
  · cases e
def allBls : List Dt → Option (List Bool)
  | [] => some []
  | .bl i :: ds => (allBls ds).map (i :: ·)
  | _ => none
theorem allBls_of : ∀ {ds : List Dt} {ns : List Bool}, allBls ds = some ns → ds = ns.map Dt.bl
  | [], _, h => by cases h; rfl
  | .bl i :: ds, _, h => by
    obtain ⟨ns, h1, h2⟩ := Option.map_eq_some_iff.mp h
    subst h2
    rw [List.map_cons, allBls_of h1]
  | .non :: _, _, h => by cases h
  | .int _ :: _, _, h => by cases h
  | .str _ :: _, _, h => by cases h
  | .tup _ :: _, _, h => by cases h
  | .lst _ :: _, _, h => by cases h
  | .scr _ :: _, _, h => by cases h
  | .emp :: _, _, h => by cases h
@[simp] theorem allBls_map : ∀ ns : List Bool, allBls (ns.map Dt.bl) = some ns
  | [] => rfl
  | n :: ns => by show (allBls (ns.map Dt.bl)).map _ = _; rw [allBls_map ns] <;> rfl
def allD : List Dt → Option Rs
  | [.lst ds] => (allBls ds).map fun bs => .val (.bl (bs.all id))
  | _ => none
def anyD : List Dt → Option Rs
  | [.lst ds] => (allBls ds).map fun bs => .val (.bl (bs.any id))
  | _ => none
@[simp] theorem allD_lst (ds : List Dt) : allD [.lst ds] = (allBls ds).map fun bs => .val (.bl (bs.all id)) := rfl
@[simp] theorem anyD_lst (ds : List Dt) : anyD [.lst ds] = (allBls ds).map fun bs => .val (.bl (bs.any id)) := rfl
theorem v_all : VOpN K (rAll K) allD := by
  intro R vs ss F H xs ds out Q rel hv e k
  unfold allD at e
  split at e
  · obtain ⟨ns, h1, h2⟩ := Option.map_eq_some_iff.mp e
    subst h2
    obtain ⟨x, rfl, v⟩ := hv.one_of
    obtain ⟨p, ys, g1, g2, _, g4⟩ := v.lst_of rel.fz
    rw [allBls_of h1] at g4
    rw [g4.bls_of] at g2
    exact ⟨p, ns, by rw [g1], SqL.of g2, endF rel k (.bl _)⟩
  · cases e
theorem v_any : VOpN K (rAny K) anyD := by
  intro R vs ss F H xs ds out Q rel hv e k
  unfold anyD at e
  split at e
  · obtain ⟨ns, h1, h2⟩ := Option.map_eq_some_iff.mp e
    subst h2
    obtain ⟨x, rfl, v⟩ := hv.one_of
    obtain ⟨p, ys, g1, g2, _, g4⟩ := v.lst_of rel.fz
    rw [allBls_of h1] at g4
    rw [g4.bls_of] at g2
    exact ⟨p, ns, by rw [g1], SqL.of g2, endF rel k (.bl _)⟩
  · cases e
/-- list(..), tuple(..) -/
def listD : List Dt → Option Rs
  | [.lst ds] => some (.own ds)
  | [.tup ds] => some (.own ds)
  | _ => none
@[simp] theorem listD_lst (ds : List Dt) : listD [.lst ds] = some (.own ds) := rfl
@[simp] theorem listD_tup (ds : List Dt) : listD [.tup ds] = some (.own ds) := rfl
/-- the items of a list in view, frozen -/
theorem RpV.items {F H : Hp} {v : V} {ds : List Dt} (e : Ex F H) (h : RpV K F H v (.lst ds)) : ∃ p xs, v = .ref p ∧ SqL K H p xs ∧ xs.length ≤ sizeLine ∧ RpAll K F xs ds := by
  obtain ⟨p, xs, h1, h2, h3, h4⟩ := h.lst_of e
  exact ⟨p, xs, h1, SqL.of h2, h3, h4⟩
def rListOf (K : PySem.W.Frag) : List V → Hp → VK → Prop := fun xs H Q => ∃ p ys, xs = [.ref p] ∧ (SqL K H p ys ∨ SqT K H p ys) ∧ ∀ l, H l = none → Q (.ref l) (upd H l (.lst ys))
theorem v_list : VOpN K (rListOf K) listD := by
  intro R vs ss F H xs ds out Q rel hv e k
  unfold listD at e
  split at e
  · cases e
    obtain ⟨x, rfl, v⟩ := hv.one_of
    obtain ⟨p, ys, h1, h2, h3, h4⟩ := v.items rel.fz
    exact ⟨p, ys, by rw [h1], .inl h2, fun l hl => endL rel k h4 h3 hl⟩
  · cases e
    obtain ⟨x, rfl, v⟩ := hv.one_of
    obtain ⟨p, ys, h1, h2, h3, h4⟩ := v.tup_of rel.fz
    exact ⟨p, ys, by rw [h1], .inr (ex_t rel.fz h2), fun l hl => endL rel k h4 h3 hl⟩
  · cases e
def tupleD : List Dt → Option Rs
  | [.lst ds] => some (.val (.tup ds))
  | [.tup ds] => some (.val (.tup ds))
  | _ => none
@[simp] theorem tupleD_lst (ds : List Dt) : tupleD [.lst ds] = some (.val (.tup ds)) := rfl
@[simp] theorem tupleD_tup (ds : List Dt) : tupleD [.tup ds] = some (.val (.tup ds)) := rfl
def rTupleOf (K : PySem.W.Frag) : List V → Hp → VK → Prop := fun xs H Q => ∃ p ys, xs = [.ref p] ∧ ((SqL K H p ys ∧ ∀ l, H l = none → Q (.ref l) (upd H l (.tup ys))) ∨ (SqT K H p ys ∧ Q (.ref p) H))
theorem v_tuple : VOpN K (rTupleOf K) tupleD := by
  intro R vs ss F H xs ds out Q rel hv e k
  unfold tupleD at e
  split at e
  · cases e
    obtain ⟨x, rfl, v⟩ := hv.one_of
    obtain ⟨p, ys, h1, h2, h3, h4⟩ := v.items rel.fz
    exact ⟨p, ys, by rw [h1], .inl ⟨h2, fun l hl => endT rel k h4 h3 hl⟩⟩
  · cases e
    obtain ⟨x, rfl, v⟩ := hv.one_of
    obtain ⟨p, ys, h1, h2, h3, h4⟩ := v.tup_of rel.fz
    exact ⟨p, ys, by rw [h1], .inr ⟨ex_t rel.fz h2, endF rel k (.tup h2 h3 h4)⟩⟩
  · cases e
/-! ### count -/
theorem countP_eqU {x : V} : ∀ {xs : List V} {us : List Value}, Vals xs us → xs.all flatV = true → us.countP (eqU x) = xs.countP fun y => eqV y x
  | _, _, .nil, _ => rfl
  | _, _, .cons r t, f => by
    rw [List.all_cons, Bool.and_eq_true] at f
    rw [List.countP_cons, List.countP_cons, countP_eqU t f.2, eqU_of r f.1]
def rCntF (K : PySem.W.Frag) : V → List V → Hp → VK → Prop := fun x xs H Q => ∃ (p : Addr) (ys : List V) (y : V), x = .ref p ∧ xs = [y] ∧ SqL K H p ys ∧ flatV y = true ∧ ys.all flatV = true ∧ Q (.int (ys.countP (fun z => eqV z y) : Nat)) H
theorem mt_lcountF {X : Cx} : MtR X "list.count" (rCntF X.K) := by
  intro pins s σ H x xs v us Q I rx rxs h
  obtain ⟨p, ys, y, rfl, rfl, hs, fy, fys, q⟩ := h
  cases rx
  obtain ⟨u, rfl, ru⟩ := rxs.one
  obtain ⟨its, rv, ⟨⟨cls, dd, data, sl⟩, n, ho, hc, hdn, hd⟩, hlen⟩ := I.list hs
  simp only at hc hd
  subst hc hd
  refine call_meets PySem.F.slot_list_count ⟨_, ho, rfl⟩ PySem.F.entry_list_count (PySem.F.args_list_count_2 _ _)
    (SeqAt.list_countAt p its.toArray n dd sl u (eqU y)) ⟨ho, fun z hz => mem_eqAt ru fy rv fys z (by simpa using hz), ?_⟩
  have ec : its.toArray.toList.countP (eqU y) = ys.countP fun z => eqV z y := countP_eqU rv fys
  refine ⟨.int (ys.countP (fun z => eqV z y) : Nat), H, I.tok _, ⟨s.toks, ?_⟩, q⟩
  show Value.int ((its.toArray.toList.countP (eqU y) : Nat) : Int) s.toks = _
  rw [ec]
def countD : Dt → List Dt → Option Rs
  | .lst ds, [d] => if d.flt = true ∧ ds.all Dt.flt = true then some (.val (.int (ds.countP fun z => eqF z d))) else none
  | _, _ => none
@[simp] theorem countD_lst (ds : List Dt) (d : Dt) : countD (.lst ds) [d] = if d.flt = true ∧ ds.all Dt.flt = true then some (.val (.int (ds.countP fun z => eqF z d))) else none := rfl
theorem countP_F {F : Hp} {x : V} {d : Dt} (hx : Rp K F x d) (fd : d.flt = true) : ∀ {ys : List V} {ds : List Dt}, RpAll K F ys ds → ds.all Dt.flt = true → ys.countP (fun z => eqV z x) = ds.countP fun z => eqF z d
  | _, _, .nil, _ => rfl
  | _, _, .cons a r, f => by
    rw [List.all_cons, Bool.and_eq_true] at f
    rw [List.countP_cons, List.countP_cons, countP_F hx fd r f.2, eqV_F hx a fd f.1]
theorem v_count : VOpM K (rCntF K) countD := by
  intro R vs ss F H x xs d ds out Q rel v vv e k
  unfold countD at e
  split at e
  · rename_i es d'
    split at e
    · rename_i hc
      cases e
      obtain ⟨y, rfl, v2⟩ := vv.one_of
      obtain ⟨p, ys, h1, h2, h3, h4⟩ := v.items rel.fz
      have h4 := h4.mono rel.fz
      have v2 := v2.full rel.fz
      obtain ⟨g1, _⟩ := inV_F v2 hc.1 h4 hc.2
      exact ⟨p, ys, y, h1, rfl, h2, v2.flt hc.1, g1, by rw [countP_F v2 hc.1 h4 hc.2]; exact endF rel k (.int _)⟩
    · cases e
  · cases e
def scountD : Dt → List Dt → Option Rs
  | .str a, [.str b] => some (.val (.int (Txt.count a b)))
  | _, _ => none
@[simp] theorem scountD_str (a b : Str) : scountD (.str a) [.str b] = some (.val (.int (Txt.count a b))) := rfl
theorem v_scount : VOpM K (fun x xs H Q => ∃ a b, x = .str a ∧ xs = [.str b] ∧ Q (.int (Txt.count a b)) H) scountD := by
  intro R vs ss F H x xs d ds out Q rel v vv e k
  unfold scountD at e
  split at e
  · cases e
    obtain ⟨y, rfl, v2⟩ := vv.one_of
    exact ⟨_, _, v.str_of, by rw [v2.str_of], endF rel k (.int _)⟩
  · cases e
/-! ### slices -/
def dO (K : PySem.W.Frag) (mg : Str → Option Value) (W : WX) (f : Sl → O (Option Int × Sl)) : TO := fun σ H Q => ∃ R τ θ ρ F, At K R σ τ ρ θ F H ∧
  match f ρ with
  | .ok (b, ρ') => ∀ F' H', At K R σ τ ρ' θ F' H' → Q b H'
  | .exc e ρ' => ∀ cls d F' H', At K R σ τ ρ' θ F' H' → ExRel K mg e cls d F' H' → W cls d σ H'
  | .bad => False
def oNone : Sl → O (Option Int × Sl) := fun ρ => .ok (none, ρ)
def oSome1 (q : Rs × Sl) : O (Option Int × Sl) := match q.1 with
  | .val (.int i) => .ok (some i, q.2)
  | _ => .bad
def oSome (f : Sl → O (Rs × Sl)) : Sl → O (Option Int × Sl) := fun ρ => (f ρ).bind oSome1
@[simp] theorem oSome1_int (i : Int) (ρ : Sl) : oSome1 (.val (.int i), ρ) = .ok (some i, ρ) := rfl
theorem do_none {Q : Option Int → Hp → Prop} (h : dO K mg W oNone σ H Q) : tNoPart σ H Q := by
  obtain ⟨R, τ, θ, ρ, F, a, h⟩ := h
  exact h F H a
theorem dO_bind {f : Sl → O (Option Int × Sl)} {β : Type} {kB : O β → Prop} {g : Option Int × Sl → O β} {Q' : Option Int → Hp → Prop} (a : At K R σ (τ ++ t2) ρ (θ ++ s2) F H) (hl : t2.length = s2.length)
    (hx : ∀ e ρ', kB (.exc e ρ') → ∀ cls d F' H', At K R σ τ ρ' θ F' H' → ExRel K mg e cls d F' H' → W cls d σ H') (hb : ¬ kB .bad) (h : kB ((f ρ).bind g))
    (next : ∀ b ρ1 F1 H1, At K R σ (τ ++ t2) ρ1 (θ ++ s2) F1 H1 → kB (g (b, ρ1)) → Q' b H1) : dO K mg W f σ H Q' := by
  refine ⟨R, _, _, ρ, F, a, ?_⟩
  cases e : f ρ with
  | ok q =>
    obtain ⟨r, ρ1⟩ := q
    rw [e] at h
    exact fun F1 H1 a1 => next r ρ1 F1 H1 a1 h
  | exc x ρ1 =>
    rw [e] at h
    exact fun cls d F1 H1 a1 q => hx x ρ1 h cls d F1 H1 (a1.drop hl) q
  | bad => rw [e] at h; exact absurd h hb
theorem do_some {f : Sl → O (Rs × Sl)} {Q : Option Int → Hp → Prop} (h : dO K mg W (oSome f) σ H Q) : tPart (dE K mg W f) σ H Q := by
  obtain ⟨R, τ, θ, ρ, F, a, h⟩ := h
  refine ⟨R, τ, θ, ρ, F, a, ?_⟩
  unfold oSome at h
  cases e : f ρ with
  | ok q =>
    obtain ⟨r, ρ1⟩ := q
    rw [e] at h
    intro v F1 H1 a1 hr
    simp only [O.bind_ok] at h
    have ht := a.tlen
    cases r with
    | val d =>
      cases d with
      | int i =>
        have v1 := a1.view (v := v) (k := τ.length) (r := .val (.int i)) (d := .int i) (by simp) (by simp [ht]) hr rfl
        exact ⟨i, v1.int_of, h F1 H1 (a1.drop (t2 := [some v]) (s2 := [(Rs.val (.int i)).slot]) rfl)⟩
      | _ => exact h.elim
    | _ => exact h.elim
  | exc x ρ1 => rw [e] at h; exact h
  | bad => rw [e] at h; exact h.elim
def cutL (ds : List Dt) (lo hi : Option Int) : List Dt := (ds.drop (HT.sIx ds.length 0 lo)).take (HT.sIx ds.length ds.length hi - HT.sIx ds.length 0 lo)
theorem RpAll.cut {F : Hp} {xs : List V} {ds : List Dt} (h : RpAll K F xs ds) (lo hi : Option Int) : RpAll K F (cutV xs lo hi) (cutL ds lo hi) := by
  unfold cutV cutL
  rw [h.length]
  exact (h.drop _).take _
def sliceD (d : Dt) (lo hi : Option Int) : Option Rs := match d with
  | .lst ds => some (.own (cutL ds lo hi))
  | .tup ds => some (.val (.tup (cutL ds lo hi)))
  | .str z => if z.length ≤ 16777216 then some (.val (.str (cutS z lo hi))) else none
  | _ => none
@[simp] theorem sliceD_lst (ds : List Dt) (lo hi : Option Int) : sliceD (.lst ds) lo hi = some (.own (cutL ds lo hi)) := rfl
@[simp] theorem sliceD_tup (ds : List Dt) (lo hi : Option Int) : sliceD (.tup ds) lo hi = some (.val (.tup (cutL ds lo hi))) := rfl
@[simp] theorem sliceD_str (z : Str) (lo hi : Option Int) : sliceD (.str z) lo hi = if z.length ≤ 16777216 then some (.val (.str (cutS z lo hi))) else none := rfl
def rSlAll (K : PySem.W.Frag) : V → Option Int → Option Int → Hp → VK → Prop := fun x lo hi H Q => rSlL K x lo hi H Q ∨ rSlA K x lo hi H Q ∨ rSlS x lo hi H Q
theorem sl_all {X : Cx} : SlR X (rSlAll X.K) := sl_list.or (sl_tupA.or sl_str)
def eSlice (f : Sl → O (Rs × Sl)) (l u : Sl → O (Option Int × Sl)) : Sl → O (Rs × Sl) := fun ρ => (f ρ).bind fun q => (l q.2).bind fun ql => (u ql.2).bind fun qu => match deref qu.2 q.1 with
  | some d => (O.of (sliceD d ql.1 qu.1)).bind fun o => .ok (o, qu.2)
  | none => .bad
theorem cutL_whole {ds : List Dt} {lo hi : Option Int} (h : HT.sIx ds.length 0 lo = 0 ∧ HT.sIx ds.length ds.length hi = ds.length) : cutL ds lo hi = ds := by
  unfold cutL
  rw [h.1, h.2]; simp
theorem v_slice {R : RC} {vs : List (Option V)} {ss : Sl} {F H : Hp} {x : V} {d : Dt} {lo hi : Option Int} {out : Rs} {Q : VK} (rel : Rel K R vs ss F H) (v : RpV K F H x d) (e : sliceD d lo hi = some out)
    (k : ∀ v F' H', Rel K R (vs ++ [some v]) (ss ++ [out.slot]) F' H' → (∀ σ, out.at σ v) → Q v H') : rSlAll K x lo hi H Q := by
  unfold sliceD at e
  split at e
  · cases e
    obtain ⟨p, ys, h1, h2, h3, h4⟩ := v.items rel.fz
    exact .inl ⟨p, ys, h1, h2, fun q hq => endL rel k (h4.cut lo hi) (Nat.le_trans (cutV_length _ _ _) h3) hq⟩
  · cases e
    obtain ⟨p, ys, h1, h2, h3, h4⟩ := v.tup_of rel.fz
    refine .inr (.inl ⟨p, ys, h1, ex_t rel.fz h2, fun hw => ?_, fun _ q hq => endT rel k (h4.cut lo hi) (Nat.le_trans (cutV_length _ _ _) h3) hq⟩)
    refine endF rel k ?_
    rw [cutL_whole (by rw [← h4.length]; exact hw)]
    exact .tup h2 h3 h4
  · split at e
    · rename_i z hz
      cases e
      exact .inr (.inr ⟨z, v.str_of, line_of hz, endF rel k (.str _)⟩)
    · cases e
  · cases e
theorem de_slice {f : Sl → O (Rs × Sl)} {l u : Sl → O (Option Int × Sl)} {Q : VK} (h : dE K mg W (eSlice f l u) σ H Q) : tSl (rSlAll K) (dE K mg W f) (dO K mg W l) (dO K mg W u) σ H Q := by
  obtain ⟨R, τ, θ, ρ, F, a, h⟩ := h
  refine dE_bind (kB := kE K mg W R σ τ θ Q) a.nil rfl kE_x kE_b h fun r1 ρ1 x F1 H1 a1 hr1 h1 => ?_
  simp only [List.nil_append] at a1
  have ht := a.tlen
  refine dO_bind (kB := kE K mg W R σ τ θ Q) a1 rfl kE_x kE_b h1 fun lo ρ2 F2 H2 a2 h2 => ?_
  refine dO_bind (kB := kE K mg W R σ τ θ Q) a2 rfl kE_x kE_b h2 fun hi ρ3 F3 H3 a3 h3 => ?_
  simp only at h3
  cases e1 : deref ρ3 r1 with
  | none => simp only [e1] at h3; exact h3.elim
  | some d1 =>
    simp only [e1] at h3
    have v1 := a3.view (k := τ.length) (by simp) (by simp [ht]) hr1 e1
    cases e3 : sliceD d1 lo hi with
    | none => rw [e3] at h3; exact h3.elim
    | some o =>
      rw [e3] at h3
      refine v_slice (a3.drop (t2 := [some x]) (s2 := [r1.slot]) rfl).rel v1 e3 fun v F' H' hrel hat => h3 v F' H' (At.of_rel hrel a3.len) (hat σ)
end
end FX

/-! FX9: loops, comprehensions, stores. -/
namespace FX
open PySem L2 PyProof.Rows
open Evl (Ex ex_t ex_l)
section
variable {K : PySem.W.Frag} {mg : Str → Option Value} {R : RC} {F F' H H' : Hp}
variable {σ : L2.St} {τ t2 tv : List (Option V)} {ρ θ s2 ts : Sl} {W : WX}
/-- what is between falls away -/
theorem At.mid {v : Option V} {s : Slot} (a : At K R σ ((τ ++ tv) ++ [v]) ρ ((θ ++ ts) ++ [s]) F H) (hl : tv.length = ts.length) (hs : s.pin = false) : At K R σ (τ ++ [v]) ρ (θ ++ [s]) F H := by
  have a0 := (a.drop (t2 := [v]) (s2 := [s]) rfl)
  have tl := a0.tlen
  have a1 := a0.drop hl
  have hln := a.len
  have tl1 := a1.tlen
  have hv : (σ ++ ((τ ++ tv) ++ [v]))[σ.length + (τ.length + tv.length)]? = some v := by rw [← List.append_assoc, List.getElem?_append_right (by simp)]; simp
  have hs' : (ρ ++ ((θ ++ ts) ++ [s]))[σ.length + (τ.length + tv.length)]? = some s := by
    rw [← List.append_assoc, List.getElem?_append_right (by simp; omega)]
    have : σ.length + (τ.length + tv.length) - (ρ ++ (θ ++ ts)).length = 0 := by simp; omega
    rw [this]; rfl
  refine At.of_rel (a1.rel.push ((a.rel.slot _ _ _ hv hs').at hs) fun p ho e i t k1 k2 ko => ?_) a1.len
  have up1 : (σ ++ ((τ ++ tv) ++ [v]))[i]? = some (some (.ref p)) := by
    have e : σ ++ ((τ ++ tv) ++ [v]) = (σ ++ τ) ++ (tv ++ [v]) := by simp
    rw [e, List.getElem?_append_left (List.getElem?_eq_some_iff.mp k1).1]; exact k1
  have up2 : (ρ ++ ((θ ++ ts) ++ [s]))[i]? = some t := by
    have e : ρ ++ ((θ ++ ts) ++ [s]) = (ρ ++ θ) ++ (ts ++ [s]) := by simp
    rw [e, List.getElem?_append_left (List.getElem?_eq_some_iff.mp k2).1]; exact k2
  have hi := (List.getElem?_eq_some_iff.mp k1).1
  refine a.rel.sep i (σ.length + (τ.length + tv.length)) p t s (by simp at hi; omega) up1 (by rw [hv, e]) up2 hs' ko ho
/-- an iterator over data: tv, ts is what it leans on, in flight -/
def ItOk (K : PySem.W.Frag) (J : It) (tv : List (Option V)) (ts : Sl) (ds : List Dt) : Prop :=
  ∀ (i : Nat) (R : RC) (σ : L2.St) (τ t2 : List (Option V)) (ρ θ s2 : Sl) (F H : Hp), At K R σ ((τ ++ tv) ++ t2) ρ ((θ ++ ts) ++ s2) F H → τ.length = θ.length → t2.length = s2.length →
    (∀ d, ds[i]? = some d → J.go i H ∧ ∀ x H', J.yld i H x H' → ∃ F', At K R σ (((τ ++ tv) ++ t2) ++ [some x]) ρ (((θ ++ ts) ++ s2) ++ [.frz d]) F' H') ∧ (ds.length ≤ i → J.stop i H)
def dI (K : PySem.W.Frag) (mg : Str → Option Value) (W : WX) (f : Sl → O (List Dt × Sl)) : TI := fun σ H Rk => ∃ R τ θ ρ F, At K R σ τ ρ θ F H ∧
  match f ρ with
  | .ok (ds, ρ') => ∀ J tv ts F' H', tv.length = ts.length → At K R σ (τ ++ tv) ρ' (θ ++ ts) F' H' → ItOk K J tv ts ds → Rk J H'
  | .exc e ρ' => ∀ cls d F' H', At K R σ τ ρ' θ F' H' → ExRel K mg e cls d F' H' → W cls d σ H'
  | .bad => False
theorem dI_bind {f : Sl → O (List Dt × Sl)} {β : Type} {kB : O β → Prop} {g : List Dt × Sl → O β} {Q' : It → Hp → Prop} (a : At K R σ τ ρ θ F H)
    (hx : ∀ e ρ', kB (.exc e ρ') → ∀ cls d F' H', At K R σ τ ρ' θ F' H' → ExRel K mg e cls d F' H' → W cls d σ H') (hb : ¬ kB .bad) (h : kB ((f ρ).bind g))
    (next : ∀ ds ρ1 J tv ts F1 H1, tv.length = ts.length → At K R σ (τ ++ tv) ρ1 (θ ++ ts) F1 H1 → ItOk K J tv ts ds → kB (g (ds, ρ1)) → Q' J H1) : dI K mg W f σ H Q' := by
  refine ⟨R, _, _, ρ, F, a, ?_⟩
  cases e : f ρ with
  | ok q =>
    obtain ⟨r, ρ1⟩ := q
    rw [e] at h
    exact fun J tv ts F1 H1 hl a1 ok => next r ρ1 J tv ts F1 H1 hl a1 ok h
  | exc x ρ1 =>
    rw [e] at h
    exact fun cls d F1 H1 a1 q => hx x ρ1 h cls d F1 H1 a1 q
  | bad => rw [e] at h; exact absurd h hb
/-! ### for -/
def loopD (b : Dt → Sl → Option Sl) (body : Sl → O (Fl × Sl)) : List Dt → Sl → O (Fl × Sl)
  | [], ρ => .ok (.nx, ρ)
  | d :: ds, ρ => match b d ρ with
    | none => .bad
    | some ρ1 => (body ρ1).bind fun q => match q.1 with
      | .nx => loopD b body ds q.2
      | .ct => loopD b body ds q.2
      | .bk => .ok (.nx, q.2)
      | .rt r => .ok (.rt r, q.2)
def sFor (fi : Sl → O (List Dt × Sl)) (b : Dt → Sl → Option Sl) (body : Sl → O (Fl × Sl)) : Sl → O (Fl × Sl) := fun ρ => (fi ρ).bind fun q => loopD b body q.1 q.2
theorem At.pushed {x : V} {d : Dt} (a : At K R σ (τ ++ [some x]) ρ (θ ++ [.frz d]) F H) : Rp K F x d := by
  have tl := (a.drop (t2 := [some x]) (s2 := [.frz d]) rfl).tlen
  have hln := a.len
  have hv : (σ ++ (τ ++ [some x]))[σ.length + τ.length]? = some (some x) := by rw [← List.append_assoc, List.getElem?_append_right (by simp)]; simp
  have hs : (ρ ++ (θ ++ [Slot.frz d]))[σ.length + τ.length]? = some (.frz d) := by
    rw [← List.append_assoc, List.getElem?_append_right (by simp; omega)]; simp [tl, hln]
  obtain ⟨y, e1, rp⟩ := a.rel.slot _ _ _ hv hs
  cases e1
  exact rp
theorem ds_for {fi : Sl → O (List Dt × Sl)} {ix : List Nat} {g : TG} {b : Dt → Sl → Option Sl} {body : Sl → O (Fl × Sl)} {D : Ends} (hg : TgOk K ix g b) (h : dS K mg W (sFor fi b body) D σ H) : tFor (dI K mg W fi) g (dS K mg W body) D σ H := by
  obtain ⟨R, τ, θ, ρ, F, a, h⟩ := h
  refine dI_bind (kB := kS K mg W R τ θ D) a kS_x kS_b h fun ds ρ1 J tv ts F1 H1 hl a1 ok h1 => ?_
  refine ⟨fun i m σ H => ∃ ρ F, At K R σ (τ ++ tv) ρ (θ ++ ts) F H ∧ i ≤ ds.length ∧ m = ds.length - i ∧ kS K mg W R τ θ D (loopD b body (ds.drop i) ρ), ⟨ds.length, ρ1, F1, a1, Nat.zero_le _, rfl, h1⟩, ?_⟩
  rintro i m σ2 H2 ⟨ρ2, F2, a2, hi, rfl, h2⟩
  obtain ⟨o1, o2⟩ := ok i R σ2 τ [] ρ2 θ [] F2 H2 (by simpa using a2) a.tlen rfl
  by_cases hlt : i < ds.length
  · have e : ds[i]? = some ds[i] := List.getElem?_eq_getElem hlt
    obtain ⟨go, yl⟩ := o1 _ e
    have ed : ds.drop i = ds[i] :: ds.drop (i + 1) := List.drop_eq_getElem_cons hlt
    rw [ed] at h2
    refine .inr ⟨go, fun σ' H' => ∃ ρ F, At K R σ' (τ ++ tv) ρ (θ ++ ts) F H' ∧ kS K mg W R τ θ D (loopD b body (ds.drop (i + 1)) ρ), ?_, fun x H3 y => ?_⟩
    · rintro σ' H' ⟨ρ', F', a', k'⟩
      exact ⟨ds.length - (i + 1), by omega, ρ', F', a', by omega, rfl, k'⟩
    · obtain ⟨F3, a3⟩ := yl x H3 y
      simp only [List.append_nil] at a3
      unfold loopD at h2
      cases eb : b ds[i] ρ2 with
      | none => rw [eb] at h2; exact h2.elim
      | some ρ3 =>
        rw [eb] at h2
        simp only at h2
        refine hg R σ2 (τ ++ tv) ρ2 (θ ++ ts) F3 H3 x _ ρ3 _ (a3.drop (t2 := [some x]) (s2 := [.frz ds[i]]) rfl) a3.pushed eb fun σ4 a4 _ => dS_in a4 ?_
        cases e5 : body ρ3 with
        | ok q =>
          obtain ⟨fl, ρ5⟩ := q
          rw [e5] at h2
          cases fl with
          | nx => exact fun σ' F' H' a' => ⟨ρ5, F', a', h2⟩
          | ct => exact fun σ' F' H' a' => ⟨ρ5, F', a', h2⟩
          | bk => exact fun σ' F' H' a' => h2 σ' F' H' (a'.drop hl)
          | rt r => exact fun v σ' F' H' a' => h2 v σ' F' H' (a'.mid hl (by cases r <;> rfl))
        | exc x ρ5 =>
          rw [e5] at h2
          exact fun cls d σ' F' H' a' q => h2 cls d σ' F' H' (a'.drop hl) q
        | bad => rw [e5] at h2; exact h2.elim
  · have e : ds.drop i = [] := List.drop_eq_nil_of_le (by omega)
    rw [e] at h2
    exact .inl ⟨o2 (by omega), h2 σ2 F2 H2 (a2.drop hl)⟩
/-! ### while -/
def whileD (c : Sl → O (Bool × Sl)) (body : Sl → O (Fl × Sl)) : Nat → Sl → O (Fl × Sl)
  | 0, _ => .bad
  | n + 1, ρ => (c ρ).bind fun q => if q.1 = true then (body q.2).bind fun q2 => match q2.1 with
      | .nx => whileD c body n q2.2
      | .ct => whileD c body n q2.2
      | .bk => .ok (.nx, q2.2)
      | .rt r => .ok (.rt r, q2.2)
    else .ok (.nx, q.2)
def sWhile (n : Nat) (c : Sl → O (Bool × Sl)) (body : Sl → O (Fl × Sl)) : Sl → O (Fl × Sl) := fun ρ => whileD c body n ρ
theorem ds_while {n : Nat} {c : Sl → O (Bool × Sl)} {body : Sl → O (Fl × Sl)} {D : Ends} (h : dS K mg W (sWhile n c body) D σ H) : tWhile (dT K mg W c) (dS K mg W body) D σ H := by
  obtain ⟨R, τ, θ, ρ, F, a, h⟩ := h
  refine ⟨fun m σ H => ∃ ρ F, At K R σ τ ρ θ F H ∧ kS K mg W R τ θ D (whileD c body m ρ), ⟨n, ρ, F, a, h⟩, ?_⟩
  rintro m σ1 H1 ⟨ρ1, F1, a1, h1⟩
  cases m with
  | zero => exact h1.elim
  | succ m =>
    unfold whileD at h1
    refine dT_bind (kB := kS K mg W R τ θ D) a1.nil rfl kS_x kS_b h1 fun b ρ2 F2 H2 a2 h2 => ?_
    have a2 := a2.unnil
    cases b with
    | false => exact iteF (h2 σ1 F2 H2 a2)
    | true =>
      refine iteT ⟨fun σ' H' => ∃ ρ F, At K R σ' τ ρ θ F H' ∧ kS K mg W R τ θ D (whileD c body m ρ), fun σ' H' q => ⟨m, Nat.lt_succ_self m, q⟩, dS_in a2 ?_⟩
      simp only [if_true] at h2
      cases e5 : body ρ2 with
      | ok q =>
        obtain ⟨fl, ρ5⟩ := q
        rw [e5] at h2
        cases fl with
        | nx => exact fun σ' F' H' a' => ⟨ρ5, F', a', h2⟩
        | ct => exact fun σ' F' H' a' => ⟨ρ5, F', a', h2⟩
        | bk => exact h2
        | rt r => exact h2
      | exc x ρ5 => rw [e5] at h2; exact h2
      | bad => rw [e5] at h2; exact h2.elim
/-! ### comprehensions -/
def wipeS (ρ : Sl) : List Nat → Sl
  | [] => ρ
  | v :: vs => (wipeS ρ vs).set v .any
theorem wipeS_len (ρ : Sl) : ∀ vs : List Nat, (wipeS ρ vs).length = ρ.length
  | [] => rfl
  | v :: vs => by unfold wipeS; rw [List.length_set, wipeS_len ρ vs]
theorem wipeS_get {ρ : Sl} {j : Nat} : ∀ {vs : List Nat} {t : Slot}, (wipeS ρ vs)[j]? = some t → t = .any ∨ (j ∉ vs ∧ ρ[j]? = some t)
  | [], t, h => .inr ⟨by simp, h⟩
  | v :: vs, t, h => by
    unfold wipeS at h
    by_cases hj : v = j
    · subst hj
      by_cases hv : v < (wipeS ρ vs).length
      · rw [List.getElem?_set_self hv] at h; cases h; exact .inl rfl
      · rw [List.getElem?_eq_none (by simpa using hv)] at h; cases h
    · rw [List.getElem?_set_ne hj] at h
      rcases wipeS_get h with e | ⟨e1, e2⟩
      · exact .inl e
      · exact .inr ⟨by simp only [List.mem_cons, not_or]; exact ⟨fun z => hj z.symm, e1⟩, e2⟩
theorem wipe_out' {σ : L2.St} {i : Nat} : ∀ {vs : List Nat}, i ∉ vs → (wipe σ vs)[i]? = σ[i]?
  | [], _ => rfl
  | v :: vs, h => by
    unfold wipe
    simp only [List.mem_cons, not_or] at h
    rw [List.getElem?_set_ne (fun z => h.1 z.symm), wipe_out' h.2]
/-- slots that agree but for some that nothing is told of -/
theorem At.swap {σ2 : L2.St} {vs : List Nat} (a : At K R σ τ ρ θ F H) (hl : σ2.length = σ.length) (h : ∀ j, j ∉ vs → σ2[j]? = σ[j]?) : At K R σ2 τ (wipeS ρ vs) θ F H := by
  have q := a.rel
  have hln := a.len
  have look : ∀ {j : Nat} {w : Option V} {t : Slot}, (σ2 ++ τ)[j]? = some w → (wipeS ρ vs ++ θ)[j]? = some t → t = .any ∨ ((σ ++ τ)[j]? = some w ∧ (ρ ++ θ)[j]? = some t) := fun {j w t} g1 g2 => by
    by_cases hj : j < σ.length
    · rw [List.getElem?_append_left (by omega)] at g1
      rw [List.getElem?_append_left (by rw [wipeS_len]; omega)] at g2
      rcases wipeS_get g2 with e | ⟨e1, e2⟩
      · exact .inl e
      · exact .inr ⟨by rw [List.getElem?_append_left hj, ← h j e1]; exact g1, by rw [List.getElem?_append_left (by omega)]; exact e2⟩
    · rw [List.getElem?_append_right (by omega), hl] at g1
      rw [List.getElem?_append_right (by rw [wipeS_len]; omega), wipeS_len] at g2
      exact .inr ⟨by rw [List.getElem?_append_right (by omega)]; exact g1, by rw [List.getElem?_append_right (by omega)]; exact g2⟩
  refine ⟨⟨?_, q.exF, q.fz, q.new, q.kept, q.pinH, fun j w t g1 g2 => ?_, fun j k p t t' hjk g1 g2 g3 g4 o1 o2 => ?_⟩, by rw [wipeS_len, hl]; exact hln⟩
  · have := q.len
    simp [wipeS_len] at this ⊢; omega
  · rcases look g1 g2 with e | ⟨e1, e2⟩
    · subst e; trivial
    · exact q.slot j w t e1 e2
  · rcases look g1 g3 with e | ⟨e1, e2⟩
    · subst e; cases o1
    · rcases look g2 g4 with f | ⟨f1, f2⟩
      · subst f; cases o2
      · exact q.sep j k p t t' hjk e1 f1 e2 f2 o1 o2
theorem eq_of_out {σ2 : L2.St} {vs : List Nat} (hl : σ2.length = σ.length) (h : ∀ j, j ∉ vs → σ2[j]? = σ[j]?) : wipe σ2 vs = wipe σ vs := by
  apply List.ext_getElem?
  intro j
  by_cases hj : j ∈ vs
  · have none_at : ∀ {σ : L2.St} {vs : List Nat}, j ∈ vs → (wipe σ vs)[j]? = if j < σ.length then some none else none := fun {σ vs} hj => by
      induction vs with
      | nil => cases hj
      | cons v vs ih =>
        unfold wipe
        by_cases hv : v = j
        · subst hv
          by_cases hl : v < σ.length
          · rw [if_pos hl, List.getElem?_set_self (by rw [wipe_length]; exact hl)]
          · rw [if_neg hl, List.getElem?_eq_none (by rw [List.length_set, wipe_length]; omega)]
        · rw [List.getElem?_set_ne hv]
          exact ih (by
            rcases List.mem_cons.mp hj with e | e
            · exact absurd e.symm hv
            · exact e)
    rw [none_at hj, none_at hj, hl]
  · rw [wipe_out' hj, wipe_out' hj]; exact h j hj
def compD (b : Dt → Sl → Option Sl) (c : Sl → O (Bool × Sl)) (el : Sl → O (Rs × Sl)) (ix : List Nat) : List Dt → Sl → List Dt → O (List Dt × Sl)
  | [], ρ, acc => .ok (acc, ρ)
  | d :: ds, ρ, acc => match b d ρ with
    | none => .bad
    | some ρ1 => (c ρ1).bind fun q => if q.1 = true then (el q.2).bind fun q2 => match freeze1 q2.1 q2.2 with
        | none => .bad
        | some (e, ρ3) => compD b c el ix ds (wipeS ρ3 ix) (acc ++ [e])
      else compD b c el ix ds (wipeS q.2 ix) acc
def noExc {α : Type} : O α → O α
  | .exc _ _ => .bad
  | x => x
def cYes : Sl → O (Bool × Sl) := fun ρ => .ok (true, ρ)
def eComp (fi : Sl → O (List Dt × Sl)) (b : Dt → Sl → Option Sl) (c : Sl → O (Bool × Sl)) (el : Sl → O (Rs × Sl)) (ix : List Nat) : Sl → O (Rs × Sl) := fun ρ => (fi ρ).bind fun q => if q.1.length ≤ 16777216 then
    (noExc (compD b c el ix q.1 (wipeS q.2 ix) [])).bind fun z => .ok (.own z.1, z.2)
  else .bad
def W0 : WX := fun _ _ _ _ => False
theorem wipeS_idem (ρ : Sl) (ix : List Nat) : wipeS (wipeS ρ ix) ix = wipeS ρ ix := by
  have idem : ∀ (vs : List Nat) (ρ : Sl), (∀ j ∈ vs, ∀ t, ρ[j]? = some t → t = .any) → wipeS ρ vs = ρ := fun vs => by
    induction vs with
    | nil => intro ρ _; rfl
    | cons v vs ih =>
      intro ρ hh
      unfold wipeS
      rw [ih ρ fun j hj t e => hh j (List.mem_cons_of_mem _ hj) t e]
      apply List.ext_getElem?
      intro j
      by_cases hv : v = j
      · subst hv
        by_cases hlt : v < ρ.length
        · rw [List.getElem?_set_self hlt, List.getElem?_eq_getElem hlt, hh v List.mem_cons_self _ (List.getElem?_eq_getElem hlt)]
        · rw [List.getElem?_eq_none (by simpa using hlt), List.getElem?_eq_none (by simpa using hlt)]
      · rw [List.getElem?_set_ne hv]
  refine idem ix _ fun j hj t e => ?_
  rcases wipeS_get e with z | ⟨z, _⟩
  · exact z
  · exact absurd hj z
theorem de_comp {fi : Sl → O (List Dt × Sl)} {ix : List Nat} {g : TG} {b : Dt → Sl → Option Sl} {c : Sl → O (Bool × Sl)} {el : Sl → O (Rs × Sl)} {Q : VK} (hg : TgOk K ix g b) (h : dE K mg W (eComp fi b c el ix) σ H Q) :
    tLc (dI K mg W fi) g (dT K mg W0 c) (dE K mg W0 el) ix σ H Q := by
  obtain ⟨R, τ, θ, ρ, F, a, h⟩ := h
  refine dI_bind (kB := kE K mg W R σ τ θ Q) a kE_x kE_b h fun ds ρ1 J tv ts F1 H1 hl a1 ok h1 => ?_
  simp only at h1
  by_cases hz : ds.length ≤ 16777216
  · rw [if_pos hz] at h1
    intro Da hD
    have tl := a.tlen
    have ht : (τ ++ tv).length = (θ ++ ts).length := by simp; omega
    -- the invariant
    refine ⟨fun i m H => ∃ ρ F acc, At K R σ ((τ ++ tv) ++ [some (.ref Da)]) ρ ((θ ++ ts) ++ [.loc acc]) F H ∧ wipeS ρ ix = ρ ∧ i ≤ ds.length ∧ m = ds.length - i ∧ acc.length ≤ i ∧
      kE K mg W R σ τ θ Q ((noExc (compD b c el ix (ds.drop i) ρ acc)).bind fun z => .ok (.own z.1, z.2)), ⟨ds.length, wipeS ρ1 ix, F1, [], ?_, ?_, Nat.zero_le _, rfl, Nat.le_refl _, h1⟩, ?_⟩
    · exact At.of_rel ((a1.swap rfl fun _ _ => rfl).rel.allocM (xs := []) hD .nil (by simp)) (by rw [wipeS_len]; exact a1.len)
    · exact wipeS_idem _ _
    · rintro i m H2 ⟨ρ2, F2, acc, a2, hw, hi, rfl, hacc, h2⟩
      have aw : At K R (wipe σ ix) ((τ ++ tv) ++ [some (.ref Da)]) ρ2 ((θ ++ ts) ++ [.loc acc]) F2 H2 := by
        have := a2.swap (σ2 := wipe σ ix) (vs := ix) (wipe_length σ ix) fun j hj => wipe_out' hj
        rw [hw] at this; exact this
      obtain ⟨o1, o2⟩ := ok i R (wipe σ ix) τ [some (.ref Da)] ρ2 θ [.loc acc] F2 H2 aw tl rfl
      by_cases hlt : i < ds.length
      · have e : ds[i]? = some ds[i] := List.getElem?_eq_getElem hlt
        obtain ⟨go, yl⟩ := o1 _ e
        have ed : ds.drop i = ds[i] :: ds.drop (i + 1) := List.drop_eq_getElem_cons hlt
        rw [ed] at h2
        refine .inr ⟨go, fun H' => ∃ ρ F acc, At K R σ ((τ ++ tv) ++ [some (.ref Da)]) ρ ((θ ++ ts) ++ [.loc acc]) F H' ∧ wipeS ρ ix = ρ ∧ acc.length ≤ i + 1 ∧
          kE K mg W R σ τ θ Q ((noExc (compD b c el ix (ds.drop (i + 1)) ρ acc)).bind fun z => .ok (.own z.1, z.2)), ?_, fun x H3 y => ?_⟩
        · rintro H' ⟨ρ', F', acc', a', w', l', k'⟩
          exact ⟨ds.length - (i + 1), by omega, ρ', F', acc', a', w', by omega, rfl, l', k'⟩
        · obtain ⟨F3, a3⟩ := yl x H3 y
          unfold compD at h2
          cases eb : b ds[i] ρ2 with
          | none => rw [eb] at h2; exact h2.elim
          | some ρ3 =>
            rw [eb] at h2
            simp only at h2
            refine hg R (wipe σ ix) ((τ ++ tv) ++ [some (.ref Da)]) ρ2 ((θ ++ ts) ++ [.loc acc]) F3 H3 x _ ρ3 _ (a3.drop (t2 := [some x]) (s2 := [.frz ds[i]]) rfl) a3.pushed eb fun σ4 a4 fr4 => ?_
            have weq : wipe σ4 ix = wipe σ ix := by
              rw [eq_of_out fr4.1 fr4.2]
              exact eq_of_out (wipe_length σ ix) fun j hj => wipe_out' hj
            have l4 : σ4.length = σ.length := fr4.1.trans (wipe_length σ ix)
            have out4 : ∀ j, j ∉ ix → σ[j]? = σ4[j]? := fun j hj => by rw [fr4.2 j hj, wipe_out' hj]
            refine ⟨weq, ?_⟩
            let kB : O (List Dt × Sl) → Prop := fun o => kE K mg W R σ τ θ Q ((noExc o).bind fun z => .ok (.own z.1, z.2))
            refine dT_bind (W := W0) (kB := kB) a4.nil rfl (fun _ _ z => False.elim z) (fun z => z) h2 fun cb ρ5 F5 H5 a5 h5 => ?_
            have a5 := a5.unnil
            cases cb with
            | false => exact iteF ⟨wipeS ρ5 ix, F5, acc, a5.swap l4.symm out4, wipeS_idem _ _, by omega, h5⟩
            | true =>
              refine iteT ?_
              simp only [if_true] at h5
              refine dE_bind (W := W0) (kB := kB) a5.nil rfl (fun _ _ z => False.elim z) (fun z => z) h5 fun r ρ6 v F6 H6 a6 hr6 h6 => ?_
              simp only [List.nil_append] at a6
              simp only at h6
              cases ef : freeze1 r ρ6 with
              | none => rw [ef] at h6; exact h6.elim
              | some q =>
                obtain ⟨e7, ρ7⟩ := q
                rw [ef] at h6
                obtain ⟨F7, ex7, a7, rp7⟩ := freeze1_ok a6 hr6 ef
                have a8 := a7.drop (t2 := [some v]) (s2 := [.frz e7]) rfl
                have l8 := a8.len
                have iv : (σ4 ++ ((τ ++ tv) ++ [some (V.ref Da)]))[σ4.length + (τ ++ tv).length]? = some (some (.ref Da)) := by
                  rw [← List.append_assoc, List.getElem?_append_right (by simp)]; simp
                have is : (ρ7 ++ ((θ ++ ts) ++ [Slot.loc acc]))[σ4.length + (τ ++ tv).length]? = some (.loc acc) := by
                  rw [← List.append_assoc, List.getElem?_append_right (by simp; simp at ht; omega)]
                  have : σ4.length + (τ ++ tv).length - (ρ7 ++ (θ ++ ts)).length = 0 := by simp; simp at ht; omega
                  rw [this]; rfl
                obtain ⟨p, xs, g1, g2, g3, g4, g5, g6⟩ := a8.rel.slot _ _ _ iv is
                cases g1
                have hlen : xs.length < sizeLine := by rw [g6.length, sizeLine_eq]; omega
                refine ⟨xs, g4, hlen, wipeS ρ7 ix, F7, acc ++ [e7], ?_, wipeS_idem _ _, by simp; omega, h6⟩
                have w := a8.rel.write (s' := .loc (acc ++ [e7])) iv is rfl (g6.append (.one rp7)) (by simp; omega) (.inl ⟨_, rfl, rfl⟩)
                have es : (ρ7 ++ ((θ ++ ts) ++ [Slot.loc acc])).set (σ4.length + (τ ++ tv).length) (.loc (acc ++ [e7])) = ρ7 ++ ((θ ++ ts) ++ [.loc (acc ++ [e7])]) := by
                  rw [List.set_append_right _ _ (by omega), List.set_append_right _ _ (by simp at ht ⊢; omega)]
                  have : σ4.length + (τ ++ tv).length - ρ7.length - (θ ++ ts).length = 0 := by simp at ht ⊢; omega
                  rw [this]; rfl
                rw [es] at w
                exact (⟨w, l8⟩ : At K R σ4 ((τ ++ tv) ++ [some (V.ref Da)]) ρ7 ((θ ++ ts) ++ [.loc (acc ++ [e7])]) F7 (upd H6 Da (.lst (xs ++ [v])))).swap l4.symm out4
      · have e : ds.drop i = [] := List.drop_eq_nil_of_le (by omega)
        rw [e] at h2
        refine .inl ⟨o2 (by omega), ?_⟩
        exact h2 (.ref Da) F2 H2 (a2.mid hl rfl) trivial
  · rw [if_neg hz] at h1; exact h1.elim
end
end FX

/-! FX10: what loops walk; stores into lists. -/
namespace FX
open PySem L2 PyProof.Rows
open Evl (Ex ex_t ex_l)
section
variable {K : PySem.W.Frag} {mg : Str → Option Value} {R : RC} {F F' H H' : Hp}
variable {σ : L2.St} {τ t2 tv : List (Option V)} {ρ θ s2 ts : Sl} {W : WX}
/-! ### a list, a tuple, a text, the script -/
def iSeq (K : PySem.W.Frag) (tl : TE) : TI := fun σ H R => tl σ H fun x H1 => (∃ a, x = .ref a ∧ (∃ xs, SqL K H1 a xs) ∧ R (Itl K a) H1) ∨ (∃ a, x = .ref a ∧ (∃ xs, SqT K H1 a xs) ∧ R (Itt K a) H1) ∨ ∃ z, x = .str z ∧ R (Its z) H1
theorem pi_seq {X : Cx} {tg l : Expr} {tl : TE} (hl : PE X l tl) : PI X tg l (iSeq X.K tl) := by
  refine ⟨fun pins s σ H R I h => ?_⟩
  refine thn (hl.run pins s σ H _ I h) fun v s1 ⟨x, H1, I1, r1, q1⟩ => ?_
  rcases q1 with ⟨a, e, ⟨xs, hq⟩, q⟩ | ⟨a, e, ⟨xs, hq⟩, q⟩ | ⟨z, e, q⟩
  · subst e
    cases r1
    obtain ⟨its, rv, p, hz⟩ := I1.list hq
    refine wpAny_pyIter_list p.isList ?_
    refine ⟨s1.heap.objs.size, [s1.heap.objs.size], _, _, H1, rfl, I1.kept (t' := s1.toks) fun b o e => Heap.get?_push_of_some _ e, turn_list a _, ⟨_, Heap.get?_push_size _ rfl, rfl, rfl⟩, fun b hb => ?_, q⟩
    have e : b = s1.heap.objs.size := by simpa using hb
    subst e
    exact I1.fpOk (Nat.le_refl _) (I1.hok.fresh (Nat.le_refl _))
  · subst e
    cases r1
    obtain ⟨its, rv, p, hz⟩ := I1.tuple hq
    refine wpAny_pyIter_tuple (show s1.heap.IsTuple a its.toArray from p) ?_
    refine ⟨s1.heap.objs.size, [s1.heap.objs.size], _, _, H1, rfl, I1.kept (t' := s1.toks) fun b o e => Heap.get?_push_of_some _ e, turn_tuple a _, ⟨_, Heap.get?_push_size _ rfl, rfl, rfl⟩, fun b hb => ?_, q⟩
    have e : b = s1.heap.objs.size := by simpa using hb
    subst e
    exact I1.fpOk (Nat.le_refl _) (I1.hok.fresh (Nat.le_refl _))
  · subst e
    obtain ⟨t, rfl⟩ := r1
    cases ha : z.cps.all (· < 128)
    · exact wpAny_pyIter_wide ha (pi_one (tk := s1.toks) I1 _ (turn_str _ z t "str_iterator" (.inr rfl)) ⟨_, Heap.get?_push_size _ rfl, rfl, rfl⟩ q)
    · exact wpAny_pyIter_ascii ha (pi_one (tk := s1.toks) I1 _ (turn_str _ z t "str_ascii_iterator" (.inl rfl)) ⟨_, Heap.get?_push_size _ rfl, rfl, rfl⟩ q)
def signs (z : Str) : List Dt := z.cps.toList.map fun c => .str ⟨#[c]⟩
def seqD : Dt → Option (List Dt)
  | .lst ds => some ds
  | .tup ds => some ds
  | .scr ns => some (ns.map Dt.int)
  | .str z => some (signs z)
  | _ => none
@[simp] theorem seqD_lst (ds : List Dt) : seqD (.lst ds) = some ds := rfl
@[simp] theorem seqD_tup (ds : List Dt) : seqD (.tup ds) = some ds := rfl
@[simp] theorem seqD_scr (ds : List Int) : seqD (.scr ds) = some (ds.map Dt.int) := rfl
@[simp] theorem seqD_str (z : Str) : seqD (.str z) = some (signs z) := rfl
/-- a value in flight is data still -/
theorem At.atT {v : V} {d : Dt} (a : At K R σ ((τ ++ [some v]) ++ t2) ρ ((θ ++ [.frz d]) ++ s2) F H) (hl : t2.length = s2.length) : Rp K F v d := (a.drop hl).pushed
theorem itl_ok {a : Addr} {xs : V → Prop} {d : Dt} {ds : List Dt} (hd : (d = .lst ds) ∨ ∃ ns, d = .scr ns ∧ ds = ns.map Dt.int) : ItOk K (Itl K a) [some (.ref a)] [.frz d] ds := by
  intro i R σ τ t2 ρ θ s2 F H at0 hl hl2
  have rp := at0.atT hl2
  have key : ∃ ys, SqL K H a ys ∧ RpAll K F ys ds := by
    rcases hd with e | ⟨ns, e, e2⟩
    · subst e
      cases rp with
      | lst h1 h2 h3 => exact ⟨_, SqL.of (at0.rel.fz _ _ h1), h3⟩
    · subst e; subst e2
      cases rp with
      | scr h1 => exact ⟨_, ex_l at0.rel.fz h1, RpAll.ints⟩
  obtain ⟨ys, h1, h2⟩ := key
  refine ⟨fun d' hd' => ?_, fun hi => ⟨ys, h1, by rw [h2.length]; exact hi⟩⟩
  obtain ⟨v, g1, g2⟩ := h2.get hd'
  refine ⟨⟨ys, v, h1, g1⟩, fun x H' y => ?_⟩
  obtain ⟨e, y⟩ := y
  subst e
  have e := y ys h1
  rw [g1] at e
  cases e
  exact ⟨F, At.of_rel (at0.rel.pushF g2) at0.len⟩
theorem itt_ok {a : Addr} {ds : List Dt} : ItOk K (Itt K a) [some (.ref a)] [.frz (.tup ds)] ds := by
  intro i R σ τ t2 ρ θ s2 F H at0 hl hl2
  have rp := at0.atT hl2
  cases rp with
  | @tup _ ys _ h1 hz h2 =>
    have h1 := ex_t at0.rel.fz h1
    refine ⟨fun d' hd' => ?_, fun hi => ⟨ys, h1, by rw [h2.length]; exact hi⟩⟩
    obtain ⟨v, g1, g2⟩ := h2.get hd'
    refine ⟨⟨ys, v, h1, g1⟩, fun x H' y => ?_⟩
    obtain ⟨e, y⟩ := y
    subst e
    have e := y ys h1
    rw [g1] at e
    cases e
    exact ⟨F, At.of_rel (at0.rel.pushF g2) at0.len⟩
theorem its_ok {z : Str} {tv : List (Option V)} {ts : Sl} : ItOk K (Its z) tv ts (signs z) := by
  intro i R σ τ t2 ρ θ s2 F H at0 hl hl2
  have hlen : (signs z).length = z.cps.size := by unfold signs; simp
  refine ⟨fun d' hd' => ⟨?_, fun x H' y => ?_⟩, fun hi => by show z.cps.size ≤ i; omega⟩
  · have := (List.getElem?_eq_some_iff.mp hd').1
    show i < z.cps.size
    omega
  · obtain ⟨e, c, y1, y2⟩ := y
    subst e; subst y2
    unfold signs at hd'
    rw [List.getElem?_map, Array.getElem?_toList, y1] at hd'
    cases hd'
    exact ⟨F, At.of_rel (at0.rel.pushF (.str _)) at0.len⟩
def iSeqD (f : Sl → O (Rs × Sl)) : Sl → O (List Dt × Sl) := fun ρ => (f ρ).bind fun q => match freeze1 q.1 q.2 with
  | none => .bad
  | some (d, ρ2) => match seqD d with
    | some ds => .ok (ds, ρ2)
    | none => .bad
theorem di_seq {f : Sl → O (Rs × Sl)} {Q : It → Hp → Prop} (h : dI K mg W (iSeqD f) σ H Q) : iSeq K (dE K mg W f) σ H Q := by
  obtain ⟨R, τ, θ, ρ, F, a, h⟩ := h
  let kB : O (List Dt × Sl) → Prop := fun o => match o with
    | .ok (ds, ρ') => ∀ J tv ts F' H', tv.length = ts.length → At K R σ (τ ++ tv) ρ' (θ ++ ts) F' H' → ItOk K J tv ts ds → Q J H'
    | .exc e ρ' => ∀ cls d F' H', At K R σ τ ρ' θ F' H' → ExRel K mg e cls d F' H' → W cls d σ H'
    | .bad => False
  refine dE_bind (kB := kB) a.nil rfl (fun _ _ z => z) (fun z => z) h fun r1 ρ1 x F1 H1 a1 hr1 h1 => ?_
  simp only [List.nil_append] at a1
  simp only at h1
  cases ef : freeze1 r1 ρ1 with
  | none => rw [ef] at h1; exact h1.elim
  | some q =>
    obtain ⟨d, ρ2⟩ := q
    rw [ef] at h1
    obtain ⟨F2, ex2, a2, rp2⟩ := freeze1_ok a1 hr1 ef
    simp only at h1
    cases es : seqD d with
    | none => rw [es] at h1; exact h1.elim
    | some ds =>
      rw [es] at h1
      have h1 : ∀ J tv ts F' H', tv.length = ts.length → At K R σ (τ ++ tv) ρ2 (θ ++ ts) F' H' → ItOk K J tv ts ds → Q J H' := h1
      have rpH := rp2.mono a2.rel.fz
      cases rp2 with
      | lst g1 g2 g3 => cases es; exact .inl ⟨_, rfl, ⟨_, SqL.of (a2.rel.fz _ _ g1)⟩, h1 _ _ _ _ _ rfl a2 (itl_ok (xs := fun _ => True) (.inl rfl))⟩
      | scr g1 => cases es; exact .inl ⟨_, rfl, ⟨_, ex_l a2.rel.fz g1⟩, h1 _ _ _ _ _ rfl a2 (itl_ok (xs := fun _ => True) (.inr ⟨_, rfl, rfl⟩))⟩
      | tup g1 g2 g3 => cases es; exact .inr (.inl ⟨_, rfl, ⟨_, ex_t a2.rel.fz g1⟩, h1 _ _ _ _ _ rfl a2 itt_ok⟩)
      | str z => cases es; exact .inr (.inr ⟨z, rfl, h1 _ _ _ _ _ rfl a2 its_ok⟩)
      | _ => cases es
/-! ### ranges -/
def rngL (lo : Int) (n : Nat) : List Dt := (List.range n).map fun (i : Nat) => Dt.int (lo + (i : Int))
theorem itr_ok {lo : Int} {n : Nat} {tv : List (Option V)} {ts : Sl} : ItOk K (Itr lo n) tv ts (rngL lo n) := by
  intro i R σ τ t2 ρ θ s2 F H at0 hl hl2
  have hlen : (rngL lo n).length = n := by unfold rngL; simp
  refine ⟨fun d' hd' => ⟨?_, fun x H' y => ?_⟩, fun hi => by show n ≤ i; omega⟩
  · have := (List.getElem?_eq_some_iff.mp hd').1
    show i < n
    omega
  · obtain ⟨e, y⟩ := y
    subst e; subst y
    have hi : i < n := by rw [← hlen]; exact (List.getElem?_eq_some_iff.mp hd').1
    unfold rngL at hd'
    rw [List.getElem?_map, List.getElem?_range hi] at hd'
    cases hd'
    exact ⟨F, At.of_rel (at0.rel.pushF (.int _)) at0.len⟩
def rng1D : List Dt → Option (List Dt)
  | [.int j] => if -4611686018427387904 ≤ j ∧ j < 4611686018427387904 then some (rngL 0 j.toNat) else none
  | _ => none
def rng2D : List Dt → Option (List Dt)
  | [.int i, .int j] => if -4611686018427387904 ≤ i ∧ i < 4611686018427387904 ∧ -4611686018427387904 ≤ j ∧ j < 4611686018427387904 then some (rngL i (j - i).toNat) else none
  | _ => none
@[simp] theorem rng1D_one (j : Int) : rng1D [.int j] = if -4611686018427387904 ≤ j ∧ j < 4611686018427387904 then some (rngL 0 j.toNat) else none := rfl
@[simp] theorem rng2D_two (i j : Int) : rng2D [.int i, .int j] = if -4611686018427387904 ≤ i ∧ i < 4611686018427387904 ∧ -4611686018427387904 ≤ j ∧ j < 4611686018427387904 then some (rngL i (j - i).toNat) else none := rfl
def iRng (opf : List Dt → Option (List Dt)) (fa : Sl → O (List Rs × Sl)) : Sl → O (List Dt × Sl) := fun ρ => (fa ρ).bind fun q => match (derefAll q.2 q.1).bind opf with
  | some ds => .ok (ds, q.2)
  | none => .bad
theorem dI_args {fa : Sl → O (List Rs × Sl)} {g : List Rs × Sl → O (List Dt × Sl)} {Q : It → Hp → Prop} {Q' : List V → Hp → Prop} (h : dI K mg W (fun ρ => (fa ρ).bind g) σ H Q)
    (next : ∀ R τ θ rs ρ1 xs F1 H1, At K R σ (τ ++ xs.map some) ρ1 (θ ++ rs.map Rs.slot) F1 H1 → τ.length = θ.length → RsAt σ xs rs →
      (match g (rs, ρ1) with
      | .ok (ds, ρ') => ∀ J tv ts F' H', tv.length = ts.length → At K R σ (τ ++ tv) ρ' (θ ++ ts) F' H' → ItOk K J tv ts ds → Q J H'
      | .exc e ρ' => ∀ cls d F' H', At K R σ τ ρ' θ F' H' → ExRel K mg e cls d F' H' → W cls d σ H'
      | .bad => False) → Q' xs H1) : dA K mg W fa σ H Q' := by
  obtain ⟨R, τ, θ, ρ, F, a, h⟩ := h
  let kB : O (List Dt × Sl) → Prop := fun o => match o with
    | .ok (ds, ρ') => ∀ J tv ts F' H', tv.length = ts.length → At K R σ (τ ++ tv) ρ' (θ ++ ts) F' H' → ItOk K J tv ts ds → Q J H'
    | .exc e ρ' => ∀ cls d F' H', At K R σ τ ρ' θ F' H' → ExRel K mg e cls d F' H' → W cls d σ H'
    | .bad => False
  refine dA_bind (kB := kB) a.nil rfl (fun _ _ z => z) (fun z => z) h fun rs ρ1 xs F1 H1 a1 hr1 h1 => ?_
  simp only [List.nil_append] at a1
  exact next R τ θ rs ρ1 xs F1 H1 a1 a.tlen hr1 h1
theorem di_rng1 {fa : Sl → O (List Rs × Sl)} {Q : It → Hp → Prop} (h : dI K mg W (iRng rng1D fa) σ H Q) : iRng1 (dA K mg W fa) σ H Q := by
  refine dI_args h fun R τ θ rs ρ1 xs F1 H1 a1 hl hr h1 => ?_
  simp only at h1
  cases e : derefAll ρ1 rs with
  | none => simp [e] at h1
  | some ds =>
    cases e2 : rng1D ds with
    | none => simp [e, e2] at h1
    | some out =>
      simp only [e, Option.bind_some, e2] at h1
      have vv := a1.views hl hr e
      have a0 := a1.drop (t2 := xs.map some) (s2 := rs.map Rs.slot) (by simp [hr.length])
      unfold rng1D at e2
      split at e2
      · split at e2
        · rename_i j hj
          cases e2
          obtain ⟨x, rfl, v⟩ := vv.one_of
          exact ⟨j, by rw [v.int_of], by omega, by omega, h1 _ [] [] _ _ rfl a0.nil itr_ok⟩
        · cases e2
      · cases e2
theorem di_rng2 {fa : Sl → O (List Rs × Sl)} {Q : It → Hp → Prop} (h : dI K mg W (iRng rng2D fa) σ H Q) : iRng2 (dA K mg W fa) σ H Q := by
  refine dI_args h fun R τ θ rs ρ1 xs F1 H1 a1 hl hr h1 => ?_
  simp only at h1
  cases e : derefAll ρ1 rs with
  | none => simp [e] at h1
  | some ds =>
    cases e2 : rng2D ds with
    | none => simp [e, e2] at h1
    | some out =>
      simp only [e, Option.bind_some, e2] at h1
      have vv := a1.views hl hr e
      have a0 := a1.drop (t2 := xs.map some) (s2 := rs.map Rs.slot) (by simp [hr.length])
      unfold rng2D at e2
      split at e2
      · split at e2
        · rename_i i j hj
          cases e2
          obtain ⟨x, y, rfl, v1, v2⟩ := vv.two_of
          exact ⟨i, j, by rw [v1.int_of, v2.int_of], by omega, h1 _ [] [] _ _ rfl a0.nil itr_ok⟩
        · cases e2
      · cases e2
/-! ### zip, enumerate -/
def zipL : List Dt → List Dt → List Dt
  | x :: xs, y :: ys => .tup [x, y] :: zipL xs ys
  | _, _ => []
theorem zipL_get : ∀ {xs ys : List Dt} {i : Nat} {d : Dt}, (zipL xs ys)[i]? = some d → ∃ x y, xs[i]? = some x ∧ ys[i]? = some y ∧ d = .tup [x, y]
  | [], _, _, _, h => by simp [zipL] at h
  | _ :: _, [], _, _, h => by simp [zipL] at h
  | x :: xs, y :: ys, 0, d, h => by simp [zipL] at h; exact ⟨x, y, rfl, rfl, h.symm⟩
  | x :: xs, y :: ys, i + 1, d, h => by
    simp only [zipL, List.getElem?_cons_succ] at h
    simpa using zipL_get h
theorem zipL_len : ∀ (xs ys : List Dt), (zipL xs ys).length = min xs.length ys.length
  | [], _ => by simp [zipL]
  | _ :: _, [] => by simp [zipL]
  | x :: xs, y :: ys => by simp [zipL, zipL_len xs ys]
def zipD : List Dt → Option (List Dt)
  | [.lst xs, .lst ys] => some (zipL xs ys)
  | [.tup xs, .tup ys] => some (zipL xs ys)
  | _ => none
@[simp] theorem zipD_lst (xs ys : List Dt) : zipD [.lst xs, .lst ys] = some (zipL xs ys) := rfl
@[simp] theorem zipD_tup (xs ys : List Dt) : zipD [.tup xs, .tup ys] = some (zipL xs ys) := rfl
def iFrz (opf : List Dt → Option (List Dt)) (fa : Sl → O (List Rs × Sl)) : Sl → O (List Dt × Sl) := fun ρ => (fa ρ).bind fun q => match freezeAll q.1 q.2 with
  | none => .bad
  | some (ds, ρ2) => match opf ds with
    | some es => .ok (es, ρ2)
    | none => .bad
theorem new_pair {x y : V} {d e : Dt} {p : Addr} (a : At K R σ τ ρ θ F H) (hx : Rp K F x d) (hy : Rp K F y e) (hp : H p = none) : ∃ F', At K R σ (τ ++ [some (.ref p)]) ρ (θ ++ [.frz (.tup [d, e])]) F' (upd H p (.tup [x, y])) :=
  ⟨_, At.of_rel ((a.rel.allocF (o := .tup [x, y]) hp).pushF (.tup (SqT.of upd_same) (Evl.sz_of (by simp)) (.cons (hx.mono (ex_upd (a.rel.freshF hp))) (.cons (hy.mono (ex_upd (a.rel.freshF hp))) .nil)))) a.len⟩
theorem At.two {u v : V} {d e : Dt} (a : At K R σ ((τ ++ [some u, some v]) ++ t2) ρ ((θ ++ [.frz d, .frz e]) ++ s2) F H) (hl : t2.length = s2.length) : Rp K F u d ∧ Rp K F v e := by
  have a1 := a.drop hl
  have e1 : τ ++ [some u, some v] = (τ ++ [some u]) ++ [some v] := by simp
  have e2 : θ ++ [Slot.frz d, .frz e] = (θ ++ [.frz d]) ++ [.frz e] := by simp
  rw [e1, e2] at a1
  exact ⟨(a1.drop (t2 := [some v]) (s2 := [.frz e]) rfl).pushed, a1.pushed⟩
theorem itz_ok {a b : Addr} {ds es : List Dt} : ItOk K (Itz K a b) [some (.ref a), some (.ref b)] [.frz (.lst ds), .frz (.lst es)] (zipL ds es) := by
  intro i R σ τ t2 ρ θ s2 F H at0 hl hl2
  obtain ⟨r1, r2⟩ := at0.two hl2
  cases r1 with
  | @lst _ xs _ h1 hz1 h2 =>
    cases r2 with
    | @lst _ ys _ k1 hz2 k2 =>
      have h1 := SqL.of (K := K) (at0.rel.fz _ _ h1)
      have k1 := SqL.of (K := K) (at0.rel.fz _ _ k1)
      refine ⟨fun d' hd' => ?_, fun hi => ⟨xs, ys, h1, k1, by rw [zipL_len] at hi; rw [h2.length, k2.length]; omega⟩⟩
      obtain ⟨x, y, e1, e2, rfl⟩ := zipL_get hd'
      obtain ⟨u, g1, g2⟩ := h2.get e1
      obtain ⟨v, g3, g4⟩ := k2.get e2
      refine ⟨⟨xs, ys, u, v, h1, k1, g1, g3⟩, fun w H' y => ?_⟩
      obtain ⟨T, x', y', rfl, hT, rfl, q1, q2⟩ := y
      have q1 := q1 xs h1
      have q2 := q2 ys k1
      rw [g1] at q1; rw [g3] at q2
      cases q1; cases q2
      exact new_pair at0 g2 g4 hT
theorem itzT_ok {a b : Addr} {ds es : List Dt} : ItOk K (RZ.ItzT K a b) [some (.ref a), some (.ref b)] [.frz (.tup ds), .frz (.tup es)] (zipL ds es) := by
  intro i R σ τ t2 ρ θ s2 F H at0 hl hl2
  obtain ⟨r1, r2⟩ := at0.two hl2
  cases r1 with
  | @tup _ xs _ h1 hz1 h2 =>
    cases r2 with
    | @tup _ ys _ k1 hz2 k2 =>
      have h1 := ex_t at0.rel.fz h1
      have k1 := ex_t at0.rel.fz k1
      refine ⟨fun d' hd' => ?_, fun hi => ⟨xs, ys, h1, k1, by rw [zipL_len] at hi; rw [h2.length, k2.length]; omega⟩⟩
      obtain ⟨x, y, e1, e2, rfl⟩ := zipL_get hd'
      obtain ⟨u, g1, g2⟩ := h2.get e1
      obtain ⟨v, g3, g4⟩ := k2.get e2
      refine ⟨⟨xs, ys, u, v, h1, k1, g1, g3⟩, fun w H' y => ?_⟩
      obtain ⟨T, x', y', rfl, hT, rfl, q1, q2⟩ := y
      have q1 := q1 xs h1
      have q2 := q2 ys k1
      rw [g1] at q1; rw [g3] at q2
      cases q1; cases q2
      exact new_pair at0 g2 g4 hT
theorem di_zip {fa : Sl → O (List Rs × Sl)} {Q : It → Hp → Prop} (h : dI K mg W (iFrz zipD fa) σ H Q) : RZ.iZipA K (dA K mg W fa) σ H Q := by
  refine dI_args h fun R τ θ rs ρ1 xs F1 H1 a1 hl hr h1 => ?_
  simp only at h1
  cases e : freezeAll rs ρ1 with
  | none => rw [e] at h1; exact False.elim h1
  | some q =>
    obtain ⟨ds, ρ2⟩ := q
    obtain ⟨F2, ex2, a2, rp2⟩ := freezeAll_ok a1 hl hr e
    simp only [e] at h1
    cases e2 : zipD ds with
    | none => simp [e2] at h1
    | some out =>
      simp only [e2] at h1
      unfold zipD at e2
      split at e2
      · cases e2
        cases rp2 with
        | cons p1 r2 =>
          cases r2 with
          | cons p2 r3 =>
            cases r3
            have aa : At K R σ (τ ++ [some _, some _]) ρ2 (θ ++ [.frz _, .frz _]) F2 H1 := (At.of_rel ((At.of_rel (a2.rel.pushF p1) a2.len).rel.pushF p2) a2.len).assoc
            cases p1 with
            | lst g1 g2 g3 =>
              cases p2 with
              | lst k1 k2 k3 => exact ⟨_, _, _, _, rfl, .inl ⟨SqL.of (a2.rel.fz _ _ g1), SqL.of (a2.rel.fz _ _ k1), h1 _ _ _ _ _ rfl aa itz_ok⟩⟩
      · cases e2
        cases rp2 with
        | cons p1 r2 =>
          cases r2 with
          | cons p2 r3 =>
            cases r3
            have aa : At K R σ (τ ++ [some _, some _]) ρ2 (θ ++ [.frz _, .frz _]) F2 H1 := (At.of_rel ((At.of_rel (a2.rel.pushF p1) a2.len).rel.pushF p2) a2.len).assoc
            cases p1 with
            | tup g1 g2 g3 =>
              cases p2 with
              | tup k1 k2 k3 => exact ⟨_, _, _, _, rfl, .inr ⟨ex_t a2.rel.fz g1, ex_t a2.rel.fz k1, h1 _ _ _ _ _ rfl aa itzT_ok⟩⟩
      · cases e2
def enumL (n : Nat) : List Dt → List Dt
  | [] => []
  | d :: ds => .tup [.int (n : Int), d] :: enumL (n + 1) ds
theorem enumL_get : ∀ {n : Nat} {ds : List Dt} {i : Nat} {d : Dt}, (enumL n ds)[i]? = some d → ∃ e, ds[i]? = some e ∧ d = .tup [.int ((n + i : Nat) : Int), e]
  | _, [], _, _, h => by simp [enumL] at h
  | n, e :: ds, 0, d, h => by simp [enumL] at h; exact ⟨e, rfl, h.symm⟩
  | n, e :: ds, i + 1, d, h => by
    simp only [enumL, List.getElem?_cons_succ] at h
    obtain ⟨e', h1, h2⟩ := enumL_get h
    exact ⟨e', by simpa using h1, by rw [h2]; congr 4; omega⟩
theorem enumL_len : ∀ (n : Nat) (ds : List Dt), (enumL n ds).length = ds.length
  | _, [] => rfl
  | n, d :: ds => by simp [enumL, enumL_len (n + 1) ds]
def enumD : List Dt → Option (List Dt)
  | [.lst xs] => some (enumL 0 xs)
  | _ => none
@[simp] theorem enumD_lst (xs : List Dt) : enumD [.lst xs] = some (enumL 0 xs) := rfl
theorem ite_ok {a : Addr} {ds : List Dt} : ItOk K (Ite K a) [some (.ref a)] [.frz (.lst ds)] (enumL 0 ds) := by
  intro i R σ τ t2 ρ θ s2 F H at0 hl hl2
  have rp := at0.atT hl2
  cases rp with
  | @lst _ ys _ h1 hz h2 =>
    have h1 := SqL.of (K := K) (at0.rel.fz _ _ h1)
    refine ⟨fun d' hd' => ?_, fun hi => ⟨ys, h1, by rw [enumL_len] at hi; rw [h2.length]; exact hi⟩⟩
    obtain ⟨e, e1, rfl⟩ := enumL_get hd'
    obtain ⟨v, g1, g2⟩ := h2.get e1
    refine ⟨⟨ys, v, h1, g1⟩, fun x H' y => ?_⟩
    obtain ⟨T, x', rfl, hT, rfl, q⟩ := y
    have q := q ys h1
    rw [g1] at q
    cases q
    have := new_pair at0 (.int ((i : Nat) : Int)) g2 hT
    rw [Nat.zero_add]
    exact this
theorem di_enum {fa : Sl → O (List Rs × Sl)} {Q : It → Hp → Prop} (h : dI K mg W (iFrz enumD fa) σ H Q) : iEnum K (dA K mg W fa) σ H Q := by
  refine dI_args h fun R τ θ rs ρ1 xs F1 H1 a1 hl hr h1 => ?_
  simp only at h1
  cases e : freezeAll rs ρ1 with
  | none => rw [e] at h1; exact False.elim h1
  | some q =>
    obtain ⟨ds, ρ2⟩ := q
    obtain ⟨F2, ex2, a2, rp2⟩ := freezeAll_ok a1 hl hr e
    simp only [e] at h1
    cases e2 : enumD ds with
    | none => simp [e2] at h1
    | some out =>
      simp only [e2] at h1
      unfold enumD at e2
      split at e2
      · cases e2
        cases rp2 with
        | cons p1 r2 =>
          cases r2
          have aa : At K R σ (τ ++ [some _]) ρ2 (θ ++ [.frz _]) F2 H1 := At.of_rel (a2.rel.pushF p1) a2.len
          cases p1 with
          | lst g1 g2 g3 => exact ⟨_, _, rfl, SqL.of (a2.rel.fz _ _ g1), h1 _ _ _ _ _ rfl aa ite_ok⟩
      · cases e2
/-! ### lists changed by their methods -/
def VMut (K : PySem.W.Frag) (r : V → List V → Hp → VK → Prop) (upf : List Dt → List Dt → Option (Dt × List Dt)) : Prop :=
  ∀ (F H : Hp) (p : Addr) (xs ys : List V) (ds es ds' : List Dt) (o : Dt) (Q : VK), Ex F H → H p = some (.lst xs) → RpAll K F xs ds → RpAll K F ys es → upf ds es = some (o, ds') →
    (∀ v xs', Rp K F v o → RpAll K F xs' ds' → xs'.length ≤ sizeLine → Q v (upd H p (.lst xs'))) → xs.length ≤ sizeLine → r (.ref p) ys H Q
def mutAt (i : Nat) (upf : List Dt → List Dt → Option (Dt × List Dt)) (es : List Dt) (ρ : Sl) : O (Rs × Sl) := match ρ[i]? with
  | some (.loc ds) => (match upf ds es with
    | some (o, ds') => .ok (.val o, ρ.set i (.loc ds'))
    | none => .bad)
  | some (.io ds) => (match upf ds es with
    | some (o, ds') => .ok (.val o, ρ.set i (.io ds'))
    | none => .bad)
  | _ => .bad
def eMut (i : Nat) (upf : List Dt → List Dt → Option (Dt × List Dt)) (fa : Sl → O (List Rs × Sl)) : Sl → O (Rs × Sl) := fun ρ => (eVar i ρ).bind fun q => match q.1 with
  | .ref _ => (fa q.2).bind fun q2 => match freezeAll q2.1 q2.2 with
    | some (es, ρ2) => mutAt i upf es ρ2
    | none => .bad
  | _ => .bad
theorem eVar_ref {i j : Nat} {ρ ρ' : Sl} (h : eVar i ρ = .ok (.ref j, ρ')) : j = i ∧ ρ' = ρ ∧ ∃ s, ρ[i]? = some s ∧ s.own = true := by
  unfold eVar at h
  split at h <;> first | (cases h; done) | (cases h; exact ⟨rfl, rfl, _, by assumption, rfl⟩)
theorem mut_go {r : V → List V → Hp → VK → Prop} {upf : List Dt → List Dt → Option (Dt × List Dt)} {i : Nat} {x : V} {ys : List V} {es : List Dt} {Q : VK} (hv : VMut K r upf) (a : At K R σ τ ρ θ F H) (hx : σ[i]? = some (some x)) (hy : RpAll K F ys es)
    (h : kE K mg W R σ τ θ Q (mutAt i upf es ρ)) : r x ys H Q := by
  have hil : i < σ.length := (List.getElem?_eq_some_iff.mp hx).1
  have hx2 : (σ ++ τ)[i]? = some (some x) := by rw [List.getElem?_append_left hil]; exact hx
  unfold mutAt at h
  have go : ∀ (s s' : Slot) (ds ds' : List Dt) (o : Dt), ρ[i]? = some s → s.own = true → ((s = .loc ds ∧ s' = .loc ds') ∨ (s = .io ds ∧ s' = .io ds')) → upf ds es = some (o, ds') → kE K mg W R σ τ θ Q (.ok (.val o, ρ.set i s')) → r x ys H Q := fun s s' ds ds' o hs ho hk hu hq => by
    have hi' : i < ρ.length := (List.getElem?_eq_some_iff.mp hs).1
    have hs2 : (ρ ++ θ)[i]? = some s := by rw [List.getElem?_append_left hi']; exact hs
    obtain ⟨p, xs, ds0, e1, e2, e3, e4, e5, e6, e7⟩ := ownAt a.rel hx2 hs2 ho
    cases e1
    have : ds0 = ds := by
      rcases hk with ⟨z, _⟩ | ⟨z, _⟩ <;> (subst z; rcases e7 with y | y | y <;> first | (injection y with y; exact y.symm) | exact nomatch y)
    subst this
    refine hv F H p xs ys ds0 es ds' o Q a.rel.fz e4 e6 hy hu (fun v xs' rv rx hz => ?_) e5
    have w := a.rel.write (s' := s') hx2 hs2 ho rx hz (by rcases hk with ⟨z1, z2⟩ | ⟨z1, z2⟩ <;> (subst z1; subst z2); exact .inl ⟨_, rfl, rfl⟩; exact .inr ⟨_, rfl, rfl⟩)
    rw [set_pre hi'] at w
    exact hq v F _ (At.of_rel (w.pushF rv) (by rw [List.length_set]; exact a.len)) trivial
  split at h
  · rename_i ds hs
    split at h
    · rename_i o ds' hu
      exact go _ _ ds ds' o hs rfl (.inl ⟨rfl, rfl⟩) hu h
    · exact h.elim
  · rename_i ds hs
    split at h
    · rename_i o ds' hu
      exact go _ _ ds ds' o hs rfl (.inr ⟨rfl, rfl⟩) hu h
    · exact h.elim
  · exact h.elim
theorem own_ty {s : Slot} {i : Nat} {x : V} (a : At K R σ τ ρ θ F H) (hx : σ[i]? = some (some x)) (hs : ρ[i]? = some s) (ho : s.own = true) : tyV K "list" x H := by
  have hil : i < σ.length := (List.getElem?_eq_some_iff.mp hx).1
  have hi' : i < ρ.length := (List.getElem?_eq_some_iff.mp hs).1
  obtain ⟨p, xs, ds0, e1, e2, e3, e4, _⟩ := ownAt a.rel (by rw [List.getElem?_append_left hil]; exact hx) (by rw [List.getElem?_append_left hi']; exact hs) ho
  cases e1
  exact .inl ⟨rfl, _, SqL.of e4⟩
theorem de_mut {i : Nat} {r : V → List V → Hp → VK → Prop} {upf : List Dt → List Dt → Option (Dt × List Dt)} {fa : Sl → O (List Rs × Sl)} {Q : VK} (hv : VMut K r upf) (h : dE K mg W (eMut i upf fa) σ H Q) : tBM K "list" r (dE K mg W (eVar i)) (dA K mg W fa) σ H Q := by
  obtain ⟨R, τ, θ, ρ, F, a, h⟩ := h
  refine ⟨R, τ, θ, ρ, F, a, ?_⟩
  unfold eMut at h
  cases ev : eVar i ρ with
  | ok q =>
    obtain ⟨r1, ρ1⟩ := q
    rw [ev] at h
    cases r1 with
    | ref j =>
      obtain ⟨rfl, rfl, s, hs, ho⟩ := eVar_ref ev
      intro x F1 H1 a1 hr1
      have hx : σ[j]? = some (some x) := hr1
      refine ⟨own_ty a1 hx hs ho, ?_⟩
      simp only [O.bind_ok] at h
      refine dA_bind (kB := kE K mg W R σ τ θ Q) (t2 := [some x]) (s2 := [(Rs.ref j).slot]) a1 rfl kE_x kE_b h fun rs ρ2 ys F2 H2 a2 hr2 h2 => ?_
      simp only at h2
      cases e : freezeAll rs ρ2 with
      | none => rw [e] at h2; exact h2.elim
      | some q =>
        obtain ⟨es, ρ3⟩ := q
        rw [e] at h2
        have a3 : At K R σ ((τ ++ [some x]) ++ ys.map some) ρ2 ((θ ++ [(Rs.ref j).slot]) ++ rs.map Rs.slot) F2 H2 := by simpa using a2
        obtain ⟨F4, ex4, a4, rp4⟩ := freezeAll_ok a3 (by simp [a.tlen]) hr2 e
        exact mut_go hv (a4.drop (t2 := [some x]) (s2 := [(Rs.ref j).slot]) rfl) hx rp4 h2
    | val d => exact h.elim
    | own ds => exact h.elim
  | exc x ρ1 => rw [ev] at h; exact h
  | bad => rw [ev] at h; exact h.elim
theorem de_mut0 {i : Nat} {r : V → List V → Hp → VK → Prop} {upf : List Dt → List Dt → Option (Dt × List Dt)} {Q : VK} (hv : VMut K r upf) (h : dE K mg W (eMut i upf aNil) σ H Q) : tBM0 K "list" r (dE K mg W (eVar i)) σ H Q := by
  obtain ⟨R, τ, θ, ρ, F, a, h⟩ := h
  refine ⟨R, τ, θ, ρ, F, a, ?_⟩
  unfold eMut at h
  cases ev : eVar i ρ with
  | ok q =>
    obtain ⟨r1, ρ1⟩ := q
    rw [ev] at h
    cases r1 with
    | ref j =>
      obtain ⟨rfl, rfl, s, hs, ho⟩ := eVar_ref ev
      intro x F1 H1 a1 hr1
      have hx : σ[j]? = some (some x) := hr1
      refine ⟨own_ty a1 hx hs ho, ?_⟩
      simp only [O.bind_ok, aNil, freezeAll] at h
      exact mut_go hv (a1.drop (t2 := [some x]) (s2 := [(Rs.ref j).slot]) rfl) hx .nil h
    | val d => exact h.elim
    | own ds => exact h.elim
  | exc x ρ1 => rw [ev] at h; exact h
  | bad => rw [ev] at h; exact h.elim
def appU : List Dt → List Dt → Option (Dt × List Dt)
  | ds, [d] => if ds.length < 16777216 then some (.non, ds ++ [d]) else none
  | _, _ => none
@[simp] theorem appU_one (ds : List Dt) (d : Dt) : appU ds [d] = if ds.length < 16777216 then some (.non, ds ++ [d]) else none := rfl
theorem RpAll.one_of {F : Hp} {xs : List V} {d : Dt} (h : RpAll K F xs [d]) : ∃ x, xs = [x] ∧ Rp K F x d := by
  cases h with
  | cons a r => cases r; exact ⟨_, rfl, a⟩
theorem v_app : VMut K rAppend appU := by
  intro F H p xs ys ds es ds' o Q ex hp hx hy e k hz
  unfold appU at e
  split at e
  · split at e
    · rename_i hl
      cases e
      obtain ⟨y, rfl, ry⟩ := hy.one_of
      have hl2 : xs.length < sizeLine := by rw [hx.length, sizeLine_eq]; exact hl
      exact ⟨p, xs, y, rfl, rfl, hp, hl2, k _ _ .non (hx.append (.one ry)) (by rw [List.length_append]; exact hl2)⟩
    · cases e
  · cases e
def extU : List Dt → List Dt → Option (Dt × List Dt)
  | ds, [.lst es] => if ds.length + es.length ≤ 16777216 then some (.non, ds ++ es) else none
  | _, _ => none
@[simp] theorem extU_one (ds es : List Dt) : extU ds [.lst es] = if ds.length + es.length ≤ 16777216 then some (.non, ds ++ es) else none := rfl
theorem v_ext : VMut K rExtend extU := by
  intro F H p xs ys ds es ds' o Q ex hp hx hy e k hz
  unfold extU at e
  split at e
  · split at e
    · rename_i hl
      cases e
      obtain ⟨y, rfl, ry⟩ := hy.one_of
      cases ry with
      | @lst _ zs _ h1 h2 h3 =>
        have hl2 : (xs ++ zs).length ≤ sizeLine := by rw [List.length_append, hx.length, h3.length, sizeLine_eq]; exact hl
        have hl3 := hl2
        rw [List.length_append] at hl3
        exact ⟨p, _, xs, _, rfl, rfl, hp, ex _ _ h1, hl3, k _ _ .non (hx.append h3) hl2⟩
    · cases e
  · cases e
def popU : List Dt → List Dt → Option (Dt × List Dt)
  | ds, [] => (ds[ds.length - 1]?).map fun d => (d, ds.dropLast)
  | _, _ => none
theorem v_pop : VMut K rPop popU := by
  intro F H p xs ys ds es ds' o Q ex hp hx hy e k hz
  unfold popU at e
  split at e
  · obtain ⟨d, h1, h2⟩ := Option.map_eq_some_iff.mp e
    cases h2
    cases hy
    obtain ⟨v, g1, g2⟩ := hx.get h1
    exact ⟨p, xs, v, rfl, rfl, hp, by rw [hx.length]; exact g1, k _ _ g2 hx.dropLast (by rw [List.length_dropLast]; omega)⟩
  · cases e
def popAtU : List Dt → List Dt → Option (Dt × List Dt)
  | ds, [.int i] => if -1000000000 ≤ i ∧ i ≤ 1000000000 then (seqIndex? i ds.length).bind fun k => (ds[k]?).map fun d => (d, ds.eraseIdx k) else none
  | _, _ => none
theorem v_popAt : VMut K rPopAt popAtU := by
  intro F H p xs ys ds es ds' o Q ex hp hx hy e k hz
  unfold popAtU at e
  split at e
  · split at e
    · rename_i hb
      obtain ⟨j, h0, e⟩ := Option.bind_eq_some_iff.mp e
      obtain ⟨d, h1, h2⟩ := Option.map_eq_some_iff.mp e
      cases h2
      obtain ⟨y, rfl, ry⟩ := hy.one_of
      cases ry
      obtain ⟨v, g1, g2⟩ := hx.get h1
      refine ⟨p, xs, _, j, v, rfl, rfl, hp, by omega, by omega, by rw [hx.length]; exact h0, g1, k _ _ g2 (hx.eraseIdx _) (Nat.le_trans (len_erase _ _) hz)⟩
    · cases e
  · cases e
/-! ### xs[k] = e -/
def sSetIx (i : Nat) (fi fe : Sl → O (Rs × Sl)) : Sl → O (Fl × Sl) := fun ρ => (fe ρ).bind fun q => match freeze1 q.1 q.2 with
  | none => .bad
  | some (d, ρ1) => (eVar i ρ1).bind fun qv => match qv.1 with
    | .ref _ => (fi qv.2).bind fun q2 => match q2.1, q2.2[i]? with
      | .val (.int k), some (.loc ds) => (match ixN ds.length k with
        | some j => .ok (.nx, q2.2.set i (.loc (ds.set j d)))
        | none => .bad)
      | .val (.int k), some (.io ds) => (match ixN ds.length k with
        | some j => .ok (.nx, q2.2.set i (.io (ds.set j d)))
        | none => .bad)
      | _, _ => .bad
    | _ => .bad
theorem ds_setIx {i : Nat} {fi fe : Sl → O (Rs × Sl)} {D : Ends} (h : dS K mg W (sSetIx i fi fe) D σ H) : tAsg (dE K mg W fe) (gSub (dE K mg W (eVar i)) (dE K mg W fi) rSetL) D σ H := by
  obtain ⟨R, τ, θ, ρ, F, a, h⟩ := h
  refine dE_bind (kB := kS K mg W R τ θ D) a.nil rfl kS_x kS_b h fun r1 ρ1 y F1 H1 a1 hr1 h1 => ?_
  simp only [List.nil_append] at a1
  simp only at h1
  cases ef : freeze1 r1 ρ1 with
  | none => rw [ef] at h1; exact h1.elim
  | some q =>
    obtain ⟨d, ρ2⟩ := q
    rw [ef] at h1
    obtain ⟨F2, ex2, a2, rp2⟩ := freeze1_ok a1 hr1 ef
    simp only at h1
    refine ⟨R, τ ++ [some y], θ ++ [.frz d], ρ2, F2, a2, ?_⟩
    cases ev : eVar i ρ2 with
    | ok q =>
      obtain ⟨r3, ρ3⟩ := q
      rw [ev] at h1
      cases r3 with
      | ref j =>
        obtain ⟨rfl, rfl, s, hs, ho⟩ := eVar_ref ev
        intro x F3 H3 a3 hr3
        have hx : σ[j]? = some (some x) := hr3
        simp only [O.bind_ok] at h1
        refine dE_bind (kB := kS K mg W R τ θ D) (t2 := [some y, some x]) (s2 := [.frz d, (Rs.ref j).slot]) (by simpa using a3) rfl kS_x kS_b h1 fun r4 ρ4 z F4 H4 a4 hr4 h4 => ?_
        have ht := a.tlen
        have rpy : Rp K F4 y d := by
          have a5 : At K R σ ((τ ++ [some y]) ++ [some x, some z]) ρ4 ((θ ++ [.frz d]) ++ [(Rs.ref j).slot, r4.slot]) F4 H4 := by simpa using a4
          exact a5.atT rfl
        have a6 := a4.drop (t2 := [some y, some x] ++ [some z]) (s2 := [.frz d, (Rs.ref j).slot] ++ [r4.slot]) rfl
        have hil : j < σ.length := (List.getElem?_eq_some_iff.mp hx).1
        have hx2 : (σ ++ τ)[j]? = some (some x) := by rw [List.getElem?_append_left hil]; exact hx
        have go : ∀ (k : Int) (jj : Nat) (s s' : Slot) (ds : List Dt), r4 = .val (.int k) → ρ4[j]? = some s → s.own = true → ((s = .loc ds ∧ s' = .loc (ds.set jj d)) ∨ (s = .io ds ∧ s' = .io (ds.set jj d))) → ixN ds.length k = some jj → kS K mg W R τ θ D (.ok (.nx, ρ4.set j s')) →
            rSetL x z y H4 fun H5 => D.nx σ H5 := fun k jj s s' ds hr hs ho hk hu hq => by
          subst hr
          have hi' : j < ρ4.length := (List.getElem?_eq_some_iff.mp hs).1
          have hs2 : (ρ4 ++ θ)[j]? = some s := by rw [List.getElem?_append_left hi']; exact hs
          obtain ⟨p, xs, ds0, e1, e2, e3, e4, e5, e6, e7⟩ := ownAt a6.rel hx2 hs2 ho
          cases e1
          have : ds0 = ds := by
            rcases hk with ⟨z, _⟩ | ⟨z, _⟩ <;> (subst z; rcases e7 with y | y | y <;> first | (injection y with y; exact y.symm) | exact nomatch y)
          subst this
          have rz : z = .int k := by
            have a7 : At K R σ ((τ ++ [some y, some (V.ref p)]) ++ [some z]) ρ4 ((θ ++ [.frz d, (Rs.ref j).slot]) ++ [.frz (.int k)]) F4 H4 := by simpa using a4
            exact a7.pushed.int_of
          refine ⟨p, xs, k, jj, rfl, rz, e4, by rw [e6.length]; exact hu, ?_⟩
          have w := a6.rel.write (s' := s') hx2 hs2 ho (e6.set rpy jj) (by rw [List.length_set]; exact e5) (by rcases hk with ⟨z1, z2⟩ | ⟨z1, z2⟩ <;> (subst z1; subst z2); exact .inl ⟨_, rfl, rfl⟩; exact .inr ⟨_, rfl, rfl⟩)
          rw [set_pre hi'] at w
          exact hq σ F4 _ ⟨w, by rw [List.length_set]; exact a6.len⟩
        cases r4 with
        | val d4 =>
          cases d4 with
          | int k =>
            cases es : ρ4[j]? with
            | none => simp only [es] at h4; exact h4.elim
            | some s4 =>
              cases s4 with
              | loc ds =>
                simp only [es] at h4
                cases e3 : ixN ds.length k with
                | none => simp only [e3] at h4; exact h4.elim
                | some jj =>
                  simp only [e3] at h4
                  exact go k jj _ _ ds rfl es rfl (.inl ⟨rfl, rfl⟩) e3 h4
              | io ds =>
                simp only [es] at h4
                cases e3 : ixN ds.length k with
                | none => simp only [e3] at h4; exact h4.elim
                | some jj =>
                  simp only [e3] at h4
                  exact go k jj _ _ ds rfl es rfl (.inr ⟨rfl, rfl⟩) e3 h4
              | _ => simp only [es] at h4; exact h4.elim
          | _ => exact h4.elim
        | _ => exact h4.elim
      | val d => exact h1.elim
      | own ds => exact h1.elim
    | exc x ρ3 =>
      rw [ev] at h1
      exact fun cls d' F3 H3 a3 q => h1 cls d' σ F3 H3 (a3.drop (t2 := [some y]) (s2 := [.frz d]) rfl) q
    | bad => rw [ev] at h1; exact h1.elim
/-! ### a, b = x, y -/
def layS (i : Nat) (r : Rs) (ρ : Sl) : Option Sl := match ρ[i]? with
  | some t => if t.pin = true ∨ r.plain = false then none else some (ρ.set i r.slot)
  | none => none
theorem layS_ok {i : Nat} {r : Rs} {v : V} {ρ' : Sl} (a : At K R σ (τ ++ [some v]) ρ (θ ++ [r.slot]) F H) (h : layS i r ρ = some ρ') : At K R (σ.set i (some v)) τ ρ' θ F H := by
  unfold layS at h
  cases e : ρ[i]? with
  | none => rw [e] at h; cases h
  | some t =>
    simp only [e] at h
    split at h
    · cases h
    · cases h
      exact a.lay e (by cases r <;> rfl)
def par2K (i j : Nat) (rs : List Rs) (ρ : Sl) : O (Fl × Sl) := match rs with
  | [r1, r2] => if i = j then .bad else match (layS j r2 ρ).bind (layS i r1) with
    | some ρ' => .ok (.nx, ρ')
    | none => .bad
  | _ => .bad
def par3K (i j l : Nat) (rs : List Rs) (ρ : Sl) : O (Fl × Sl) := match rs with
  | [r1, r2, r3] => if i = j ∨ i = l ∨ j = l then .bad else match ((layS l r3 ρ).bind (layS j r2)).bind (layS i r1) with
    | some ρ' => .ok (.nx, ρ')
    | none => .bad
  | _ => .bad
def sPar2 (i j : Nat) (fa : Sl → O (List Rs × Sl)) : Sl → O (Fl × Sl) := fun ρ => (fa ρ).bind fun q => par2K i j q.1 q.2
def sPar3 (i j l : Nat) (fa : Sl → O (List Rs × Sl)) : Sl → O (Fl × Sl) := fun ρ => (fa ρ).bind fun q => par3K i j l q.1 q.2
theorem dS_args {fa : Sl → O (List Rs × Sl)} {g : List Rs × Sl → O (Fl × Sl)} {D : Ends} {Q' : List V → Hp → Prop} (h : dS K mg W (fun ρ => (fa ρ).bind g) D σ H)
    (next : ∀ R τ θ rs ρ1 xs F1 H1, At K R σ (τ ++ xs.map some) ρ1 (θ ++ rs.map Rs.slot) F1 H1 → τ.length = θ.length → RsAt σ xs rs → kS K mg W R τ θ D (g (rs, ρ1)) → Q' xs H1) : dA K mg W fa σ H Q' := by
  obtain ⟨R, τ, θ, ρ, F, a, h⟩ := h
  refine dA_bind (kB := kS K mg W R τ θ D) a.nil rfl kS_x kS_b h fun rs ρ1 xs F1 H1 a1 hr1 h1 => ?_
  simp only [List.nil_append] at a1
  exact next R τ θ rs ρ1 xs F1 H1 a1 a.tlen hr1 h1
theorem par2_go {i j : Nat} {rs : List Rs} {xs : List V} {D : Ends} {F1 H1 : Hp} (a1 : At K R σ (τ ++ xs.map some) ρ (θ ++ rs.map Rs.slot) F1 H1) (hr : RsAt σ xs rs)
    (h : kS K mg W R τ θ D (par2K i j rs ρ)) : ∃ v w, xs = [v, w] ∧ ∃ F2, ∃ ρ', At K R ((σ.set i (some v)).set j (some w)) τ ρ' θ F2 H1 ∧ kS K mg W R τ θ D (.ok (.nx, ρ')) := by
  unfold par2K at h
  split at h
  · rename_i r1 r2
    split at h
    · exact h.elim
    · rename_i hij
      split at h
      · rename_i ρ' e
        obtain ⟨ρ2, e1, e2⟩ := Option.bind_eq_some_iff.mp e
        match xs, hr with
        | [v, w], _ =>
          have a2 : At K R σ ((τ ++ [some v]) ++ [some w]) ρ ((θ ++ [r1.slot]) ++ [r2.slot]) F1 H1 := by simpa using a1
          have a3 := layS_ok (layS_ok a2 e1) e2
          rw [List.set_comm _ _ (Ne.symm hij)] at a3
          exact ⟨v, w, rfl, F1, ρ', a3, h⟩
      · exact h.elim
  · exact h.elim
theorem ds_par2 {i j : Nat} {fa : Sl → O (List Rs × Sl)} {D : Ends} (h : dS K mg W (sPar2 i j fa) D σ H) : tPar i j (dA K mg W fa) D σ H := by
  refine dS_args h fun R τ θ rs ρ1 xs F1 H1 a1 hl hr h1 => ?_
  obtain ⟨v, w, e, F2, ρ', a2, k⟩ := par2_go a1 hr h1
  exact ⟨v, w, e, k _ F2 H1 a2⟩
theorem par3_go {i j l : Nat} {rs : List Rs} {xs : List V} {D : Ends} {F1 H1 : Hp} (a1 : At K R σ (τ ++ xs.map some) ρ (θ ++ rs.map Rs.slot) F1 H1) (hr : RsAt σ xs rs)
    (h : kS K mg W R τ θ D (par3K i j l rs ρ)) : ∃ u v w, xs = [u, v, w] ∧ ∃ F2, ∃ ρ', At K R (((σ.set i (some u)).set j (some v)).set l (some w)) τ ρ' θ F2 H1 ∧ kS K mg W R τ θ D (.ok (.nx, ρ')) := by
  unfold par3K at h
  split at h
  · rename_i r1 r2 r3
    split at h
    · exact h.elim
    · rename_i hij
      simp only [not_or] at hij
      split at h
      · rename_i ρ' e
        obtain ⟨ρ3, e0, e2⟩ := Option.bind_eq_some_iff.mp e
        obtain ⟨ρ2, e0, e1⟩ := Option.bind_eq_some_iff.mp e0
        match xs, hr with
        | [u, v, w], _ =>
          have a2 : At K R σ (((τ ++ [some u]) ++ [some v]) ++ [some w]) ρ (((θ ++ [r1.slot]) ++ [r2.slot]) ++ [r3.slot]) F1 H1 := by simpa using a1
          have a3 := layS_ok (layS_ok (layS_ok a2 e0) e1) e2
          rw [List.set_comm _ _ (Ne.symm hij.2.2), List.set_comm _ _ (Ne.symm hij.2.1), List.set_comm _ _ (Ne.symm hij.1)] at a3
          exact ⟨u, v, w, rfl, F1, ρ', by first | exact a3 | (rw [List.set_comm _ _ hij.2.2] at a3; exact a3), h⟩
      · exact h.elim
  · exact h.elim
theorem ds_par3 {i j l : Nat} {fa : Sl → O (List Rs × Sl)} {D : Ends} (h : dS K mg W (sPar3 i j l fa) D σ H) : tPar3 i j l (dA K mg W fa) D σ H := by
  refine dS_args h fun R τ θ rs ρ1 xs F1 H1 a1 hl hr h1 => ?_
  obtain ⟨u, v, w, e, F2, ρ', a2, k⟩ := par3_go a1 hr h1
  exact ⟨u, v, w, e, k _ F2 H1 a2⟩
/-- the tuple is made and taken apart -/
theorem ds_par2T {i j : Nat} {fa : Sl → O (List Rs × Sl)} {D : Ends} (h : dS K mg W (sPar2 i j fa) D σ H) : tAsg (tTup (dA K mg W fa)) (gTup K 2 (gCons (gName i) (gCons (gName j) gNil))) D σ H := by
  refine dS_args h fun R τ θ rs ρ1 xs F1 H1 a1 hl hr h1 => ?_
  obtain ⟨v, w, e, F2, ρ', a2, k⟩ := par2_go a1 hr h1
  subst e
  refine ⟨Evl.sz_of (by simp), fun p hp => ?_⟩
  exact ⟨p, [v, w], rfl, SqT.of upd_same, rfl, v, [w], rfl, w, [], rfl, rfl, k _ F2 _ ⟨a2.rel.grow (ex_upd hp), a2.len⟩⟩
theorem ds_par3T {i j l : Nat} {fa : Sl → O (List Rs × Sl)} {D : Ends} (h : dS K mg W (sPar3 i j l fa) D σ H) : tAsg (tTup (dA K mg W fa)) (gTup K 3 (gCons (gName i) (gCons (gName j) (gCons (gName l) gNil)))) D σ H := by
  refine dS_args h fun R τ θ rs ρ1 xs F1 H1 a1 hl hr h1 => ?_
  obtain ⟨u, v, w, e, F2, ρ', a2, k⟩ := par3_go a1 hr h1
  subst e
  refine ⟨Evl.sz_of (by simp), fun p hp => ?_⟩
  exact ⟨p, [u, v, w], rfl, SqT.of upd_same, rfl, u, [v, w], rfl, v, [w], rfl, w, [], rfl, rfl, k _ F2 _ ⟨a2.rel.grow (ex_upd hp), a2.len⟩⟩
end
end FX

/-! FX11: the rules by syntax. -/
namespace FX
open PySem L2 PyProof.Rows
open Evl (Ex ex_t ex_l)
section
variable {X : Cx} {e : Expr} {st : Stmt} {sts : List Stmt}
theorem PE.imp {t t' : TE} (h : PE X e t) (w : ∀ σ H Q, t' σ H Q → t σ H Q) : PE X e t' := ⟨fun pins s σ H Q I q => h.run pins s σ H Q I (w _ _ _ q)⟩
theorem PT.imp {t t' : TT} (h : PT X e t) (w : ∀ σ H Q, t' σ H Q → t σ H Q) : PT X e t' := ⟨fun pins s σ H Q I q => h.run pins s σ H Q I (w _ _ _ q)⟩
theorem PW.imp {t t' : TT} (h : PW X e t) (w : ∀ σ H Q, t' σ H Q → t σ H Q) : PW X e t' := ⟨fun wh pins s σ H Q I q => h.run wh pins s σ H Q I (w _ _ _ q)⟩
theorem PA.imp {es : List Expr} {t t' : TA} (h : PA X es t) (w : ∀ σ H Q, t' σ H Q → t σ H Q) : PA X es t' := ⟨fun pos pins s σ H Q I q => h.run pos pins s σ H Q I (w _ _ _ q)⟩
theorem PS.imp {t t' : TS} (h : PS X st t) (w : ∀ D σ H, t' D σ H → t D σ H) : PS X st t' := ⟨fun pins s σ H D I q => h.run pins s σ H D I (w _ _ _ q)⟩
theorem PSs.imp {t t' : TS} (h : PSs X sts t) (w : ∀ D σ H, t' D σ H → t D σ H) : PSs X sts t' := ⟨fun pins s σ H D I q => h.run pins s σ H D I (w _ _ _ q)⟩
theorem PI.imp {tg : Expr} {t t' : TI} (h : PI X tg e t) (w : ∀ σ H Q, t' σ H Q → t σ H Q) : PI X tg e t' := ⟨fun pins s σ H R I q => h.run pins s σ H R I (w _ _ _ q)⟩
theorem PO.imp {oe : Option Expr} {t t' : TO} (h : PO X oe t) (w : ∀ σ H Q, t' σ H Q → t σ H Q) : PO X oe t' := ⟨fun pins s σ H Q I q => h.run pins s σ H Q I (w _ _ _ q)⟩
theorem PTs.imp {es : List Expr} {t t' : TT} (h : PTs X es t) (w : ∀ σ H Q, t' σ H Q → t σ H Q) : PTs X es t' := ⟨fun pins s σ H Q I q => h.run pins s σ H Q I (w _ _ _ q)⟩
end
abbrev XE (X : Cx) (W : WX) (e : Expr) (f : Sl → O (Rs × Sl)) : Prop := PE X e (dE X.K X.mg W f)
abbrev XT (X : Cx) (W : WX) (e : Expr) (f : Sl → O (Bool × Sl)) : Prop := PT X e (dT X.K X.mg W f)
abbrev XW (X : Cx) (W : WX) (e : Expr) (f : Sl → O (Bool × Sl)) : Prop := PW X e (dT X.K X.mg W f)
abbrev XA (X : Cx) (W : WX) (e : List Expr) (f : Sl → O (List Rs × Sl)) : Prop := PA X e (dA X.K X.mg W f)
abbrev XS (X : Cx) (W : WX) (e : Stmt) (f : Sl → O (Fl × Sl)) : Prop := PS X e (dS X.K X.mg W f)
abbrev XSs (X : Cx) (W : WX) (e : List Stmt) (f : Sl → O (Fl × Sl)) : Prop := PSs X e (dS X.K X.mg W f)
abbrev XI (X : Cx) (W : WX) (tg e : Expr) (f : Sl → O (List Dt × Sl)) : Prop := PI X tg e (dI X.K X.mg W f)
abbrev XO (X : Cx) (W : WX) (e : Option Expr) (f : Sl → O (Option Int × Sl)) : Prop := PO X e (dO X.K X.mg W f)
abbrev XTs (X : Cx) (W : WX) (e : List Expr) (f : Sl → O (Bool × Sl)) : Prop := PTs X e (dT X.K X.mg W f)
/-- a target -/
structure XG (X : Cx) (tg : Expr) (ix : List Nat) (g : TG) (b : Dt → Sl → Option Sl) : Prop where
  pg : PG X tg g
  ok : TgOk X.K ix g b
structure XGs (X : Cx) (tg : List Expr) (ix : List Nat) (g : TGs) (b : List Dt → Sl → Option Sl) : Prop where
  pg : PGs X tg g
  ok : TgsOk X.K ix g b
section
variable {X : Cx} {W : WX} {a b c : Expr} {es : List Expr} {pos p2 : Pos} {f g k : Sl → O (Rs × Sl)} {t u : Sl → O (Bool × Sl)} {fa : Sl → O (List Rs × Sl)}
/-! ### names, constants -/
theorem x_var (i : Nat) {x : Str} (hN : X.N[i]? = some x := by rfl) (hv : Vis X.env.scope x := by first | exact Or.inl rfl | exact Or.inr (Or.inl rfl) | exact Or.inr (Or.inr rfl)) (hd : (x == ("__debug__" : Str)) = false := by decide)
    (hcd : (x == ("__classdict__" : Str)) = false := by decide) : XE X W (.Name x pos) (eVar i) := PE.imp (pe_var hN hv hd hcd) fun _ _ _ => de_var
theorem x_int {i : Int} {j} : XE X W (.Constant (.int i) j pos) (eC (.int i)) := PE.imp pe_int fun _ _ _ => de_c rfl
theorem x_bl {i : Bool} {j} : XE X W (.Constant (.bool i) j pos) (eC (.bl i)) := PE.imp pe_bl fun _ _ _ => de_c rfl
theorem x_non {j} : XE X W (.Constant .none j pos) (eC .non) := PE.imp pe_non fun _ _ _ => de_c rfl
theorem x_str {i : Str} {j} : XE X W (.Constant (.str i) j pos) (eC (.str i)) := PE.imp pe_str fun _ _ _ => de_c rfl
theorem x_glob {x : Str} {d : Dt} {v : V} {u : Value} (hm : X.mg x = some u) (hv : d.sc = some v) (r : RelV v u) (hg : Gl X x := by rfl) (hd : (x == ("__debug__" : Str)) = false := by decide) : XE X W (.Name x pos) (eC d) := PE.imp (pe_glob hg hm r hd) fun _ _ _ => de_c hv
/-! ### operators -/
theorem x_add (ha : XE X W a f) (hb : XE X W b g) : XE X W (.BinOp a .Add b pos) (eBin addD f g) := PE.imp (pe_op op_addD ha hb) fun _ _ _ => de_bin v_add
theorem x_sub (ha : XE X W a f) (hb : XE X W b g) : XE X W (.BinOp a .Sub b pos) (eBin subD f g) := PE.imp (pe_op op_sub ha hb) fun _ _ _ => de_bin v_sub
theorem x_mul (ha : XE X W a f) (hb : XE X W b g) : XE X W (.BinOp a .Mult b pos) (eBin mulD f g) := PE.imp (pe_op op_mulD ha hb) fun _ _ _ => de_bin v_mul
theorem x_fdiv (ha : XE X W a f) (hb : XE X W b g) : XE X W (.BinOp a .FloorDiv b pos) (eBin fdivD f g) := PE.imp (pe_op op_fdivW ha hb) fun _ _ _ => de_bin v_fdiv
theorem x_mod (ha : XE X W a f) (hb : XE X W b g) : XE X W (.BinOp a .Mod b pos) (eBin modD f g) := PE.imp (pe_op op_mod ha hb) fun _ _ _ => de_bin v_mod
theorem x_pow (ha : XE X W a f) (hb : XE X W b g) : XE X W (.BinOp a .Pow b pos) (eBin powD f g) := PE.imp (pe_op op_powW ha hb) fun _ _ _ => de_bin v_pow
theorem x_neg (ha : XE X W a f) : XE X W (.UnaryOp .USub a pos) (eUn negD f) := PE.imp (pe_un un_neg ha) fun _ _ _ => de_un v_neg
theorem x_cmp {op : CmpOp} {r : R2} {opf : Dt → Dt → Option Rs} (ho : OpR X (compareOp op) r) (hv : VOp2 X.K r opf) (ha : XE X W a f) (hb : XE X W b g) (hm : behindInMarks op b = false) : XE X W (.Compare a [op] [b] pos) (eBin opf f g) := PE.imp (pe_cmpR ho ha hb hm) fun _ _ _ => de_bin hv
theorem t_cmp {op : CmpOp} {r : R2} {opf : Dt → Dt → Option Rs} (ho : OpR X (compareOp op) r) (hv : VOp2 X.K r opf) (ha : XE X W a f) (hb : XE X W b g) (hm : behindInMarks op b = false) : XT X W (.Compare a [op] [b] pos) (tstB (eBin opf f g)) :=
  PT.imp (pt_cmpR ho ha hb hm) fun _ _ _ h => de_bin hv (dt_tstB h)
theorem x_lt (ha : XE X W a f) (hb : XE X W b g) : XE X W (.Compare a [.Lt] [b] pos) (eBin ltD f g) := x_cmp op_lt (v_cmp _) ha hb (nomark _)
theorem x_le (ha : XE X W a f) (hb : XE X W b g) : XE X W (.Compare a [.LtE] [b] pos) (eBin leD f g) := x_cmp op_le (v_cmp _) ha hb (nomark _)
theorem x_gt (ha : XE X W a f) (hb : XE X W b g) : XE X W (.Compare a [.Gt] [b] pos) (eBin gtD f g) := x_cmp op_gt (v_cmp _) ha hb (nomark _)
theorem x_ge (ha : XE X W a f) (hb : XE X W b g) : XE X W (.Compare a [.GtE] [b] pos) (eBin geD f g) := x_cmp op_ge (v_cmp _) ha hb (nomark _)
theorem x_eq (hu : X.A.units + 64 < cLine) (ha : XE X W a f) (hb : XE X W b g) : XE X W (.Compare a [.Eq] [b] pos) (eBin eqD f g) := x_cmp (op_eqAll hu) v_eq ha hb (nomark _)
theorem x_ne (hu : X.A.units + 64 < cLine) (ha : XE X W a f) (hb : XE X W b g) : XE X W (.Compare a [.NotEq] [b] pos) (eBin neD f g) := x_cmp (op_neAll hu) v_ne ha hb (nomark _)
theorem x_is (ha : XE X W a f) (hb : XE X W b g) : XE X W (.Compare a [.Is] [b] pos) (eBin isD f g) := x_cmp op_isNB v_is ha hb (nomark _)
theorem x_isNot (ha : XE X W a f) (hb : XE X W b g) : XE X W (.Compare a [.IsNot] [b] pos) (eBin isNotD f g) := x_cmp op_notNB v_isNot ha hb (nomark _)
theorem t_lt (ha : XE X W a f) (hb : XE X W b g) : XT X W (.Compare a [.Lt] [b] pos) (tstB (eBin ltD f g)) := t_cmp op_lt (v_cmp _) ha hb (nomark _)
theorem t_le (ha : XE X W a f) (hb : XE X W b g) : XT X W (.Compare a [.LtE] [b] pos) (tstB (eBin leD f g)) := t_cmp op_le (v_cmp _) ha hb (nomark _)
theorem t_gt (ha : XE X W a f) (hb : XE X W b g) : XT X W (.Compare a [.Gt] [b] pos) (tstB (eBin gtD f g)) := t_cmp op_gt (v_cmp _) ha hb (nomark _)
theorem t_ge (ha : XE X W a f) (hb : XE X W b g) : XT X W (.Compare a [.GtE] [b] pos) (tstB (eBin geD f g)) := t_cmp op_ge (v_cmp _) ha hb (nomark _)
theorem t_eq (hu : X.A.units + 64 < cLine) (ha : XE X W a f) (hb : XE X W b g) : XT X W (.Compare a [.Eq] [b] pos) (tstB (eBin eqD f g)) := t_cmp (op_eqAll hu) v_eq ha hb (nomark _)
theorem t_ne (hu : X.A.units + 64 < cLine) (ha : XE X W a f) (hb : XE X W b g) : XT X W (.Compare a [.NotEq] [b] pos) (tstB (eBin neD f g)) := t_cmp (op_neAll hu) v_ne ha hb (nomark _)
theorem t_is (ha : XE X W a f) (hb : XE X W b g) : XT X W (.Compare a [.Is] [b] pos) (tstB (eBin isD f g)) := t_cmp op_isNB v_is ha hb (nomark _)
theorem t_isNot (ha : XE X W a f) (hb : XE X W b g) : XT X W (.Compare a [.IsNot] [b] pos) (tstB (eBin isNotD f g)) := t_cmp op_notNB v_isNot ha hb (nomark _)
theorem op_inAll (hu : X.A.units + 65 < cLine) : OpR X (compareOp .In) (rInAll X.K) := op_in_str.or (op_in_seq.or (op_inD hu))
theorem op_notInAll (hu : X.A.units + 65 < cLine) : OpR X (compareOp .NotIn) (rNotInAll X.K) := op_notin_str.or (op_notIn_seq.or (op_notInD hu))
theorem x_in (hu : X.A.units + 65 < cLine) (ha : XE X W a f) (hb : XE X W b g) (hm : behindInMarks .In b = false := by rfl) : XE X W (.Compare a [.In] [b] pos) (eBin inD f g) := x_cmp (op_inAll hu) v_in ha hb hm
theorem x_notIn (hu : X.A.units + 65 < cLine) (ha : XE X W a f) (hb : XE X W b g) (hm : behindInMarks .NotIn b = false := by rfl) : XE X W (.Compare a [.NotIn] [b] pos) (eBin notInD f g) := x_cmp (op_notInAll hu) v_notIn ha hb hm
theorem t_in (hu : X.A.units + 65 < cLine) (ha : XE X W a f) (hb : XE X W b g) (hm : behindInMarks .In b = false := by rfl) : XT X W (.Compare a [.In] [b] pos) (tstB (eBin inD f g)) := t_cmp (op_inAll hu) v_in ha hb hm
theorem t_notIn (hu : X.A.units + 65 < cLine) (ha : XE X W a f) (hb : XE X W b g) (hm : behindInMarks .NotIn b = false := by rfl) : XT X W (.Compare a [.NotIn] [b] pos) (tstB (eBin notInD f g)) := t_cmp (op_notInAll hu) v_notIn ha hb hm
/-! ### and, or, not, if -/
theorem t_val (ha : XE X W a f) (he : ∀ whole, isTrue a X.env whole = (do let v ← whole; standAt a.pos; holding [v] (truthy v)) := by intro _; rfl) : XT X W a (tst f) := PT.imp (pt_truth ha he) fun _ _ _ => dt_tst
theorem w_and1 (ha : XT X W a t) : XW X W (.BoolOp .And [a] pos) t := pw_and1 ha
theorem w_or1 (ha : XT X W a t) : XW X W (.BoolOp .Or [a] pos) t := pw_or1 ha
theorem w_and (ha : XT X W a t) (hb : XW X W (.BoolOp .And (b :: es) pos) u) : XW X W (.BoolOp .And (a :: b :: es) pos) (tAndD t u) := PW.imp (pw_and ha hb) fun _ _ _ => dt_and
theorem w_or (ha : XT X W a t) (hb : XW X W (.BoolOp .Or (b :: es) pos) u) : XW X W (.BoolOp .Or (a :: b :: es) pos) (tOrD t u) := PW.imp (pw_or ha hb) fun _ _ _ => dt_or
theorem t_w (h : XW X W a t) : XT X W a t := PW.pt h
theorem t_not (ha : XT X W a t) : XT X W (.UnaryOp .Not a pos) (tNotD t) := PT.imp (pt_not ha) fun _ _ _ => dt_not
theorem x_one {op} (ha : XE X W a f) : XE X W (.BoolOp op [a] pos) f := pe_one ha
theorem x_and (ha : XE X W a f) (hb : XE X W (.BoolOp .And (b :: es) pos) g) : XE X W (.BoolOp .And (a :: b :: es) pos) (eAndV f g) := PE.imp (pe_and ha hb) fun _ _ _ => de_andV
theorem x_or (ha : XE X W a f) (hb : XE X W (.BoolOp .Or (b :: es) pos) g) : XE X W (.BoolOp .Or (a :: b :: es) pos) (eOrV f g) := PE.imp (pe_or ha hb) fun _ _ _ => de_orV
theorem x_not (ha : XE X W a f) : XE X W (.UnaryOp .Not a pos) (eNotV f) := PE.imp (pe_not ha) fun _ _ _ => de_notV
theorem x_if (hc : XT X W c t) (ha : XE X W a f) (hb : XE X W b g) : XE X W (.IfExp c a b pos) (eIf t f g) := PE.imp (pe_ifExp hc ha hb) fun _ _ _ => de_if
/-! ### displays, items, slices -/
theorem a_nil : XA X W [] aNil := PA.imp pa_nil fun _ _ _ => da_nil
theorem a_cons (ha : XE X W a f) (hr : XA X W es fa) (hs : starEach (a :: es) X.env = (false, eval a X.env) :: starEach es X.env := by rfl) : XA X W (a :: es) (aCons f fa) := PA.imp (pa_cons ha hr hs) fun _ _ _ => da_cons
theorem x_tup {x1} (h : XA X W es fa) : XE X W (.Tuple es x1 pos) (eTup fa) := PE.imp (pe_tup h) fun _ _ _ => de_tup
theorem x_lst (h : XA X W es fa) : XE X W (.List es pos) (eLst fa) := PE.imp (pe_lst h) fun _ _ _ => de_lst
theorem x_ix (ha : XE X W a f) (hb : XE X W b g) (hs : PlainIx b := by exact fun _ _ => rfl) : XE X W (.Subscript a b pos) (eBin ixD f g) := PE.imp (pe_ix ix_seq ha hb hs) fun _ _ _ => de_bin v_ix
theorem o_none : XO X W none oNone := PO.imp po_none fun _ _ _ => do_none
theorem o_some (h : XE X W a f) : XO X W (some a) (oSome f) := PO.imp (po_some h) fun _ _ _ => do_some
theorem x_slice {lo hi : Option Expr} {l h : Sl → O (Option Int × Sl)} (ha : XE X W a f) (hl : XO X W lo l) (hh : XO X W hi h) : XE X W (.Subscript a (.Slice lo hi none p2) pos) (eSlice f l h) := PE.imp (pe_slice sl_all ha hl hh) fun _ _ _ => de_slice
/-! ### built-ins -/
theorem x_blt {x : Str} {id : String} {p : Pos} {r : List V → Hp → VK → Prop} {opf : List Dt → Option Rs} (hc : CallR X (.builtin id) r) (hv : VOpN X.K r opf) (hm : X.mg x = none) (hb : bootBuiltins x = some (.builtin id)) (ha : XA X W (a :: es) fa) (hg : Gl X x := by rfl) (hn : x ≠ "__name__" := by decide)
    (hdb : (x == ("__debug__" : Str)) = false := by decide) (he : starEach (a :: es) X.env = (false, eval a X.env) :: starEach es X.env := by rfl) (hpl : (backTo pos (starEach es X.env)).any (·.1) = false := by rfl) : XE X W (.Call (.Name x p) (a :: es) [] pos) (eBlt opf fa) :=
  PE.imp (pe_callB hc hg hm hb ha hn hdb he hpl) fun _ _ _ => de_blt hv
theorem x_bty {x : Str} {id : String} {p : Pos} {r : List V → Hp → VK → Prop} {opf : List Dt → Option Rs} (hc : CallR X (.type id) r) (hv : VOpN X.K r opf) (hm : X.mg x = none) (hb : bootBuiltins x = some (.type id)) (ha : XA X W (a :: es) fa) (hg : Gl X x := by rfl) (hn : x ≠ "__name__" := by decide)
    (hdb : (x == ("__debug__" : Str)) = false := by decide) (he : starEach (a :: es) X.env = (false, eval a X.env) :: starEach es X.env := by rfl) (hpl : (backTo pos (starEach es X.env)).any (·.1) = false := by rfl) : XE X W (.Call (.Name x p) (a :: es) [] pos) (eBlt opf fa) :=
  PE.imp (pe_callTy hc hg hm hb ha hn hdb he hpl) fun _ _ _ => de_blt hv
theorem x_len {p : Pos} (hm : X.mg "len" = none) (ha : XA X W [a] fa) (hg : Gl X "len" := by rfl) (he : starEach [a] X.env = (false, eval a X.env) :: starEach [] X.env := by rfl) : XE X W (.Call (.Name "len" p) [a] [] pos) (eBlt lenD fa) := x_blt cr_lenAll v_len hm boot_len ha hg (he := he)
theorem x_abs {p : Pos} (hm : X.mg "abs" = none) (ha : XA X W [a] fa) (hg : Gl X "abs" := by rfl) (he : starEach [a] X.env = (false, eval a X.env) :: starEach [] X.env := by rfl) : XE X W (.Call (.Name "abs" p) [a] [] pos) (eBlt absD fa) := x_blt call_abs v_abs hm boot_abs ha hg (he := he)
theorem x_sum {p : Pos} (hm : X.mg "sum" = none) (ha : XA X W [a] fa) (hc : X.calm = true := by rfl) (hg : Gl X "sum" := by rfl) (he : starEach [a] X.env = (false, eval a X.env) :: starEach [] X.env := by rfl) : XE X W (.Call (.Name "sum" p) [a] [] pos) (eBlt sumD fa) := x_blt (cr_sum hc) v_sum hm boot_sum ha hg (he := he)
theorem x_all {p : Pos} (hm : X.mg "all" = none) (ha : XA X W [a] fa) (hc : X.calm = true := by rfl) (hg : Gl X "all" := by rfl) (he : starEach [a] X.env = (false, eval a X.env) :: starEach [] X.env := by rfl) : XE X W (.Call (.Name "all" p) [a] [] pos) (eBlt allD fa) := x_blt (cr_all hc) v_all hm boot_all ha hg (he := he)
theorem x_any {p : Pos} (hm : X.mg "any" = none) (ha : XA X W [a] fa) (hc : X.calm = true := by rfl) (hg : Gl X "any" := by rfl) (he : starEach [a] X.env = (false, eval a X.env) :: starEach [] X.env := by rfl) : XE X W (.Call (.Name "any" p) [a] [] pos) (eBlt anyD fa) := x_blt (cr_any hc) v_any hm boot_any ha hg (he := he)
theorem x_max {p : Pos} (hm : X.mg "max" = none) (ha : XA X W (a :: es) fa) (hc : X.calm = true := by rfl) (hg : Gl X "max" := by rfl) (he : starEach (a :: es) X.env = (false, eval a X.env) :: starEach es X.env := by rfl) (hpl : (backTo pos (starEach es X.env)).any (·.1) = false := by rfl) :
    XE X W (.Call (.Name "max" p) (a :: es) [] pos) (eBlt maxD fa) := x_blt (cr_maxAll hc) v_max hm boot_max ha hg (he := he) (hpl := hpl)
theorem x_min {p : Pos} (hm : X.mg "min" = none) (ha : XA X W (a :: es) fa) (hc : X.calm = true := by rfl) (hg : Gl X "min" := by rfl) (he : starEach (a :: es) X.env = (false, eval a X.env) :: starEach es X.env := by rfl) (hpl : (backTo pos (starEach es X.env)).any (·.1) = false := by rfl) :
    XE X W (.Call (.Name "min" p) (a :: es) [] pos) (eBlt minD fa) := x_blt (cr_minAll hc) v_min hm boot_min ha hg (he := he) (hpl := hpl)
theorem x_toint {p : Pos} (hm : X.mg "int" = none) (ha : XA X W [a] fa) (hg : Gl X "int" := by rfl) (he : starEach [a] X.env = (false, eval a X.env) :: starEach [] X.env := by rfl) : XE X W (.Call (.Name "int" p) [a] [] pos) (eBlt intD fa) := x_bty call_int1 v_int hm PyProof.Rows.boot_int ha hg (he := he)
theorem x_tolist {p : Pos} (hm : X.mg "list" = none) (ha : XA X W [a] fa) (hg : Gl X "list" := by rfl) (he : starEach [a] X.env = (false, eval a X.env) :: starEach [] X.env := by rfl) : XE X W (.Call (.Name "list" p) [a] [] pos) (eBlt listD fa) := x_bty call_list_of v_list hm PyProof.Rows.boot_list ha hg (he := he)
theorem x_totuple {p : Pos} (hm : X.mg "tuple" = none) (ha : XA X W [a] fa) (hg : Gl X "tuple" := by rfl) (he : starEach [a] X.env = (false, eval a X.env) :: starEach [] X.env := by rfl) : XE X W (.Call (.Name "tuple" p) [a] [] pos) (eBlt tupleD fa) := x_bty call_tuple_of v_tuple hm PyProof.Rows.boot_tuple ha hg (he := he)
/-! ### isinstance -/
def Dt.tyName : Dt → String
  | .non => "NoneType"
  | .bl _ => "bool"
  | .int _ => "int"
  | .str _ => "str"
  | .tup _ => "tuple"
  | .lst _ => "list"
  | .scr _ => "list"
  | .emp => "dict"
def isiD (T : String) (d : Dt) : Option Rs := (kitB d.tyName T).map fun b => .val (.bl b)
theorem Rp.tyx {K : PySem.W.Frag} {H : Hp} {v : V} {d : Dt} (h : Rp K H v d) : TyX K H v (.type d.tyName) := by
  cases h with
  | non => exact .base .non
  | bl b => exact .base (.bl b)
  | int i => exact .base (.int i)
  | str x => exact .base (.str x)
  | tup h1 h2 h3 =>
    rcases h1 with (h1 | ⟨o, h1⟩) | ⟨o, its, n, hk, hc, _⟩
    · exact .base (.tup h1)
    · exact .fTuple h1
    · exact .kTuple hk hc
  | lst h1 h2 h3 => exact .base (.lst h1)
  | scr h1 =>
    rcases h1 with (h1 | ⟨o, h1⟩) | ⟨o, its, n, hk, hc, _⟩
    · exact .base (.lst h1)
    · exact .base (.frz h1)
    · exact .kList hk hc
  | emp h1 => exact .base (.dK h1)
theorem v_isi {K : PySem.W.Frag} {T : String} : VOp1 K (fun x H Q => rIsi K [x, .ty T] H Q) (isiD T) := by
  intro R vs ss F H x d out Q rel v e k
  unfold isiD at e
  obtain ⟨b, h1, h2⟩ := Option.map_eq_some_iff.mp e
  subst h2
  exact ⟨x, _, _, _, b, rfl, .ty T, (v.full rel.fz).tyx, kit_ty h1, endF rel k (.bl _)⟩
theorem x_isi {T : String} {xT : Str} {p pT : Pos} (hm : X.mg "isinstance" = none) (hmT : X.mg xT = none) (hbT : bootBuiltins xT = some (.type T)) (ha : XE X W a f) (hg : Gl X "isinstance" := by rfl) (hgT : Gl X xT := by rfl) (hnT : xT ≠ "__name__" := by decide) (hdT : (xT == ("__debug__" : Str)) = false := by decide)
    (he : starEach [a, .Name xT pT] X.env = (false, eval a X.env) :: starEach [.Name xT pT] X.env := by rfl) (hpl : (backTo pos (starEach [.Name xT pT] X.env)).any (·.1) = false := by rfl) (he2 : starEach [.Name xT pT] X.env = (false, eval (.Name xT pT) X.env) :: starEach [] X.env := by rfl) :
    XE X W (.Call (.Name "isinstance" p) [a, .Name xT pT] [] pos) (eUn (isiD T) f) := by
  have h1 : PA X [a, .Name xT pT] (tCons (dE X.K X.mg W f) (tCons (tC (.ty T)) tNil)) := pa_cons ha (pa_cons (pe_bltn hgT hmT hbT (show RelV (.ty T) (.type T) from rfl) hnT hdT) pa_nil he2) he
  exact PE.imp (pe_callB call_isi hg hm boot_isinstance h1 (he := he) (hpl := hpl)) fun σ H Q h => de_un v_isi h
/-! ### methods -/
theorem x_lcount {p pos' : Pos} (ha : XE X W a f) (hb : XA X W [b] fa) (hbase : attributeBase a "count" X.env (eval a X.env) = eval a X.env := by rfl)
    (hfew : ((backTo pos (starEach [b] X.env)).all (fun x => !x.1) && (backToKw pos (keywordEach [] X.env)).all (fun x => x.1.isSome) && decide ([b].length + ([] : List Keyword).length + (if ([] : List Keyword).isEmpty then 0 else 1) < 30)) = true := by rfl)
    (hline : (p.endLine == pos.line) = true := by rfl) (hs : starEach [b] X.env = (false, eval b X.env) :: starEach [] X.env := by rfl) (hplain : (backTo pos (starEach [] X.env)).any (·.1) = false := by rfl) :
    XE X W (.Call (.Attribute a "count" p) [b] [] pos) (eMet "list" countD f fa) :=
  PE.imp (pe_bm PySem.F.plainAttrs_list PySem.F.slot_list_count PySem.F.type_list_count mt_lcountF ha hb hbase hfew hline hs hplain) fun _ _ _ => de_met (.inr (.inl rfl)) v_count
theorem x_scount {p pos' : Pos} (ha : XE X W a f) (hb : XA X W [b] fa) (hbase : attributeBase a "count" X.env (eval a X.env) = eval a X.env := by rfl)
    (hfew : ((backTo pos (starEach [b] X.env)).all (fun x => !x.1) && (backToKw pos (keywordEach [] X.env)).all (fun x => x.1.isSome) && decide ([b].length + ([] : List Keyword).length + (if ([] : List Keyword).isEmpty then 0 else 1) < 30)) = true := by rfl)
    (hline : (p.endLine == pos.line) = true := by rfl) (hs : starEach [b] X.env = (false, eval b X.env) :: starEach [] X.env := by rfl) (hplain : (backTo pos (starEach [] X.env)).any (·.1) = false := by rfl) :
    XE X W (.Call (.Attribute a "count" p) [b] [] pos) (eMet "str" scountD f fa) :=
  PE.imp (pe_bm PySem.F.plainAttrs_str PySem.F.slot_str_count PySem.F.type_str_count mt_count ha hb hbase hfew hline hs hplain) fun _ _ _ => de_met (.inl rfl) v_scount
/-- lists changed: i the name's place -/
theorem x_mut1 {i : Nat} {x name : Str} {p pn : Pos} {id : String} {r : V → List V → Hp → VK → Prop} {upf : List Dt → List Dt → Option (Dt × List Dt)} (hm : MtR X id r) (hv : VMut X.K r upf) (slot : PySem.Slot "list" name id) (hty : typeOf (.builtin id) = pure (.type "method_descriptor"))
    (ha : XE X W (.Name x pn) (eVar i)) (hb : XA X W [b] fa) (hbase : attributeBase (.Name x pn) name X.env (eval (.Name x pn) X.env) = eval (.Name x pn) X.env := by rfl)
    (hfew : ((backTo pos (starEach [b] X.env)).all (fun x => !x.1) && (backToKw pos (keywordEach [] X.env)).all (fun x => x.1.isSome) && decide ([b].length + ([] : List Keyword).length + (if ([] : List Keyword).isEmpty then 0 else 1) < 30)) = true := by rfl)
    (hline : (p.endLine == pos.line) = true := by rfl) (hs : starEach [b] X.env = (false, eval b X.env) :: starEach [] X.env := by rfl) (hplain : (backTo pos (starEach [] X.env)).any (·.1) = false := by rfl) :
    XE X W (.Call (.Attribute (.Name x pn) name p) [b] [] pos) (eMut i upf fa) :=
  PE.imp (pe_bm PySem.F.plainAttrs_list slot hty hm ha hb hbase hfew hline hs hplain) fun _ _ _ => de_mut hv
theorem x_append {i : Nat} {x : Str} {p pn : Pos} (ha : XE X W (.Name x pn) (eVar i)) (hb : XA X W [b] fa) (hbase : attributeBase (.Name x pn) "append" X.env (eval (.Name x pn) X.env) = eval (.Name x pn) X.env := by rfl)
    (hfew : ((backTo pos (starEach [b] X.env)).all (fun x => !x.1) && (backToKw pos (keywordEach [] X.env)).all (fun x => x.1.isSome) && decide ([b].length + ([] : List Keyword).length + (if ([] : List Keyword).isEmpty then 0 else 1) < 30)) = true := by rfl)
    (hline : (p.endLine == pos.line) = true := by rfl) (hs : starEach [b] X.env = (false, eval b X.env) :: starEach [] X.env := by rfl) (hplain : (backTo pos (starEach [] X.env)).any (·.1) = false := by rfl) :
    XE X W (.Call (.Attribute (.Name x pn) "append" p) [b] [] pos) (eMut i appU fa) := x_mut1 mt_append v_app PySem.F.slot_list_append PySem.F.type_list_append ha hb hbase hfew hline hs hplain
theorem x_extend {i : Nat} {x : Str} {p pn : Pos} (ha : XE X W (.Name x pn) (eVar i)) (hb : XA X W [b] fa) (hbase : attributeBase (.Name x pn) "extend" X.env (eval (.Name x pn) X.env) = eval (.Name x pn) X.env := by rfl)
    (hfew : ((backTo pos (starEach [b] X.env)).all (fun x => !x.1) && (backToKw pos (keywordEach [] X.env)).all (fun x => x.1.isSome) && decide ([b].length + ([] : List Keyword).length + (if ([] : List Keyword).isEmpty then 0 else 1) < 30)) = true := by rfl)
    (hline : (p.endLine == pos.line) = true := by rfl) (hs : starEach [b] X.env = (false, eval b X.env) :: starEach [] X.env := by rfl) (hplain : (backTo pos (starEach [] X.env)).any (·.1) = false := by rfl) :
    XE X W (.Call (.Attribute (.Name x pn) "extend" p) [b] [] pos) (eMut i extU fa) := x_mut1 mt_extend v_ext PySem.F.slot_list_extend PySem.F.type_list_extend ha hb hbase hfew hline hs hplain
/-! ### what loops walk -/
theorem i_seq {tg : Expr} (ha : XE X W a f) : XI X W tg a (iSeqD f) := PI.imp (pi_seq ha) fun _ _ _ => di_seq
theorem i_rng1 {tg : Expr} {p : Pos} (hm : X.mg "range" = none) (ha : XA X W [a] fa) (hg : Gl X "range" := by rfl) (hs : starEach [a] X.env = [(false, eval a X.env)] := by rfl) : XI X W tg (.Call (.Name "range" p) [a] [] pos) (iRng rng1D fa) := PI.imp (pi_range1 hg hm ha hs) fun _ _ _ => di_rng1
theorem i_rng2 {tg : Expr} {p : Pos} (hm : X.mg "range" = none) (ha : XA X W [a, b] fa) (hg : Gl X "range" := by rfl) (hs : starEach [a, b] X.env = [(false, eval a X.env), (false, eval b X.env)] := by rfl) (hs2 : starEach [b] X.env = [(false, eval b X.env)] := by rfl) : XI X W tg (.Call (.Name "range" p) [a, b] [] pos) (iRng rng2D fa) := PI.imp (pi_range2 hg hm ha hs hs2) fun _ _ _ => di_rng2
theorem i_zip {elts : List Expr} {kk : Nat} {tpos p : Pos} (hm : X.mg "zip" = none) (ha : XA X W [a, b] fa) (hg : Gl X "zip" := by rfl) (hs : starEach [a, b] X.env = (false, eval a X.env) :: starEach [b] X.env := by rfl) (hpl : (backTo pos (starEach [b] X.env)).any (·.1) = false := by rfl) : XI X W (.Tuple elts kk tpos) (.Call (.Name "zip" p) [a, b] [] pos) (iFrz zipD fa) := PI.imp (RZ.pi_zipA hg hm ha hs hpl) fun _ _ _ => di_zip
theorem i_enum {elts : List Expr} {kk : Nat} {tpos p : Pos} (hm : X.mg "enumerate" = none) (ha : XA X W [a] fa) (hg : Gl X "enumerate" := by rfl) (hs : starEach [a] X.env = [(false, eval a X.env)] := by rfl) : XI X W (.Tuple elts kk tpos) (.Call (.Name "enumerate" p) [a] [] pos) (iFrz enumD fa) := PI.imp (pi_enum hg hm ha hs) fun _ _ _ => di_enum
end
end FX

/-! FX12: statements, comprehensions, calls by syntax; a def of the text. -/
namespace FX
open PySem L2 PyProof.Rows
open Evl (Ex ex_t ex_l)
section
variable {X : Cx} {W : WX} {a b c tg iter : Expr} {es : List Expr} {st : Stmt} {sts sts2 : List Stmt} {pos p2 p1 : Pos} {f g k : Sl → O (Rs × Sl)} {t u : Sl → O (Bool × Sl)} {fa : Sl → O (List Rs × Sl)} {s s1 s2 : Sl → O (Fl × Sl)} {fi : Sl → O (List Dt × Sl)}
/-! ### targets -/
theorem g_name {i : Nat} {x : Str} (hN : X.N.Nodup) (hi : X.N[i]? = some x := by rfl) (hx : Loc X.env.scope x := by first | exact Or.inl rfl | exact Or.inr rfl) (hf : X.fn x = true ∨ X.env.scope.names.lookup x = some .local := by first | exact .inl rfl | exact .inr rfl) : XG X (.Name x pos) [i] (gName i) (bName i) := ⟨pg_name hN hi hx hf, tg_name⟩
theorem gs_nil : XGs X [] [] gNil bNil := ⟨pgs_nil, tgs_nil⟩
theorem gs_cons {ix jx : List Nat} {g1 : TG} {g2 : TGs} {b1 : Dt → Sl → Option Sl} {b2 : List Dt → Sl → Option Sl} (h1 : XG X a ix g1 b1) (h2 : XGs X es jx g2 b2) (hs : (assignEach (a :: es) X.env).map (·.2) = assign a X.env :: (assignEach es X.env).map (·.2) := by rfl) :
    XGs X (a :: es) (ix ++ jx) (gCons g1 g2) (bCons b1 b2) := ⟨pgs_cons h1.pg h2.pg hs, tgs_cons h1.ok h2.ok⟩
theorem g_tup {ix : List Nat} {g1 : TGs} {b1 : List Dt → Sl → Option Sl} {kk n : Nat} (h : XGs X es ix g1 b1) (hc : X.calm = true := by rfl) (hn : (assignEach es X.env).length = n := by rfl) (hst : (assignEach es X.env).findIdx? (·.1) = none := by rfl) :
    XG X (.Tuple es kk pos) ix (gTup X.K n g1) (bTup n b1) := ⟨pg_tup hc h.pg hn hst, tg_tup h.ok⟩
/-! ### statements -/
theorem ss_nil : XSs X W [] sNx := PSs.imp pss_nil fun _ _ _ => ds_nx
theorem ss_one (h : XS X W st s) : XSs X W [st] s := pss_one h
theorem ss_cons (h1 : XS X W st s) (h2 : XSs X W sts s2) : XSs X W (st :: sts) (sSeq s s2) := PSs.imp (pss_cons h1 h2) fun _ _ _ => ds_seq
theorem s_pass : XS X W (.Pass pos) sNx := PS.imp ps_pass fun _ _ _ => ds_nx
theorem s_break : XS X W (.Break pos) sBk := PS.imp ps_break fun _ _ _ => ds_bk
theorem s_continue : XS X W (.Continue pos) sCt := PS.imp ps_continue fun _ _ _ => ds_ct
theorem s_ret (h : XE X W a f) : XS X W (.Return (some a) pos) (sRet f) := PS.imp (ps_ret h) fun _ _ _ => ds_ret
theorem s_retN : XS X W (.Return none pos) sRetN := PS.imp ps_retN fun _ _ _ => ds_retN
theorem s_if (hc : XT X W c t) (h1 : XSs X W sts s1) (h2 : XSs X W sts2 s2) : XS X W (.If c sts sts2 pos) (sIf t s1 s2) := PS.imp (ps_if hc h1 h2) fun _ _ _ => ds_if
theorem s_expr (h : XE X W a f) (hs : swapsWith a none pos.line X.env = pure false := by rfl) : XS X W (.Expr a pos) (sExpr f) := PS.imp (ps_expr h hs) fun _ _ _ => ds_expr
theorem s_doc {x j} : XS X W (.Expr (.Constant (.str x) j p2) pos) sNx := PS.imp ps_doc fun _ _ _ => ds_nx
def sBad : Sl → O (Fl × Sl) := fun _ => .bad
theorem s_never : XS X W st sBad := PS.imp (t := tNever) ps_never fun _ _ _ ⟨_, _, _, _, _, _, h⟩ => h
theorem s_set {i : Nat} {x : Str} (hN : X.N.Nodup) (h : XE X W a f) (hi : X.N[i]? = some x := by rfl) (hx : Loc X.env.scope x := by first | exact Or.inl rfl | exact Or.inr rfl) (hs : swapsWith a (some (.Name x p2)) pos.line X.env = pure false := by rfl)
    (hf : X.fn x = true ∨ X.env.scope.names.lookup x = some .local := by first | exact .inl rfl | exact .inr rfl) : XS X W (.Assign [.Name x p2] a pos) (sSet i f) := PS.imp (ps_set hN hi hx h hs hf) fun _ _ _ => ds_set
theorem s_tgt {ix : List Nat} {g1 : TG} {b1 : Dt → Sl → Option Sl} (hg : XG X tg ix g1 b1) (h : XE X W a f) (hs : swapsWithSole [tg] a pos.line X.env = pure false := by rfl) (hw : swappedStores [tg] a X.env = pure none := by rfl)
    (h1 : (assignEach [tg] X.env).map (·.2) = [assign tg X.env] := by rfl) : XS X W (.Assign [tg] a pos) (sTgt b1 f) := PS.imp (ps_asg h hg.pg hs hw h1) fun _ _ _ => ds_tgt hg.ok
theorem s_par2 {i j : Nat} {x y : Str} {px py pt : Pos} {kt k2 pt2} (hN : X.N.Nodup) (ha : XA X W [a, b] fa) (hc : X.calm = true := by rfl) (hi : X.N[i]? = some x := by rfl) (hj : X.N[j]? = some y := by rfl) (hij : i ≠ j := by decide)
    (hx : X.env.scope.names.lookup x = some .local := by rfl) (hy : X.env.scope.names.lookup y = some .local := by rfl)
    (hw : swappedStores [.Tuple [.Name x px, .Name y py] kt pt] (.Tuple [a, b] k2 pt2) X.env = pure (some [x, y]) := by rfl)
    (hs : swapsWithSole [.Tuple [.Name x px, .Name y py] kt pt] (.Tuple [a, b] k2 pt2) pos.line X.env = pure false := by rfl) :
    XS X W (.Assign [.Tuple [.Name x px, .Name y py] kt pt] (.Tuple [a, b] k2 pt2) pos) (sPar2 i j fa) := PS.imp (ps_par hc hN hi hj hij hx hy ha hw hs) fun _ _ _ => ds_par2
theorem s_par2T {i j : Nat} {x y : Str} {px py pt : Pos} {kt k2 pt2} (hN : X.N.Nodup) (ha : XA X W [a, b] fa) (hc : X.calm = true := by rfl) (hi : X.N[i]? = some x := by rfl) (hj : X.N[j]? = some y := by rfl)
    (hx : Loc X.env.scope x := by first | exact Or.inl rfl | exact Or.inr rfl) (hy : Loc X.env.scope y := by first | exact Or.inl rfl | exact Or.inr rfl)
    (hf : X.fn x = true ∨ X.env.scope.names.lookup x = some .local := by first | exact .inl rfl | exact .inr rfl) (hf2 : X.fn y = true ∨ X.env.scope.names.lookup y = some .local := by first | exact .inl rfl | exact .inr rfl)
    (hs : swapsWithSole [.Tuple [.Name x px, .Name y py] kt pt] (.Tuple [a, b] k2 pt2) pos.line X.env = pure false := by rfl) (hw : swappedStores [.Tuple [.Name x px, .Name y py] kt pt] (.Tuple [a, b] k2 pt2) X.env = pure none := by rfl)
    (h1 : (assignEach [.Tuple [.Name x px, .Name y py] kt pt] X.env).map (·.2) = [assign (.Tuple [.Name x px, .Name y py] kt pt) X.env] := by rfl)
    (hn : (assignEach [.Name x px, .Name y py] X.env).length = 2 := by rfl) (hst : (assignEach [.Name x px, .Name y py] X.env).findIdx? (·.1) = none := by rfl)
    (hq : (assignEach [.Name x px, .Name y py] X.env).map (·.2) = assign (.Name x px) X.env :: (assignEach [.Name y py] X.env).map (·.2) := by rfl) (hq2 : (assignEach [.Name y py] X.env).map (·.2) = assign (.Name y py) X.env :: (assignEach [] X.env).map (·.2) := by rfl) :
    XS X W (.Assign [.Tuple [.Name x px, .Name y py] kt pt] (.Tuple [a, b] k2 pt2) pos) (sPar2 i j fa) :=
  PS.imp (ps_asg (pe_tup ha) (pg_tup hc (pgs_cons (pg_name (i := i) hN hi hx hf) (pgs_cons (pg_name (i := j) hN hj hy hf2) pgs_nil hq2) hq) hn hst) hs hw h1) fun _ _ _ => ds_par2T
theorem s_par3T {i j l : Nat} {x y z : Str} {px py pz pt : Pos} {kt k2 pt2} (hN : X.N.Nodup) (ha : XA X W [a, b, c] fa) (hc : X.calm = true := by rfl) (hi : X.N[i]? = some x := by rfl) (hj : X.N[j]? = some y := by rfl) (hl : X.N[l]? = some z := by rfl)
    (hx : Loc X.env.scope x := by first | exact Or.inl rfl | exact Or.inr rfl) (hy : Loc X.env.scope y := by first | exact Or.inl rfl | exact Or.inr rfl) (hz : Loc X.env.scope z := by first | exact Or.inl rfl | exact Or.inr rfl)
    (hf : X.fn x = true ∨ X.env.scope.names.lookup x = some .local := by first | exact .inl rfl | exact .inr rfl) (hf2 : X.fn y = true ∨ X.env.scope.names.lookup y = some .local := by first | exact .inl rfl | exact .inr rfl) (hf3 : X.fn z = true ∨ X.env.scope.names.lookup z = some .local := by first | exact .inl rfl | exact .inr rfl)
    (hs : swapsWithSole [.Tuple [.Name x px, .Name y py, .Name z pz] kt pt] (.Tuple [a, b, c] k2 pt2) pos.line X.env = pure false := by rfl) (hw : swappedStores [.Tuple [.Name x px, .Name y py, .Name z pz] kt pt] (.Tuple [a, b, c] k2 pt2) X.env = pure none := by rfl)
    (h1 : (assignEach [.Tuple [.Name x px, .Name y py, .Name z pz] kt pt] X.env).map (·.2) = [assign (.Tuple [.Name x px, .Name y py, .Name z pz] kt pt) X.env] := by rfl)
    (hn : (assignEach [.Name x px, .Name y py, .Name z pz] X.env).length = 3 := by rfl) (hst : (assignEach [.Name x px, .Name y py, .Name z pz] X.env).findIdx? (·.1) = none := by rfl)
    (hq : (assignEach [.Name x px, .Name y py, .Name z pz] X.env).map (·.2) = assign (.Name x px) X.env :: (assignEach [.Name y py, .Name z pz] X.env).map (·.2) := by rfl) (hq2 : (assignEach [.Name y py, .Name z pz] X.env).map (·.2) = assign (.Name y py) X.env :: (assignEach [.Name z pz] X.env).map (·.2) := by rfl)
    (hq3 : (assignEach [.Name z pz] X.env).map (·.2) = assign (.Name z pz) X.env :: (assignEach [] X.env).map (·.2) := by rfl) :
    XS X W (.Assign [.Tuple [.Name x px, .Name y py, .Name z pz] kt pt] (.Tuple [a, b, c] k2 pt2) pos) (sPar3 i j l fa) :=
  PS.imp (ps_asg (pe_tup ha) (pg_tup hc (pgs_cons (pg_name (i := i) hN hi hx hf) (pgs_cons (pg_name (i := j) hN hj hy hf2) (pgs_cons (pg_name (i := l) hN hl hz hf3) pgs_nil hq3) hq2) hq) hn hst) hs hw h1) fun _ _ _ => ds_par3T
theorem s_aug {i : Nat} {x : Str} {op : Operator} {ti : TIp} {opf : Dt → Dt → Option Rs} (hN : X.N.Nodup) (ho : PIp X op ti) (hv : VOp2 X.K ti opf) (h : XE X W a f) (hi : X.N[i]? = some x := by rfl) (hx : Loc X.env.scope x := by first | exact Or.inl rfl | exact Or.inr rfl)
    (hf : X.fn x = true ∨ X.env.scope.names.lookup x = some .local := by first | exact .inl rfl | exact .inr rfl) : XS X W (.AugAssign (.Name x p2) op a pos) (sAug i opf f) := PS.imp (ps_aug hN hi hx h ho hf) fun _ _ _ => ds_aug hv
theorem ipI_of {fn : Int → Int → Int} {opf : Dt → Dt → Option Rs} {K : PySem.W.Frag} (h : VOp2 K (rI0 fun i j => .int (fn i j)) opf) : VOp2 K (ipI fn) opf := h
def augAddD : Dt → Dt → Option Rs
  | .int i, .int j => some (.val (.int (i + j)))
  | _, _ => none
@[simp] theorem augAddD_int (i j : Int) : augAddD (.int i) (.int j) = some (.val (.int (i + j))) := rfl
theorem v_augAdd {K : PySem.W.Frag} : VOp2 K (ipI fun i j => i + j) augAddD := by
  intro R vs ss F H x y d1 d2 out Q rel v1 v2 e k
  unfold augAddD at e
  split at e
  · cases e
    exact ⟨_, _, v1.int_of, v2.int_of, endF rel k (.int _)⟩
  · cases e
theorem s_augAdd {i : Nat} {x : Str} (hN : X.N.Nodup) (h : XE X W a f) (hi : X.N[i]? = some x := by rfl) (hx : Loc X.env.scope x := by first | exact Or.inl rfl | exact Or.inr rfl)
    (hf : X.fn x = true ∨ X.env.scope.names.lookup x = some .local := by first | exact .inl rfl | exact .inr rfl) : XS X W (.AugAssign (.Name x p2) .Add a pos) (sAug i augAddD f) := s_aug hN ip_add v_augAdd h hi hx hf
theorem s_augSub {i : Nat} {x : Str} (hN : X.N.Nodup) (h : XE X W a f) (hi : X.N[i]? = some x := by rfl) (hx : Loc X.env.scope x := by first | exact Or.inl rfl | exact Or.inr rfl)
    (hf : X.fn x = true ∨ X.env.scope.names.lookup x = some .local := by first | exact .inl rfl | exact .inr rfl) : XS X W (.AugAssign (.Name x p2) .Sub a pos) (sAug i subD f) := s_aug hN ip_sub (ipI_of v_sub) h hi hx hf
theorem s_setIx {i : Nat} {x : Str} {pn pt : Pos} (hv : XE X W (.Name x pn) (eVar i)) (hi : XE X W b g) (he : XE X W a f)
    (ha : ∀ v, assign (.Subscript (.Name x pn) b pt) X.env v = (do
      let ov ← holding [v] (eval (.Name x pn) X.env)
      let iv ← holding [v, ov] (eval b X.env)
      standAt pt
      holding [v, ov, iv] (setItem ov iv v)
      release [v, ov, iv] []) := by intro _; rfl)
    (hs : swapsWithSole [.Subscript (.Name x pn) b pt] a pos.line X.env = pure false := by rfl) (hw : swappedStores [.Subscript (.Name x pn) b pt] a X.env = pure none := by rfl)
    (h1 : (assignEach [.Subscript (.Name x pn) b pt] X.env).map (·.2) = [assign (.Subscript (.Name x pn) b pt) X.env] := by rfl) : XS X W (.Assign [.Subscript (.Name x pn) b pt] a pos) (sSetIx i g f) :=
  PS.imp (ps_asg he (pg_sub hv hi set_list ha) hs hw h1) fun _ _ _ => ds_setIx
theorem s_for {ix : List Nat} {g1 : TG} {b1 : Dt → Sl → Option Sl} (hp : PassesOwn (model X.prog X.w) X.A X.env X.xe) (hi : XI X W tg iter fi) (hg : XG X tg ix g1 b1) (hb : XSs X W sts s) (hc : X.calm = true := by rfl) (hs : ∀ x, foldedSetIterable iter X.env x = pure x := by intro _; rfl) :
    XS X W (.For tg iter sts [] pos) (sFor fi b1 s) := PS.imp (ps_for hp hc hi hg.pg hb hs) fun _ _ _ => ds_for hg.ok
theorem s_while {n : Nat} (hp : PassesOwn (model X.prog X.w) X.A X.env X.xe) (hc : XT X W c t) (hb : XSs X W sts s) : XS X W (.While c sts [] pos) (sWhile n t s) := PS.imp (ps_while hp hc hb) fun _ _ _ => ds_while
/-! ### comprehensions -/
theorem c_yes : XTs X W [] cYes := PTs.imp pts_nil fun σ H Q ⟨R, τ, θ, ρ, F, a, h⟩ => h F H a
theorem c_one (h : XT X W c t) : XTs X W [c] t := pts_one h
structure XC (X : Cx) (tg : Expr) (ifs : List Expr) (elt : Expr) (scope : Scope) (ix : List Nat) (g : TG) (b : Dt → Sl → Option Sl) (c : Sl → O (Bool × Sl)) (el : Sl → O (Rs × Sl)) : Prop where
  hg : ∀ (s : Shared) (H : Hp) (C : Addr) (cl : List (Str × Addr)) (fp : List Addr), XG (X.blk s H scope (compEnvC scope cl C X.env) fp) tg ix g b
  hc : ∀ (s : Shared) (H : Hp) (C : Addr) (cl : List (Str × Addr)) (fp : List Addr), XTs (X.blk s H scope (compEnvC scope cl C X.env) fp) W0 ifs c
  he : ∀ (s : Shared) (H : Hp) (C : Addr) (cl : List (Str × Addr)) (fp : List Addr), XE (X.blk s H scope (compEnvC scope cl C X.env) fp) W0 elt el
theorem x_comp {ifs : List Expr} {scope : Scope} {own : List (Str × Nat)} {g1 : TG} {b1 : Dt → Sl → Option Sl} (hN : X.N.Nodup) (hi : XI X W tg iter fi) (ok : BlkOk X.N X.env.scope scope own) (h : XC X tg ifs a scope (own.map (·.2)) g1 b1 t f) (hc : X.calm = true := by rfl) (hs : ∀ x, foldedSetIterable iter X.env x = pure x := by intro _; rfl) :
    XE X W (.ListComp a [⟨tg, iter, ifs, 0⟩] scope pos) (eComp fi b1 t f (own.map (·.2))) :=
  PE.imp (pe_lc hc hN hi ok (fun s H C cl fp => (h.hg s H C cl fp).pg) h.hc h.he hs) fun _ _ _ => de_comp (h.hg X.s_0 (fun _ => none) 0 [] []).ok
theorem s_setLc {i : Nat} {y : Str} {ifs : List Expr} {scope : Scope} {own : List (Str × Nat)} {g1 : TG} {b1 : Dt → Sl → Option Sl} (hN : X.N.Nodup) (hsw : swapsWith (.ListComp a [⟨tg, iter, ifs, 0⟩] scope p1) (some (.Name y p2)) pos.line X.env = pure true)
    (hi : XI X W tg iter fi) (ok : BlkOk X.N X.env.scope scope own) (h : XC X tg ifs a scope (own.map (·.2)) g1 b1 t f) (hy : X.N[i]? = some y := by rfl) (hyl : X.env.scope.names.lookup y = some .local := by rfl) (hc : X.calm = true := by rfl) (hs : ∀ x, foldedSetIterable iter X.env x = pure x := by intro _; rfl) :
    XS X W (.Assign [.Name y p2] (.ListComp a [⟨tg, iter, ifs, 0⟩] scope p1) pos) (sSet i (eComp fi b1 t f (own.map (·.2)))) :=
  PS.imp (ps_setLc hc hN hy hyl hsw hi ok (fun s H C cl fp => (h.hg s H C cl fp).pg) h.hc h.he hs) fun D σ H h' => by
    have := ds_set (i := i) h'
    exact de_comp (h.hg X.s_0 (fun _ => none) 0 [] []).ok this
end
/-! ### the text's defs -/
/-- a def of the text and its function -/
structure Fn (P : Program) (w : World) (K : PySem.W.Frag) (mg : Str → Option Value) (base : Heap) (x : Str) (st : Stmt) (k : Nat) (ps : List Str) (Fd : Sl → O (Rs × Sl)) : Prop where
  ex : ∃ f fd, Fun K x x st f fd ∧ mg x = some (.ref f) ∧ Binds K fd ps [] ∧ FnG P w K mg base k f fd ps (spD K mg ps.length Fd)
section
variable {X : Cx} {W : WX} {a : Expr} {es : List Expr} {pos p : Pos} {fa : Sl → O (List Rs × Sl)}
theorem x_call {x : Str} {st : Stmt} {k : Nat} {ps : List Str} {Fd : Sl → O (Rs × Sl)} (io : List Bool) (F : Fn X.prog X.w X.K X.mg X.base x st k ps Fd) (hr : RoomG k X.A) (tk : Takes X W) (ha : XA X W (a :: es) fa) (hn : io.length = ps.length := by rfl) (hg : Gl X x := by rfl) (hdb : (x == ("__debug__" : Str)) = false := by decide)
    (he : starEach (a :: es) X.env = (false, eval a X.env) :: starEach es X.env := by rfl) (hpl : (backTo pos (starEach es X.env)).any (·.1) = false := by rfl) : XE X W (.Call (.Name x p) (a :: es) [] pos) (eCall io Fd fa) := by
  obtain ⟨f, fd, hF, hm, hb, ok⟩ := F.ex
  exact PE.imp (pe_callG ok hr hg hm hF.kp hb tk ha hdb he hpl) fun _ _ _ h => de_call hn h
end
theorem u65 {k : Nat} {A : Around} (r : RoomG k A) : A.units + 65 < cLine := by have := r.r.un; omega
section
variable {P : Program} {w : World} {K : PySem.W.Frag} {mg : Str → Option Value} {base : Heap}
end
end FX

/-! FX13: calls with keywords. -/
namespace FX
open PySem L2 PyProof.Rows
section
variable {K : PySem.W.Frag} {mg : Str → Option Value} {R : RC} {F F' H H' : Hp} {vs ws : List (Option V)} {ss ts : Sl}
variable {σ : L2.St} {τ t2 : List (Option V)} {ρ θ s2 : Sl} {W : WX}
/-- the values of the places is -/
def pickL {α : Type} (is : List Nat) (x : List α) : List α := is.filterMap fun i => x[i]?
theorem pickL_in {α : Type} : ∀ {is : List Nat} {x : List α}, (∀ i ∈ is, i < x.length) → (pickL is x).length = is.length ∧ ∀ (j i : Nat), is[j]? = some i → (pickL is x)[j]? = x[i]?
  | [], _, _ => ⟨rfl, fun j i h => by simp at h⟩
  | a :: is, x, h => by
    have ha : a < x.length := h a (by simp)
    obtain ⟨h1, h2⟩ := pickL_in (is := is) (x := x) fun i hi => h i (by simp [hi])
    have e : pickL (a :: is) x = x[a] :: pickL is x := by
      unfold pickL
      rw [List.filterMap_cons, List.getElem?_eq_getElem ha]
    rw [e]
    refine ⟨by simp [h1], fun j i hj => ?_⟩
    cases j with
    | zero => simp at hj; subst hj; simp [List.getElem?_eq_getElem ha]
    | succ j => simp at hj; simpa using h2 j i hj
theorem pickL_map {α β : Type} (f : α → β) (is : List Nat) (x : List α) : pickL is (x.map f) = (pickL is x).map f := by
  unfold pickL
  induction is with
  | nil => rfl
  | cons a is ih =>
    rw [List.filterMap_cons, List.filterMap_cons, List.getElem?_map]
    cases x[a]? with
    | none => simpa using ih
    | some v => simpa using ih
theorem Rel.pick {is : List Nat} (r : Rel K R (vs ++ ws) (ss ++ ts) F H) (hl : vs.length = ss.length) (hw : ∀ i ∈ is, i < ws.length) (nd : is.Nodup) (np : ∀ t ∈ ts, t.pin = false) : Rel K R (vs ++ pickL is ws) (ss ++ pickL is ts) F H := by
  have hlen := r.len
  simp only [List.length_append] at hlen
  have hwt : ws.length = ts.length := by omega
  obtain ⟨l1, g1⟩ := pickL_in hw
  obtain ⟨l2, g2⟩ := pickL_in (x := ts) fun i hi => hwt ▸ hw i hi
  -- a place of the new lists, where it stood
  have look : ∀ {j : Nat} {w : Option V} {t : Slot}, (vs ++ pickL is ws)[j]? = some w → (ss ++ pickL is ts)[j]? = some t →
      (j < vs.length ∧ (vs ++ ws)[j]? = some w ∧ (ss ++ ts)[j]? = some t) ∨ (vs.length ≤ j ∧ ∃ i, is[j - vs.length]? = some i ∧ (vs ++ ws)[vs.length + i]? = some w ∧ (ss ++ ts)[vs.length + i]? = some t ∧ t.pin = false) := fun {j w t} h1 h2 => by
    by_cases hj : j < vs.length
    · rw [List.getElem?_append_left hj] at h1
      rw [List.getElem?_append_left (by omega)] at h2
      exact .inl ⟨hj, by rw [List.getElem?_append_left hj]; exact h1, by rw [List.getElem?_append_left (by omega)]; exact h2⟩
    · have hj' : vs.length ≤ j := by omega
      rw [List.getElem?_append_right hj'] at h1
      rw [List.getElem?_append_right (by omega)] at h2
      have hjl := (List.getElem?_eq_some_iff.mp h1).1
      have hx : j - vs.length < is.length := by omega
      refine .inr ⟨hj', is[j - vs.length], List.getElem?_eq_getElem hx, ?_, ?_, ?_⟩
      · rw [List.getElem?_append_right (by omega), Nat.add_sub_cancel_left, ← g1 _ _ (List.getElem?_eq_getElem hx)]; exact h1
      · rw [List.getElem?_append_right (by omega), show vs.length + is[j - vs.length] - ss.length = is[j - vs.length] by omega, ← g2 _ _ (List.getElem?_eq_getElem hx), hl]; exact h2
      · rw [← hl, g2 _ _ (List.getElem?_eq_getElem hx)] at h2
        exact np t (List.mem_of_getElem? h2)
  refine ⟨by simp only [List.length_append]; omega, r.exF, r.fz, r.new, r.kept, r.pinH, fun j w t h1 h2 => ?_, fun j k p t t' hjk h1 h2 h3 h4 o1 o2 => ?_⟩
  · rcases look h1 h2 with ⟨_, e1, e2⟩ | ⟨_, i, _, e1, e2, e3⟩
    · exact r.slot j w t e1 e2
    · exact (r.slot _ w t e1 e2).at e3
  · rcases look h1 h3 with ⟨m1, e1, e2⟩ | ⟨m1, i, e0, e1, e2, _⟩ <;> rcases look h2 h4 with ⟨m2, f1, f2⟩ | ⟨m2, i', f0, f1, f2, _⟩
    · exact r.sep j k p t t' hjk e1 f1 e2 f2 o1 o2
    · exact r.sep j (vs.length + i') p t t' (by omega) e1 f1 e2 f2 o1 o2
    · exact r.sep (vs.length + i) k p t t' (by omega) e1 f1 e2 f2 o1 o2
    · refine r.sep (vs.length + i) (vs.length + i') p t t' (fun e => ?_) e1 f1 e2 f2 o1 o2
      have e' : i = i' := by omega
      subst e'
      have ha := List.getElem?_eq_some_iff.mp e0
      have hb := List.getElem?_eq_some_iff.mp f0
      have := (List.getElem_inj (h₀ := ha.1) (h₁ := hb.1) nd).mp (ha.2.trans hb.2.symm)
      omega
theorem RsAt.len : ∀ {vs : List V} {rs : List Rs}, RsAt σ vs rs → vs.length = rs.length
  | [], [], _ => rfl
  | _ :: _, _ :: _, h => by simp [RsAt.len h.2]
  | [], _ :: _, h => h.elim
  | _ :: _, [], h => h.elim
theorem RsAt.ofGet : ∀ {vs : List V} {rs : List Rs}, vs.length = rs.length → (∀ (k : Nat) (v : V) (r : Rs), vs[k]? = some v → rs[k]? = some r → r.at σ v) → RsAt σ vs rs
  | [], [], _, _ => trivial
  | v :: vs, r :: rs, hl, h => ⟨h 0 v r rfl rfl, RsAt.ofGet (by simpa using hl) fun k v r h1 h2 => h (k + 1) v r (by simpa using h1) (by simpa using h2)⟩
theorem RsAt.pick {is : List Nat} {vs : List V} {rs : List Rs} (h : RsAt σ vs rs) (hw : ∀ i ∈ is, i < vs.length) : RsAt σ (pickL is vs) (pickL is rs) := by
  obtain ⟨l1, g1⟩ := pickL_in hw
  obtain ⟨l2, g2⟩ := pickL_in (x := rs) fun i hi => h.len ▸ hw i hi
  refine .ofGet (by omega) fun k v r h1 h2 => ?_
  have hk : k < is.length := by have := (List.getElem?_eq_some_iff.mp h1).1; omega
  rw [g1 k _ (List.getElem?_eq_getElem hk)] at h1
  rw [g2 k _ (List.getElem?_eq_getElem hk)] at h2
  exact h.get h1 h2
theorem RsAt.app : ∀ {vs : List V} {rs : List Rs} {ws : List V} {qs : List Rs}, RsAt σ vs rs → RsAt σ ws qs → RsAt σ (vs ++ ws) (rs ++ qs)
  | [], [], _, _, _, h2 => h2
  | _ :: _, _ :: _, _, _, h, h2 => ⟨h.1, RsAt.app h.2 h2⟩
  | [], _ :: _, _, _, h, _ => h.elim
  | _ :: _, [], _, _, h, _ => h.elim
/-- a call with keywords: n values, m keywords; is: the parameters' order among both -/
def eCallK (io : List Bool) (Fd : Sl → O (Rs × Sl)) (n m : Nat) (is : List Nat) (fa fk : Sl → O (List Rs × Sl)) : Sl → O (Rs × Sl) := fun ρ =>
  (fa ρ).bind fun q => (fk q.2).bind fun z => if q.1.length = n ∧ z.1.length = m then callD io Fd (pickL is (q.1 ++ z.1)) z.2 else .bad
def tCallKS (n m : Nat) (sp : Sp) (is : List Nat) (E : L2.St → XK) (t tk : TA) : TE := fun σ H Q => t σ H fun vs H1 => tk σ H1 fun zs H2 => vs.length = n ∧ zs.length = m ∧ sp (pickL is (vs ++ zs)) H2 Q (E σ)
theorem de_callK {io : List Bool} {Fd : Sl → O (Rs × Sl)} {fa fk : Sl → O (List Rs × Sl)} {n m N : Nat} {is : List Nat} {Q : VK} (hn : io.length = N) (hi : ∀ i ∈ is, i < n + m) (nd : is.Nodup) (h : dE K mg W (eCallK io Fd n m is fa fk) σ H Q) :
    tCallKS n m (spD K mg N Fd) is (WE W) (dA K mg W fa) (dA K mg W fk) σ H Q := by
  obtain ⟨R, τ, θ, ρ, F, a, h⟩ := h
  refine dA_bind (kB := kE K mg W R σ τ θ Q) a.nil rfl kE_x kE_b h fun rs ρ1 xs F1 H1 a1 hr1 h1 => ?_
  simp only [List.nil_append] at a1
  refine dA_bind (kB := kE K mg W R σ τ θ Q) (t2 := xs.map some) (s2 := rs.map Rs.slot) a1 (by simp [hr1.len]) kE_x kE_b h1 fun rs2 ρ2 xs2 F2 H2 a2 hr2 h2 => ?_
  by_cases hl : rs.length = n ∧ rs2.length = m
  · simp only [] at h2
    rw [if_pos hl] at h2
    have l1 : xs.length = n := by rw [hr1.len, hl.1]
    have l2 : xs2.length = m := by rw [hr2.len, hl.2]
    refine ⟨l1, l2, ?_⟩
    have hat := hr1.app hr2
    have a3 : At K R σ (τ ++ (pickL is (xs ++ xs2)).map some) ρ2 (θ ++ (pickL is (rs ++ rs2)).map Rs.slot) F2 H2 := by
      rw [← pickL_map, ← pickL_map, List.map_append, List.map_append]
      refine ⟨?_, a2.len⟩
      have r2 := a2.rel
      rw [← List.append_assoc σ τ, ← List.append_assoc ρ2 θ] at r2 ⊢
      refine r2.pick (by have := a2.len; have := a.tlen; simp only [List.length_append]; omega) (fun i h => by have := hi i h; simp only [List.length_append, List.length_map]; omega) nd fun t ht => ?_
      rw [← List.map_append] at ht
      obtain ⟨r, _, rfl⟩ := List.mem_map.mp ht
      cases r <;> rfl
    exact call_go hn a3 a.tlen (hat.pick fun i h => by have := hi i h; simp only [List.length_append]; omega) h2
  · simp only [] at h2
    rw [if_neg hl] at h2
    exact h2.elim
end
section
variable {X : Cx} {k n m : Nat} {f : Addr} {fd : FuncData} {ps ks : List Str} {sp : Sp} {E : L2.St → XK} {x : Str} {p pos : Pos} {e : Expr} {es : List Expr} {kws : List Keyword} {t tk : TA} {is : List Nat} {W : WX} {fa fk : Sl → O (List Rs × Sl)} {fe : Sl → O (Rs × Sl)}
/-- how a def takes keywords -/
structure KwB (K : PySem.W.Frag) (fd : FuncData) (ps : List Str) (n : Nat) (ks : List Str) (is : List Nat) : Prop where
  to : ∀ (s : Shared) (us ws : List Value), us.length = n → ws.length = ks.length → BindsTo s fd ⟨us, ks.zip ws⟩ (ps.zip (pickL is (us ++ ws)))
theorem valsGet {vs : List V} {us : List Value} (r : Vals vs us) : ∀ {a : Nat} {v : V}, vs[a]? = some v → ∃ u, us[a]? = some u ∧ RelV v u := by
  induction r with
  | nil => intro a v h; simp at h
  | cons r0 _ ih =>
    intro a v h
    cases a with
    | zero => simp at h; subst h; exact ⟨_, rfl, r0⟩
    | succ a => exact ih (by simpa using h)
theorem valsPick {is : List Nat} {vs : List V} {us : List Value} (r : Vals vs us) : Vals (pickL is vs) (pickL is us) := by
  unfold pickL
  induction is with
  | nil => exact .nil
  | cons a is ih =>
    rw [List.filterMap_cons, List.filterMap_cons]
    cases h : vs[a]? with
    | none =>
      have : us[a]? = none := by rw [List.getElem?_eq_none_iff] at h ⊢; have := r.length; omega
      rw [this]; exact ih
    | some v =>
      obtain ⟨u, hu, ru⟩ := valsGet r h
      rw [hu]
      exact .cons ru ih
theorem valsApp {vs zs : List V} {us ws : List Value} (r : Vals vs us) (r2 : Vals zs ws) : Vals (vs ++ zs) (us ++ ws) := by
  induction r with
  | nil => exact r2
  | cons r0 _ ih => exact .cons r0 ih
theorem pe_callKS (F : FnG X.prog X.w X.K X.mg X.base k f fd ps sp) (hr : RoomG k X.A) (hg : Gl X x) (hm : X.mg x = some (.ref f)) (hk : PySem.W.keepIn X.K (.ref f) = true) (hb : KwB X.K fd ps n ks is) (tk0 : Takes X W)
    (ha : PA X (e :: es) t) (hkw : PK X kws tk) (hall : (backToKw pos (keywordEach kws X.env)).all (·.1.isSome) = true) (hks : (backToKw pos (keywordEach kws X.env)).filterMap (·.1) = ks)
    (hdb : (x == ("__debug__" : Str)) = false) (he : starEach (e :: es) X.env = (false, eval e X.env) :: starEach es X.env)
    (hpl : ((backTo pos (starEach (e :: es) X.env)).any (·.1) || (backToKw pos (keywordEach kws X.env)).any (·.1.isNone)) = false) :
    PE X (.Call (.Name x p) (e :: es) kws pos) (tCallKS n ks.length sp is (WE W) t tk) := by
  refine ⟨fun pins s σ H Q I h => ?_⟩
  refine wpAny_Call_Name_kw (ld_glob I hg hm ?_ hdb)
  refine PySem.W.callWith_KW (h₀ := X.base) I.ok.mod.kin hk hall (thn (ha.run pos pins s σ H _ I h) fun us s1 ⟨vs, H1, I1, r, q⟩ => ?_) hpl he
  refine thn (hkw.run pos pins s1 σ H1 _ I1 q) fun ws s2 ⟨zs, H2, I2, rz, l1, l2, q2⟩ => ⟨I2.kIn, ?_⟩
  rw [hks]
  exact goG F hr tk0 (hb.to s2 us ws (r.length.symm.trans l1) (rz.length.symm.trans l2)) I2 (valsPick (valsApp r rz)) q2
theorem pe_callKS0 (F : FnG X.prog X.w X.K X.mg X.base k f fd ps sp) (hr : RoomG k X.A) (hg : Gl X x) (hm : X.mg x = some (.ref f)) (hk : PySem.W.keepIn X.K (.ref f) = true) (hb : KwB X.K fd ps 0 ks is) (tk0 : Takes X W)
    (hkw : PK X kws tk) (hall : (backToKw pos (keywordEach kws X.env)).all (·.1.isSome) = true) (hks : (backToKw pos (keywordEach kws X.env)).filterMap (·.1) = ks)
    (hdb : (x == ("__debug__" : Str)) = false)
    (hpl : ((backTo pos (starEach [] X.env)).any (·.1) || (backToKw pos (keywordEach kws X.env)).any (·.1.isNone)) = false) :
    PE X (.Call (.Name x p) [] kws pos) (tCallKS 0 ks.length sp is (WE W) tNil tk) := by
  refine ⟨fun pins s σ H Q I h => ?_⟩
  refine wpAny_Call_Name_kw (ld_glob I hg hm ?_ hdb)
  refine PySem.W.callWith_KW0 (h₀ := X.base) I.ok.mod.kin hk hall ?_ hpl
  refine thn (hkw.run pos pins s σ H _ I h) fun ws s2 ⟨zs, H2, I2, rz, l1, l2, q2⟩ => ⟨I2.kIn, ?_⟩
  rw [hks]
  exact goG F hr tk0 (hb.to s2 [] ws rfl (rz.length.symm.trans l2)) I2 (valsPick (valsApp .nil rz)) q2
/-! ### by syntax -/
abbrev XKw (X : Cx) (W : WX) (kws : List Keyword) (f : Sl → O (List Rs × Sl)) : Prop := PK X kws (dA X.K X.mg W f)
theorem PK.imp {t t' : TA} (h : PK X kws t) (w : ∀ σ H Q, t' σ H Q → t σ H Q) : PK X kws t' := ⟨fun pos pins s σ H Q I q => h.run pos pins s σ H Q I (w _ _ _ q)⟩
theorem k_nil : XKw X W [] aNil := PK.imp pk_nil fun _ _ _ => da_nil
theorem k_cons {nm : Option Str} {kp : Pos} (ha : XE X W e fe) (hr : XKw X W kws fk) : XKw X W (⟨nm, e, kp⟩ :: kws) (aCons fe fk) := PK.imp (pk_cons ha hr) fun _ _ _ => da_cons
theorem Fun.kwB {K : PySem.W.Frag} {x qual : Str} {st : Stmt} (F : Fun K x qual st f fd) (h : ∀ (kV doc pm : Value) (an : Option Addr) (cdv ct : Value) (us ws : List Value), us.length = n → ws.length = ks.length → bindArgs (PySem.W.fnOf x qual (defArgs st) (defBody st) (defScope st) .none kV doc pm an cdv ct) ⟨us, ks.zip ws⟩ = pure (ps.zip (pickL is (us ++ ws)))) : KwB K fd ps n ks is := by
  obtain ⟨oc, od, kV, doc, pm, an, cdv, ct, osl, rfl, lk, hcd⟩ := F.ex
  exact ⟨fun s us ws l1 l2 => .of_eq (h kV doc pm an cdv ct us ws l1 l2)⟩
/-- what a def tells of its keywords -/
abbrev KwAll (x : Str) (st : Stmt) (ps : List Str) (n : Nat) (ks : List Str) (is : List Nat) : Prop := ∀ (kV doc pm : Value) (an : Option Addr) (cdv ct : Value) (us ws : List Value), us.length = n → ws.length = ks.length → bindArgs (PySem.W.fnOf x x (defArgs st) (defBody st) (defScope st) .none kV doc pm an cdv ct) ⟨us, ks.zip ws⟩ = pure (ps.zip (pickL is (us ++ ws)))
theorem x_callK {st : Stmt} {Fd : Sl → O (Rs × Sl)} (io : List Bool) (F : Fn X.prog X.w X.K X.mg X.base x st k ps Fd) (hr : RoomG k X.A) (tk : Takes X W) (ha : XA X W (e :: es) fa) (hk : XKw X W kws fk) (b : KwAll x st ps n ks is) (hi : ∀ i ∈ is, i < n + ks.length := by decide) (nd : is.Nodup := by decide) (hn : io.length = ps.length := by rfl)
    (hall : (backToKw pos (keywordEach kws X.env)).all (·.1.isSome) = true := by rfl) (hks : (backToKw pos (keywordEach kws X.env)).filterMap (·.1) = ks := by rfl) (hg : Gl X x := by rfl)
    (hdb : (x == ("__debug__" : Str)) = false := by decide) (he : starEach (e :: es) X.env = (false, eval e X.env) :: starEach es X.env := by rfl)
    (hpl : ((backTo pos (starEach (e :: es) X.env)).any (·.1) || (backToKw pos (keywordEach kws X.env)).any (·.1.isNone)) = false := by rfl) : XE X W (.Call (.Name x p) (e :: es) kws pos) (eCallK io Fd n ks.length is fa fk) := by
  obtain ⟨f, fd, hF, hm, hb, ok⟩ := F.ex
  exact PE.imp (pe_callKS ok hr hg hm hF.kp (Fun.kwB hF b) tk ha hk hall hks hdb he hpl) fun _ _ _ h => de_callK hn hi nd h
theorem x_callK0 {st : Stmt} {Fd : Sl → O (Rs × Sl)} (io : List Bool) (F : Fn X.prog X.w X.K X.mg X.base x st k ps Fd) (hr : RoomG k X.A) (tk : Takes X W) (hk : XKw X W kws fk) (b : KwAll x st ps 0 ks is) (hi : ∀ i ∈ is, i < 0 + ks.length := by decide) (nd : is.Nodup := by decide) (hn : io.length = ps.length := by rfl)
    (hall : (backToKw pos (keywordEach kws X.env)).all (·.1.isSome) = true := by rfl) (hks : (backToKw pos (keywordEach kws X.env)).filterMap (·.1) = ks := by rfl) (hg : Gl X x := by rfl)
    (hdb : (x == ("__debug__" : Str)) = false := by decide)
    (hpl : ((backTo pos (starEach [] X.env)).any (·.1) || (backToKw pos (keywordEach kws X.env)).any (·.1.isNone)) = false := by rfl) : XE X W (.Call (.Name x p) [] kws pos) (eCallK io Fd 0 ks.length is aNil fk) := by
  obtain ⟨f, fd, hF, hm, hb, ok⟩ := F.ex
  exact PE.imp (pe_callKS0 ok hr hg hm hF.kp (Fun.kwB hF b) tk hk hall hks hdb hpl) fun σ H Q h => by
    obtain ⟨R, τ, θ, ρ, F, a, h1⟩ := de_callK hn hi nd h
    exact h1 [] _ _ (by simpa using a) trivial
end
end FX

/-! FX14: the law's end. -/
namespace FX
open PySem L2 PyProof.Rows PySem.Spec
theorem cx_no {P : Program} {w : World} {outer : List Env} {H : Hp} {s s' : Shared} {e : Value} (h : L2.CX P w outer H s (fun _ _ _ => False) e s') : False := by
  obtain ⟨_, _, _, _, _, _, _, _, _, _, _, _, z⟩ := h
  exact z.elim
theorem law_spD {K : PySem.W.Frag} {mg : Str → Option Value} {Fl : Sl → O (Rs × Sl)} {a : Addr} {ns : List Int} {H : Hp} {Q : VK} {E : XK} (h : ∃ ss, Fl [.frz (.scr ns)] = .ok (.val (.bl true), ss)) (hS : SqL K H a (ns.map V.int)) (q : ∀ H', Q (.bl true) H') : spD K mg 1 Fl [.ref a] H Q E := by
  obtain ⟨ss, e⟩ := h
  refine ⟨rfl, H, [.frz (.scr ns)], [], ⟨rfl, fun _ _ x => x, fun _ _ x => x, fun a x => .inl x, fun _ _ _ x => x, fun _ _ x => by simp at x, fun i v s h1 h2 => ?_, fun i j p s t hij h1 h2 h3 h4 o1 o2 => ?_⟩, fun i s hs => ?_, fun _ _ x => by simp at x, ?_⟩
  · cases i with
    | zero => simp at h1 h2; subst h1; subst h2; exact ⟨_, rfl, .scr hS⟩
    | succ i => simp at h1
  · cases i with
    | zero => simp at h3; subst h3; cases o1
    | succ i => simp at h1
  · cases i with
    | zero => simp at hs; exact .inl ⟨_, hs.symm⟩
    | succ i => simp at hs
  · rw [e]
    intro v F' H' r
    have := r.slot 1 (some v) (.frz (.bl true))
    have hl := r.len
    have hs : ss.length = 1 := by simp at hl; omega
    match ss, hs with
    | [s0], _ =>
      obtain ⟨x, e1, e2⟩ := this rfl rfl
      cases e1
      cases e2
      exact q _
/-- more turns than any loop makes -/
def fuelN : Nat := 2 ^ 64
/-! ### from the promise of the law's def to the row -/
section
variable {P : Program} {w : World} {K : PySem.W.Frag} {mg mb : Str → Option Value} {k : Nat} {fa a : Addr} {fd : FuncData} {x : Str} {s1 : Shared} {us : List Value} {ns : List Int} {sp : Sp}
theorem law_go (KX : K.In s1.heap) (g1 : s1.heap.Ns mainGlobals mg) (g2 : s1.heap.Ns builtinsNs mb) (g3 : ∀ y : Str, y ≠ "__name__" → mb y = bootBuiltins y) (lim : s1.heap.NoLimit) (gens : s1.gens = #[])
    (ob : s1.heap.get? a = some { cls := .type "list", data := .seq us.toArray }) (isI : IntsAre us ns) (few : ns.length ≤ sizeLine) (room : Room k callerA)
    (F : ∀ base : Heap, K.In base → base.Ns mainGlobals mg → FnG P w K mg base k fa fd [x] sp) (bnd : ∀ (s : Shared) (u : Value), BindsTo s fd ⟨[u], []⟩ [(x, u)])
    (prom : ∀ H : Hp, SqL K H a (ns.map V.int) → sp [.ref a] H (fun v _ => v = .bl true) fun _ _ _ => False) :
    codeAny (model P w) callerA (.call (.ref fa) ⟨[.ref a], []⟩) (fun r s2 => r = .ok (.ret (.bool true)) ∧ OldK s1.heap s2.heap ∧ s2.os = s1.os ∧ AllBare s2.gens) s1 := by
  have rel := vals_ints isI
  have many : us.length = ns.length := isI.length
  let ob0 : Obj := { cls := .type "list", data := .seq us.toArray }
  have main : ∀ H : Hp, (∀ b, H b = none ∨ (b = a ∧ K.lookup a = none ∧ H b = some (.frz ob0 (.lst (ns.map V.int))))) → SqL K H a (ns.map V.int) →
      codeAny (model P w) callerA (.call (.ref fa) ⟨[.ref a], []⟩) (fun r s2 => r = .ok (.ret (.bool true)) ∧ OldK s1.heap s2.heap ∧ s2.os = s1.os ∧ AllBare s2.gens) s1 := by
    intro H hH hS
    have hok : HOk P w H s1.heap := by
      intro b u hb
      rcases hH b with q | ⟨q1, _, q2⟩
      · rw [q] at hb; cases hb
      · rw [q2] at hb; cases hb
        subst q1
        exact ⟨ob, by rw [List.length_map]; exact few, us, _, rel, ob⟩
    have hid : ∀ {b : Addr} {o : Obj}, s1.heap.get? b = some o → b ≠ a → (hidT s1.heap H).get? b = some o := by
      intro b o e ne
      refine hidT_get e ?_
      rcases hH b with q | ⟨q, _, _⟩
      · exact q
      · exact absurd q ne
    have dic : ∀ {b : Addr} {o : Obj} {es : Array DictEntry} {ep : Nat}, s1.heap.get? b = some o → o.data = .dict es ep → b ≠ a := by
      intro b o es ep e d z
      subst z
      rw [ob] at e; cases e; cases d
    have names : ∀ {b : Addr} {m : Str → Option Value}, s1.heap.Ns b m → (hidT s1.heap H).Ns b m := by
      rintro b m ⟨o, es, ep, e, d, r⟩
      exact ⟨o, es, ep, hid e (dic e d), d, r⟩
    have KB : K.In (hidT s1.heap H) := by
      intro b o e
      by_cases ne : b = a
      · subst ne
        refine hidT_get (KX b o e) ?_
        rcases hH b with q | ⟨_, q, _⟩
        · exact q
        · rw [q] at e; cases e
      · exact hid (KX b o e) ne
    obtain ⟨mc, l1, l2⟩ := lim
    have e0 : Env0 P w K mg (hidT s1.heap H) callerA [] s1 H :=
      ⟨rfl, ⟨KB, names g1, ⟨mb, names g2, g3⟩, mc, names l1, l2⟩, fun b o e => of_hidT e, Nat.le_of_eq (hidT_size _ _), trivial, fun b hb => absurd hb (List.not_mem_nil), hok, .of_eq gens⟩
    refine codeAny_mono ((F _ KB (names g1)).go ⟨room, rfl⟩ e0 (us := [.ref a]) (vs := [.ref a]) (bnd s1 (.ref a)) (.cons rfl .nil) (prom H hS)) fun r s2 out => ?_
    match r, out with
    | .error e, out => exact (cx_no out).elim
    | .ok .next, out => exact False.elim out
    | .ok .brk, out => exact False.elim out
    | .ok .cont, out => exact False.elim out
    | .ok (.ret u), ⟨v, H2, os, bare, un, hok2, rv, q⟩ =>
      have q : v = .bl true := q
      subst q
      cases rv
      refine ⟨rfl, OldK.of_keep fun b o e => ?_, os, bare⟩
      rcases hH b with z | ⟨_, _, z⟩
      · exact un.keep b o e z (fun z => absurd z (List.not_mem_nil)) (by simp)
      · have f2 := un.frzs b ob0 _ z
        have e1 := (hok b _ z).1
        have e2 := (hok2 b _ f2).1
        rw [e] at e1; cases e1
        exact e2
  cases kl : K.lookup a with
  | some o =>
    have e := KX a o kl
    rw [ob] at e
    cases e
    exact main (fun _ => none) (fun _ => .inl rfl) (.inr ⟨_, us.toArray, _, kl, rfl, rfl, rfl, by rw [List.size_toArray, many]; exact few, by simpa using rel⟩)
  | none =>
    refine main (fun b => if b = a then some (.frz ob0 (.lst (ns.map V.int))) else none) (fun b => ?_) (.inl (.inr ⟨ob0, if_pos rfl⟩))
    by_cases hb : b = a
    · subst hb; exact .inr ⟨rfl, kl, if_pos rfl⟩
    · exact .inl (if_neg hb)
end
/-- the goal that the head leaves, from the promise of the law's def -/
theorem row_of {l : PySem.W.OpenLaw} {n k : Nat} {q : Program} {loose : List Str} {XP : (Str → Option Value) → Heap → Prop} {YP : World → Heap → Prop} {d : DefRec} {K : Params → PySem.W.Frag} {sp : World → Sp} {x : Str}
    (most : l.most = some n) (line : n ≤ sizeLine) (dflt : d.params.defaults = []) (room : Room k callerA) (hY : ∀ (w : World) (h : Heap), YP w h → (K w.params).In h)
    (F : ∀ (w : World) (mg : Str → Option Value) (fa : Addr) (h : Heap), (K w.params).In h → h.Ns mainGlobals mg → mg d.name = some (.ref fa) →
      ∃ fd : FuncData, (∀ (s : Shared) (v : Value), BindsTo s fd ⟨[v], []⟩ [(x, v)]) ∧ ∀ base : Heap, (K w.params).In base → base.Ns mainGlobals mg → FnG l.prog w (K w.params) mg base k fa fd [x] (sp w))
    (prom : ∀ (w : World) (H : Hp) (a : Addr) (ns : List Int), ns.length ≤ n → (∀ z ∈ ns, Builtin.Int.intBits z ≤ 1048576) → SqL (K w.params) H a (ns.map V.int) → sp w [.ref a] H (fun v _ => v = .bl true) fun _ _ _ => False) :
    PySem.W.WalkO q loose XP YP l.row.toRowW d [] (fun f vs => PySem.call f vs) := by
  refine Att.attach_callB most dflt ?_
  intro w s0 s1 mg mb fa o pm cd doc a us ns G Y h1 h2 h3 h4 h5 h6 h7 h8 h9
  obtain ⟨fd, bnd, hF⟩ := F w mg fa s1.heap (hY w _ Y) G.T.g h4
  exact law_go (hY w _ Y) G.T.g G.T.b G.T.builtins G.T.nolimit h9 h5 h6 (Nat.le_trans h7 line) room hF bnd fun H hS => prom w H a ns h7 h8 hS
end FX

/-! FX15: how the functions are run. -/
namespace FX
open PySem L2 PyProof.Rows
/-- x ends in a value, and P holds of it -/
def Wp {α : Type} (x : O α) (P : α → Prop) : Prop := ∃ a, x = .ok a ∧ P a
section
variable {α β : Type} {x y : O α} {P Q : α → Prop} {a : α}
theorem wp_ok : Wp (.ok a) P ↔ P a := ⟨fun ⟨b, e, h⟩ => by cases e; exact h, fun h => ⟨a, rfl, h⟩⟩
theorem wp_bad : Wp (.bad : O α) P ↔ False := ⟨fun ⟨b, e, h⟩ => (by cases e), False.elim⟩
theorem wp_exc {e : Exn} {ρ : Sl} : Wp (.exc e ρ : O α) P ↔ False := ⟨fun ⟨b, e, h⟩ => (by cases e), False.elim⟩
theorem wp_bind {f : β → O α} {z : O β} : Wp (z.bind f) P ↔ Wp z fun b => Wp (f b) P := by
  cases z with
  | ok b => exact (wp_ok (a := b) (P := fun b => Wp (f b) P)).symm
  | exc e ρ => exact ⟨fun h => (wp_exc.mp h).elim, fun h => (wp_exc.mp h).elim⟩
  | bad => exact ⟨fun h => (wp_bad.mp h).elim, fun h => (wp_bad.mp h).elim⟩
theorem Wp.imp (h : Wp x P) (i : ∀ a, P a → Q a) : Wp x Q := by
  obtain ⟨a, e, p⟩ := h
  exact ⟨a, e, i a p⟩
theorem wp_some {b : α} : Wp (O.of (some b)) P ↔ P b := wp_ok
theorem wp_none : Wp (O.of (none : Option α)) P ↔ False := wp_bad
theorem wp_ofIte {c : Prop} [Decidable c] {z : Option α} : Wp (O.of (if c then z else none)) P ↔ c ∧ Wp (O.of z) P := by
  by_cases h : c
  · rw [if_pos h]; exact ⟨fun q => ⟨h, q⟩, fun q => q.2⟩
  · rw [if_neg h]; exact ⟨fun q => (wp_bad.mp q).elim, fun q => absurd q.1 h⟩
theorem wp_ofMap {z : Option β} {f : β → α} : Wp (O.of (z.map f)) P ↔ Wp (O.of z) fun b => P (f b) := by
  cases z with
  | none => exact ⟨fun q => (wp_bad.mp q).elim, fun q => (wp_bad.mp q).elim⟩
  | some b => exact (wp_ok (a := f b) (P := P)).trans (wp_ok (a := b) (P := fun b => P (f b))).symm
theorem wp_ofBind {z : Option β} {f : β → Option α} : Wp (O.of (z.bind f)) P ↔ Wp (O.of z) fun b => Wp (O.of (f b)) P := by
  cases z with
  | none => exact ⟨fun q => (wp_bad.mp q).elim, fun q => (wp_bad.mp q).elim⟩
  | some b => exact (wp_ok (a := b) (P := fun b => Wp (O.of (f b)) P)).symm
theorem wp_iteBad {c : Prop} [Decidable c] : Wp (if c then x else .bad) P ↔ c ∧ Wp x P := by
  by_cases h : c
  · rw [if_pos h]; exact ⟨fun q => ⟨h, q⟩, fun q => q.2⟩
  · rw [if_neg h]; exact ⟨fun q => (wp_bad.mp q).elim, fun q => absurd q.1 h⟩
theorem wp_badIte {c : Prop} [Decidable c] : Wp (if c then .bad else x) P ↔ ¬ c ∧ Wp x P := by
  by_cases h : c
  · rw [if_pos h]; exact ⟨fun q => (wp_bad.mp q).elim, fun q => absurd h q.1⟩
  · rw [if_neg h]; exact ⟨fun q => ⟨h, q⟩, fun q => q.2⟩
theorem wp_ite {c : Prop} [Decidable c] (h1 : c → Wp x P) (h2 : ¬ c → Wp y P) : Wp (if c then x else y) P := by
  by_cases h : c
  · rw [if_pos h]; exact h1 h
  · rw [if_neg h]; exact h2 h
/-- of what there is -/
def optK {α : Type} (o : Option α) (Q : α → Prop) : Prop := match o with
  | some z => Q z
  | none => False
theorem optK_some {z : α} : optK (some z) Q ↔ Q z := Iff.rfl
theorem optK_none : optK (none : Option α) Q ↔ False := Iff.rfl
theorem optK_ite {c : Prop} [Decidable c] {z : Option α} : optK (if c then z else none) Q ↔ c ∧ optK z Q := by
  by_cases h : c
  · rw [if_pos h]; exact ⟨fun q => ⟨h, q⟩, fun q => q.2⟩
  · rw [if_neg h]; exact ⟨fun q => q.elim, fun q => absurd q.1 h⟩
theorem optK_map {z : Option β} {f : β → α} : optK (z.map f) Q ↔ optK z fun b => Q (f b) := by cases z <;> exact Iff.rfl
theorem optK_bind {z : Option β} {f : β → Option α} : optK (z.bind f) Q ↔ optK z fun b => optK (f b) Q := by cases z <;> exact Iff.rfl
theorem optK_iff {o : Option α} {z : α} (h : o = some z) : optK o Q ↔ Q z := by rw [h]; exact Iff.rfl
theorem wp_opt {k : β → O α} {o : Option β} {w : Option β → O α} (h1 : ∀ z, w (some z) = k z) (h2 : w none = .bad) : Wp (w o) P ↔ optK o fun z => Wp (k z) P := by
  cases o with
  | none => rw [h2]; exact wp_bad
  | some z => rw [h1]; exact Iff.rfl
theorem wp_ofO {o : Option α} : Wp (O.of o) P ↔ optK o P := by
  cases o with
  | none => exact wp_bad
  | some z => exact wp_ok
theorem wp_noExc : Wp (noExc x) P ↔ Wp x P := by
  cases x with
  | ok a => exact Iff.rfl
  | exc e ρ => exact ⟨fun h => (wp_bad.mp h).elim, fun h => (wp_exc.mp h).elim⟩
  | bad => exact Iff.rfl
end
/-! ### the places -/
section
variable {α : Type} {z w : α} {ρ τ : List α} {i j : Nat}
theorem get0 : (z :: ρ : List α)[0]? = some z := rfl
theorem get1 {a0 : α} : (a0 :: z :: ρ : List α)[1]? = some z := rfl
theorem get2 {a0 a1 : α} : (a0 :: a1 :: z :: ρ : List α)[2]? = some z := rfl
theorem get3 {a0 a1 a2 : α} : (a0 :: a1 :: a2 :: z :: ρ : List α)[3]? = some z := rfl
theorem get4 {a0 a1 a2 a3 : α} : (a0 :: a1 :: a2 :: a3 :: z :: ρ : List α)[4]? = some z := rfl
theorem get5 {a0 a1 a2 a3 a4 : α} : (a0 :: a1 :: a2 :: a3 :: a4 :: z :: ρ : List α)[5]? = some z := rfl
theorem get6 {a0 a1 a2 a3 a4 a5 : α} : (a0 :: a1 :: a2 :: a3 :: a4 :: a5 :: z :: ρ : List α)[6]? = some z := rfl
theorem get7 {a0 a1 a2 a3 a4 a5 a6 : α} : (a0 :: a1 :: a2 :: a3 :: a4 :: a5 :: a6 :: z :: ρ : List α)[7]? = some z := rfl
theorem get8 {a0 a1 a2 a3 a4 a5 a6 a7 : α} : (a0 :: a1 :: a2 :: a3 :: a4 :: a5 :: a6 :: a7 :: z :: ρ : List α)[8]? = some z := rfl
theorem get9 {a0 a1 a2 a3 a4 a5 a6 a7 a8 : α} : (a0 :: a1 :: a2 :: a3 :: a4 :: a5 :: a6 :: a7 :: a8 :: z :: ρ : List α)[9]? = some z := rfl
theorem getS {a0 a1 a2 a3 a4 a5 a6 a7 a8 a9 : α} : (a0 :: a1 :: a2 :: a3 :: a4 :: a5 :: a6 :: a7 :: a8 :: a9 :: ρ : List α)[i + 10]? = ρ[i]? := rfl
theorem put0 : (z :: ρ : List α).set 0 w = w :: ρ := rfl
theorem put1 {a0 : α} : (a0 :: z :: ρ : List α).set 1 w = a0 :: w :: ρ := rfl
theorem put2 {a0 a1 : α} : (a0 :: a1 :: z :: ρ : List α).set 2 w = a0 :: a1 :: w :: ρ := rfl
theorem put3 {a0 a1 a2 : α} : (a0 :: a1 :: a2 :: z :: ρ : List α).set 3 w = a0 :: a1 :: a2 :: w :: ρ := rfl
theorem put4 {a0 a1 a2 a3 : α} : (a0 :: a1 :: a2 :: a3 :: z :: ρ : List α).set 4 w = a0 :: a1 :: a2 :: a3 :: w :: ρ := rfl
theorem put5 {a0 a1 a2 a3 a4 : α} : (a0 :: a1 :: a2 :: a3 :: a4 :: z :: ρ : List α).set 5 w = a0 :: a1 :: a2 :: a3 :: a4 :: w :: ρ := rfl
theorem put6 {a0 a1 a2 a3 a4 a5 : α} : (a0 :: a1 :: a2 :: a3 :: a4 :: a5 :: z :: ρ : List α).set 6 w = a0 :: a1 :: a2 :: a3 :: a4 :: a5 :: w :: ρ := rfl
theorem put7 {a0 a1 a2 a3 a4 a5 a6 : α} : (a0 :: a1 :: a2 :: a3 :: a4 :: a5 :: a6 :: z :: ρ : List α).set 7 w = a0 :: a1 :: a2 :: a3 :: a4 :: a5 :: a6 :: w :: ρ := rfl
theorem put8 {a0 a1 a2 a3 a4 a5 a6 a7 : α} : (a0 :: a1 :: a2 :: a3 :: a4 :: a5 :: a6 :: a7 :: z :: ρ : List α).set 8 w = a0 :: a1 :: a2 :: a3 :: a4 :: a5 :: a6 :: a7 :: w :: ρ := rfl
theorem put9 {a0 a1 a2 a3 a4 a5 a6 a7 a8 : α} : (a0 :: a1 :: a2 :: a3 :: a4 :: a5 :: a6 :: a7 :: a8 :: z :: ρ : List α).set 9 w = a0 :: a1 :: a2 :: a3 :: a4 :: a5 :: a6 :: a7 :: a8 :: w :: ρ := rfl
theorem putS {a0 a1 a2 a3 a4 a5 a6 a7 a8 a9 : α} : (a0 :: a1 :: a2 :: a3 :: a4 :: a5 :: a6 :: a7 :: a8 :: a9 :: ρ : List α).set (i + 10) w = a0 :: a1 :: a2 :: a3 :: a4 :: a5 :: a6 :: a7 :: a8 :: a9 :: ρ.set i w := rfl
theorem pick_nil : pickL [] ρ = [] := rfl
def pickC (o : Option α) (l : List α) : List α := match o with
  | some z => z :: l
  | none => l
theorem pick_cons {is : List Nat} : pickL (i :: is) ρ = pickC ρ[i]? (pickL is ρ) := by
  unfold pickL pickC
  rw [List.filterMap_cons]
  cases ρ[i]? <;> rfl
theorem pickC_some {l : List α} : pickC (some z) l = z :: l := rfl
end
/-! ### expressions -/
section
variable {s0 : Slot} {ρ : Sl} {f g : Sl → O (Rs × Sl)} {t u : Sl → O (Bool × Sl)} {fa fk : Sl → O (List Rs × Sl)} {P : Rs × Sl → Prop} {PT : Bool × Sl → Prop} {PA : List Rs × Sl → Prop} {i j n m : Nat} {d : Dt} {ds : List Dt} {opf : Dt → Dt → Option Rs} {op1 : Dt → Option Rs} {opn : List Dt → Option Rs} {opm : Dt → List Dt → Option Rs}
def varK (i : Nat) (s : Option Slot) (ρ : Sl) : O (Rs × Sl) := match s with
  | some (.frz d) => .ok (.val d, ρ)
  | some (.loc _) => .ok (.ref i, ρ)
  | some (.io _) => .ok (.ref i, ρ)
  | some (.lock _) => .ok (.ref i, ρ)
  | _ => .bad
theorem w_var : Wp (eVar i (s0 :: ρ)) P ↔ Wp (varK i (s0 :: ρ : Sl)[i]? (s0 :: ρ)) P := by
  have : eVar i (s0 :: ρ) = varK i (s0 :: ρ : Sl)[i]? (s0 :: ρ) := rfl
  rw [this]
theorem varK_frz {τ : Sl} : Wp (varK i (some (.frz d)) τ) P ↔ P (.val d, τ) := wp_ok
theorem varK_loc {τ : Sl} : Wp (varK i (some (.loc ds)) τ) P ↔ P (.ref i, τ) := wp_ok
theorem varK_io {τ : Sl} : Wp (varK i (some (.io ds)) τ) P ↔ P (.ref i, τ) := wp_ok
theorem w_c : Wp (eC d (s0 :: ρ)) P ↔ P (.val d, s0 :: ρ) := wp_ok
theorem w_bin : Wp (eBin opf f g (s0 :: ρ)) P ↔ Wp (f (s0 :: ρ)) fun q => Wp (g q.2) fun q2 => Wp (bin2 opf q.1 q2.1 q2.2) P := by
  unfold eBin; rw [wp_bind]; simp only [wp_bind]
def bin3 (opf : Dt → Dt → Option Rs) (a b : Option Dt) (ρ : Sl) (P : Rs × Sl → Prop) : Prop := match a, b with
  | some x, some y => Wp (O.of (opf x y)) fun o => P (o, ρ)
  | _, _ => False
theorem w_bin2 {r1 r2 : Rs} : Wp (bin2 opf r1 r2 (s0 :: ρ)) P ↔ bin3 opf (deref (s0 :: ρ) r1) (deref (s0 :: ρ) r2) (s0 :: ρ) P := by
  unfold bin2 bin3
  cases deref (s0 :: ρ) r1 <;> cases deref (s0 :: ρ) r2 <;> simp only [wp_bind, wp_ok, wp_bad]
theorem bin3_some {x y : Dt} {τ : Sl} : bin3 opf (some x) (some y) τ P ↔ Wp (O.of (opf x y)) fun o => P (o, τ) := Iff.rfl
theorem deref_ref : deref (s0 :: ρ) (.ref i) = ((s0 :: ρ : Sl)[i]?.bind Slot.seen2).map Dt.lst := rfl
theorem seen_loc : (Slot.loc ds).seen2 = some ds := rfl
theorem seen_io : (Slot.io ds).seen2 = some ds := rfl
theorem seen_frz : (Slot.frz (.lst ds)).seen2 = some ds := rfl
theorem map_some {α β : Type} {h : α → β} {x : α} : (some x).map h = some (h x) := rfl
theorem bind_some {α β : Type} {h : α → Option β} {x : α} : (some x).bind h = h x := Eq.trans (Eq.refl _) (Eq.refl _)
theorem w_un : Wp (eUn op1 f (s0 :: ρ)) P ↔ Wp (f (s0 :: ρ)) fun q => Wp (un1 op1 q.1 q.2) P := wp_bind
def un2 (op1 : Dt → Option Rs) (a : Option Dt) (ρ : Sl) (P : Rs × Sl → Prop) : Prop := match a with
  | some x => Wp (O.of (op1 x)) fun o => P (o, ρ)
  | _ => False
theorem w_un1 {r1 : Rs} : Wp (un1 op1 r1 (s0 :: ρ)) P ↔ un2 op1 (deref (s0 :: ρ) r1) (s0 :: ρ) P := by
  unfold un1 un2
  cases deref (s0 :: ρ) r1 <;> simp only [wp_bind, wp_ok, wp_bad]
theorem un2_some {x : Dt} {τ : Sl} : un2 op1 (some x) τ P ↔ Wp (O.of (op1 x)) fun o => P (o, τ) := Iff.rfl
theorem w_anil : Wp (aNil (s0 :: ρ)) PA ↔ PA ([], s0 :: ρ) := wp_ok
theorem w_acons : Wp (aCons f fa (s0 :: ρ)) PA ↔ Wp (f (s0 :: ρ)) fun q => Wp (fa q.2) fun q2 => PA (q.1 :: q2.1, q2.2) := by
  unfold aCons; simp only [wp_bind, wp_ok]
theorem w_blt : Wp (eBlt opn fa (s0 :: ρ)) P ↔ Wp (fa (s0 :: ρ)) fun q => Wp (blt1 opn q.1 q.2) P := wp_bind
def blt2 (opn : List Dt → Option Rs) (a : Option (List Dt)) (ρ : Sl) (P : Rs × Sl → Prop) : Prop := match a with
  | some x => Wp (O.of (opn x)) fun o => P (o, ρ)
  | _ => False
theorem w_blt1 {rs : List Rs} : Wp (blt1 opn rs (s0 :: ρ)) P ↔ blt2 opn (derefAll (s0 :: ρ) rs) (s0 :: ρ) P := by
  unfold blt1 blt2
  cases derefAll (s0 :: ρ) rs <;> simp only [wp_bind, wp_ok, wp_bad]
theorem blt2_some {x : List Dt} {τ : Sl} : blt2 opn (some x) τ P ↔ Wp (O.of (opn x)) fun o => P (o, τ) := Iff.rfl
theorem derefs_nil : derefAll ρ [] = some [] := rfl
theorem derefs_cons {r : Rs} {rs : List Rs} : derefAll ρ (r :: rs) = (deref ρ r).bind fun d => (derefAll ρ rs).bind fun ds => some (d :: ds) := rfl
def met0 (T : String) (opm : Dt → List Dt → Option Rs) (fa : Sl → O (List Rs × Sl)) (r : Rs) (a : Option Dt) (ρ : Sl) : O (Rs × Sl) := match a with
  | some d => if d.ty = T then (fa ρ).bind fun q2 => met1 opm r q2.1 q2.2 else .bad
  | none => .bad
theorem w_met {T : String} : Wp (eMet T opm f fa (s0 :: ρ)) P ↔ Wp (f (s0 :: ρ)) fun q => Wp (met0 T opm fa q.1 (deref q.2 q.1) q.2) P := wp_bind
theorem w_met0 {T : String} {r : Rs} {x : Dt} {τ : Sl} : Wp (met0 T opm fa r (some x) τ) P ↔ x.ty = T ∧ Wp (fa τ) fun q2 => Wp (met1 opm r q2.1 q2.2) P := by
  unfold met0; simp only [wp_iteBad, wp_bind]
def met2 (opm : Dt → List Dt → Option Rs) (a : Option Dt) (b : Option (List Dt)) (ρ : Sl) (P : Rs × Sl → Prop) : Prop := match a, b with
  | some x, some y => Wp (O.of (opm x y)) fun o => P (o, ρ)
  | _, _ => False
theorem w_met1 {r : Rs} {rs : List Rs} : Wp (met1 opm r rs (s0 :: ρ)) P ↔ met2 opm (deref (s0 :: ρ) r) (derefAll (s0 :: ρ) rs) (s0 :: ρ) P := by
  unfold met1 met2
  cases deref (s0 :: ρ) r <;> cases derefAll (s0 :: ρ) rs <;> simp only [wp_bind, wp_ok, wp_bad]
theorem met2_some {x : Dt} {y : List Dt} {τ : Sl} : met2 opm (some x) (some y) τ P ↔ Wp (O.of (opm x y)) fun o => P (o, τ) := Iff.rfl
theorem w_call {io : List Bool} {Fd : Sl → O (Rs × Sl)} : Wp (eCall io Fd fa (s0 :: ρ)) P ↔ Wp (fa (s0 :: ρ)) fun q => Wp (callD io Fd q.1 q.2) P := wp_bind
theorem w_callK {io : List Bool} {Fd : Sl → O (Rs × Sl)} {is : List Nat} : Wp (eCallK io Fd n m is fa fk (s0 :: ρ)) P ↔ Wp (fa (s0 :: ρ)) fun q => Wp (fk q.2) fun z => (q.1.length = n ∧ z.1.length = m) ∧ Wp (callD io Fd (pickL is (q.1 ++ z.1)) z.2) P := by
  unfold eCallK; simp only [wp_bind, wp_iteBad]
/-- a call of a def whose promise is known -/
theorem wp_callD {io : List Bool} {Fd : Sl → O (Rs × Sl)} {rs : List Rs} {ss : Sl} (h1 : argSlots io rs ρ = some ss) (h2 : okRefs io rs = true) (h3 : Wp (Fd ss) fun q => sameIo ss q.2 = true ∧ (anyView io rs = false ∨ (q.1.flat && q.2.all Slot.flat) = true) ∧ q.1.plain = true ∧ P (q.1, putBack rs q.2 ρ)) : Wp (callD io Fd rs ρ) P := by
  obtain ⟨⟨r, ss'⟩, e, e1, e2, e3, e4⟩ := h3
  refine ⟨_, ?_, e4⟩
  unfold callD
  rw [h1]
  simp only [h2, if_true, e]
  rw [if_pos ⟨e1, e2, e3⟩]
theorem w_lst : Wp (eLst fa (s0 :: ρ)) P ↔ Wp (fa (s0 :: ρ)) fun q => optK (freezeAll q.1 q.2) fun z => z.1.length ≤ 100000 ∧ P (.own z.1, z.2) := by
  unfold eLst
  simp only [wp_bind]
  refine iff_of_eq (congrArg _ (funext fun q => propext ?_))
  cases freezeAll q.1 q.2 with
  | none => exact wp_bad
  | some z => exact wp_iteBad.trans (and_congr Iff.rfl wp_ok)
theorem w_tup : Wp (eTup fa (s0 :: ρ)) P ↔ Wp (fa (s0 :: ρ)) fun q => optK (freezeAll q.1 q.2) fun z => z.1.length ≤ 100000 ∧ P (.val (.tup z.1), z.2) := by
  unfold eTup
  simp only [wp_bind]
  refine iff_of_eq (congrArg _ (funext fun q => propext ?_))
  cases freezeAll q.1 q.2 with
  | none => exact wp_bad
  | some z => exact wp_iteBad.trans (and_congr Iff.rfl wp_ok)
theorem w_slice {l h : Sl → O (Option Int × Sl)} : Wp (eSlice f l h (s0 :: ρ)) P ↔ Wp (f (s0 :: ρ)) fun q => Wp (l q.2) fun ql => Wp (h ql.2) fun qu => un2 (fun d => sliceD d ql.1 qu.1) (deref qu.2 q.1) qu.2 P := by
  unfold eSlice
  simp only [wp_bind]
  refine ⟨fun h => h.imp fun q hq => hq.imp fun ql hl => hl.imp fun qu hu => ?_, fun h => h.imp fun q hq => hq.imp fun ql hl => hl.imp fun qu hu => ?_⟩ <;> (unfold un2 at *; cases e : deref qu.2 q.1 with
    | none => rw [e] at hu; first | exact hu.elim | exact (wp_bad.mp hu).elim
    | some d => rw [e] at hu; simpa only [wp_bind, wp_ok] using hu)
theorem w_onone {PO : Option Int × Sl → Prop} : Wp (oNone (s0 :: ρ)) PO ↔ PO (none, s0 :: ρ) := wp_ok
theorem w_osome {PO : Option Int × Sl → Prop} : Wp (oSome f (s0 :: ρ)) PO ↔ Wp (f (s0 :: ρ)) fun q => Wp (oSome1 q) PO := wp_bind
theorem w_osome1 {PO : Option Int × Sl → Prop} {k : Int} {τ : Sl} : Wp (oSome1 (.val (.int k), τ)) PO ↔ PO (some k, τ) := wp_ok
/-! ### tests -/
theorem w_tst : Wp (tst f (s0 :: ρ)) PT ↔ Wp (f (s0 :: ρ)) fun q => Wp (tst1 q) PT := wp_bind
theorem w_tst1 {b : Bool} {τ : Sl} : Wp (tst1 (.val (.bl b), τ)) PT ↔ PT (b, τ) := wp_ok
theorem w_tst1i {k : Int} {τ : Sl} : Wp (tst1 (.val (.int k), τ)) PT ↔ PT (k != 0, τ) := wp_ok
theorem w_tstB : Wp (tstB f (s0 :: ρ)) PT ↔ Wp (f (s0 :: ρ)) fun q => Wp (tstB1 q) PT := wp_bind
theorem w_tstB1 {b : Bool} {τ : Sl} : Wp (tstB1 (.val (.bl b), τ)) PT ↔ PT (b, τ) := wp_ok
theorem w_not : Wp (tNotD t (s0 :: ρ)) PT ↔ Wp (t (s0 :: ρ)) fun q => PT (!q.1, q.2) := by unfold tNotD; simp only [wp_bind, wp_ok]
/-- a choice by what is known -/
def chz {α : Type} (b : Bool) (x y : O α) : O α := match b with
  | true => x
  | false => y
theorem chz_ite {α : Type} {b : Bool} {x y : O α} : (if b = true then x else y) = chz b x y := by cases b <;> rfl
theorem chz_t {α : Type} {x y : O α} {P : α → Prop} : Wp (chz true x y) P ↔ Wp x P := Iff.rfl
theorem chz_f {α : Type} {x y : O α} {P : α → Prop} : Wp (chz false x y) P ↔ Wp y P := Iff.rfl
theorem chz_not {α : Type} {b : Bool} {x y : O α} : chz (!b) x y = chz b y x := by cases b <;> rfl
theorem wp_chz {α : Type} {b : Bool} {x y : O α} {P : α → Prop} (h1 : b = true → Wp x P) (h2 : b = false → Wp y P) : Wp (chz b x y) P := by
  cases b with
  | true => exact h1 rfl
  | false => exact h2 rfl
theorem wp_chzD {α : Type} {c : Prop} [Decidable c] {x y : O α} {P : α → Prop} (h1 : c → Wp x P) (h2 : ¬ c → Wp y P) : Wp (chz (decide c) x y) P := by
  by_cases h : c
  · rw [decide_eq_true h]; exact h1 h
  · rw [decide_eq_false h]; exact h2 h
theorem w_orD : Wp (tOrD t u (s0 :: ρ)) PT ↔ Wp (t (s0 :: ρ)) fun q => Wp (chz q.1 (.ok (true, q.2)) (u q.2)) PT := by unfold tOrD; simp only [wp_bind, chz_ite]
theorem w_andD : Wp (tAndD t u (s0 :: ρ)) PT ↔ Wp (t (s0 :: ρ)) fun q => Wp (chz q.1 (u q.2) (.ok (false, q.2))) PT := by unfold tAndD; simp only [wp_bind, chz_ite]
theorem w_orV : Wp (eOrV f g (s0 :: ρ)) P ↔ Wp (tstB f (s0 :: ρ)) fun q => Wp (chz q.1 (.ok (.val (.bl true), q.2)) (g q.2)) P := by unfold eOrV; simp only [wp_bind, chz_ite]
theorem w_andV : Wp (eAndV f g (s0 :: ρ)) P ↔ Wp (tstB f (s0 :: ρ)) fun q => Wp (chz q.1 (g q.2) (.ok (.val (.bl false), q.2))) P := by unfold eAndV; simp only [wp_bind, chz_ite]
theorem w_notV : Wp (eNotV f (s0 :: ρ)) P ↔ Wp (tstB f (s0 :: ρ)) fun q => P (.val (.bl (!q.1)), q.2) := by unfold eNotV; simp only [wp_bind, wp_ok]
theorem w_eIf : Wp (eIf t f g (s0 :: ρ)) P ↔ Wp (t (s0 :: ρ)) fun q => Wp (chz q.1 (f q.2) (g q.2)) P := by unfold eIf; simp only [wp_bind, chz_ite]
end
end FX

/-! FX16: statements and loops run. -/
namespace FX
open PySem L2 PyProof.Rows
section
variable {s0 : Slot} {ρ τ : Sl} {f g : Sl → O (Rs × Sl)} {t : Sl → O (Bool × Sl)} {s u : Sl → O (Fl × Sl)} {fa : Sl → O (List Rs × Sl)} {P : Fl × Sl → Prop} {i j n m l : Nat} {d : Dt} {ds es : List Dt} {opf : Dt → Dt → Option Rs} {b : Dt → Sl → Option Sl} {fi : Sl → O (List Dt × Sl)}
def seqK (u : Sl → O (Fl × Sl)) (q : Fl × Sl) : O (Fl × Sl) := match q.1 with
  | .nx => u q.2
  | _ => .ok q
theorem w_seq : Wp (sSeq s u (s0 :: ρ)) P ↔ Wp (s (s0 :: ρ)) fun q => Wp (seqK u q) P := wp_bind
theorem seqK_nx : Wp (seqK u (.nx, τ)) P ↔ Wp (u τ) P := Iff.rfl
theorem seqK_rt {r : Rs} : Wp (seqK u (.rt r, τ)) P ↔ P (.rt r, τ) := wp_ok
theorem seqK_bk : Wp (seqK u (.bk, τ)) P ↔ P (.bk, τ) := wp_ok
theorem seqK_ct : Wp (seqK u (.ct, τ)) P ↔ P (.ct, τ) := wp_ok
theorem w_nx : Wp (sNx (s0 :: ρ)) P ↔ P (.nx, s0 :: ρ) := wp_ok
theorem w_bk : Wp (sBk (s0 :: ρ)) P ↔ P (.bk, s0 :: ρ) := wp_ok
theorem w_ct : Wp (sCt (s0 :: ρ)) P ↔ P (.ct, s0 :: ρ) := wp_ok
theorem w_bad : Wp (sBad (s0 :: ρ)) P ↔ False := wp_bad
theorem w_if : Wp (sIf t s u (s0 :: ρ)) P ↔ Wp (t (s0 :: ρ)) fun q => Wp (chz q.1 (s q.2) (u q.2)) P := by unfold sIf; simp only [wp_bind, chz_ite]
def retK (q : Rs × Sl) : O (Fl × Sl) := match q.1 with
  | .ref i => (match q.2[i]? with
    | some (.loc ds) => .ok (.rt (.own ds), q.2.set i .any)
    | _ => .bad)
  | r => .ok (.rt r, q.2)
def retK2 (i : Nat) (s : Option Slot) (ρ : Sl) : O (Fl × Sl) := match s with
  | some (.loc ds) => .ok (.rt (.own ds), ρ.set i .any)
  | _ => .bad
theorem w_ret : Wp (sRet f (s0 :: ρ)) P ↔ Wp (f (s0 :: ρ)) fun q => Wp (retK q) P := wp_bind
theorem retK_val : Wp (retK (.val d, τ)) P ↔ P (.rt (.val d), τ) := wp_ok
theorem retK_own : Wp (retK (.own ds, τ)) P ↔ P (.rt (.own ds), τ) := wp_ok
theorem retK_ref : Wp (retK (.ref i, τ)) P ↔ Wp (retK2 i τ[i]? τ) P := Iff.rfl
theorem retK2_loc : Wp (retK2 i (some (.loc ds)) τ) P ↔ P (.rt (.own ds), τ.set i .any) := wp_ok
theorem w_retN : Wp (sRetN (s0 :: ρ)) P ↔ P (.rt (.val .non), s0 :: ρ) := wp_ok
def setK (i : Nat) (q : Rs × Sl) : O (Fl × Sl) := match q.1 with
  | .val d => setS i (.frz d) q.2
  | .own ds => setS i (.loc ds) q.2
  | .ref _ => .bad
theorem w_set : Wp (sSet i f (s0 :: ρ)) P ↔ Wp (f (s0 :: ρ)) fun q => Wp (setK i q) P := wp_bind
theorem setK_val : Wp (setK i (.val d, τ)) P ↔ Wp (setS i (.frz d) τ) P := Iff.rfl
theorem setK_own : Wp (setK i (.own ds, τ)) P ↔ Wp (setS i (.loc ds) τ) P := Iff.rfl
def setS2 (i : Nat) (s : Slot) (o : Option Slot) (ρ : Sl) : O (Fl × Sl) := match o with
  | some t => if t.pin = true then .bad else .ok (.nx, ρ.set i s)
  | none => .bad
theorem w_setS {z : Slot} : Wp (setS i z (s0 :: ρ)) P ↔ Wp (setS2 i z (s0 :: ρ : Sl)[i]? (s0 :: ρ)) P := Iff.rfl
theorem setS2_frz {z : Slot} : Wp (setS2 i z (some (.frz d)) τ) P ↔ P (.nx, τ.set i z) := wp_ok
theorem setS2_any {z : Slot} : Wp (setS2 i z (some .any) τ) P ↔ P (.nx, τ.set i z) := wp_ok
theorem setS2_loc {z : Slot} : Wp (setS2 i z (some (.loc ds)) τ) P ↔ P (.nx, τ.set i z) := wp_ok
theorem w_expr : Wp (sExpr f (s0 :: ρ)) P ↔ Wp (f (s0 :: ρ)) fun q => P (.nx, q.2) := by unfold sExpr; simp only [wp_bind, wp_ok]
/-! ### a, b = .. -/
def layK (i : Nat) (r : Rs) (o : Option Slot) (ρ : Sl) : Option Sl := match o with
  | some t => if t.pin = true ∨ r.plain = false then none else some (ρ.set i r.slot)
  | none => none
theorem layS_eq {r : Rs} : layS i r (s0 :: ρ) = layK i r (s0 :: ρ : Sl)[i]? (s0 :: ρ) := rfl
theorem layK_frz {e : Dt} : layK i (.val d) (some (.frz e)) τ = some (τ.set i (.frz d)) := rfl
theorem layK_any : layK i (.val d) (some .any) τ = some (τ.set i (.frz d)) := rfl
theorem layK_loc : layK i (.val d) (some (.loc ds)) τ = some (τ.set i (.frz d)) := rfl
theorem layKo_frz {e : Dt} : layK i (.own es) (some (.frz e)) τ = some (τ.set i (.loc es)) := rfl
theorem layKo_any : layK i (.own es) (some .any) τ = some (τ.set i (.loc es)) := rfl
theorem layKo_loc : layK i (.own es) (some (.loc ds)) τ = some (τ.set i (.loc es)) := rfl
def parK (o : Option Sl) : O (Fl × Sl) := match o with
  | some ρ' => .ok (.nx, ρ')
  | none => .bad
theorem parK_some : Wp (parK (some τ)) P ↔ P (.nx, τ) := wp_ok
theorem w_par2 : Wp (sPar2 i j fa (s0 :: ρ)) P ↔ Wp (fa (s0 :: ρ)) fun q => Wp (par2K i j q.1 q.2) P := wp_bind
theorem w_par2K {r1 r2 : Rs} : Wp (par2K i j [r1, r2] τ) P ↔ ¬ i = j ∧ Wp (parK ((layS j r2 τ).bind (layS i r1))) P := wp_badIte
theorem w_par3 : Wp (sPar3 i j l fa (s0 :: ρ)) P ↔ Wp (fa (s0 :: ρ)) fun q => Wp (par3K i j l q.1 q.2) P := wp_bind
theorem w_par3K {r1 r2 r3 : Rs} : Wp (par3K i j l [r1, r2, r3] τ) P ↔ ¬ (i = j ∨ i = l ∨ j = l) ∧ Wp (parK (((layS l r3 τ).bind (layS j r2)).bind (layS i r1))) P := wp_badIte
/-! ### targets -/
def tgtK (b : Dt → Sl → Option Sl) (q : Rs × Sl) : O (Fl × Sl) := match q.1 with
  | .val d => (O.of (b d q.2)).bind fun ρ' => .ok (.nx, ρ')
  | _ => .bad
theorem w_tgt : Wp (sTgt b f (s0 :: ρ)) P ↔ Wp (f (s0 :: ρ)) fun q => Wp (tgtK b q) P := wp_bind
theorem tgtK_val : Wp (tgtK b (.val d, τ)) P ↔ Wp (O.of (b d τ)) fun ρ' => P (.nx, ρ') := by unfold tgtK; simp only [wp_bind, wp_ok]
def nameK (i : Nat) (d : Dt) (o : Option Slot) (ρ : Sl) : Option Sl := match o with
  | some t => if t.pin = true then none else some (ρ.set i (.frz d))
  | none => none
theorem bName_eq : bName i d (s0 :: ρ) = nameK i d (s0 :: ρ : Sl)[i]? (s0 :: ρ) := rfl
theorem nameK_frz {e : Dt} : nameK i d (some (.frz e)) τ = some (τ.set i (.frz d)) := rfl
theorem nameK_any : nameK i d (some .any) τ = some (τ.set i (.frz d)) := rfl
theorem nameK_loc : nameK i d (some (.loc ds)) τ = some (τ.set i (.frz d)) := rfl
theorem bTup_tup {bs : List Dt → Sl → Option Sl} : bTup n bs (.tup ds) (s0 :: ρ) = if ds.length = n then bs ds (s0 :: ρ) else none := rfl
theorem bTup_ok {bs : List Dt → Sl → Option Sl} (h : ds.length = n) : bTup n bs (.tup ds) (s0 :: ρ) = bs ds (s0 :: ρ) := if_pos h
theorem bCons_eq {bs : List Dt → Sl → Option Sl} : bCons b bs (d :: ds) (s0 :: ρ) = (b d (s0 :: ρ)).bind (bs ds) := rfl
theorem bNil_eq : bNil [] (s0 :: ρ) = some (s0 :: ρ) := rfl
/-! ### x += .. , x[i] = .. -/
def augK (i : Nat) (opf : Dt → Dt → Option Rs) (f : Sl → O (Rs × Sl)) (o : Option Slot) (ρ : Sl) : O (Fl × Sl) := match o with
  | some (.frz d) => (f ρ).bind fun q => match (deref q.2 q.1).bind (opf d) with
    | some (.val z) => setS i (.frz z) q.2
    | some (.own z) => setS i (.loc z) q.2
    | _ => .bad
  | _ => .bad
def augK2 (i : Nat) (o : Option Rs) (ρ : Sl) : O (Fl × Sl) := match o with
  | some (.val z) => setS i (.frz z) ρ
  | some (.own z) => setS i (.loc z) ρ
  | _ => .bad
theorem w_aug : Wp (sAug i opf f (s0 :: ρ)) P ↔ Wp (augK i opf f (s0 :: ρ : Sl)[i]? (s0 :: ρ)) P := Iff.rfl
theorem augK_frz : Wp (augK i opf f (some (.frz d)) τ) P ↔ Wp (f τ) fun q => Wp (augK2 i ((deref q.2 q.1).bind (opf d)) q.2) P := wp_bind
theorem augK2_val {z : Dt} : augK2 i (some (.val z)) τ = setS i (.frz z) τ := rfl
theorem augK2_own {z : List Dt} : augK2 i (some (.own z)) τ = setS i (.loc z) τ := rfl
def ixsK (i : Nat) (d : Dt) (k : Int) (o : Option Slot) (ρ : Sl) : O (Fl × Sl) := match o with
  | some (.loc ds) => (match ixN ds.length k with
    | some j => .ok (.nx, ρ.set i (.loc (ds.set j d)))
    | none => .bad)
  | some (.io ds) => (match ixN ds.length k with
    | some j => .ok (.nx, ρ.set i (.io (ds.set j d)))
    | none => .bad)
  | _ => .bad
def sixK2 (i : Nat) (d : Dt) (q2 : Rs × Sl) : O (Fl × Sl) := match q2.1, q2.2[i]? with
  | .val (.int k), some (.loc ds) => (match ixN ds.length k with
    | some j => .ok (.nx, q2.2.set i (.loc (ds.set j d)))
    | none => .bad)
  | .val (.int k), some (.io ds) => (match ixN ds.length k with
    | some j => .ok (.nx, q2.2.set i (.io (ds.set j d)))
    | none => .bad)
  | _, _ => .bad
def sixK1 (i : Nat) (fi' : Sl → O (Rs × Sl)) (d : Dt) (qv : Rs × Sl) : O (Fl × Sl) := match qv.1 with
  | .ref _ => (fi' qv.2).bind fun q2 => sixK2 i d q2
  | _ => .bad
def sixK0 (i : Nat) (fi' : Sl → O (Rs × Sl)) (o : Option (Dt × Sl)) : O (Fl × Sl) := match o with
  | none => .bad
  | some (d, ρ1) => (eVar i ρ1).bind fun qv => sixK1 i fi' d qv
theorem w_setIx {fi' fe : Sl → O (Rs × Sl)} : Wp (sSetIx i fi' fe (s0 :: ρ)) P ↔ Wp (fe (s0 :: ρ)) fun q => Wp (sixK0 i fi' (freeze1 q.1 q.2)) P := wp_bind
theorem w_sixK0 {fi' : Sl → O (Rs × Sl)} : Wp (sixK0 i fi' (some (d, τ))) P ↔ Wp (eVar i τ) fun qv => Wp (sixK1 i fi' d qv) P := wp_bind
theorem w_sixK1 {fi' : Sl → O (Rs × Sl)} : Wp (sixK1 i fi' d (.ref j, τ)) P ↔ Wp (fi' τ) fun q => Wp (sixK2 i d q) P := wp_bind
theorem w_sixK2 {k : Int} : Wp (sixK2 i d (.val (.int k), τ)) P ↔ Wp (ixsK i d k τ[i]? τ) P := by
  have : sixK2 i d (.val (.int k), τ) = ixsK i d k τ[i]? τ := by
    unfold sixK2 ixsK
    cases τ[i]? with
    | none => rfl
    | some z => cases z <;> rfl
  rw [this]
theorem ixsK_loc {k : Int} : Wp (ixsK i d k (some (.loc ds)) τ) P ↔ optK (ixN ds.length k) fun j => P (.nx, τ.set i (.loc (ds.set j d))) := by
  unfold ixsK
  simp only []
  cases ixN ds.length k with
  | none => exact wp_bad
  | some j => exact wp_ok
theorem ixsK_io {k : Int} : Wp (ixsK i d k (some (.io ds)) τ) P ↔ optK (ixN ds.length k) fun j => P (.nx, τ.set i (.io (ds.set j d))) := by
  unfold ixsK
  simp only []
  cases ixN ds.length k with
  | none => exact wp_bad
  | some j => exact wp_ok
/-! ### x.append(..) -/
def mutK (i : Nat) (upf : List Dt → List Dt → Option (Dt × List Dt)) (es : List Dt) (o : Option Slot) (ρ : Sl) : O (Rs × Sl) := match o with
  | some (.loc ds) => (match upf ds es with
    | some (o, ds') => .ok (.val o, ρ.set i (.loc ds'))
    | none => .bad)
  | some (.io ds) => (match upf ds es with
    | some (o, ds') => .ok (.val o, ρ.set i (.io ds'))
    | none => .bad)
  | _ => .bad
def mut1 (i : Nat) (upf : List Dt → List Dt → Option (Dt × List Dt)) (q2 : List Rs × Sl) : O (Rs × Sl) := match freezeAll q2.1 q2.2 with
  | some (es, ρ2) => mutK i upf es ρ2[i]? ρ2
  | none => .bad
def mut0 (i : Nat) (upf : List Dt → List Dt → Option (Dt × List Dt)) (fa : Sl → O (List Rs × Sl)) (q : Rs × Sl) : O (Rs × Sl) := match q.1 with
  | .ref _ => (fa q.2).bind fun q2 => mut1 i upf q2
  | _ => .bad
theorem w_mut {upf : List Dt → List Dt → Option (Dt × List Dt)} {PE : Rs × Sl → Prop} : Wp (eMut i upf fa (s0 :: ρ)) PE ↔ Wp (eVar i (s0 :: ρ)) fun q => Wp (mut0 i upf fa q) PE := wp_bind
theorem w_mut0 {upf : List Dt → List Dt → Option (Dt × List Dt)} {PE : Rs × Sl → Prop} : Wp (mut0 i upf fa (.ref j, τ)) PE ↔ Wp (fa τ) fun q => Wp (mut1 i upf q) PE := wp_bind
theorem w_mut1 {upf : List Dt → List Dt → Option (Dt × List Dt)} {PE : Rs × Sl → Prop} {rs : List Rs} : Wp (mut1 i upf (rs, τ)) PE ↔ optK (freezeAll rs τ) fun z => Wp (mutK i upf z.1 z.2[i]? z.2) PE := by
  unfold mut1
  cases freezeAll rs τ with
  | none => exact wp_bad
  | some z => exact Iff.rfl
theorem mutK_app_loc {PE : Rs × Sl → Prop} : Wp (mutK i appU [d] (some (.loc ds)) τ) PE ↔ ds.length < 16777216 ∧ PE (.val .non, τ.set i (.loc (ds ++ [d]))) := by
  unfold mutK
  simp only [appU_one]
  by_cases h : ds.length < 16777216
  · rw [if_pos h]; simp only [wp_ok]; exact ⟨fun q => ⟨h, q⟩, fun q => q.2⟩
  · rw [if_neg h]; exact ⟨fun q => (wp_bad.mp q).elim, fun q => absurd q.1 h⟩
theorem mutK_app_io {PE : Rs × Sl → Prop} : Wp (mutK i appU [d] (some (.io ds)) τ) PE ↔ ds.length < 16777216 ∧ PE (.val .non, τ.set i (.io (ds ++ [d]))) := by
  unfold mutK
  simp only [appU_one]
  by_cases h : ds.length < 16777216
  · rw [if_pos h]; simp only [wp_ok]; exact ⟨fun q => ⟨h, q⟩, fun q => q.2⟩
  · rw [if_neg h]; exact ⟨fun q => (wp_bad.mp q).elim, fun q => absurd q.1 h⟩
theorem freezes_nil : freezeAll [] τ = some ([], τ) := rfl
theorem freezes_val {rs : List Rs} : freezeAll (.val d :: rs) τ = (freezeAll rs τ).bind fun q2 => some (d :: q2.1, q2.2) := rfl
theorem freezes_own {rs : List Rs} : freezeAll (.own ds :: rs) τ = (freezeAll rs τ).bind fun q2 => some (.lst ds :: q2.1, q2.2) := rfl
theorem freezes_ref {rs : List Rs} : freezeAll (.ref i :: rs) τ = (freeze1 (.ref i) τ).bind fun q => (freezeAll rs q.2).bind fun q2 => some (q.1 :: q2.1, q2.2) := rfl
def frz1K (i : Nat) (o : Option Slot) (ρ : Sl) : Option (Dt × Sl) := match o with
  | some (.loc ds) => some (.lst ds, ρ.set i (.frz (.lst ds)))
  | some (.frz d) => some (d, ρ)
  | _ => none
theorem freeze_ref : freeze1 (.ref i) (s0 :: ρ) = frz1K i (s0 :: ρ : Sl)[i]? (s0 :: ρ) := rfl
theorem frz1K_loc : frz1K i (some (.loc ds)) τ = some (.lst ds, τ.set i (.frz (.lst ds))) := rfl
theorem freeze_val : freeze1 (.val d) τ = some (d, τ) := rfl
theorem freeze_own : freeze1 (.own ds) τ = some (.lst ds, τ) := rfl
/-! ### loops -/
theorem w_for : Wp (sFor fi b s (s0 :: ρ)) P ↔ Wp (fi (s0 :: ρ)) fun q => Wp (loopD b s q.1 q.2) P := wp_bind
/-- one turn -/
def turnK (I : Sl → Prop) (P : Fl × Sl → Prop) (q : Fl × Sl) : Prop := match q.1 with
  | .nx => I q.2
  | .ct => I q.2
  | .bk => P (.nx, q.2)
  | .rt r => P (.rt r, q.2)
theorem turnK_nx {I : Sl → Prop} : turnK I P (.nx, τ) ↔ I τ := Iff.rfl
theorem turnK_ct {I : Sl → Prop} : turnK I P (.ct, τ) ↔ I τ := Iff.rfl
theorem turnK_bk {I : Sl → Prop} : turnK I P (.bk, τ) ↔ P (.nx, τ) := Iff.rfl
theorem turnK_rt {I : Sl → Prop} {r : Rs} : turnK I P (.rt r, τ) ↔ P (.rt r, τ) := Iff.rfl
theorem wp_loop (I : List Dt → Sl → Prop) (h0 : I ds ρ) (hend : ∀ ρ, I [] ρ → P (.nx, ρ)) (hstep : ∀ d ds ρ, I (d :: ds) ρ → ∃ ρ1, b d ρ = some ρ1 ∧ Wp (s ρ1) (turnK (I ds) P)) : Wp (loopD b s ds ρ) P := by
  induction ds generalizing ρ with
  | nil => exact wp_ok.mpr (hend ρ h0)
  | cons d ds ih =>
    obtain ⟨ρ1, e, h1⟩ := hstep d ds ρ h0
    unfold loopD
    simp only [e]
    refine wp_bind.mpr (h1.imp fun q hq => ?_)
    obtain ⟨fl, ρ2⟩ := q
    cases fl with
    | nx => exact ih hq
    | ct => exact ih hq
    | bk => exact wp_ok.mpr hq
    | rt r => exact wp_ok.mpr hq
/-- by the places -/
theorem wp_loopN (I : Nat → Sl → Prop) (h0 : I 0 ρ) (hend : ∀ ρ, I ds.length ρ → P (.nx, ρ)) (hstep : ∀ i d ρ, ds[i]? = some d → I i ρ → ∃ ρ1, b d ρ = some ρ1 ∧ Wp (s ρ1) (turnK (I (i + 1)) P)) : Wp (loopD b s ds ρ) P := by
  refine wp_loop (fun r ρ => ∃ k, k + r.length = ds.length ∧ r = ds.drop k ∧ I k ρ) ⟨0, by simp, by simp, h0⟩ (fun ρ ⟨k, e, _, h⟩ => by simp at e; subst e; exact hend ρ h) fun d r ρ ⟨k, e, e2, h⟩ => ?_
  have hg : ds[k]? = some d := by
    have := congrArg (fun l => l[0]?) e2
    simp at this
    exact this.symm
  obtain ⟨ρ1, e3, h3⟩ := hstep k d ρ hg h
  refine ⟨ρ1, e3, h3.imp fun q hq => ?_⟩
  have hr : r = ds.drop (k + 1) := by
    have := congrArg List.tail e2
    simpa using this
  obtain ⟨fl, ρ2⟩ := q
  have hl : k + 1 + r.length = ds.length := by simp at e; omega
  cases fl with
  | nx => exact ⟨k + 1, hl, hr, hq⟩
  | ct => exact ⟨k + 1, hl, hr, hq⟩
  | bk => exact hq
  | rt r => exact hq
/-- over a range from lo -/
theorem wp_loopR {lo : Int} (I : Nat → Sl → Prop) (h0 : I 0 ρ) (hend : ∀ ρ, I n ρ → P (.nx, ρ)) (hstep : ∀ i ρ, i < n → I i ρ → ∃ ρ1, b (.int (lo + (i : Int))) ρ = some ρ1 ∧ Wp (s ρ1) (turnK (I (i + 1)) P)) : Wp (loopD b s (rngL lo n) ρ) P := by
  refine wp_loopN I h0 (fun ρ h => hend ρ (by simpa [rngL] using h)) fun i d ρ hd h => ?_
  have hi : i < n := by
    have := (List.getElem?_eq_some_iff.mp hd).1
    simpa [rngL] using this
  unfold rngL at hd
  rw [List.getElem?_map, List.getElem?_range hi] at hd
  cases hd
  exact hstep i ρ hi h
/-- while -/
theorem wp_while {N : Nat} (I : Nat → Sl → Prop) (h0 : I m ρ) (hm : m < N) (hstep : ∀ m ρ, I m ρ → Wp (t ρ) fun q => (q.1 = false ∧ P (.nx, q.2)) ∨ (q.1 = true ∧ Wp (s q.2) (turnK (fun ρ' => ∃ m', m' < m ∧ I m' ρ') P))) : Wp (sWhile N t s ρ) P := by
  show Wp (whileD t s N ρ) P
  induction N generalizing m ρ with
  | zero => omega
  | succ N ih =>
    unfold whileD
    refine wp_bind.mpr ((hstep m ρ h0).imp fun q hq => ?_)
    rcases hq with ⟨e, h⟩ | ⟨e, h⟩
    · rw [e]; exact wp_ok.mpr h
    · rw [if_pos e]
      refine wp_bind.mpr (h.imp fun q2 hq2 => ?_)
      obtain ⟨fl, ρ2⟩ := q2
      cases fl with
      | nx => obtain ⟨m', l1, l2⟩ := hq2; exact ih l2 (by omega)
      | ct => obtain ⟨m', l1, l2⟩ := hq2; exact ih l2 (by omega)
      | bk => exact wp_ok.mpr hq2
      | rt r => exact wp_ok.mpr hq2
/-! ### what loops walk -/
def iterK (o : Option (List Dt)) (ρ : Sl) (Q : List Dt × Sl → Prop) : Prop := match o with
  | some ds => Q (ds, ρ)
  | none => False
theorem w_rng {opn : List Dt → Option (List Dt)} {Q : List Dt × Sl → Prop} : Wp (iRng opn fa (s0 :: ρ)) Q ↔ Wp (fa (s0 :: ρ)) fun q => iterK ((derefAll q.2 q.1).bind opn) q.2 Q := by
  unfold iRng
  rw [wp_bind]
  refine ⟨fun h => h.imp fun q hq => ?_, fun h => h.imp fun q hq => ?_⟩ <;> (unfold iterK at *; cases e : (derefAll q.2 q.1).bind opn with
    | none => rw [e] at hq; first | exact hq.elim | exact (wp_bad.mp hq).elim
    | some d => rw [e] at hq; simpa only [wp_ok] using hq)
theorem iterK_some {Q : List Dt × Sl → Prop} : iterK (some ds) τ Q ↔ Q (ds, τ) := Iff.rfl
theorem iterK_ite {c : Prop} [Decidable c] {Q : List Dt × Sl → Prop} : iterK (if c then some ds else none) τ Q ↔ c ∧ Q (ds, τ) := by
  by_cases h : c
  · rw [if_pos h]; exact ⟨fun q => ⟨h, q⟩, fun q => q.2⟩
  · rw [if_neg h]; exact ⟨fun q => q.elim, fun q => absurd q.1 h⟩
theorem iterK_of {o : Option (List Dt)} {Q : List Dt × Sl → Prop} (h : o = some ds) : iterK o τ Q ↔ Q (ds, τ) := by rw [h]; exact Iff.rfl
theorem iterK_rng1 {k : Int} {Q : List Dt × Sl → Prop} : iterK (rng1D [.int k]) τ Q ↔ (-4611686018427387904 ≤ k ∧ k < 4611686018427387904) ∧ Q (rngL 0 k.toNat, τ) := by
  rw [rng1D_one]; exact iterK_ite
theorem iterK_rng2 {k l : Int} {Q : List Dt × Sl → Prop} : iterK (rng2D [.int k, .int l]) τ Q ↔ (-4611686018427387904 ≤ k ∧ k < 4611686018427387904 ∧ -4611686018427387904 ≤ l ∧ l < 4611686018427387904) ∧ Q (rngL k (l - k).toNat, τ) := by
  rw [rng2D_two]; exact iterK_ite
theorem wp_addLst {xs ys : List Dt} {PR : Rs → Prop} : Wp (O.of (addD (.lst xs) (.lst ys))) PR ↔ xs.length + ys.length ≤ 16777216 ∧ PR (.own (xs ++ ys)) := by
  rw [addD_lst]; exact wp_ofIte.trans (and_congr Iff.rfl wp_some)
theorem wp_addTup {xs ys : List Dt} {PR : Rs → Prop} : Wp (O.of (addD (.tup xs) (.tup ys))) PR ↔ xs.length + ys.length ≤ 16777216 ∧ PR (.val (.tup (xs ++ ys))) := by
  rw [addD_tup]; exact wp_ofIte.trans (and_congr Iff.rfl wp_some)
theorem wp_addStr {xs ys : Str} {PR : Rs → Prop} : Wp (O.of (addD (.str xs) (.str ys))) PR ↔ xs.length + ys.length ≤ 16777216 ∧ PR (.val (.str (xs ++ ys))) := by
  rw [addD_str]; exact wp_ofIte.trans (and_congr Iff.rfl wp_some)
theorem wp_lenStr {xs : Str} {PR : Rs → Prop} : Wp (O.of (lenD [.str xs])) PR ↔ xs.length ≤ 16777216 ∧ PR (.val (.int xs.length)) := by
  rw [lenD_str]; exact wp_ofIte.trans (and_congr Iff.rfl wp_some)
theorem wp_sliceStr {z : Str} {lo hi : Option Int} {PR : Rs → Prop} : Wp (O.of (sliceD (.str z) lo hi)) PR ↔ z.length ≤ 16777216 ∧ PR (.val (.str (cutS z lo hi))) := by
  rw [sliceD_str]; exact wp_ofIte.trans (and_congr Iff.rfl wp_some)
theorem wp_ixStr {z : Str} {k : Int} {PR : Rs → Prop} : Wp (O.of (ixD (.str z) (.int k))) PR ↔ z.length ≤ 16777216 ∧ optK (atI z.cps.toList k) fun c => PR (.val (.str ⟨#[c]⟩)) := by
  have : ixD (.str z) (.int k) = if z.length ≤ 16777216 then (atI z.cps.toList k).map (fun c => Rs.val (.str ⟨#[c]⟩)) else none := rfl
  rw [this]; exact wp_ofIte.trans (and_congr Iff.rfl (wp_ofO.trans optK_map))
theorem w_frzI {opn : List Dt → Option (List Dt)} {Q : List Dt × Sl → Prop} : Wp (iFrz opn fa (s0 :: ρ)) Q ↔ Wp (fa (s0 :: ρ)) fun q => optK (freezeAll q.1 q.2) fun z => optK (opn z.1) fun es => Q (es, z.2) := by
  unfold iFrz
  simp only [wp_bind]
  refine iff_of_eq (congrArg _ (funext fun q => propext ?_))
  cases freezeAll q.1 q.2 with
  | none => exact wp_bad
  | some z =>
    show Wp (match opn z.1 with | some es => .ok (es, z.2) | none => .bad) Q ↔ _
    simp only [optK_some]
    cases opn z.1 with
    | none => exact wp_bad
    | some es => exact wp_ok
theorem w_seqI {Q : List Dt × Sl → Prop} : Wp (iSeqD f (s0 :: ρ)) Q ↔ Wp (f (s0 :: ρ)) fun q => optK (freeze1 q.1 q.2) fun z => optK (seqD z.1) fun es => Q (es, z.2) := by
  unfold iSeqD
  simp only [wp_bind]
  refine iff_of_eq (congrArg _ (funext fun q => propext ?_))
  cases freeze1 q.1 q.2 with
  | none => exact wp_bad
  | some z =>
    show Wp (match seqD z.1 with | some es => .ok (es, z.2) | none => .bad) Q ↔ _
    simp only [optK_some]
    cases seqD z.1 with
    | none => exact wp_bad
    | some es => exact wp_ok
/-! ### comprehensions -/
theorem w_comp {c : Sl → O (Bool × Sl)} {el : Sl → O (Rs × Sl)} {ix : List Nat} {Q : Rs × Sl → Prop} : Wp (eComp fi b c el ix (s0 :: ρ)) Q ↔ Wp (fi (s0 :: ρ)) fun q => q.1.length ≤ 16777216 ∧ Wp (compD b c el ix q.1 (wipeS q.2 ix) []) fun z => Q (.own z.1, z.2) := by
  unfold eComp
  simp only [wp_bind, wp_iteBad, wp_noExc, wp_ok]
theorem w_yes {Q : Bool × Sl → Prop} : Wp (cYes (s0 :: ρ)) Q ↔ Q (true, s0 :: ρ) := wp_ok
theorem wp_comp {c : Sl → O (Bool × Sl)} {el : Sl → O (Rs × Sl)} {ix : List Nat} {Q : List Dt × Sl → Prop} {acc : List Dt} (I : List Dt → List Dt → Sl → Prop) (h0 : I acc ds ρ) (hend : ∀ acc ρ, I acc [] ρ → Q (acc, ρ))
    (hstep : ∀ d ds acc ρ, I acc (d :: ds) ρ → ∃ ρ1, b d ρ = some ρ1 ∧ Wp (c ρ1) fun q => (q.1 = true ∧ Wp (el q.2) fun q2 => ∃ e ρ3, freeze1 q2.1 q2.2 = some (e, ρ3) ∧ I (acc ++ [e]) ds (wipeS ρ3 ix)) ∨ (q.1 = false ∧ I acc ds (wipeS q.2 ix))) : Wp (compD b c el ix ds ρ acc) Q := by
  induction ds generalizing ρ acc with
  | nil => exact wp_ok.mpr (hend acc ρ h0)
  | cons d ds ih =>
    obtain ⟨ρ1, e, h1⟩ := hstep d ds acc ρ h0
    unfold compD
    simp only [e]
    refine wp_bind.mpr (h1.imp fun q hq => ?_)
    rcases hq with ⟨e1, h2⟩ | ⟨e1, h2⟩
    · rw [if_pos e1]
      refine wp_bind.mpr (h2.imp fun q2 ⟨z, ρ3, e3, h3⟩ => ?_)
      simp only [e3]
      exact ih h3
    · rw [e1]
      exact ih h2
/-- one value for each item, the places as they were -/
theorem wp_compM {c : Sl → O (Bool × Sl)} {el : Sl → O (Rs × Sl)} {ix : List Nat} {Q : List Dt × Sl → Prop} (h : Dt → Dt) (hQ : Q (ds.map h, ρ))
    (hstep : ∀ d, d ∈ ds → ∃ ρ1, b d ρ = some ρ1 ∧ Wp (c ρ1) fun q => q.1 = true ∧ Wp (el q.2) fun q2 => ∃ ρ3, freeze1 q2.1 q2.2 = some (h d, ρ3) ∧ wipeS ρ3 ix = ρ) : Wp (compD b c el ix ds ρ []) Q := by
  refine wp_comp (fun acc r ρ' => ρ' = ρ ∧ acc ++ r.map h = ds.map h ∧ ∀ d ∈ r, d ∈ ds) ⟨rfl, rfl, fun _ x => x⟩ (fun acc ρ' ⟨e, e2, _⟩ => ?_) fun d r acc ρ' ⟨e, e2, e3⟩ => ?_
  · subst e; simp at e2; subst e2; exact hQ
  · subst e
    obtain ⟨ρ1, g1, g2⟩ := hstep d (e3 d (by simp))
    refine ⟨ρ1, g1, g2.imp fun q ⟨q1, q2⟩ => .inl ⟨q1, q2.imp fun z ⟨ρ3, z1, z2⟩ => ⟨_, _, z1, z2, ?_, fun d hd => e3 d (by simp [hd])⟩⟩⟩
    simpa using e2
/-- over a range -/
theorem wp_compR {lo : Int} {c : Sl → O (Bool × Sl)} {el : Sl → O (Rs × Sl)} {ix : List Nat} {Q : List Dt × Sl → Prop} (h : Int → Dt) (hQ : Q ((List.range n).map (fun (k : Nat) => h (lo + (k : Int))), ρ))
    (hstep : ∀ k : Nat, k < n → ∃ ρ1, b (.int (lo + (k : Int))) ρ = some ρ1 ∧ Wp (c ρ1) fun q => q.1 = true ∧ Wp (el q.2) fun q2 => ∃ ρ3, freeze1 q2.1 q2.2 = some (h (lo + (k : Int)), ρ3) ∧ wipeS ρ3 ix = ρ) : Wp (compD b c el ix (rngL lo n) ρ []) Q := by
  refine wp_compM (fun d => match d with | .int i => h i | _ => .non) ?_ fun d hd => ?_
  · unfold rngL; rw [List.map_map]; exact hQ
  · unfold rngL at hd
    obtain ⟨k, hk, e⟩ := List.mem_map.mp hd
    subst e
    exact hstep k (List.mem_range.mp hk)
/-! ### a def -/
def outK (ss : Sl) (P : Rs × Sl → Prop) (q : Fl × Sl) : Prop := match q.1 with
  | .nx => P (.val .non, outS ss q.2)
  | .rt r => P (r, outS ss q.2)
  | _ => False
theorem w_fn {PE : Rs × Sl → Prop} {ss : Sl} (hl : ss.length = n) (h : Wp (s (ss ++ List.replicate m .any)) (outK ss PE)) : Wp (fnD n m s ss) PE := by
  obtain ⟨⟨fl, ρ'⟩, e, h⟩ := h
  unfold fnD
  rw [if_pos hl, e]
  cases fl with
  | nx => exact wp_ok.mpr h
  | rt r => exact wp_ok.mpr h
  | bk => exact h.elim
  | ct => exact h.elim
theorem outK_rt {PE : Rs × Sl → Prop} {ss : Sl} {r : Rs} : outK ss PE (.rt r, τ) ↔ PE (r, outS ss τ) := Iff.rfl
theorem outK_nx {PE : Rs × Sl → Prop} {ss : Sl} : outK ss PE (.nx, τ) ↔ PE (.val .non, outS ss τ) := Iff.rfl
theorem outS_nil : outS [] τ = [] := rfl
theorem outS_frz {z : Slot} : outS (.frz d :: ρ) (z :: τ) = .any :: outS ρ τ := rfl
theorem outS_io : outS (.io ds :: ρ) (.io es :: τ) = .io es :: outS ρ τ := rfl
theorem flat_int {k : Int} : (Rs.val (.int k)).flat = true := rfl
theorem wipe_nil : wipeS τ [] = τ := rfl
theorem wipe_cons {is : List Nat} : wipeS τ (i :: is) = (wipeS τ is).set i .any := rfl
theorem ix3_0 {x y z : Dt} : ixN [x, y, z].length 0 = some 0 := rfl
theorem ix3_1 {x y z : Dt} : ixN [x, y, z].length 1 = some 1 := rfl
theorem ix3_2 {x y z : Dt} : ixN [x, y, z].length 2 = some 2 := rfl
theorem at3_0 {x y z : Dt} : atI [x, y, z] 0 = some x := rfl
theorem at3_1 {x y z : Dt} : atI [x, y, z] 1 = some y := rfl
theorem at3_2 {x y z : Dt} : atI [x, y, z] 2 = some z := rfl
theorem at2_0 {x y : Dt} : atI [x, y] 0 = some x := rfl
theorem at2_1 {x y : Dt} : atI [x, y] 1 = some y := rfl
theorem at4_0 {x y z w : Dt} : atI [x, y, z, w] 0 = some x := rfl
theorem at4_1 {x y z w : Dt} : atI [x, y, z, w] 1 = some y := rfl
theorem at4_2 {x y z w : Dt} : atI [x, y, z, w] 2 = some z := rfl
theorem at4_3 {x y z w : Dt} : atI [x, y, z, w] 3 = some w := rfl
theorem set3_0 {x y z w : Dt} : [x, y, z].set 0 w = [w, y, z] := rfl
theorem set3_1 {x y z w : Dt} : [x, y, z].set 1 w = [x, w, z] := rfl
theorem set3_2 {x y z w : Dt} : [x, y, z].set 2 w = [x, y, w] := rfl
theorem isN_int {k : Int} : isD (.int k) .non = some (.val (.bl false)) := rfl
theorem isN_non : isD .non .non = some (.val (.bl true)) := rfl
theorem isNN_int {k : Int} : isNotD (.int k) .non = some (.val (.bl true)) := rfl
theorem isNN_non : isNotD .non .non = some (.val (.bl false)) := rfl
theorem isi_int {k : Int} : isiD "int" (.int k) = some (.val (.bl true)) := by
  have : kitB "int" "int" = some true := by decide +kernel
  show (kitB "int" "int").map _ = _
  rw [this]; rfl
theorem isi_intB {k : Int} : isiD "bool" (.int k) = some (.val (.bl false)) := by
  have : kitB "int" "bool" = some false := by decide +kernel
  show (kitB "int" "bool").map _ = _
  rw [this]; rfl
end
end FX

/-! FX17: what == and in answer. -/
namespace FX
open PySem L2 PyProof.Rows
mutual
theorem eqv_refl : ∀ d : Dt, d.pl = true → PyData.eqv (toP d) (toP d) = true
  | .non, _ => rfl
  | .bl b, _ => by unfold toP PyData.eqv; simp
  | .int i, _ => by unfold toP PyData.eqv; simp
  | .str x, _ => by unfold toP PyData.eqv; simp
  | .tup ds, e => by unfold toP PyData.eqv; exact eqvs_refl ds (by unfold Dt.pl at e; exact e)
  | .lst ds, e => by unfold toP PyData.eqv; exact eqvs_refl ds (by unfold Dt.pl at e; exact e)
  | .scr ns, _ => by unfold toP PyData.eqv; exact eqvi_refl ns
  | .emp, e => by unfold Dt.pl at e; cases e
theorem eqvs_refl : ∀ ds : List Dt, Dt.pl.go ds = true → PyData.eqvAll (toPs ds) (toPs ds) = true
  | [], _ => by unfold toPs PyData.eqvAll; rfl
  | d :: ds, e => by
    unfold Dt.pl.go at e
    rw [Bool.and_eq_true] at e
    unfold toPs PyData.eqvAll; rw [eqv_refl d e.1, eqvs_refl ds e.2]; rfl
theorem eqvi_refl : ∀ ns : List Int, PyData.eqvAll (ns.map PyData.int) (ns.map PyData.int) = true
  | [] => by unfold PyData.eqvAll; rfl
  | n :: ns => by
    show PyData.eqvAll (.int n :: ns.map PyData.int) (.int n :: ns.map PyData.int) = true
    unfold PyData.eqvAll PyData.eqv
    rw [eqvi_refl ns]; simp
end
theorem eqB_refl {d : Dt} (h : d.pl = true) : eqB d d = true := eqv_refl d h
/-- data of depth n at most -/
def Lays (n : Nat) (d : Dt) : Prop := ((toP d).canLay0 = true ∧ (toP d).depth ≤ n) ∧ d.pl = true
theorem lays_all : ∀ {n : Nat} {ds : List Dt}, (∀ d ∈ ds, Lays n d) → (PyData.canLayAll0 (toPs ds) = true ∧ PyData.depthAll (toPs ds) ≤ n) ∧ Dt.pl.go ds = true
  | n, [], _ => by unfold toPs PyData.canLayAll0 PyData.depthAll Dt.pl.go; exact ⟨⟨rfl, Nat.zero_le _⟩, rfl⟩
  | n, d :: ds, h => by
    obtain ⟨⟨h1, h2⟩, h5⟩ := lays_all (n := n) (ds := ds) fun e he => h e (by simp [he])
    obtain ⟨⟨h3, h4⟩, h6⟩ := h d (by simp)
    unfold toPs PyData.canLayAll0 PyData.depthAll Dt.pl.go
    rw [h1, h3, h5, h6]
    exact ⟨⟨rfl, Nat.max_le.mpr ⟨h4, h2⟩⟩, rfl⟩
theorem lays_int {n : Nat} {i : Int} : Lays n (.int i) := ⟨⟨by unfold toP PyData.canLay0; rfl, by unfold toP PyData.depth; exact Nat.zero_le _⟩, rfl⟩
theorem lays_bl {n : Nat} {i : Bool} : Lays n (.bl i) := ⟨⟨by unfold toP PyData.canLay0; rfl, by unfold toP PyData.depth; exact Nat.zero_le _⟩, rfl⟩
theorem lays_non {n : Nat} : Lays n .non := ⟨⟨by unfold toP PyData.canLay0; rfl, by unfold toP PyData.depth; exact Nat.zero_le _⟩, rfl⟩
theorem lays_str {n : Nat} {x : Str} (h : PyData.canLay0 (.str x) = true) : Lays n (.str x) := ⟨⟨by unfold toP PyData.canLay0; exact h, by unfold toP PyData.depth; exact Nat.zero_le _⟩, rfl⟩
theorem lays_lst {n : Nat} {ds : List Dt} (h : ∀ d ∈ ds, Lays n d) : Lays (n + 1) (.lst ds) := by
  obtain ⟨⟨h1, h2⟩, h3⟩ := lays_all h
  exact ⟨⟨by unfold toP PyData.canLay0; exact h1, by unfold toP PyData.depth; omega⟩, by unfold Dt.pl; exact h3⟩
theorem lays_tup {n : Nat} {ds : List Dt} (h : ∀ d ∈ ds, Lays n d) : Lays (n + 1) (.tup ds) := by
  obtain ⟨⟨h1, h2⟩, h3⟩ := lays_all h
  exact ⟨⟨by unfold toP PyData.canLay0; exact h1, by unfold toP PyData.depth; omega⟩, by unfold Dt.pl; exact h3⟩
theorem lay_of {n : Nat} {d : Dt} (h : Lays n d) (hn : n ≤ 64) : lay d = true := by
  unfold lay SeqAt.shaped
  rw [h.2, h.1.1, decide_eq_true (Nat.le_trans h.1.2 hn)]; rfl
theorem eqX_same {n : Nat} {d : Dt} (h : Lays n d) (hn : n ≤ 64) : eqX d d = some true := by
  have hl : (if lay d = true ∧ lay d = true then some (eqB d d) else none) = some true := by rw [if_pos ⟨lay_of h hn, lay_of h hn⟩, eqB_refl h.2]
  cases d with
  | non => rfl
  | bl b => simp
  | int i => simp
  | str x => simp
  | tup ds => exact hl
  | lst ds => exact hl
  | scr ns => exact hl
  | emp => exact hl
theorem eqD_same {n : Nat} {d : Dt} (h : Lays n d) (hn : n ≤ 64) : eqD d d = some (.val (.bl true)) := by unfold eqD; rw [eqX_same h hn]; rfl
theorem neD_same {n : Nat} {d : Dt} (h : Lays n d) (hn : n ≤ 64) : neD d d = some (.val (.bl false)) := by unfold neD; rw [eqX_same h hn]; rfl
theorem eqD_int (i j : Int) : eqD (.int i) (.int j) = some (.val (.bl (decide (i = j)))) := rfl
theorem neD_int (i j : Int) : neD (.int i) (.int j) = some (.val (.bl (!decide (i = j)))) := rfl
theorem eqD_bl (i j : Bool) : eqD (.bl i) (.bl j) = some (.val (.bl (decide (i = j)))) := by cases i <;> cases j <;> rfl
theorem neD_bl (i j : Bool) : neD (.bl i) (.bl j) = some (.val (.bl (!decide (i = j)))) := by cases i <;> cases j <;> rfl
theorem inX_ints {i : Int} {ns : List Int} : inX (.int i) (.lst (ns.map Dt.int)) = some (decide (i ∈ ns)) := by
  unfold inX
  have h : (ns.map Dt.int).all Dt.flt = true := by
    rw [List.all_eq_true]
    intro d hd
    obtain ⟨z, _, rfl⟩ := List.mem_map.mp hd
    rfl
  simp only [h, and_true]
  rw [if_pos (show Dt.flt (.int i) = true from rfl)]
  congr 1
  unfold inF
  rw [List.any_map]
  induction ns with
  | nil => simp
  | cons n ns ih =>
    have ih := ih (by simp [List.all_map, Function.comp_def, Dt.flt])
    rw [List.any_cons, ih]
    by_cases hi : i = n
    · subst hi; simp [eqF]
    · have : (n == i) = false := by simp; exact fun e => hi e.symm
      simp [eqF, hi, this]
theorem inD_two {i a b : Int} : inD (.int i) (.lst [.int a, .int b]) = some (.val (.bl (decide (i ∈ [a, b])))) := by
  unfold inD
  rw [show [Dt.int a, .int b] = [a, b].map Dt.int from rfl, inX_ints]; rfl
theorem notInD_two {i a b : Int} : notInD (.int i) (.lst [.int a, .int b]) = some (.val (.bl (!decide (i ∈ [a, b])))) := by
  unfold notInD
  rw [show [Dt.int a, .int b] = [a, b].map Dt.int from rfl, inX_ints]; rfl
end FX

/-! FX18: a value frozen where it stands. -/
namespace FX
open PySem L2 PyProof.Rows
section
variable {K : PySem.W.Frag} {mg : Str → Option Value} {R : RC} {F F' H H' : Hp} {vs ws : List (Option V)} {ss ts : Sl}
variable {σ : L2.St} {τ t2 : List (Option V)} {ρ θ s2 : Sl} {W : WX}
def fzK (q : Rs × Sl) : O (Rs × Sl) := match freeze1 q.1 q.2 with
  | some (d, ρ') => .ok (.val d, ρ')
  | none => .bad
def eFz (f : Sl → O (Rs × Sl)) : Sl → O (Rs × Sl) := fun ρ => (f ρ).bind fzK
theorem de_fz {f : Sl → O (Rs × Sl)} {Q : VK} (h : dE K mg W (eFz f) σ H Q) : dE K mg W f σ H Q := by
  obtain ⟨R, τ, θ, ρ, F, a, h⟩ := h
  refine dE_bind (kB := kE K mg W R σ τ θ Q) a.nil rfl kE_x kE_b h fun r1 ρ1 x F1 H1 a1 hr1 h1 => ?_
  simp only [List.nil_append] at a1
  unfold fzK at h1
  cases e : freeze1 r1 ρ1 with
  | none => simp only [e] at h1; exact h1.elim
  | some z =>
    obtain ⟨d, ρ'⟩ := z
    simp only [e] at h1
    obtain ⟨F2, _, a2, _⟩ := freeze1_ok a1 hr1 e
    exact h1 x F2 H1 a2 trivial
end
theorem x_fz {X : Cx} {W : WX} {e : Expr} {f : Sl → O (Rs × Sl)} (h : XE X W e f) : XE X W e (eFz f) := PE.imp h fun _ _ _ => de_fz
section
variable {f : Sl → O (Rs × Sl)} {s0 : Slot} {ρ τ : Sl} {P : Rs × Sl → Prop} {d : Dt} {ds : List Dt} {i : Nat}
theorem w_fz : Wp (eFz f (s0 :: ρ)) P ↔ Wp (f (s0 :: ρ)) fun q => Wp (fzK q) P := wp_bind
theorem fzK_val : Wp (fzK (.val d, τ)) P ↔ P (.val d, τ) := wp_ok
theorem fzK_own : Wp (fzK (.own ds, τ)) P ↔ P (.val (.lst ds), τ) := wp_ok
theorem fzK_ref : Wp (fzK (.ref i, s0 :: ρ)) P ↔ optK (freeze1 (.ref i) (s0 :: ρ)) fun z => P (.val z.1, z.2) := by
  unfold fzK
  cases freeze1 (.ref i) (s0 :: ρ) with
  | none => exact wp_bad
  | some z => exact wp_ok
end
section
variable {X : Cx} {W : WX} {a b c : Expr} {pos : Pos} {fa : Sl → O (List Rs × Sl)}
theorem s_par3 {i j l : Nat} {x y z : Str} {px py pz pt : Pos} {kt k2 pt2} (hN : X.N.Nodup) (ha : XA X W [a, b, c] fa) (hc : X.calm = true := by rfl) (hi : X.N[i]? = some x := by rfl) (hj : X.N[j]? = some y := by rfl) (hl : X.N[l]? = some z := by rfl) (hij : i ≠ j := by decide) (hil : i ≠ l := by decide) (hjl : j ≠ l := by decide)
    (hx : X.env.scope.names.lookup x = some .local := by rfl) (hy : X.env.scope.names.lookup y = some .local := by rfl) (hz : X.env.scope.names.lookup z = some .local := by rfl)
    (hw : swappedStores [.Tuple [.Name x px, .Name y py, .Name z pz] kt pt] (.Tuple [a, b, c] k2 pt2) X.env = pure (some [x, y, z]) := by rfl)
    (hs : swapsWithSole [.Tuple [.Name x px, .Name y py, .Name z pz] kt pt] (.Tuple [a, b, c] k2 pt2) pos.line X.env = pure false := by rfl) :
    XS X W (.Assign [.Tuple [.Name x px, .Name y py, .Name z pz] kt pt] (.Tuple [a, b, c] k2 pt2) pos) (sPar3 i j l fa) := PS.imp (ps_par3 hc hN hi hj hl hij hil hjl hx hy hz ha hw hs) fun _ _ _ => ds_par3
end
theorem XG.castL {X : Cx} {tg : Expr} {ix jx : List Nat} {g : TG} {b : Dt → Sl → Option Sl} (h : XG X tg ix g b) (e : ix = jx := by rfl) : XG X tg jx g b := e ▸ h
end FX

/-! FX19: more of how the functions are run. -/
namespace FX
open PySem L2 PyProof.Rows
theorem isi_tup {ds : List Dt} : isiD "tuple" (.tup ds) = some (.val (.bl true)) := by
  have : kitB "tuple" "tuple" = some true := by decide +kernel
  show (kitB "tuple" "tuple").map _ = _
  rw [this]; rfl
theorem isi_str {x : Str} : isiD "str" (.str x) = some (.val (.bl true)) := by
  have : kitB "str" "str" = some true := by decide +kernel
  show (kitB "str" "str").map _ = _
  rw [this]; rfl
theorem isi_lst {ds : List Dt} : isiD "list" (.lst ds) = some (.val (.bl true)) := by
  have : kitB "list" "list" = some true := by decide +kernel
  show (kitB "list" "list").map _ = _
  rw [this]; rfl
theorem is_bl {a b : Bool} : isD (.bl a) (.bl b) = some (.val (.bl (decide (a = b)))) := rfl
theorem isNot_bl {a b : Bool} : isNotD (.bl a) (.bl b) = some (.val (.bl (!decide (a = b)))) := rfl
theorem bName_ok {i : Nat} {d : Dt} {z : Slot} {ρ : Sl} (h : ρ[i]? = some z) (hz : z.pin = false) : bName i d ρ = some (ρ.set i (.frz d)) := by
  unfold bName
  rw [h]
  simp only [hz]
  rfl
theorem bPair_ok {i j : Nat} {a b : Dt} {z w : Slot} {ρ : Sl} (h1 : ρ[i]? = some z) (h2 : z.pin = false) (h3 : ρ[j]? = some w) (h4 : w.pin = false) (hij : i ≠ j) : bTup 2 (bCons (bName i) (bCons (bName j) bNil)) (.tup [a, b]) ρ = some ((ρ.set i (.frz a)).set j (.frz b)) := by
  show (bName i a ρ).bind (bCons (bName j) bNil [b]) = _
  rw [bName_ok h1 h2]
  show (bName j b (ρ.set i (.frz a))).bind (bNil []) = _
  rw [bName_ok (z := w) (by rw [List.getElem?_set_ne hij]; exact h3) h4]
  rfl
/-- x = .. where the place is free -/
theorem setS_np {i : Nat} {z t : Slot} {s0 : Slot} {ρ : Sl} {P : Fl × Sl → Prop} (hz : t.pin = false) (h : P (.nx, (s0 :: ρ).set i z)) : Wp (setS2 i z (some t) (s0 :: ρ)) P := by
  unfold setS2
  simp only [hz]
  exact wp_ok.mpr h
section
variable {ρ : Sl} {b : Dt → Sl → Option Sl} {ds : List Dt}
/-- some of the items give a value, the places as they were -/
theorem wp_compF {c : Sl → O (Bool × Sl)} {el : Sl → O (Rs × Sl)} {ix : List Nat} {Q : List Dt × Sl → Prop} (h : Dt → Option Dt) (hQ : Q (ds.filterMap h, ρ))
    (hstep : ∀ d, d ∈ ds → ∃ ρ1, b d ρ = some ρ1 ∧ Wp (c ρ1) fun q => (∃ e, h d = some e ∧ q.1 = true ∧ Wp (el q.2) fun q2 => ∃ ρ3, freeze1 q2.1 q2.2 = some (e, ρ3) ∧ wipeS ρ3 ix = ρ) ∨ (h d = none ∧ q.1 = false ∧ wipeS q.2 ix = ρ)) : Wp (compD b c el ix ds ρ []) Q := by
  refine wp_comp (fun acc r ρ' => ρ' = ρ ∧ acc ++ r.filterMap h = ds.filterMap h ∧ ∀ d ∈ r, d ∈ ds) ⟨rfl, rfl, fun _ x => x⟩ (fun acc ρ' ⟨e, e2, _⟩ => ?_) fun d r acc ρ' ⟨e, e2, e3⟩ => ?_
  · subst e; simp at e2; subst e2; exact hQ
  · subst e
    obtain ⟨ρ1, g1, g2⟩ := hstep d (e3 d (by simp))
    refine ⟨ρ1, g1, g2.imp fun q hq => ?_⟩
    rcases hq with ⟨e, he, q1, q2⟩ | ⟨he, q1, q2⟩
    · refine .inl ⟨q1, q2.imp fun z ⟨ρ3, z1, z2⟩ => ⟨_, _, z1, z2, ?_, fun d hd => e3 d (by simp [hd])⟩⟩
      rw [List.filterMap_cons, he] at e2
      simpa using e2
    · refine .inr ⟨q1, q2, ?_, fun d hd => e3 d (by simp [hd])⟩
      rw [List.filterMap_cons, he] at e2
      simpa using e2
end
end FX

/-! FX20: join. -/
namespace FX
open PySem L2 PyProof.Rows
def allStrs : List Dt → Option (List Str)
  | [] => some []
  | .str x :: ds => (allStrs ds).map fun ys => x :: ys
  | _ :: _ => none
theorem allStrs_map : ∀ ns : List Str, allStrs (ns.map Dt.str) = some ns
  | [] => rfl
  | n :: ns => by show (allStrs (ns.map Dt.str)).map _ = _; rw [allStrs_map ns]; rfl
theorem allStrs_v {K : PySem.W.Frag} {F : Hp} : ∀ {ds : List Dt} {ys : List Str} {vs : List V}, RpAll K F vs ds → allStrs ds = some ys → vs = ys.map V.str
  | [], ys, vs, h, e => by cases e; cases h; rfl
  | .str x :: ds, ys, vs, h, e => by
    obtain ⟨zs, h1, h2⟩ := Option.map_eq_some_iff.mp e
    subst h2
    cases h with
    | cons a r =>
      rw [allStrs_v r h1]
      cases a
      rfl
  | .non :: _, _, _, _, e => by cases e
  | .bl _ :: _, _, _, _, e => by cases e
  | .int _ :: _, _, _, _, e => by cases e
  | .tup _ :: _, _, _, _, e => by cases e
  | .lst _ :: _, _, _, _, e => by cases e
  | .scr _ :: _, _, _, _, e => by cases e
def joinD : Dt → List Dt → Option Rs
  | .str a, [.lst ds] => (allStrs ds).bind fun ys => if (ys.map (·.length)).sum + ys.length * a.length ≤ 16777216 then some (.val (.str (Txt.join a ys))) else none
  | _, _ => none
theorem v_join {K : PySem.W.Frag} : VOpM K (fun x xs H Q => ∃ a p, ∃ ys : List Str, x = .str a ∧ xs = [.ref p] ∧ (SqL K H p (ys.map V.str) ∨ SqT K H p (ys.map V.str)) ∧
    (ys.map (·.length)).sum + ys.length * a.length ≤ 16777216 ∧ Q (.str (Txt.join a ys)) H) joinD := by
  intro R vs ss F H x xs d ds out Q rel v vv e k
  unfold joinD at e
  split at e
  · obtain ⟨ys, e1, e2⟩ := Option.bind_eq_some_iff.mp e
    split at e2
    · cases e2
      obtain ⟨y, rfl, v2⟩ := vv.one_of
      obtain ⟨p, zs, rfl, h1, _, h2⟩ := v2.items rel.fz
      rw [allStrs_v h2 e1] at h1
      exact ⟨_, p, ys, v.str_of, rfl, .inl h1, by assumption, endF rel k (.str _)⟩
    · cases e2
  · cases e
section
variable {X : Cx} {W : WX} {a b : Expr} {pos : Pos} {f : Sl → O (Rs × Sl)} {fa : Sl → O (List Rs × Sl)}
theorem x_join {p pos' : Pos} (ha : XE X W a f) (hb : XA X W [b] fa) (hbase : attributeBase a "join" X.env (eval a X.env) = eval a X.env := by rfl)
    (hfew : ((backTo pos (starEach [b] X.env)).all (fun x => !x.1) && (backToKw pos (keywordEach [] X.env)).all (fun x => x.1.isSome) && decide ([b].length + ([] : List Keyword).length + (if ([] : List Keyword).isEmpty then 0 else 1) < 30)) = true := by rfl)
    (hline : (p.endLine == pos.line) = true := by rfl) (hs : starEach [b] X.env = (false, eval b X.env) :: starEach [] X.env := by rfl) (hplain : (backTo pos (starEach [] X.env)).any (·.1) = false := by rfl) :
    XE X W (.Call (.Attribute a "join" p) [b] [] pos) (eMet "str" joinD f fa) :=
  PE.imp (pe_bm PySem.F.plainAttrs_str PySem.F.slot_str_join PySem.F.type_str_join mt_join ha hb hbase hfew hline hs hplain) fun _ _ _ => de_met (.inl rfl) v_join
end
theorem wp_join {z : Str} {ds : List Dt} {ys : List Str} {PR : Rs → Prop} (h : allStrs ds = some ys) (hl : (ys.map (·.length)).sum + ys.length * z.length ≤ 16777216) (hp : PR (.val (.str (Txt.join z ys)))) : Wp (O.of (joinD (.str z) [.lst ds])) PR := by
  have : joinD (.str z) [.lst ds] = some (.val (.str (Txt.join z ys))) := by
    show (allStrs ds).bind _ = _
    rw [h]
    exact if_pos hl
  rw [this]
  exact wp_some.mpr hp
end FX

/-! FX21: strings of beads. -/
namespace FX
open PySem L2 PyProof.Rows
def bc (b : Bool) : Nat := if b then 68 else 76
def sB (bs : List Bool) : Str := ⟨(bs.map bc).toArray⟩
def sD (b : Bool) : Dt := .str (if b then "D" else "L")
theorem sB_len (bs : List Bool) : (sB bs).length = bs.length := by
  show (bs.map bc).toArray.size = _
  simp
theorem sD_one (b : Bool) : Dt.str ⟨#[bc b]⟩ = sD b := by cases b <;> rfl
theorem sB_signs (bs : List Bool) : signs (sB bs) = bs.map sD := by
  unfold signs sB
  rw [show (Str.cps ⟨(bs.map bc).toArray⟩).toList = bs.map bc by simp, List.map_map]
  exact List.map_congr_left fun b _ => sD_one b
theorem sB_app (as bs : List Bool) : sB as ++ sB bs = sB (as ++ bs) := by
  show (⟨(as.map bc).toArray ++ (bs.map bc).toArray⟩ : Str) = ⟨_⟩
  simp
theorem sB_D : ("D" : Str) = sB [true] := rfl
theorem sB_L : ("L" : Str) = sB [false] := rfl
theorem sB_nil : ("" : Str) = sB [] := rfl
theorem sB_cut (bs : List Bool) {k : Nat} (h : k ≤ bs.length) : cutS (sB bs) none (some (k : Int)) = sB (bs.take k) := by
  have hl : (sB bs).length = bs.length := sB_len bs
  unfold cutS
  rw [HT.sIx_nat, HT.sIx_none, hl, Nat.min_eq_left h]
  unfold sB
  simp [List.map_take]
theorem sB_at {bs : List Bool} {k : Nat} {b : Bool} (h : bs[k]? = some b) : atI (sB bs).cps.toList (k : Int) = some (bc b) := by
  refine atI_nat ?_
  show ((bs.map bc).toArray.toList)[k]? = _
  simp [h]
theorem sB_count (bs : List Bool) : Txt.count (sB bs) "D" = (bs.countP id : Nat) := by
  rw [show ("D" : Str) = ⟨#[68]⟩ from rfl, count_cnt]
  show cnt 68 (bs.map bc).toArray.toList = _
  simp only [List.toList_toArray]
  induction bs with
  | nil => rfl
  | cons b bs ih =>
    rw [List.map_cons, cnt_cons, ih]
    cases b
    · simp [bc]
    · simp [bc]; omega
theorem sB_join (bs : List Bool) : Txt.join (sB []) (bs.map fun b => sB [b]) = sB bs := by
  show (⟨((bs.map fun b => sB [b]).drop 1).foldl (fun acc p => acc ++ (sB []).cps ++ p.cps) ((bs.map fun b => sB [b]).headD Str.empty).cps⟩ : Str) = _
  have key : ∀ (cs : List Bool) (acc : List Bool), ((cs.map fun b => sB [b]).foldl (fun acc p => acc ++ (sB []).cps ++ p.cps) (acc.map bc).toArray) = ((acc ++ cs).map bc).toArray := by
    intro cs
    induction cs with
    | nil => intro acc; simp
    | cons c cs ih =>
      intro acc
      rw [List.map_cons, List.foldl_cons]
      have : (acc.map bc).toArray ++ (sB []).cps ++ (sB [c]).cps = ((acc ++ [c]).map bc).toArray := by simp [sB]
      rw [this, ih (acc ++ [c])]
      simp
  cases bs with
  | nil => rfl
  | cons b bs =>
    show (⟨(bs.map fun b => sB [b]).foldl (fun acc p => acc ++ (sB []).cps ++ p.cps) ([b].map bc).toArray⟩ : Str) = _
    rw [key bs [b]]; rfl
theorem sB_rep (b : Bool) (n : Nat) : repS (sB [b]) n = sB (List.replicate n b) := by
  unfold repS sB
  congr 2
  induction n with
  | zero => rfl
  | succ n ih => rw [List.replicate_succ, List.flatten_cons, ih, List.replicate_succ, List.map_cons]; rfl
theorem sB_inj {as bs : List Bool} (h : sB as = sB bs) : as = bs := by
  have h1 : (as.map bc).toArray = (bs.map bc).toArray := congrArg Str.cps h
  have h2 : as.map bc = bs.map bc := by simpa using congrArg Array.toList h1
  exact List.map_inj_right (fun a b e => by cases a <;> cases b <;> simp [bc] at e ⊢) |>.mp h2
end FX

/-! FX22: chains of two comparisons. -/
namespace FX
open PySem L2 PyProof.Rows
section
variable {K : PySem.W.Frag} {mg : Str → Option Value} {R : RC} {F F' H H' : Hp} {vs ws : List (Option V)} {ss ts : Sl}
variable {σ : L2.St} {τ t2 : List (Option V)} {ρ θ s2 : Sl} {W : WX}
theorem de_chain {r r' : R2} {o1 o2 : Dt → Dt → Option Rs} {f g k : Sl → O (Rs × Sl)} {Q : VK} (hv : VOp2 K r o1) (hv' : VOp2 K r' o2) (h : dE K mg W (eChain o1 o2 f g k) σ H Q) : tChain r r' (dE K mg W f) (dE K mg W g) (dE K mg W k) σ H Q := by
  obtain ⟨R, τ, θ, ρ, F, a, h⟩ := h
  refine dE_bind (kB := kE K mg W R σ τ θ Q) a.nil rfl kE_x kE_b h fun r1 ρ1 x F1 H1 a1 hr1 h1 => ?_
  refine dE_bind (kB := kE K mg W R σ τ θ Q) a1 rfl kE_x kE_b h1 fun r2 ρ2 y F2 H2 a2 hr2 h2 => ?_
  simp only [List.nil_append, List.singleton_append] at a2
  simp only [bin2] at h2
  have ht := (a2.drop (t2 := [some x, some y]) (s2 := [r1.slot, r2.slot]) rfl).tlen
  cases e1 : deref ρ2 r1 with
  | none => simp only [e1] at h2; exact h2.elim
  | some d1 =>
    cases e2 : deref ρ2 r2 with
    | none => simp only [e1, e2] at h2; exact h2.elim
    | some d2 =>
      simp only [e1, e2] at h2
      have v1 := a2.view (k := τ.length) (by simp) (by simp [ht]) hr1 e1
      have v2 := a2.view (k := τ.length + 1) (by simp) (by simp [ht]) hr2 e2
      cases e3 : o1 d1 d2 with
      | none => rw [e3] at h2; exact h2.elim
      | some o =>
        rw [e3] at h2
        simp only [O.of_some, O.bind_ok] at h2
        refine hv R _ _ F2 H2 x y d1 d2 o _ a2.rel v1 v2 e3 fun v F3 H3 hrel hat => ?_
        -- the first answer is a bool
        cases o with
        | own ds => exact h2.elim
        | ref i => exact h2.elim
        | val d =>
          cases d with
          | bl b =>
            have hs := hrel.slot (σ ++ (τ ++ [some x, some y])).length (some v) (.frz (.bl b)) (by simp) (by
              have hl : (ρ2 ++ (θ ++ [r1.slot, r2.slot])).length = (σ ++ (τ ++ [some x, some y])).length := a2.rel.len.symm
              rw [← hl]; simp)
            obtain ⟨z, ez, rz⟩ := hs
            cases ez
            cases rz
            refine ⟨b, rfl, ?_⟩
            simp only [tstB1_bl, O.bind_ok] at h2
            have a3 : At K R σ (τ ++ [some x, some y]) ρ2 (θ ++ [r1.slot, r2.slot]) F3 H3 := ⟨hrel.pre a2.rel.len, a2.len⟩
            cases b with
            | false =>
              refine iteF ?_
              refine h2 _ F3 H3 ?_ trivial
              have a4 := a3.drop (t2 := [some x, some y]) (s2 := [r1.slot, r2.slot]) rfl
              exact At.of_rel (a4.rel.pushF (.bl _)) a4.len
            | true =>
              refine iteT ?_
              refine dE_bind (kB := kE K mg W R σ τ θ Q) (t2 := [some x, some y]) (s2 := [r1.slot, r2.slot]) a3 rfl kE_x kE_b h2 fun r3 ρ4 w F4 H4 a4 hr3 h3 => ?_
              simp only [List.cons_append, List.nil_append] at a4
              cases e4 : deref ρ4 r2 with
              | none => simp only [e4] at h3; exact h3.elim
              | some d3 =>
                cases e5 : deref ρ4 r3 with
                | none => simp only [e4, e5] at h3; exact h3.elim
                | some d4 =>
                  simp only [e4, e5] at h3
                  have w1 := a4.view (v := y) (k := τ.length + 1) (by simp) (by simp [ht]) hr2 e4
                  have w2 := a4.view (v := w) (k := τ.length + 2) (by simp) (by simp [ht]) hr3 e5
                  cases e6 : o2 d3 d4 with
                  | none => rw [e6] at h3; exact h3.elim
                  | some o' =>
                    rw [e6] at h3
                    exact hv' R _ _ F4 H4 y w d3 d4 o' Q (a4.drop (t2 := [some x, some y, some w]) (s2 := [r1.slot, r2.slot, r3.slot]) rfl).rel w1 w2 e6 fun v F' H' hrel hat => h3 v F' H' (At.of_rel hrel a4.len) (hat σ)
          | _ => exact h2.elim
end
section
variable {X : Cx} {W : WX} {a b c : Expr} {pos : Pos} {f g k : Sl → O (Rs × Sl)}
theorem x_chain {op op' : CmpOp} {r r' : R2} {o1 o2 : Dt → Dt → Option Rs} (ho : OpR X (compareOp op) r) (hv : VOp2 X.K r o1) (ho' : OpR X (compareOp op') r') (hv' : VOp2 X.K r' o2) (ha : XE X W a f) (hb : XE X W b g) (hc : XE X W c k) (hm : lastMarks [op, op'] [b, c] = false := by with_unfolding_all rfl) :
    XE X W (.Compare a [op, op'] [b, c] pos) (eChain o1 o2 f g k) := PE.imp (pe_chain ho ho' ha hb hc hm) fun _ _ _ => de_chain hv hv'
theorem t_chain {op op' : CmpOp} {r r' : R2} {o1 o2 : Dt → Dt → Option Rs} (ho : OpR X (compareOp op) r) (hv : VOp2 X.K r o1) (ho' : OpR X (compareOp op') r') (hv' : VOp2 X.K r' o2) (ha : XE X W a f) (hb : XE X W b g) (hc : XE X W c k) (hm : lastMarks [op, op'] [b, c] = false := by with_unfolding_all rfl) :
    XT X W (.Compare a [op, op'] [b, c] pos) (tstB (eChain o1 o2 f g k)) := PT.imp (pt_chain ho ho' ha hb hc hm) fun _ _ _ h => de_chain hv hv' (dt_tstB h)
end
section
variable {s0 : Slot} {ρ : Sl} {f g k : Sl → O (Rs × Sl)} {P : Rs × Sl → Prop} {o1 o2 : Dt → Dt → Option Rs}
def chainK (o2 : Dt → Dt → Option Rs) (k : Sl → O (Rs × Sl)) (r2 : Rs) (ρ : Sl) : O (Rs × Sl) := (k ρ).bind fun q3 => bin2 o2 r2 q3.1 q3.2
theorem w_chain : Wp (eChain o1 o2 f g k (s0 :: ρ)) P ↔ Wp (f (s0 :: ρ)) fun q1 => Wp (g q1.2) fun q2 => Wp (bin2 o1 q1.1 q2.1 q2.2) fun z => Wp (tstB1 z) fun b => Wp (chz b.1 (chainK o2 k q2.1 b.2) (.ok (.val (.bl false), b.2))) P := by
  unfold eChain
  simp only [wp_bind, chz_ite]
  exact Iff.rfl
theorem w_chainK {r2 : Rs} : Wp (chainK o2 k r2 (s0 :: ρ)) P ↔ Wp (k (s0 :: ρ)) fun q3 => Wp (bin2 o2 r2 q3.1 q3.2) P := wp_bind
end
end FX

/-! FX23: places forgotten; loops and comprehensions over typed lists. -/
namespace FX
open PySem L2 PyProof.Rows
section
variable {K : PySem.W.Frag} {mg : Str → Option Value} {R : RC} {F F' H H' : Hp} {σ : L2.St} {τ t2 : List (Option V)} {ρ θ s2 : Sl} {W : WX}
theorem At.forget (a : At K R σ τ ρ θ F H) (ix : List Nat) : At K R σ τ (wipeS ρ ix) θ F H := a.swap rfl fun _ _ => rfl
/-- behind a statement the places ix are forgotten -/
def wipeF (ix : List Nat) (q : Fl × Sl) : O (Fl × Sl) := match q.1 with
  | .rt r => .ok (.rt r, q.2)
  | f => .ok (f, wipeS q.2 ix)
def sWipe (ix : List Nat) (s : Sl → O (Fl × Sl)) : Sl → O (Fl × Sl) := fun ρ => (s ρ).bind (wipeF ix)
theorem ds_wipe {ix : List Nat} {s : Sl → O (Fl × Sl)} {D : Ends} (h : dS K mg W (sWipe ix s) D σ H) : dS K mg W s D σ H := by
  obtain ⟨R, τ, θ, ρ, F, a, h⟩ := h
  refine ⟨R, τ, θ, ρ, F, a, ?_⟩
  unfold sWipe at h
  cases e : s ρ with
  | ok q =>
    obtain ⟨fl, ρ1⟩ := q
    rw [e] at h
    cases fl with
    | nx => exact fun σ' F' H' a' => h σ' F' H' (a'.forget ix)
    | bk => exact fun σ' F' H' a' => h σ' F' H' (a'.forget ix)
    | ct => exact fun σ' F' H' a' => h σ' F' H' (a'.forget ix)
    | rt r => exact h
  | exc x ρ1 => rw [e] at h; exact h
  | bad => rw [e] at h; exact h
/-- ahead of a statement -/
def sPre (ix : List Nat) (s : Sl → O (Fl × Sl)) : Sl → O (Fl × Sl) := fun ρ => s (wipeS ρ ix)
theorem ds_pre {ix : List Nat} {s : Sl → O (Fl × Sl)} {D : Ends} (h : dS K mg W (sPre ix s) D σ H) : dS K mg W s D σ H := by
  obtain ⟨R, τ, θ, ρ, F, a, h⟩ := h
  exact ⟨R, τ, θ, _, F, a.forget ix, h⟩
/-- behind what a loop walks -/
def iWipe (ix : List Nat) (f : Sl → O (List Dt × Sl)) : Sl → O (List Dt × Sl) := fun ρ => (f ρ).bind fun q => .ok (q.1, wipeS q.2 ix)
theorem di_wipe {ix : List Nat} {f : Sl → O (List Dt × Sl)} {Q : It → Hp → Prop} (h : dI K mg W (iWipe ix f) σ H Q) : dI K mg W f σ H Q := by
  obtain ⟨R, τ, θ, ρ, F, a, h⟩ := h
  refine ⟨R, τ, θ, ρ, F, a, ?_⟩
  unfold iWipe at h
  cases e : f ρ with
  | ok q =>
    rw [e] at h
    exact fun J tv ts F' H' hl a' ok => h J tv ts F' H' hl (a'.forget ix) ok
  | exc x ρ1 => rw [e] at h; exact h
  | bad => rw [e] at h; exact h
end
section
variable {X : Cx} {W : WX} {st : Stmt} {sts : List Stmt} {tg e : Expr} {s : Sl → O (Fl × Sl)} {fi : Sl → O (List Dt × Sl)}
theorem s_wipe (ix : List Nat) (h : XS X W st s) : XS X W st (sWipe ix s) := PS.imp h fun _ _ _ => ds_wipe
theorem ss_wipe (ix : List Nat) (h : XSs X W sts s) : XSs X W sts (sWipe ix s) := PSs.imp h fun _ _ _ => ds_wipe
theorem s_pre (ix : List Nat) (h : XS X W st s) : XS X W st (sPre ix s) := PS.imp h fun _ _ _ => ds_pre
theorem i_wipe (ix : List Nat) (h : XI X W tg e fi) : XI X W tg e (iWipe ix fi) := PI.imp h fun _ _ _ => di_wipe
end
/-! ### runs -/
section
variable {s0 : Slot} {ρ τ : Sl} {s : Sl → O (Fl × Sl)} {P : Fl × Sl → Prop} {ix : List Nat} {fi : Sl → O (List Dt × Sl)} {b : Dt → Sl → Option Sl} {r : Rs}
theorem w_wipe : Wp (sWipe ix s (s0 :: ρ)) P ↔ Wp (s (s0 :: ρ)) fun q => Wp (wipeF ix q) P := wp_bind
theorem wipeF_nx : Wp (wipeF ix (.nx, τ)) P ↔ P (.nx, wipeS τ ix) := wp_ok
theorem wipeF_bk : Wp (wipeF ix (.bk, τ)) P ↔ P (.bk, wipeS τ ix) := wp_ok
theorem wipeF_ct : Wp (wipeF ix (.ct, τ)) P ↔ P (.ct, wipeS τ ix) := wp_ok
theorem wipeF_rt : Wp (wipeF ix (.rt r, τ)) P ↔ P (.rt r, τ) := wp_ok
theorem w_pre : Wp (sPre ix s (s0 :: ρ)) P ↔ Wp (s (wipeS (s0 :: ρ) ix)) P := Iff.rfl
theorem w_iwipe {Q : List Dt × Sl → Prop} : Wp (iWipe ix fi (s0 :: ρ)) Q ↔ Wp (fi (s0 :: ρ)) fun q => Q (q.1, wipeS q.2 ix) := by
  unfold iWipe; simp only [wp_bind, wp_ok]
theorem loop_nil : Wp (loopD b s [] ρ) P ↔ P (.nx, ρ) := wp_ok
theorem loop_cons {d : Dt} {ds : List Dt} : Wp (loopD b s (d :: ds) ρ) P ↔ optK (b d ρ) fun ρ1 => Wp (s ρ1) (turnK (fun ρ2 => Wp (loopD b s ds ρ2) P) P) := by
  have eq : loopD b s (d :: ds) ρ = (match b d ρ with
    | none => .bad
    | some ρ1 => (s ρ1).bind fun q => match q.1 with
      | .nx => loopD b s ds q.2
      | .ct => loopD b s ds q.2
      | .bk => .ok (.nx, q.2)
      | .rt r => .ok (.rt r, q.2)) := rfl
  rw [eq]
  cases e : b d ρ with
  | none => exact wp_bad
  | some ρ1 =>
    simp only [wp_bind, optK_some]
    refine iff_of_eq (congrArg _ (funext fun q => propext ?_))
    obtain ⟨fl, ρ2⟩ := q
    cases fl with
    | nx => exact Iff.rfl
    | ct => exact Iff.rfl
    | bk => exact wp_ok
    | rt r => exact wp_ok
/-- a state, told by a type, and what holds of it and of what is left -/
theorem wp_loopT {α S : Type} (sl : S → Sl) (enc : α → Dt) (xs : List α) (I : S → List α → Prop) (st : S) (h0 : I st xs) (hend : ∀ st, I st [] → P (.nx, sl st))
    (hstep : ∀ st x ys, I st (x :: ys) → optK (b (enc x) (sl st)) fun ρ1 => Wp (s ρ1) (turnK (fun ρ2 => ∃ st2, ρ2 = sl st2 ∧ I st2 ys) P)) : Wp (loopD b s (xs.map enc) (sl st)) P := by
  induction xs generalizing st with
  | nil => exact loop_nil.mpr (hend st h0)
  | cons x xs ih =>
    rw [List.map_cons, loop_cons]
    have := hstep st x xs h0
    cases e : b (enc x) (sl st) with
    | none => rw [e] at this; exact this.elim
    | some ρ1 =>
      rw [e] at this
      refine Wp.imp this fun q hq => ?_
      obtain ⟨fl, ρ2⟩ := q
      cases fl with
      | nx => obtain ⟨st2, e2, h2⟩ := hq; have e2 : ρ2 = sl st2 := e2; rw [turnK_nx, e2]; exact ih st2 h2
      | ct => obtain ⟨st2, e2, h2⟩ := hq; have e2 : ρ2 = sl st2 := e2; rw [turnK_ct, e2]; exact ih st2 h2
      | bk => exact hq
      | rt r => exact hq
/-- the state is a function of the items -/
theorem wp_foldT {α S : Type} (sl : S → Sl) (enc : α → Dt) (xs : List α) (step : S → α → S) (st : S) (h : P (.nx, sl (xs.foldl step st)))
    (hstep : ∀ st x, x ∈ xs → optK (b (enc x) (sl st)) fun ρ1 => Wp (s ρ1) (turnK (fun ρ2 => ρ2 = sl (step st x)) fun _ => False)) : Wp (loopD b s (xs.map enc) (sl st)) P := by
  suffices H : ∀ (ys : List α) (st : S), (∀ y ∈ ys, y ∈ xs) → P (.nx, sl (ys.foldl step st)) → Wp (loopD b s (ys.map enc) (sl st)) P from H xs st (fun _ h => h) h
  intro ys
  induction ys with
  | nil => intro st _ h; exact loop_nil.mpr h
  | cons x ys ih =>
    intro st hm h
    rw [List.map_cons, loop_cons]
    have := hstep st x (hm x (by simp))
    cases e : b (enc x) (sl st) with
    | none => rw [e] at this; exact this.elim
    | some ρ1 =>
      rw [e] at this
      refine Wp.imp this fun q hq => ?_
      obtain ⟨fl, ρ2⟩ := q
      cases fl with
      | nx => rw [turnK_nx] at hq ⊢; rw [hq]; exact ih _ (fun y hy => hm y (by simp [hy])) h
      | ct => rw [turnK_ct] at hq ⊢; rw [hq]; exact ih _ (fun y hy => hm y (by simp [hy])) h
      | bk => exact hq.elim
      | rt r => exact hq.elim
/-- while, the state told by a type -/
theorem wp_whileT {S : Type} {N : Nat} {t : Sl → O (Bool × Sl)} (sl : S → Sl) (I : S → Prop) (m : S → Nat) (st : S) (h0 : I st) (hm : m st < N)
    (hstep : ∀ st, I st → Wp (t (sl st)) fun q => (q.1 = false ∧ P (.nx, q.2)) ∨ (q.1 = true ∧ Wp (s q.2) (turnK (fun ρ2 => ∃ st2, ρ2 = sl st2 ∧ I st2 ∧ m st2 < m st) P))) : Wp (sWhile N t s (sl st)) P := by
  refine wp_while (m := m st) (fun k ρ => ∃ st, ρ = sl st ∧ I st ∧ m st = k) ⟨st, rfl, h0, rfl⟩ hm ?_
  rintro k _ ⟨st, rfl, h1, rfl⟩
  refine (hstep st h1).imp fun q hq => hq.imp id fun ⟨e, h⟩ => ⟨e, h.imp fun q2 hq2 => ?_⟩
  obtain ⟨fl, ρ2⟩ := q2
  cases fl with
  | nx => obtain ⟨st2, e2, e3, e4⟩ := hq2; exact ⟨_, e4, st2, e2, e3, rfl⟩
  | ct => obtain ⟨st2, e2, e3, e4⟩ := hq2; exact ⟨_, e4, st2, e2, e3, rfl⟩
  | bk => exact hq2
  | rt r => exact hq2
end
section
variable {ρ τ : Sl} {b : Dt → Sl → Option Sl} {c : Sl → O (Bool × Sl)} {el : Sl → O (Rs × Sl)} {ix : List Nat} {Q : List Dt × Sl → Prop}
/-- one value for each item of a typed list -/
theorem wp_compT {α : Type} (enc : α → Dt) (xs : List α) (h : α → Dt)
    (hstep : ∀ x, x ∈ xs → optK (b (enc x) ρ) fun ρ1 => Wp (c ρ1) fun q => q.1 = true ∧ Wp (el q.2) fun q2 => optK (freeze1 q2.1 q2.2) fun z => z.1 = h x ∧ wipeS z.2 ix = ρ) (hQ : Q (xs.map h, ρ)) : Wp (compD b c el ix (xs.map enc) ρ []) Q := by
  suffices H : ∀ (ys : List α) (acc : List Dt), (∀ y ∈ ys, y ∈ xs) → Q (acc ++ ys.map h, ρ) → Wp (compD b c el ix (ys.map enc) ρ acc) Q from H xs [] (fun _ h => h) (by simpa using hQ)
  intro ys
  induction ys with
  | nil => intro acc _ h; exact wp_ok.mpr (by simpa using h)
  | cons x ys ih =>
    intro acc hm hq
    have hs := hstep x (hm x (by simp))
    rw [List.map_cons]
    unfold compD
    cases e : b (enc x) ρ with
    | none => rw [e] at hs; exact hs.elim
    | some ρ1 =>
      rw [e] at hs
      simp only []
      refine wp_bind.mpr (Wp.imp hs fun q ⟨q1, q2⟩ => ?_)
      rw [if_pos q1]
      refine wp_bind.mpr (q2.imp fun q3 hf => ?_)
      cases ef : freeze1 q3.1 q3.2 with
      | none => rw [ef] at hf; exact hf.elim
      | some z =>
        rw [ef] at hf
        obtain ⟨d, ρ3⟩ := z
        obtain ⟨e1, e2⟩ := hf
        simp only [] at e1 e2 ⊢
        rw [e1, e2]
        exact ih _ (fun y hy => hm y (by simp [hy])) (by simpa using hq)
/-- some of the items -/
theorem wp_compTF {α : Type} (enc : α → Dt) (xs : List α) (p : α → Bool) (h : α → Dt)
    (hstep : ∀ x, x ∈ xs → optK (b (enc x) ρ) fun ρ1 => Wp (c ρ1) fun q => q.1 = p x ∧ (p x = false → wipeS q.2 ix = ρ) ∧ (p x = true → Wp (el q.2) fun q2 => optK (freeze1 q2.1 q2.2) fun z => z.1 = h x ∧ wipeS z.2 ix = ρ))
    (hQ : Q ((xs.filter p).map h, ρ)) : Wp (compD b c el ix (xs.map enc) ρ []) Q := by
  suffices H : ∀ (ys : List α) (acc : List Dt), (∀ y ∈ ys, y ∈ xs) → Q (acc ++ (ys.filter p).map h, ρ) → Wp (compD b c el ix (ys.map enc) ρ acc) Q from H xs [] (fun _ h => h) (by simpa using hQ)
  intro ys
  induction ys with
  | nil => intro acc _ h; exact wp_ok.mpr (by simpa using h)
  | cons x ys ih =>
    intro acc hm hq
    have hs := hstep x (hm x (by simp))
    rw [List.map_cons]
    unfold compD
    cases e : b (enc x) ρ with
    | none => rw [e] at hs; exact hs.elim
    | some ρ1 =>
      rw [e] at hs
      simp only []
      refine wp_bind.mpr (Wp.imp hs fun q ⟨q1, q0, q2⟩ => ?_)
      rw [q1]
      cases hp : p x with
      | false =>
        rw [if_neg (by simp), q0 hp]
        exact ih _ (fun y hy => hm y (by simp [hy])) (by simpa [List.filter_cons, hp] using hq)
      | true =>
        rw [if_pos rfl]
        refine wp_bind.mpr ((q2 hp).imp fun q3 hf => ?_)
        cases ef : freeze1 q3.1 q3.2 with
        | none => rw [ef] at hf; exact hf.elim
        | some z =>
          rw [ef] at hf
          obtain ⟨d, ρ3⟩ := z
          obtain ⟨e1, e2⟩ := hf
          simp only [] at e1 e2 ⊢
          rw [e1, e2]
          exact ih _ (fun y hy => hm y (by simp [hy])) (by simpa [List.filter_cons, hp] using hq)
end
/-! ### typed lists -/
theorem rngL_map {lo : Int} {n : Nat} : rngL lo n = (List.range n).map fun (i : Nat) => Dt.int (lo + (i : Int)) := rfl
theorem zipL_maps {α β : Type} (f : α → Dt) (g : β → Dt) : ∀ (xs : List α) (ys : List β), zipL (xs.map f) (ys.map g) = (xs.zip ys).map fun p => .tup [f p.1, g p.2]
  | [], _ => rfl
  | _ :: _, [] => rfl
  | x :: xs, y :: ys => by simp [zipL, zipL_maps f g xs ys]
theorem enumL_maps {α : Type} (f : α → Dt) : ∀ (xs : List α) (n : Nat), enumL n (xs.map f) = (xs.zipIdx n).map fun p => .tup [.int (p.2 : Int), f p.1]
  | [], _ => rfl
  | x :: xs, n => by simp [enumL, List.zipIdx_cons, enumL_maps f xs (n + 1)]
theorem cutL_maps {α : Type} (f : α → Dt) (xs : List α) (lo hi : Option Int) : cutL (xs.map f) lo hi = ((xs.drop (HT.sIx xs.length 0 lo)).take (HT.sIx xs.length xs.length hi - HT.sIx xs.length 0 lo)).map f := by
  unfold cutL; simp [List.map_drop, List.map_take]
theorem atI_maps {α : Type} (f : α → Dt) (xs : List α) (i : Int) : L2.atI (xs.map f) i = (L2.atI xs i).map f := atI_map f xs i
theorem repL_maps {α : Type} (f : α → Dt) (n : Nat) (xs : List α) : repL n (xs.map f) = (List.replicate n xs).flatten.map f := by
  unfold repL
  induction n with
  | zero => rfl
  | succ n ih => rw [List.replicate_succ, List.replicate_succ, List.flatten_cons, List.flatten_cons, List.map_append, ih]
end FX

/-! FX24: repr; sorted; more built-ins. -/
namespace FX
open PySem L2 PyProof.Rows PySem.Spec
open Evl (Ex ex_t ex_l)
/-! ### repr -/
section
variable {X : Cx} {pins : List (Addr × Obj)} {σ : L2.St} {H : Hp} {s : Shared}
theorem reads_ints {h : Heap} : ∀ {ns : List Int} {us : List Value}, Vals (ns.map V.int) us → ReadsAll h us (ns.map PyData.int) []
  | [], _, r => by cases r; exact .nil
  | n :: ns, _, r => by
    cases r with
    | cons r1 r2 =>
      obtain ⟨t, rfl⟩ := r1
      exact .cons (.int n t) (reads_ints r2)
theorem noDict_ints : ∀ ns : List Int, PyData.hasDictAll (ns.map PyData.int) = false
  | [] => by simp only [List.map_nil, PyData.hasDictAll]
  | n :: ns => by simp only [List.map_cons, PyData.hasDictAll, PyData.hasDict, noDict_ints ns, Bool.or_self]
mutual
theorem Rp.rk (I : Inv X pins σ H s) : ∀ {v : V} {d : Dt} {u : Value}, Rp X.K H v d → RelV v u → (toP d).showable = true → (toP d).shown.length ≤ sizeLine → ∃ as bs, Reads s.heap u (toP d) as ∧ ReadAtMost s.heap (toP d).depth bs ∧ ReprK X.prog X.w bs s.heap (toP d).depth u (toP d).shown
  | _, _, _, .non, r, _, _ => by
    cases r
    have rr : Reads s.heap .none (toP .non) [] := by unfold toP; exact .none
    obtain ⟨bs, a, b⟩ := ReprK.of_reads (prog := X.prog) (w := X.w) rr (by unfold toP PyData.showable; rfl) (fun _ h => nomatch h) (by unfold toP PyData.shown; decide)
    exact ⟨_, bs, rr, a, b⟩
  | _, _, _, .bl b, r, _, hz => by
    cases r
    have rr : Reads s.heap (.bool b) (toP (.bl b)) [] := by unfold toP; exact .bool b
    obtain ⟨bs, a, b⟩ := ReprK.of_reads (prog := X.prog) (w := X.w) rr (by unfold toP PyData.showable; rfl) (fun _ h => nomatch h) hz
    exact ⟨_, bs, rr, a, b⟩
  | _, _, _, .int i, r, hs, hz => by
    obtain ⟨t, rfl⟩ := r
    have rr : Reads s.heap (.int i t) (toP (.int i)) [] := by unfold toP; exact .int i t
    obtain ⟨bs, a, b⟩ := ReprK.of_reads (prog := X.prog) (w := X.w) rr hs (fun _ h => nomatch h) hz
    exact ⟨_, bs, rr, a, b⟩
  | _, _, _, .str x, r, hs, hz => by
    obtain ⟨t, rfl⟩ := r
    have rr : Reads s.heap (.str x t) (toP (.str x)) [] := by unfold toP; exact .str x t
    obtain ⟨bs, a, b⟩ := ReprK.of_reads (prog := X.prog) (w := X.w) rr hs (fun _ h => nomatch h) hz
    exact ⟨_, bs, rr, a, b⟩
  | _, _, _, .tup (ds := ds) h z q, r, hs, hz => by
    cases r
    obtain ⟨its, rv, ⟨o, ho, hc, n, hd⟩, _⟩ := I.tuple h
    unfold toP PyData.showable at hs
    unfold toP at hz
    have hz' : (tupleText (PyData.shownAll (toPs ds))).length ≤ sizeLine := by simpa only [PyData.shown] using hz
    obtain ⟨as, bs, h1, hb, hk⟩ := RpAll.rk I q rv hs (fun t ht => Nat.le_trans (tupleText_mem_le ht) hz')
    have rr : Reads s.heap (.ref _) (.tuple (toPs ds)) _ := .tuple ho hc hd h1
    have hna := not_mem_of_deeper rr (by simp only [PyData.depth]; omega) hb
    unfold toP
    refine ⟨_, _, rr, ReadAtMost.cons rr (by simp only [PyData.depth]; omega) hb, ?_⟩
    simp only [PyData.depth, PyData.shown]
    exact ReprK.tuple ho hc hd hna hk
  | _, _, _, .lst (ds := ds) h z q, r, hs, hz => by
    cases r
    obtain ⟨its, rv, ⟨o, n, ho, hc, _, hd⟩, _⟩ := I.list (SqL.of h)
    unfold toP PyData.showable at hs
    unfold toP at hz
    have hz' : (listText (PyData.shownAll (toPs ds))).length ≤ sizeLine := by simpa only [PyData.shown] using hz
    obtain ⟨as, bs, h1, hb, hk⟩ := RpAll.rk I q rv hs (fun t ht => Nat.le_trans (listText_mem_le ht) hz')
    have rr : Reads s.heap (.ref _) (.list (toPs ds)) _ := .list ho hc hd h1
    have hna := not_mem_of_deeper rr (by simp only [PyData.depth]; omega) hb
    unfold toP
    refine ⟨_, _, rr, ReadAtMost.cons rr (by simp only [PyData.depth]; omega) hb, ?_⟩
    simp only [PyData.depth, PyData.shown]
    generalize toPs ds = xs at *
    cases its with
    | nil =>
      have h4' : ReadsAll s.heap [] xs _ := h1
      cases h4'
      simp only [PyData.shownAll, listText_nil]
      exact ReprK.listEmpty ho hc hd
    | cons x l => exact ReprK.list ho hc hd hna (by simpa using hk.length_eq) (fun i y e => hk.item i y (by simpa using e))
  | _, _, _, .scr (ns := ns) h, r, hs, hz => by
    cases r
    obtain ⟨its, rv, ⟨o, n, ho, hc, _, hd⟩, _⟩ := I.list h
    obtain ⟨as, rr⟩ : ∃ as, Reads s.heap (.ref _) (toP (.scr ns)) as := ⟨_, by unfold toP; exact .list ho hc hd (reads_ints (by simpa using rv))⟩
    obtain ⟨bs, a, b⟩ := ReprK.of_reads (prog := X.prog) (w := X.w) rr hs (fun h => by unfold toP PyData.hasDict at h; rw [noDict_ints] at h; cases h) hz
    exact ⟨_, bs, rr, a, b⟩
  | _, _, _, .emp h, r, _, _ => by
    cases r
    obtain ⟨_, h2, vs, hv, o, es, ep, ho, hx, hd, _, hp, _⟩ := I.hok _ _ h
    cases hv
    have he : es.toList = [] := by
      generalize es.toList = l at hp
      cases hp; rfl
    have rr : Reads s.heap (.ref _) (.dict []) _ := .dict (kvs := []) ho hx.1 hd (by rw [he]; exact .nil) (by rw [he]; exact .nil)
    unfold toP
    refine ⟨_, _, rr, ReadAtMost.cons (bs := []) rr (Nat.le_refl _) (fun _ h => nomatch h), ?_⟩
    have := ReprK.dict (prog := X.prog) (w := X.w) (as := []) (d := 0) ho hx.1 hd h2 (by simp) (ps := []) (by rw [he]; exact .nil)
    exact this
theorem RpAll.rk (I : Inv X pins σ H s) : ∀ {vs : List V} {ds : List Dt} {us : List Value}, RpAll X.K H vs ds → Vals vs us → PyData.showableAll (toPs ds) = true → (∀ t ∈ PyData.shownAll (toPs ds), t.length ≤ sizeLine) →
    ∃ as bs, ReadsAll s.heap us (toPs ds) as ∧ ReadAtMost s.heap (PyData.depthAll (toPs ds)) bs ∧ ReprAllK X.prog X.w bs s.heap (PyData.depthAll (toPs ds)) us (PyData.shownAll (toPs ds))
  | _, _, _, .nil, r, _, _ => by cases r; unfold toPs; exact ⟨[], [], .nil, (fun _ h => nomatch h), by simp only [PyData.shownAll]; exact .nil⟩
  | _, _, _, .cons (d := d) (ds := ds) a q, r, hs, hz => by
    cases r with
    | cons r1 r2 =>
      unfold toPs at hs hz ⊢
      have hs' : (toP d).showable = true ∧ PyData.showableAll (toPs ds) = true := by simpa [PyData.showableAll] using hs
      obtain ⟨as1, b1, e1, hb1, k1⟩ := Rp.rk I a r1 hs'.1 (hz _ (by simp only [PyData.shownAll]; exact List.mem_cons_self ..))
      obtain ⟨as2, b2, e2, hb2, k2⟩ := RpAll.rk I q r2 hs'.2 (fun t ht => hz t (by simp only [PyData.shownAll]; exact List.mem_cons_of_mem _ ht))
      refine ⟨_, b1 ++ b2, .cons e1 e2, ?_, ?_⟩
      · intro b hm
        simp only [PyData.depthAll]
        rcases List.mem_append.mp hm with hm | hm
        · obtain ⟨d', as', r', hd'⟩ := hb1 b hm
          exact ⟨d', as', r', Nat.le_trans hd' (Nat.le_max_left _ _)⟩
        · obtain ⟨d', as', r', hd'⟩ := hb2 b hm
          exact ⟨d', as', r', Nat.le_trans hd' (Nat.le_max_right _ _)⟩
      · simp only [PyData.depthAll, PyData.shownAll]
        exact .cons ((k1.more fun b hb => List.mem_append_left _ hb).level_le (Nat.le_max_left _ _)) (k2.more_le (fun b hb => List.mem_append_right _ hb) (Nat.le_max_right _ _))
end
end
def rok (d : Dt) : Bool := (toP d).showable && (toP d).leavesShort 600 && decide (602 * (toP d).bulk + 600 ≤ 16777216) && decide ((toP d).depth ≤ 64)
def Dt.isRef : Dt → Bool
  | .tup _ => true
  | .lst _ => true
  | .scr _ => true
  | .emp => true
  | _ => false
def reprD : List Dt → Option Rs
  | [d] => if d.isRef = true ∧ rok d = true then some (.val (.str (toP d).shown)) else none
  | _ => none
def rReprD (K : PySem.W.Frag) : List V → Hp → VK → Prop := fun xs H Q => ∃ x d, xs = [x] ∧ Rp K H x d ∧ d.isRef = true ∧ rok d = true ∧ Q (.str (toP d).shown) H
theorem cr_repr {X : Cx} (hg : X.A.guards = some []) (hu : X.A.units + 66 < cLine) : CallR X (.builtin "repr") (rReprD X.K) := by
  intro pins s σ H xs us Q I r h
  obtain ⟨x, d, rfl, rp, hr, hk, q⟩ := h
  obtain ⟨u, rfl, ru⟩ := r.one
  unfold rok at hk
  simp only [Bool.and_eq_true, decide_eq_true_eq] at hk
  obtain ⟨⟨⟨k1, k2⟩, k3⟩, k4⟩ := hk
  have sz : (toP d).shown.length ≤ sizeLine := by
    have := PyData.shown_le_bulk 600 (by decide) (toP d) k2
    rw [sizeLine_eq]; omega
  have go : ∀ {a : Addr} {T idr : String} {E : Value → Shared → Prop} {Q' : Value → Shared → Prop}, ShowsBy X.prog X.w s.heap a (toP d) T idr → (∀ h' u tk, (∀ b o, s.heap.get? b = some o → h'.get? b = some o) → Q' (.str (toP d).shown u) { s with heap := h', toks := tk }) →
      wpAny (model X.prog X.w) X.A (call (.builtin "repr") [.ref a]) Q' E s := fun S hQ =>
    call_repr_slot (by omega) (S.typeIs s fun _ _ e => e) S.slotRepr (S.call X.A.in1 _ s _ hg (by show X.A.units + 1 + (toP d).depth < cLine; omega) (fun _ _ e => e) fun h' u tk hk => ⟨_, _, rfl, hQ h' u tk hk⟩)
  cases rp with
  | non => cases hr
  | bl b => cases hr
  | int i => cases hr
  | str x => cases hr
  | tup h z qq =>
    rename_i b vs ds
    cases ru
    obtain ⟨its, rv, ⟨o, ho, hc, n, hd⟩, _⟩ := I.tuple h
    unfold toP at sz
    have k1' := k1
    unfold toP PyData.showable at k1'
    have hz' : (tupleText (PyData.shownAll (toPs ds))).length ≤ sizeLine := by simpa only [PyData.shown] using sz
    obtain ⟨as, bs, h1, hb, hk⟩ := RpAll.rk I qq rv k1' (fun t ht => Nat.le_trans (tupleText_mem_le ht) hz')
    have hna := not_mem_of_deeper (.tuple ho hc hd h1) (by simp only [PyData.depth]; omega) hb
    refine go ⟨F.slot_tuple_repr, F.slot_tuple_str, F.slot_tuple_format, fun s hk0 => ⟨o, hk0 _ _ ho, hc⟩, fun A E s Q hg hu hk0 hQ => ?_⟩ fun h' t tk keep => ⟨.str (toP (.tup ds)).shown, H, I.kept keep, ⟨_, rfl⟩, q⟩
    unfold toP at hu hQ
    simp only [PyData.depth] at hu
    simp only [PyData.shown] at hQ
    exact call_tuple_reprK ho hc hd hna hk hg (fun b _ => Clear.nil b) hu hk0 hQ hz'
  | lst h z qq =>
    rename_i b vs ds
    cases ru
    obtain ⟨its, rv, ⟨o, n, ho, hc, _, hd⟩, _⟩ := I.list (SqL.of h)
    unfold toP at sz
    have k1' := k1
    unfold toP PyData.showable at k1'
    have hz' : (listText (PyData.shownAll (toPs ds))).length ≤ sizeLine := by simpa only [PyData.shown] using sz
    obtain ⟨as, bs, h1, hb, hk⟩ := RpAll.rk I qq rv k1' (fun t ht => Nat.le_trans (listText_mem_le ht) hz')
    have hna := not_mem_of_deeper (.list ho hc hd h1) (by simp only [PyData.depth]; omega) hb
    refine go ⟨F.slot_list_repr.toG, F.slot_list_str, F.slot_list_format, fun s hk0 => ⟨o, hk0 _ _ ho, hc⟩, fun A E s Q hg hu hk0 hQ => ?_⟩ fun h' t tk keep => ⟨.str (toP (.lst ds)).shown, H, I.kept keep, ⟨_, rfl⟩, q⟩
    unfold toP at hu hQ
    simp only [PyData.depth] at hu
    simp only [PyData.shown] at hQ
    generalize toPs ds = ps at *
    cases its with
    | nil =>
      have h4' : ReadsAll _ [] ps _ := h1
      cases h4'
      simp only [PyData.shownAll, listText_nil] at hQ
      exact call_list_repr_empty ⟨o, hk0 _ _ ho, hc⟩ (hk0 _ _ ho) hd (hQ s.heap _ _ fun _ _ e => e)
    | cons x l => exact call_list_reprK ho hc hd hna (by simpa using hk.length_eq) (fun i y e => hk.item i y (by simpa using e)) hg (fun b _ => Clear.nil b) hu hk0 hQ hz'
  | scr h =>
    rename_i b ns
    cases ru
    obtain ⟨its, rv, ⟨o, n, ho, hc, _, hd⟩, _⟩ := I.list h
    obtain ⟨as, rr⟩ : ∃ as, Reads s.heap (.ref _) (toP (.scr ns)) as := ⟨_, by unfold toP; exact .list ho hc hd (reads_ints (by simpa using rv))⟩
    exact repr_of_reads' rr k1 (fun h => by unfold toP PyData.hasDict at h; rw [noDict_ints] at h; cases h) hg (by omega) (fun _ _ e => e) (fun h' t tk keep => ⟨.str (toP (.scr ns)).shown, H, I.kept keep, ⟨_, rfl⟩, q⟩) sz
  | emp h =>
    rename_i b
    cases ru
    obtain ⟨_, h2, vs, hv, o, es, ep, ho, hx, hd, _, hp, _⟩ := I.hok _ _ h
    cases hv
    have he : es.toList = [] := by
      generalize es.toList = l at hp
      cases hp; rfl
    refine go ⟨F.slot_dict_repr, F.slot_dict_str, F.slot_dict_format, fun s hk0 => ⟨o, hk0 _ _ ho, hx.1⟩, fun A E s Q hg hu hk0 hQ => ?_⟩ fun h' t tk keep => ⟨.str (toP .emp).shown, H, I.kept keep, ⟨_, rfl⟩, q⟩
    unfold toP at hu hQ
    simp only [PyData.depth] at hu
    exact call_dict_reprK (as := []) (d := 0) ho hx.1 hd h2 (by simp) (ps := []) (by rw [he]; exact .nil) hg (fun b _ => Clear.nil b) (by omega) hk0 hQ (by decide)
section
variable {K : PySem.W.Frag}
theorem v_repr : VOpN K (rReprD K) reprD := by
  intro R vs ss F H xs ds out Q rel hv e k
  unfold reprD at e
  split at e
  · split at e
    · rename_i d hc
      cases e
      obtain ⟨x, rfl, v⟩ := hv.one_of
      exact ⟨x, d, rfl, v.full rel.fz, hc.1, hc.2, endF rel k (.str _)⟩
    · cases e
  · cases e
end
/-! what is told of data that repr shows -/
structure Rk (n w : Nat) (d : Dt) : Prop where
  s : (toP d).showable = true
  l : (toP d).leavesShort 600 = true
  b : (toP d).bulk ≤ w
  p : (toP d).depth ≤ n
theorem rok_of {n w : Nat} {d : Dt} (h : Rk n w d) (hn : n ≤ 64) (hw : w ≤ 27000) : rok d = true := by
  unfold rok
  rw [h.s, h.l]
  have hb := h.b
  have hp := h.p
  simp only [Bool.and_eq_true, decide_eq_true_eq, Bool.true_and, Bool.and_self]
  omega
theorem reprD_ok {n w : Nat} {d : Dt} (h : Rk n w d) (hn : n ≤ 64) (hw : w ≤ 27000) (hr : d.isRef = true) : reprD [d] = some (.val (.str (toP d).shown)) := by
  exact if_pos ⟨hr, rok_of h hn hw⟩
theorem rk_non {n w : Nat} : Rk n w .non := ⟨by unfold toP PyData.showable; rfl, by unfold toP PyData.leavesShort; rfl, by unfold toP PyData.bulk; omega, by unfold toP PyData.depth; omega⟩
theorem rk_bl {n w : Nat} {b : Bool} : Rk n w (.bl b) := ⟨by unfold toP PyData.showable; rfl, by unfold toP PyData.leavesShort; rfl, by unfold toP PyData.bulk; omega, by unfold toP PyData.depth; omega⟩
theorem rk_emp {n w : Nat} : Rk (n + 1) w .emp := ⟨by unfold toP; rfl, by unfold toP; rfl, by unfold toP; exact Nat.zero_le _, by unfold toP; exact Nat.le_trans (show (PyData.dict []).depth ≤ 1 by decide) (by omega)⟩
theorem rk_all {n w : Nat} : ∀ {ds : List Dt}, (∀ d ∈ ds, Rk n w d) → PyData.showableAll (toPs ds) = true ∧ PyData.leavesShortAll 600 (toPs ds) = true ∧ PyData.bulkAll (toPs ds) ≤ ds.length * (w + 1) ∧ PyData.depthAll (toPs ds) ≤ n
  | [], _ => by unfold toPs; exact ⟨rfl, rfl, Nat.zero_le _, Nat.zero_le _⟩
  | d :: ds, h => by
    obtain ⟨h1, h2, h3, h4⟩ := rk_all (ds := ds) fun e he => h e (by simp [he])
    have hd := h d (by simp)
    unfold toPs PyData.showableAll PyData.leavesShortAll PyData.bulkAll PyData.depthAll
    refine ⟨by rw [hd.s, h1]; rfl, by rw [hd.l, h2]; rfl, ?_, Nat.max_le.mpr ⟨hd.p, h4⟩⟩
    have := hd.b
    rw [List.length_cons, Nat.succ_mul]; omega
theorem rk_lst {n w m : Nat} {ds : List Dt} (h : ∀ d ∈ ds, Rk n w d) (hm : ds.length * (w + 1) ≤ m) : Rk (n + 1) m (.lst ds) := by
  obtain ⟨h1, h2, h3, h4⟩ := rk_all h
  exact ⟨by unfold toP PyData.showable; exact h1, by unfold toP PyData.leavesShort; exact h2, by unfold toP PyData.bulk; omega, by unfold toP PyData.depth; omega⟩
theorem rk_tup {n w m : Nat} {ds : List Dt} (h : ∀ d ∈ ds, Rk n w d) (hm : ds.length * (w + 1) ≤ m) : Rk (n + 1) m (.tup ds) := by
  obtain ⟨h1, h2, h3, h4⟩ := rk_all h
  exact ⟨by unfold toP PyData.showable; exact h1, by unfold toP PyData.leavesShort; exact h2, by unfold toP PyData.bulk; omega, by unfold toP PyData.depth; omega⟩
theorem rk_int {n w : Nat} {i : Int} (h : i.natAbs < 10 ^ 400) : Rk n w (.int i) := by
  have h1 : (toString i).length ≤ 401 := int_text_length_le10 (by decide) h
  refine ⟨?_, ?_, by unfold toP PyData.bulk; omega, by unfold toP PyData.depth; omega⟩
  · unfold toP PyData.showable
    refine decide_eq_true ?_
    by_cases h0 : i.natAbs = 0
    · rw [h0]; decide
    · refine (Nat.log2_lt h0).mpr (Nat.lt_trans h ?_)
      decide +kernel
  · unfold toP PyData.leavesShort
    refine decide_eq_true ?_
    show (Str.ofString (toString i)).length ≤ 600
    rw [PySem.ofString_length]
    omega
theorem rk_str {n w : Nat} {x : Str} (h : ∀ c ∈ x.cps.toList, c < 16 ^ 8) (hw : x.length ≤ w) : Rk n w (.str x) := by
  refine ⟨by unfold toP PyData.showable; rfl, ?_, by unfold toP PyData.bulk; exact hw, by unfold toP PyData.depth; omega⟩
  unfold toP PyData.leavesShort
  simpa only [List.all_eq_true, decide_eq_true_eq] using h
end FX

/-! FX25: sorted(set(a list of ints)). -/
namespace FX
open PySem L2 PyProof.Rows PySem.Spec
open Evl (Ex ex_t ex_l)
/-- a set just made -/
abbrev set0 (w : World) : Obj := { cls := .type "set", dict := none, data := .set #[] 0 (.fresh 0 0 (!w.params.followText "set-order")) }
section
variable {P : Program} {w : World} {A : Around} {E : Value → Shared → Prop} {s : Shared}
theorem set_list {l : Addr} {xs : Array Value} (ns : List Int) {Q : Value → Shared → Prop} (calm : A.handled = none) (isl : s.heap.IsList l xs) (isI : IntsAre xs.toList ns) (few : ns.length + 1 < scanBound)
    (fin : ∀ (h2 : Heap) (t c : Nat), SetR w h2 s.heap.objs.size (fun j => decide (j ∈ ns)) c → c ≤ ns.length → (∀ b o, s.heap.get? b = some o → h2.get? b = some o) → Q (.ref s.heap.objs.size) { s with heap := h2, toks := t }) :
    wpAny (model P w) A (call (.type "set") [.ref l]) Q E s := by
  have size : xs.size = ns.length := by rw [← isI.length, Array.length_toList]
  let p := s.heap.objs.size
  let g1 := s.heap.push (set0 w)
  have z1 : g1.objs.size = p + 1 := by show (s.heap.push _).objs.size = _; rw [Heap.size_push]
  have f1 : ∀ {b : Addr} {o : Obj}, s.heap.get? b = some o → g1.get? b = some o := fun e => Heap.get?_push_of_some _ e
  obtain ⟨c, tl, mro⟩ := F.called_set.mro
  have made := F.called_set.made
  have sub := F.called_set.sub
  refine wpAny_call (codeAny_of_tree ?_)
  show wpAny _ _ (callAny (.type "set") _) _ _ _
  refine wpAny_pure ⟨Code.quiet_builtin _ (by decide +kernel), codeAny_builtin F.entry_type_call ?_⟩
  rw [Around.under_plain (weight_type_call_type "set" [.ref l] []) rfl]
  have n1 := F.called_set.notType
  have n2 := F.called_set.canCreate
  have n3 := F.typeCall_set_1 (.ref l)
  repeat (any_goals (first | assumption | wp_step))
  refine codeAny_mono (code_set_led1 (.ref l) (E := E) (Q₁ := fun u s1 => u = .ref p ∧ s1 = { s with heap := g1 }) ⟨rfl, rfl⟩) fun r1 s1 out => ?_
  match r1, out with
  | .error _, out => exact out
  | .ok .next, out => exact out.elim
  | .ok .brk, out => exact out.elim
  | .ok .cont, out => exact out.elim
  | .ok (.ret u), out =>
    obtain ⟨rfl, rfl⟩ := out
    have at1 : g1.get? p = some (set0 w) := Heap.get?_push_size _ rfl
    have ty1 : Shared.TypeIs { s with heap := g1 } (.ref p) "set" := ⟨_, at1, rfl⟩
    have i1 := F.called_set.init.lookup
    have i2 := F.called_set.init.bind (.ref p)
    repeat (any_goals (first | assumption | wp_step))
    refine codeAny_mono (codeAny_call_builtin (R := wants (fun v s2 => v = .none ∧ ∃ h2 t c, s2 = { s with heap := h2, toks := t } ∧ SetR w h2 p (fun j => decide (j ∈ ns)) c ∧ c ≤ ns.length ∧ (∀ b o, s.heap.get? b = some o → h2.get? b = some o)) E)
      F.called_set.init.plain F.entry_set_init (check_set_init_1 ty1 ?_)) fun r2 s2 out => ?_
    · obtain ⟨⟨k1, k2, k3, k4⟩, kl, rfl, nl, rfl⟩ := isl
      have li : g1.IsList l xs := ⟨_, f1 kl, rfl, nl, rfl⟩
      have look := f1 kl
      have sl1 := F.sub_list_set
      have sl2 := F.sub_list_frozenset
      have nd : (Value.type "list" == Value.type "dict") = false := by decide
      unfold Builtin.«set.__init__» noKeywords Builtin.Frozenset.updateFrom
      generalize iter : pyIter = PI
      wp_walk
      subst iter
      refine wpAny_pyIter_list li (wpAny_bind (wpAny_runValue ?_))
      have lp : l < p := Heap.lt_size kl
      have calm3 : A.in1.in1.in1.handled = none := by simp [calm]
      have ne1 : l ≠ g1.objs.size := by rw [z1]; exact Nat.ne_of_lt (Nat.lt_succ_of_lt lp)
      refine set_update_ints ((Walks.list calm3 _ l ne1 xs).toS) p (by simp only [List.mem_cons, List.not_mem_nil, or_false, not_or]; rw [z1]; exact ⟨Nat.ne_of_lt (Nat.lt_succ_self _), Nat.ne_of_gt lp⟩) ns size few (fun i v hv => ?_) (xs.size - 0) 0 _ (by omega) (Nat.zero_le _)
        ⟨⟨_, Heap.get?_push_size _ rfl, rfl, rfl⟩, li.push _⟩ ⟨0, Nat.le_refl 0, setR_new_at (Heap.get?_push_of_some _ at1)⟩ fun s3 c3 mv le3 R3 => ?_
      · have hi : i < ns.length := by rw [← size]; exact (Array.getElem?_eq_some_iff.mp hv).1
        obtain ⟨t, e⟩ := PyProof.Rows.IntsAre.int_at isI i v (by rw [Array.getElem?_toList]; exact hv)
        exact ⟨ns[i], t, List.getElem?_eq_getElem hi, by rw [e, List.getD_eq_getElem?_getD, List.getElem?_eq_getElem hi]; rfl⟩
      · obtain ⟨h3, gg, dd, tt, oo⟩ := s3
        have y1 : gg = s.gens := mv.gens
        have y2 : dd = s.drawn := mv.drawn
        have y3 : oo = s.os := mv.os
        subst y1 y2 y3
        show wpAny _ _ _ _ _ _
        refine wpAny_pure ?_
        show wpAny _ _ (ret Value.none) _ _ _
        refine wpAny_pure ⟨rfl, h3, tt, c3, rfl, R3, by rw [← size]; exact le3, fun b o e => ?_⟩
        have lb : b < p := Heap.lt_size e
        exact mv.heap b o (by simp only [List.mem_cons, List.not_mem_nil, or_false, not_or]; rw [z1]; exact ⟨Nat.ne_of_lt lb, Nat.ne_of_lt (Nat.lt_succ_of_lt lb)⟩) (Heap.get?_push_of_some _ (f1 e))
    · match r2, out with
      | .error _, out => exact out
      | .ok .next, out => exact out.elim
      | .ok .brk, out => exact out.elim
      | .ok .cont, out => exact out.elim
      | .ok (.ret v), out =>
        obtain ⟨rfl, h2, t, c2, rfl, R2, le2, kp⟩ := out
        repeat (any_goals (first | assumption | wp_step))
        exact fin h2 t c2 R2 le2 kp
/-- a set of ints, sorted, any number of them -/
theorem sorted_of_set {a : Addr} {S : Int → Bool} {n : Nat} {Q : Value → Shared → Prop} (R : SetR w s.heap a S n) (calm : A.handled = none)
    (fin : ∀ (s2 : Shared) (p : Addr) (out : List Value) (c : Nat) (ns : List Int), (∀ b o, s.heap.get? b = some o → s2.heap.get? b = some o) → s2.gens = s.gens → s2.os = s.os → s.heap.objs.size ≤ p →
      s2.heap.get? p = some (seqObj "list" out.toArray c) → IntsAre out ns → ns.Pairwise (· < ·) → (∀ k, k ∈ ns ↔ S k = true) → ns.length ≤ 4096 → Q (.ref p) s2) :
    wpAny (model P w) A (call (.builtin "sorted") [.ref a]) Q E s := by
  obtain ⟨o, es, ep, t, ho, hex, hd, good, nd, mem, small, fit, cnt, ris, led⟩ := R
  refine Calls.call_function_entry kind_sorted plain_sorted entry_sorted (args_sorted1 _) ?_
  unfold Builtin.«sorted»
  refine wpAny_bind (m := checkCount "sorted" 1 1 _) (wpAny_pure ?_)
  refine wpAny_bind (collect_set (A := A.in1) calm ⟨o, ho, hex.1, hd⟩ fit small ris led fun s1 vs k1 up1 g1 o1 pm => ?_)
  have few : vs.length ≤ 4096 := by
    have : es.size < 4096 := small
    rw [pm.length_eq, List.length_map, Array.length_toList]; omega
  have isI : IntsAre vs (vs.map Builtin.Re.reRawOf) := by
    refine L2.ints_of vs fun v hv => ?_
    obtain ⟨e, he, q⟩ := List.mem_map.mp (pm.mem_iff.mp hv)
    obtain ⟨k, tk, z, _⟩ := good e he
    exact ⟨k, tk, q ▸ z⟩
  have keys : (vs.map Builtin.Re.reRawOf).Perm (es.toList.map keyOf) := by
    have q := pm.map Builtin.Re.reRawOf
    rwa [List.map_map] at q
  have line : vs.length ≤ sizeLine := by rw [sizeLine_eq]; omega
  refine wpAny_bind (wpAny_newList ?_ line)
  have at1 : (s1.heap.push (seqObj "list" vs.toArray 0)).get? s1.heap.objs.size = some (seqObj "list" vs.toArray 0) := Heap.get?_push_size _ rfl
  refine wpAny_bind (wpAny_holding (wpAny_call_entry slot_list_sort ⟨_, at1, rfl⟩ entry_list_sort (SrtO.list_sort_ord SrtO.swo_int at1 line (fun h2 => SrtO.ints_sortable isI h2) fun out h1 h2 => ⟨_, rfl, ?_⟩) (args_list_sort _)))
  obtain ⟨i1, i2, i3⟩ := SrtO.ints_out isI h1 h2
  obtain ⟨c, hc⟩ := sortedHeap_at (vs := vs) (out := out.toArray) at1
  have pn := i2.trans keys
  refine wpAny_pure ⟨_, rfl, fin _ s1.heap.objs.size out c _ (fun b u e => ?_) g1 o1 up1 hc i1 (lt_of_le_nodup _ i3 (pn.nodup_iff.mpr nd)) (fun k => by rw [pn.mem_iff, ← mem k]) ?_⟩
  · have e1 := k1 b u e
    have lt1 := Heap.lt_size e1
    show (sortedHeap (s1.heap.push (seqObj "list" vs.toArray 0)) s1.heap.objs.size vs out.toArray).get? b = some u
    rw [sortedHeap_old (Nat.ne_of_lt lt1) (by rw [size_push']; exact Nat.lt_succ_of_lt lt1)]
    exact Heap.get?_push_of_some _ e1
  · rw [i2.length_eq, List.length_map]; exact few
end
/-! ### the rules -/
section
variable {X : Cx}
theorem cr_setOfI (hc : X.calm = true) : CallR X (.type "set") (fun xs H Q => ∃ (l : Addr) (ns : List Int), xs = [.ref l] ∧ SqL X.K H l (ns.map V.int) ∧ ns.length ≤ 4000 ∧ ∀ (a : Addr) (n : Nat), H a = none → Q (.ref a) (upd H a (SetO X.w a (fun j => decide (j ∈ ns)) n))) := by
  intro pins s σ H xs us Q I r h
  obtain ⟨l, ns, rfl, hs, few, q⟩ := h
  obtain ⟨its, rv, ⟨o, n, ho, cl, dn, dt⟩, z⟩ := I.list hs
  rw [Vals.ref1 r]
  refine set_list ns (I.ok.hd hc) ⟨_, ho, cl, n, dt⟩ (by simpa using ints_of_vals rv) (by show ns.length + 1 < 4096; omega) fun h2 t c R2 _ kp => ?_
  exact ⟨.ref _, upd H s.heap.objs.size (SetO X.w s.heap.objs.size (fun j => decide (j ∈ ns)) c), I.laid kp (Nat.le_refl _) (setO_new R2), rfl, q _ c (I.hok.fresh (Nat.le_refl _))⟩
theorem cr_sortedSetI (hc : X.calm = true) : CallR X (.builtin "sorted") (fun xs H Q => ∃ (a : Addr) (S : Int → Bool) (n : Nat), xs = [.ref a] ∧ H a = some (SetO X.w a S n) ∧
    ∀ (ns : List Int) (p : Addr), ns.Pairwise (· < ·) → (∀ k : Int, k ∈ ns ↔ S k = true) → ns.length ≤ 4096 → H p = none → Q (.ref p) (upd H p (.lst (ns.map V.int)))) := by
  intro pins s σ H xs us Q I r h
  obtain ⟨a, S, n, rfl, ha, q⟩ := h
  rw [Vals.ref1 r]
  refine sorted_of_set (setO_get I ha) (I.ok.hd hc) fun s2 p out c ns kp g o up at2 isI srt mem few => ?_
  have line : (ns.map V.int).length ≤ sizeLine := by rw [List.length_map, sizeLine_eq]; omega
  have free : H p = none := I.hok.fresh up
  have J : Inv X pins σ (upd H p (.lst (ns.map V.int))) { s with heap := s2.heap, gens := s2.gens, drawn := s2.drawn, toks := s2.toks } :=
    I.call (ch := []) (Un.laid kp up free) (I.hok.laid kp up ⟨line, out, c, vals_of_ints isI, at2⟩) (by rw [g]; exact I.bare) (fun _ z => nomatch z)
  have same : s2 = { s with heap := s2.heap, gens := s2.gens, drawn := s2.drawn, toks := s2.toks } := by
    obtain ⟨_, _, _, _, _⟩ := s2
    obtain ⟨_, _, _, _, _⟩ := s
    cases o; rfl
  rw [same]
  exact ⟨.ref p, upd H p (.lst (ns.map V.int)), J, rfl, q ns p srt mem few free⟩
end
/-! ### by data -/
section
variable {K : PySem.W.Frag} {mg : Str → Option Value} {σ : L2.St} {H : Hp} {W : WX} {w : World}
/-- the ints of a list, ascending -/
def insI (x : Int) : List Int → List Int
  | [] => [x]
  | y :: ys => if x ≤ y then x :: y :: ys else y :: insI x ys
def srtI : List Int → List Int
  | [] => []
  | x :: xs => insI x (srtI xs)
/-- .. each once -/
def insU (x : Int) : List Int → List Int
  | [] => [x]
  | y :: ys => if x < y then x :: y :: ys else if x = y then y :: ys else y :: insU x ys
def srtU : List Int → List Int
  | [] => []
  | x :: xs => insU x (srtU xs)
theorem insU_mem {x k : Int} : ∀ {l : List Int}, k ∈ insU x l ↔ k = x ∨ k ∈ l
  | [] => by simp [insU]
  | y :: ys => by
    unfold insU
    split
    · simp
    · split
      · rename_i h; subst h; simp
      · simp only [List.mem_cons, insU_mem (l := ys)]
        constructor
        · rintro (h | h | h) <;> simp [h]
        · rintro (h | h | h) <;> simp [h]
theorem srtU_mem {k : Int} : ∀ {l : List Int}, k ∈ srtU l ↔ k ∈ l
  | [] => Iff.rfl
  | x :: xs => by unfold srtU; rw [insU_mem, srtU_mem (l := xs), List.mem_cons]
theorem insU_srt {x : Int} : ∀ {l : List Int}, l.Pairwise (· < ·) → (insU x l).Pairwise (· < ·)
  | [], _ => by simp [insU]
  | y :: ys, h => by
    obtain ⟨h1, h2⟩ := List.pairwise_cons.mp h
    unfold insU
    split
    · refine List.pairwise_cons.mpr ⟨fun z hz => ?_, h⟩
      rcases List.mem_cons.mp hz with e | e
      · omega
      · have := h1 z e; omega
    · split
      · exact h
      · refine List.pairwise_cons.mpr ⟨fun z hz => ?_, insU_srt h2⟩
        rcases insU_mem.mp hz with e | e
        · omega
        · exact h1 z e
theorem srtU_srt : ∀ {l : List Int}, (srtU l).Pairwise (· < ·)
  | [] => List.Pairwise.nil
  | _ :: xs => insU_srt (srtU_srt (l := xs))
theorem lt_unique : ∀ {l m : List Int}, l.Pairwise (· < ·) → m.Pairwise (· < ·) → (∀ k, k ∈ l ↔ k ∈ m) → l = m
  | [], [], _, _, _ => rfl
  | [], y :: ys, _, _, h => absurd ((h y).mpr (by simp)) (by simp)
  | x :: xs, [], _, _, h => absurd ((h x).mp (by simp)) (by simp)
  | x :: xs, y :: ys, h1, h2, h => by
    obtain ⟨a1, a2⟩ := List.pairwise_cons.mp h1
    obtain ⟨b1, b2⟩ := List.pairwise_cons.mp h2
    have e : x = y := by
      rcases List.mem_cons.mp ((h x).mp (by simp)) with e | e
      · exact e
      · rcases List.mem_cons.mp ((h y).mpr (by simp)) with f | f
        · exact f.symm
        · have := b1 x e; have := a1 y f; omega
    subst e
    congr 1
    refine lt_unique a2 b2 fun k => ⟨fun hk => ?_, fun hk => ?_⟩
    · rcases List.mem_cons.mp ((h k).mp (by simp [hk])) with f | f
      · have := a1 k hk; omega
      · exact f
    · rcases List.mem_cons.mp ((h k).mpr (by simp [hk])) with f | f
      · have := b1 k hk; omega
      · exact f
theorem insI_perm {x : Int} : ∀ {l : List Int}, (insI x l).Perm (x :: l)
  | [] => List.Perm.refl _
  | y :: ys => by
    unfold insI
    split
    · exact List.Perm.refl _
    · exact (List.Perm.cons y (insI_perm (l := ys))).trans (List.Perm.swap x y ys)
theorem srtI_perm : ∀ {l : List Int}, (srtI l).Perm l
  | [] => List.Perm.refl _
  | x :: xs => insI_perm.trans (List.Perm.cons x (srtI_perm (l := xs)))
theorem insI_srt {x : Int} : ∀ {l : List Int}, l.Pairwise (· ≤ ·) → (insI x l).Pairwise (· ≤ ·)
  | [], _ => by simp [insI]
  | y :: ys, h => by
    obtain ⟨h1, h2⟩ := List.pairwise_cons.mp h
    unfold insI
    split
    · refine List.pairwise_cons.mpr ⟨fun z hz => ?_, h⟩
      rcases List.mem_cons.mp hz with e | e
      · omega
      · have := h1 z e; omega
    · refine List.pairwise_cons.mpr ⟨fun z hz => ?_, insI_srt h2⟩
      rcases List.mem_cons.mp (insI_perm.mem_iff.mp hz) with e | e
      · omega
      · exact h1 z e
theorem srtI_srt : ∀ {l : List Int}, (srtI l).Pairwise (· ≤ ·)
  | [] => List.Pairwise.nil
  | _ :: xs => insI_srt (srtI_srt (l := xs))
theorem srtI_unique {l m : List Int} (h1 : l.Perm m) (h2 : l.Pairwise (· ≤ ·)) : l = srtI m :=
  List.Perm.eq_of_pairwise (fun a b _ _ x y => Int.le_antisymm x y) h2 srtI_srt (h1.trans srtI_perm.symm)
def sortedD : List Dt → Option Rs
  | [d] => (intsOf d).bind fun ns => if ns.length ≤ 100000 then some (.own ((srtI ns).map Dt.int)) else none
  | _ => none
theorem v_sorted : VOpN K (rSortedI K) sortedD := by
  intro R vs ss F H xs ds out Q rel hv e k
  unfold sortedD at e
  split at e
  · obtain ⟨ns, h1, h2⟩ := Option.bind_eq_some_iff.mp e
    split at h2
    · rename_i few
      cases h2
      obtain ⟨x, rfl, v⟩ := hv.one_of
      obtain ⟨p, e1, e2⟩ := intsOf_ok rel.fz v h1
      refine ⟨p, ns, by rw [e1], e2, fun ms q pm st hq => ?_⟩
      have := srtI_unique pm st
      subst this
      exact endL rel k RpAll.ints (by rw [List.length_map, pm.length_eq]; exact Evl.sz_of few) hq
    · cases h2
  · cases e
def sortedSetD : List Dt → Option Rs
  | [d] => (intsOf d).bind fun ns => if ns.length ≤ 4000 then some (.own ((srtU ns).map Dt.int)) else none
  | _ => none
def rSetI (K : PySem.W.Frag) (w : World) : List V → Hp → VK → Prop := fun xs H Q => ∃ (l : Addr) (ns : List Int), xs = [.ref l] ∧ SqL K H l (ns.map V.int) ∧ ns.length ≤ 4000 ∧ ∀ (a : Addr) (n : Nat), H a = none → Q (.ref a) (upd H a (SetO w a (fun j => decide (j ∈ ns)) n))
def rSrtSet (w : World) : List V → Hp → VK → Prop := fun xs H Q => ∃ (a : Addr) (S : Int → Bool) (n : Nat), xs = [.ref a] ∧ H a = some (SetO w a S n) ∧
    ∀ (ns : List Int) (p : Addr), ns.Pairwise (· < ·) → (∀ k : Int, k ∈ ns ↔ S k = true) → ns.length ≤ 4096 → H p = none → Q (.ref p) (upd H p (.lst (ns.map V.int)))
theorem v_sortedSet : VOpN K (fun xs H Q => rSetI K w xs H fun v H1 => rSrtSet w [v] H1 Q) sortedSetD := by
  intro R vs ss F H xs ds out Q rel hv e k
  unfold sortedSetD at e
  split at e
  · obtain ⟨ns, h1, h2⟩ := Option.bind_eq_some_iff.mp e
    split at h2
    · rename_i few
      cases h2
      obtain ⟨x, rfl, v⟩ := hv.one_of
      obtain ⟨p, e1, e2⟩ := intsOf_ok rel.fz v h1
      refine ⟨p, ns, by rw [e1], e2, few, fun a n ha => ⟨a, _, n, rfl, upd_same, fun ms q srt mem z hq => ?_⟩⟩
      have : ms = srtU ns := lt_unique srt srtU_srt fun j => by rw [mem, srtU_mem]; simp
      subst this
      exact endL (rel.grow (ex_upd ha)) k RpAll.ints (by rw [List.length_map]; exact Evl.sz_of (by omega)) hq
    · cases h2
  · cases e
end
section
variable {X : Cx} {W : WX} {a : Expr} {pos p p2 pos2 : Pos} {fa : Sl → O (List Rs × Sl)}
theorem x_sorted (hm : X.mg "sorted" = none) (ha : XA X W [a] fa) (hg : Gl X "sorted" := by rfl) (he : starEach [a] X.env = (false, eval a X.env) :: starEach [] X.env := by rfl) : XE X W (.Call (.Name "sorted" p) [a] [] pos) (eBlt sortedD fa) := x_blt cr_sortedI v_sorted hm (by decide +kernel) ha hg (he := he)
theorem x_sortedSet (hm : X.mg "sorted" = none) (hm2 : X.mg "set" = none) (ha : XA X W [a] fa) (hc : X.calm = true := by rfl) (hg : Gl X "sorted" := by rfl) (hg2 : Gl X "set" := by rfl) (he : starEach [a] X.env = (false, eval a X.env) :: starEach [] X.env := by rfl)
    (he2 : starEach [.Call (.Name "set" p2) [a] [] pos2] X.env = (false, eval (.Call (.Name "set" p2) [a] [] pos2) X.env) :: starEach [] X.env := by rfl) : XE X W (.Call (.Name "sorted" p) [.Call (.Name "set" p2) [a] [] pos2] [] pos) (eBlt sortedSetD fa) := by
  have h1 : PE X (.Call (.Name "set" p2) [a] [] pos2) (tCB (rSetI X.K X.w) (dA X.K X.mg W fa)) := pe_callTy (cr_setOfI hc) hg2 hm2 (by decide +kernel) ha (he := he)
  have h2 := pe_callB (pos := pos) (p := p) (cr_sortedSetI hc) hg hm (by decide +kernel) (pa_cons h1 pa_nil he2) (he := he2)
  exact PE.imp h2 fun σ H Q h => (show tCB (fun xs H Q => rSetI X.K X.w xs H fun v H1 => rSrtSet X.w [v] H1 Q) (dA X.K X.mg W fa) σ H Q from de_blt v_sortedSet h)
theorem x_repr {k : Nat} (hr : RoomG k X.A) (hm : X.mg "repr" = none) (ha : XA X W [a] fa) (hg : Gl X "repr" := by rfl) (he : starEach [a] X.env = (false, eval a X.env) :: starEach [] X.env := by rfl) : XE X W (.Call (.Name "repr" p) [a] [] pos) (eBlt reprD fa) :=
  x_blt (cr_repr hr.g (by have := hr.r.un; omega)) v_repr hm (by decide +kernel) ha hg (he := he)
end
/-! ### runs -/
theorem sortedD_lst {ns : List Int} : sortedD [.lst (ns.map Dt.int)] = if ns.length ≤ 100000 then some (.own ((srtI ns).map Dt.int)) else none := by
  unfold sortedD; simp only [intsOf_lst, allInts_map]; rfl
theorem sortedSetD_lst {ns : List Int} : sortedSetD [.lst (ns.map Dt.int)] = if ns.length ≤ 4000 then some (.own ((srtU ns).map Dt.int)) else none := by
  unfold sortedSetD; simp only [intsOf_lst, allInts_map]; rfl
end FX

/-! FX26: list(range(..)), index, pop, reversed slices, isinstance of several, {"D": "L", "L": "D"}[x], str(int). -/
namespace FX
open PySem L2 PyProof.Rows PySem.Spec
open Evl (Ex ex_t ex_l)
section
variable {K : PySem.W.Frag} {mg : Str → Option Value} {R : RC} {F F' H H' : Hp} {σ : L2.St} {τ t2 : List (Option V)} {ρ θ s2 : Sl} {W : WX}
/-! ### list(range(..)) -/
theorem rp_rgV {a b : Int} : RpAll K F (rgV a b) (rngL a (b - a).toNat) := by
  have : ∀ l : List Nat, RpAll K F (l.map fun i => V.int (a + (i : Nat))) (l.map fun (i : Nat) => Dt.int (a + (i : Int))) := by
    intro l
    induction l with
    | nil => exact .nil
    | cons x xs ih => exact .cons (.int _) ih
  exact this _
def lrg1D : Dt → Option Rs
  | .int j => if j ≤ 1000000 ∧ -1000000 ≤ j then some (.own (rngL 0 j.toNat)) else none
  | _ => none
def lrg2D : Dt → Dt → Option Rs
  | .int i, .int j => if i ≤ 1000000 ∧ -1000000 ≤ i ∧ j ≤ 1000000 ∧ -1000000 ≤ j then some (.own (rngL i (j - i).toNat)) else none
  | _, _ => none
theorem v_lrg1 : VOp1 K (fun x H Q => ∃ n, x = .int n ∧ RgOk 0 n ∧ ∀ q, H q = none → Q (.ref q) (upd H q (.lst (rgV 0 n)))) lrg1D := by
  intro R vs ss F H x d1 out Q rel v e k
  unfold lrg1D at e
  split at e
  · split at e
    · rename_i j hj
      cases e
      refine ⟨j, v.int_of, ⟨by omega, by omega, by omega, by omega, by omega⟩, fun q hq => ?_⟩
      have e2 : rngL 0 j.toNat = rngL 0 (j - 0).toNat := by rw [Int.sub_zero]
      rw [e2] at k
      exact endL rel k rp_rgV (by rw [rgV_length, sizeLine_eq]; omega) hq
    · cases e
  · cases e
theorem v_lrg2 : VOp2 K (fun x y H Q => ∃ i j, x = .int i ∧ y = .int j ∧ RgOk i j ∧ ∀ q, H q = none → Q (.ref q) (upd H q (.lst (rgV i j)))) lrg2D := by
  intro R vs ss F H x y d1 d2 out Q rel v1 v2 e k
  unfold lrg2D at e
  split at e
  · split at e
    · rename_i i j hj
      cases e
      refine ⟨i, j, v1.int_of, v2.int_of, ⟨by omega, by omega, by omega, by omega, by omega⟩, fun q hq => ?_⟩
      exact endL rel k rp_rgV (by rw [rgV_length, sizeLine_eq]; omega) hq
    · cases e
  · cases e
/-! ### xs.index(x) of flat items -/
def idxF (x : Dt) : List Dt → Option Nat
  | [] => none
  | y :: ys => if eqF y x = true then some 0 else (idxF x ys).map (· + 1)
theorem idxF_ok {x : Dt} : ∀ {ys : List Dt} {j : Nat}, idxF x ys = some j → (∃ z, ys[j]? = some z ∧ eqF z x = true) ∧ ∀ (m : Nat) z, m < j → ys[m]? = some z → eqF z x = false
  | [], j, h => by cases h
  | y :: ys, j, h => by
    unfold idxF at h
    by_cases c : eqF y x = true
    · rw [if_pos c] at h; cases h
      exact ⟨⟨y, rfl, c⟩, fun m z hm => by omega⟩
    · rw [if_neg c] at h
      obtain ⟨i, h1, h2⟩ := Option.map_eq_some_iff.mp h
      subst h2
      obtain ⟨⟨z, g1, g2⟩, g3⟩ := idxF_ok h1
      refine ⟨⟨z, by simpa using g1, g2⟩, fun m w hm hw => ?_⟩
      cases m with
      | zero => simp at hw; subst hw; simpa using c
      | succ m => exact g3 m w (by omega) (by simpa using hw)
def indexD : Dt → List Dt → Option Rs
  | .lst ds, [d] => if d.flt = true ∧ ds.all Dt.flt = true then (idxF d ds).map fun j => .val (.int (j : Nat)) else none
  | _, _ => none
theorem v_index : VOpM K (L2.rIndex K) indexD := by
  intro R vs ss F H x xs d ds out Q rel v vv e k
  unfold indexD at e
  split at e
  · rename_i es d'
    split at e
    · rename_i hc
      obtain ⟨j, h1, h2⟩ := Option.map_eq_some_iff.mp e
      subst h2
      obtain ⟨y, rfl, v2⟩ := vv.one_of
      obtain ⟨p, ys, g1, g2, g3, g4⟩ := v.items rel.fz
      have g4 := g4.mono rel.fz
      have v2 := v2.full rel.fz
      obtain ⟨f1, _⟩ := inV_F v2 hc.1 g4 hc.2
      obtain ⟨⟨z, i1, i2⟩, i3⟩ := idxF_ok h1
      obtain ⟨u, r1, r2⟩ := g4.get i1
      have fz : ∀ {i : Nat} {z : Dt}, es[i]? = some z → z.flt = true := fun h => List.all_eq_true.mp hc.2 _ (List.mem_of_getElem? h)
      refine ⟨p, ys, y, j, u, g1, rfl, g2, v2.flt hc.1, f1, r1, by rw [eqV_F v2 r2 hc.1 (fz i1)]; exact i2, fun m w hm hw => ?_, endF rel k (.int _)⟩
      obtain ⟨z', j1, j2⟩ := g4.getV hw
      rw [eqV_F v2 j2 hc.1 (fz j1)]
      exact i3 m z' hm j1
    · cases e
  · cases e
/-! ### reversed slices of lists -/
def revD : Dt → Option Rs
  | .lst ds => some (.own ds.reverse)
  | _ => none
theorem v_rev : VOp1 K (fun x H Q => ∃ a xs, x = .ref a ∧ SqL K H a xs ∧ ∀ p, H p = none → Q (.ref p) (upd H p (.lst xs.reverse))) revD := by
  intro R vs ss F H x d1 out Q rel v e k
  unfold revD at e
  split at e
  · cases e
    obtain ⟨p, ys, h1, h2, h3, h4⟩ := v.items rel.fz
    exact ⟨p, ys, h1, h2, fun q hq => endL rel k h4.reverse (by rw [List.length_reverse]; exact h3) hq⟩
  · cases e
/-! ### isinstance(x, (A, B)) -/
def isi2D (A B : String) (d : Dt) : Option Rs := match kitB d.tyName A with
  | some true => some (.val (.bl true))
  | some false => (kitB d.tyName B).map fun b => .val (.bl b)
  | none => none
theorem v_isi2 {A B : String} : VOp1 K (fun x H Q => [V.ty A, V.ty B].length ≤ sizeLine ∧ ∀ p, H p = none → rIsiT K [x, .ref p] (upd H p (.tup [.ty A, .ty B])) Q) (isi2D A B) := by
  intro R vs ss F H x d1 out Q rel v e k
  refine ⟨Evl.sz_of (by simp), fun p hp => ?_⟩
  have ty : TyX K (upd H p (.tup [.ty A, .ty B])) x (.type d1.tyName) := ((v.full rel.fz).mono (ex_upd hp)).tyx
  unfold isi2D at e
  have rel2 : Rel K R vs ss F (upd H p (.tup [.ty A, .ty B])) := rel.grow (ex_upd hp)
  cases h1 : kitB d1.tyName A with
  | none => rw [h1] at e; cases e
  | some b =>
    cases b with
    | true =>
      rw [h1] at e; cases e
      exact ⟨x, p, _, _, _, true, rfl, upd_same, .cons (.ty A) (.cons (.ty B) .nil), ty, kitAny_cons (kit_ty h1) (fun z => by cases z) (fun _ => rfl), endF rel2 k (.bl _)⟩
    | false =>
      rw [h1] at e
      obtain ⟨c, h2, h3⟩ := Option.map_eq_some_iff.mp e
      subst h3
      refine ⟨x, p, _, _, _, c, rfl, upd_same, .cons (.ty A) (.cons (.ty B) .nil), ty, kitAny_cons (kit_ty h1) (fun _ => ?_) (fun z => by cases z), endF rel2 k (.bl _)⟩
      refine kitAny_cons (kit_ty h2) (fun z => by subst z; exact kitAny_nil) (fun z => z)
/-! ### {"D": "L", "L": "D"}[x], x a name -/
def swpS (z : Str) : Option Str := if z = "D" then some "L" else if z = "L" then some "D" else none
def eSwp (i : Nat) : Sl → O (Rs × Sl) := fun ρ => match ρ[i]? with
  | some (.frz (.str z)) => (match swpS z with
    | some v => .ok (.val (.str v), ρ)
    | none => .bad)
  | _ => .bad
theorem de_swp {i : Nat} {Q : VK} (h : dE K mg W (eSwp i) σ H Q) : tDGet (tDisp [(tC (.str "D"), tC (.str "L")), (tC (.str "L"), tC (.str "D"))]) (tVar i) σ H Q := by
  obtain ⟨R, τ, θ, ρ, F, a, h⟩ := h
  intro p hp
  refine ⟨upd_same, [(.inr "D", .str "L"), (.inr "L", .str "D")], rfl, by decide, ?_⟩
  unfold eSwp at h
  split at h
  · rename_i z e
    have hi : i < ρ.length := (List.getElem?_eq_some_iff.mp e).1
    have hi' : i < σ.length := by rw [a.len]; exact hi
    have so := a.rel.slot i _ _ (by rw [List.getElem?_append_left hi']; exact List.getElem?_eq_getElem hi') (by rw [List.getElem?_append_left hi]; exact e)
    obtain ⟨x, e1, e2⟩ := so
    have e3 := e2.str_of
    subst e3
    refine ⟨.str z, by rw [List.getElem?_eq_getElem hi', e1], ?_⟩
    rw [upd_upd]
    split at h
    · rename_i v ev
      refine ⟨p, .str v, rfl, .inl ⟨_, .inr z, .inl upd_same, rfl, ?_⟩, ?_⟩
      · unfold swpS at ev
        split at ev
        · rename_i hz; cases ev; subst hz; rfl
        · split at ev
          · rename_i hz; cases ev; subst hz; rfl
          · cases ev
      · exact h (.str v) F _ (At.of_rel ((a.rel.grow (ex_upd hp)).pushF (.str v)) a.len) trivial
    · exact h.elim
  · exact h.elim
/-! ### str(i) -/
def strD : List Dt → Option Rs
  | [.int i] => if i.natAbs < 10 ^ 400 then some (.val (.str (toString i))) else none
  | _ => none
theorem v_strI : VOpN K (fun xs H Q => ∃ i, xs = [.int i] ∧ i.natAbs.log2 < 1920 ∧ Q (.str (toString i)) H) strD := by
  intro R vs ss F H xs ds out Q rel hv e k
  unfold strD at e
  split at e
  · split at e
    · rename_i i hi
      cases e
      obtain ⟨x, rfl, v⟩ := hv.one_of
      refine ⟨i, by rw [v.int_of], ?_, endF rel k (.str _)⟩
      by_cases h0 : i.natAbs = 0
      · rw [h0]; decide
      · exact (Nat.log2_lt h0).mpr (Nat.lt_trans hi (by decide +kernel))
    · cases e
  · cases e
end
section
variable {X : Cx} {W : WX} {a b c : Expr} {pos p pos' p1 p2 p3 pA pB pT : Pos} {f g : Sl → O (Rs × Sl)} {fa : Sl → O (List Rs × Sl)}
theorem x_listRng1 (hm : X.mg "list" = none) (hm2 : X.mg "range" = none) (ha : XE X W a f) (hc : X.calm = true := by rfl) (hg : Gl X "list" := by rfl) (hg2 : Gl X "range" := by rfl) (na : starEach [a] X.env = (false, eval a X.env) :: starEach [] X.env := by rfl)
    (nb : starEach [.Call (.Name "range" p2) [a] [] p3] X.env = (false, eval (.Call (.Name "range" p2) [a] [] p3) X.env) :: starEach [] X.env := by rfl) : XE X W (.Call (.Name "list" p) [.Call (.Name "range" p2) [a] [] p3] [] pos) (eUn lrg1D f) :=
  PE.imp (pe_listRg hc hg hm (prg_1 hg2 hm2 ha na) nb) fun σ H Q h => de_un v_lrg1 h |> fun q => (show tUn (fun x H Q => ∃ n, x = .int n ∧ RgOk 0 n ∧ ∀ q, H q = none → Q (.ref q) (upd H q (.lst (rgV 0 n)))) (dE X.K X.mg W f) σ H Q from q)
theorem x_listRng2 (hm : X.mg "list" = none) (hm2 : X.mg "range" = none) (ha : XE X W a f) (hb : XE X W b g) (hc : X.calm = true := by rfl) (hg : Gl X "list" := by rfl) (hg2 : Gl X "range" := by rfl) (na : starEach [a, b] X.env = (false, eval a X.env) :: starEach [b] X.env := by rfl)
    (nb : starEach [b] X.env = (false, eval b X.env) :: starEach [] X.env := by rfl) (hp : (backTo p3 (starEach [b] X.env)).any (·.1) = false := by rfl)
    (nc : starEach [.Call (.Name "range" p2) [a, b] [] p3] X.env = (false, eval (.Call (.Name "range" p2) [a, b] [] p3) X.env) :: starEach [] X.env := by rfl) : XE X W (.Call (.Name "list" p) [.Call (.Name "range" p2) [a, b] [] p3] [] pos) (eBin lrg2D f g) :=
  PE.imp (pe_listRg hc hg hm (prg_2 hg2 hm2 ha hb na nb hp) nc) fun σ H Q h => de_bin v_lrg2 h |> fun q => (show tOp (fun x y H Q => ∃ i j, x = .int i ∧ y = .int j ∧ RgOk i j ∧ ∀ q, H q = none → Q (.ref q) (upd H q (.lst (rgV i j)))) (dE X.K X.mg W f) (dE X.K X.mg W g) σ H Q from q)
theorem x_index (ha : XE X W a f) (hb : XA X W [b] fa) (hbase : attributeBase a "index" X.env (eval a X.env) = eval a X.env := by rfl)
    (hfew : ((backTo pos (starEach [b] X.env)).all (fun x => !x.1) && (backToKw pos (keywordEach [] X.env)).all (fun x => x.1.isSome) && decide ([b].length + ([] : List Keyword).length + (if ([] : List Keyword).isEmpty then 0 else 1) < 30)) = true := by rfl)
    (hline : (p.endLine == pos.line) = true := by rfl) (hs : starEach [b] X.env = (false, eval b X.env) :: starEach [] X.env := by rfl) (hplain : (backTo pos (starEach [] X.env)).any (·.1) = false := by rfl) :
    XE X W (.Call (.Attribute a "index" p) [b] [] pos) (eMet "list" indexD f fa) :=
  PE.imp (pe_bm PySem.F.plainAttrs_list PySem.F.slot_list_index PySem.F.type_list_index mt_index ha hb hbase hfew hline hs hplain) fun _ _ _ => de_met (.inr (.inl rfl)) v_index
theorem x_popAt {i : Nat} {x : Str} {pn : Pos} (ha : XE X W (.Name x pn) (eVar i)) (hb : XA X W [b] fa) (hbase : attributeBase (.Name x pn) "pop" X.env (eval (.Name x pn) X.env) = eval (.Name x pn) X.env := by rfl)
    (hfew : ((backTo pos (starEach [b] X.env)).all (fun x => !x.1) && (backToKw pos (keywordEach [] X.env)).all (fun x => x.1.isSome) && decide ([b].length + ([] : List Keyword).length + (if ([] : List Keyword).isEmpty then 0 else 1) < 30)) = true := by rfl)
    (hline : (p.endLine == pos.line) = true := by rfl) (hs : starEach [b] X.env = (false, eval b X.env) :: starEach [] X.env := by rfl) (hplain : (backTo pos (starEach [] X.env)).any (·.1) = false := by rfl) :
    XE X W (.Call (.Attribute (.Name x pn) "pop" p) [b] [] pos) (eMut i popAtU fa) := x_mut1 mt_popAt v_popAt PySem.F.slot_list_pop PySem.F.type_list_pop ha hb hbase hfew hline hs hplain
theorem x_pop {i : Nat} {x : Str} {pn : Pos} (ha : XE X W (.Name x pn) (eVar i)) (hbase : attributeBase (.Name x pn) "pop" X.env (eval (.Name x pn) X.env) = eval (.Name x pn) X.env := by rfl) (hline : (p.endLine == pos.line) = true := by rfl) :
    XE X W (.Call (.Attribute (.Name x pn) "pop" p) [] [] pos) (eMut i popU aNil) := PE.imp (pe_bm0 PySem.F.plainAttrs_list PySem.F.slot_list_pop PySem.F.type_list_pop mt_pop ha hbase hline) fun _ _ _ => de_mut0 v_pop
theorem x_rev {k : Nat} (ha : XE X W a f) : XE X W (.Subscript a (.Slice none none (some (.UnaryOp .USub (.Constant (.int 1) k p1) p2)) p3) pos) (eUn revD f) :=
  PE.imp (pe_revL ha) fun σ H Q h => (show tUn (fun x H Q => ∃ a xs, x = .ref a ∧ SqL X.K H a xs ∧ ∀ p, H p = none → Q (.ref p) (upd H p (.lst xs.reverse))) (dE X.K X.mg W f) σ H Q from de_un v_rev h)
theorem x_isi2 {A B : String} {xA xB : Str} {k : Nat} (hm : X.mg "isinstance" = none) (hmA : X.mg xA = none) (hmB : X.mg xB = none) (hbA : bootBuiltins xA = some (.type A)) (hbB : bootBuiltins xB = some (.type B)) (ha : XE X W a f) (hg : Gl X "isinstance" := by rfl) (hgA : Gl X xA := by rfl) (hgB : Gl X xB := by rfl)
    (hnA : xA ≠ "__name__" := by decide) (hnB : xB ≠ "__name__" := by decide) (hdA : (xA == ("__debug__" : Str)) = false := by decide) (hdB : (xB == ("__debug__" : Str)) = false := by decide)
    (he : starEach [a, .Tuple [.Name xA pA, .Name xB pB] k pT] X.env = (false, eval a X.env) :: starEach [.Tuple [.Name xA pA, .Name xB pB] k pT] X.env := by rfl)
    (hpl : (backTo pos (starEach [.Tuple [.Name xA pA, .Name xB pB] k pT] X.env)).any (·.1) = false := by rfl)
    (he2 : starEach [.Tuple [.Name xA pA, .Name xB pB] k pT] X.env = (false, eval (.Tuple [.Name xA pA, .Name xB pB] k pT) X.env) :: starEach [] X.env := by rfl)
    (he3 : starEach [.Name xA pA, .Name xB pB] X.env = (false, eval (.Name xA pA) X.env) :: starEach [.Name xB pB] X.env := by rfl) (he4 : starEach [.Name xB pB] X.env = (false, eval (.Name xB pB) X.env) :: starEach [] X.env := by rfl) :
    XE X W (.Call (.Name "isinstance" p) [a, .Tuple [.Name xA pA, .Name xB pB] k pT] [] pos) (eUn (isi2D A B) f) := by
  have h1 := pa_cons ha (pa_cons (pe_tup (x1 := k) (pos := pT) (pa_cons (pe_bltn (pos := pA) hgA hmA hbA (show RelV (.ty A) (.type A) from rfl) hnA hdA) (pa_cons (pe_bltn (pos := pB) hgB hmB hbB (show RelV (.ty B) (.type B) from rfl) hnB hdB) pa_nil he4) he3)) pa_nil he2) he
  refine PE.imp (pe_callB (p := p) (pos := pos) call_isiT hg hm boot_isinstance h1 (he := he) (hpl := hpl)) fun σ H Q h => ?_
  exact (show tUn (fun x H Q => [V.ty A, V.ty B].length ≤ sizeLine ∧ ∀ p, H p = none → rIsiT X.K [x, .ref p] (upd H p (.tup [.ty A, .ty B])) Q) (dE X.K X.mg W f) σ H Q from de_un v_isi2 h)
theorem x_swp {i : Nat} {k1 k2 k3 k4 : Nat} {q1 q2 q3 q4 pd : Pos} {x : Str} {pn : Pos} {kk : Nat} (hr : RoomG kk X.A) (hv : PE X (.Name x pn) (tVar i)) (hs : NoSl (.Name x pn) := by exact fun _ _ => rfl) :
    XE X W (.Subscript (.Dict [some (.Constant (.str "D") k1 q1), some (.Constant (.str "L") k2 q2)] [.Constant (.str "L") k3 q3, .Constant (.str "D") k4 q4] pd) (.Name x pn) pos) (eSwp i) :=
  PE.imp (pe_dget (by have := hr.r.un; omega) (pe_disp (pps_cons pe_str pe_str (pps_cons pe_str pe_str pps_nil)) (by rfl) (by rfl) (by simp) (by simp)) hv hs) fun _ _ _ => de_swp
theorem x_str1 (hm : X.mg "str" = none) (ha : XA X W [a] fa) (hg : Gl X "str" := by rfl) (he : starEach [a] X.env = (false, eval a X.env) :: starEach [] X.env := by rfl) : XE X W (.Call (.Name "str" p) [a] [] pos) (eBlt strD fa) := x_bty call_str_int v_strI hm (by decide +kernel) ha hg (he := he)
end
end FX

/-! FX27: {} as a value. -/
namespace FX
open PySem L2 PyProof.Rows PySem.Spec
def eEmp : Sl → O (Rs × Sl) := fun ρ => .ok (.val .emp, ρ)
theorem de_emp {K : PySem.W.Frag} {mg : Str → Option Value} {σ : L2.St} {H : Hp} {W : WX} {Q : VK} (h : dE K mg W eEmp σ H Q) : tDNewK σ H Q := by
  obtain ⟨R, τ, θ, ρ, F, a, h⟩ := h
  intro p hp
  exact h (.ref p) _ _ (At.of_rel ((a.rel.allocF (o := .dK []) hp).pushF (.emp upd_same)) a.len) trivial
theorem x_emp {X : Cx} {W : WX} {pos : Pos} : XE X W (.Dict [] [] pos) eEmp := PE.imp pe_dnewK fun _ _ _ => de_emp
theorem w_emp {s0 : Slot} {ρ : Sl} {P : Rs × Sl → Prop} : Wp (eEmp (s0 :: ρ)) P ↔ P (.val .emp, s0 :: ρ) := wp_ok
theorem w_swp {s0 : Slot} {ρ : Sl} {P : Rs × Sl → Prop} {i : Nat} : Wp (eSwp i (s0 :: ρ)) P ↔ ∃ z v, (s0 :: ρ : Sl)[i]? = some (.frz (.str z)) ∧ swpS z = some v ∧ P (.val (.str v), s0 :: ρ) := by
  unfold eSwp
  constructor
  · intro h
    split at h
    · rename_i z e
      split at h
      · rename_i v ev
        exact ⟨z, v, e, ev, wp_ok.mp h⟩
      · exact (wp_bad.mp h).elim
    · exact (wp_bad.mp h).elim
  · rintro ⟨z, v, e, ev, h⟩
    rw [e]
    simp only [ev]
    exact wp_ok.mpr h
/-! runs of what FX24 to FX26 bring -/
section
variable {ds : List Dt} {d : Dt} {PR : Rs → Prop}
theorem wp_listRng1 {j : Int} : Wp (O.of (lrg1D (.int j))) PR ↔ (j ≤ 1000000 ∧ -1000000 ≤ j) ∧ PR (.own (rngL 0 j.toNat)) := by
  show Wp (O.of (if _ then _ else _)) PR ↔ _
  rw [wp_ofIte, wp_some]
theorem wp_listRng2 {i j : Int} : Wp (O.of (lrg2D (.int i) (.int j))) PR ↔ (i ≤ 1000000 ∧ -1000000 ≤ i ∧ j ≤ 1000000 ∧ -1000000 ≤ j) ∧ PR (.own (rngL i (j - i).toNat)) := by
  show Wp (O.of (if _ then _ else _)) PR ↔ _
  rw [wp_ofIte, wp_some]
theorem indexD_lst : indexD (.lst ds) [d] = if d.flt = true ∧ ds.all Dt.flt = true then (idxF d ds).map fun j => .val (.int (j : Nat)) else none := rfl
theorem revD_lst : revD (.lst ds) = some (.own ds.reverse) := rfl
theorem wp_strI {i : Int} : Wp (O.of (strD [.int i])) PR ↔ i.natAbs < 10 ^ 400 ∧ PR (.val (.str (toString i))) := by
  show Wp (O.of (if _ then _ else _)) PR ↔ _
  rw [wp_ofIte, wp_some]
theorem wp_repr : Wp (O.of (reprD [d])) PR ↔ (d.isRef = true ∧ rok d = true) ∧ PR (.val (.str (toP d).shown)) := by
  show Wp (O.of (if _ then _ else _)) PR ↔ _
  rw [wp_ofIte, wp_some]
theorem wp_sorted {ns : List Int} : Wp (O.of (sortedD [.lst (ns.map Dt.int)])) PR ↔ ns.length ≤ 100000 ∧ PR (.own ((srtI ns).map Dt.int)) := by
  rw [sortedD_lst, wp_ofIte, wp_some]
theorem wp_sortedSet {ns : List Int} : Wp (O.of (sortedSetD [.lst (ns.map Dt.int)])) PR ↔ ns.length ≤ 4000 ∧ PR (.own ((srtU ns).map Dt.int)) := by
  rw [sortedSetD_lst, wp_ofIte, wp_some]
end
theorem mutK_loc {i : Nat} {upf : List Dt → List Dt → Option (Dt × List Dt)} {es ds : List Dt} {τ : Sl} {PE : Rs × Sl → Prop} : Wp (mutK i upf es (some (.loc ds)) τ) PE ↔ optK (upf ds es) fun z => PE (.val z.1, τ.set i (.loc z.2)) := by
  show Wp (match upf ds es with | some (o, ds') => .ok (.val o, τ.set i (.loc ds')) | none => .bad) PE ↔ _
  cases upf ds es with
  | none => exact wp_bad
  | some z => exact wp_ok
theorem mutK_io {i : Nat} {upf : List Dt → List Dt → Option (Dt × List Dt)} {es ds : List Dt} {τ : Sl} {PE : Rs × Sl → Prop} : Wp (mutK i upf es (some (.io ds)) τ) PE ↔ optK (upf ds es) fun z => PE (.val z.1, τ.set i (.io z.2)) := by
  show Wp (match upf ds es with | some (o, ds') => .ok (.val o, τ.set i (.io ds')) | none => .bad) PE ↔ _
  cases upf ds es with
  | none => exact wp_bad
  | some z => exact wp_ok
theorem appU1 {ds : List Dt} {d : Dt} : appU ds [d] = if ds.length < 16777216 then some (.non, ds ++ [d]) else none := rfl
theorem extU1 {ds es : List Dt} : extU ds [.lst es] = if ds.length + es.length ≤ 16777216 then some (.non, ds ++ es) else none := rfl
theorem popU0 {ds : List Dt} : popU ds [] = (ds[ds.length - 1]?).map fun d => (d, ds.dropLast) := rfl
theorem popAtU1 {ds : List Dt} {i : Int} : popAtU ds [.int i] = if -1000000000 ≤ i ∧ i ≤ 1000000000 then (seqIndex? i ds.length).bind fun k => (ds[k]?).map fun d => (d, ds.eraseIdx k) else none := rfl
theorem optK_mapK {α β : Type} {z : Option β} {f : β → α} {Q : α → Prop} : optK (z.map f) Q ↔ optK z fun b => Q (f b) := optK_map
theorem optK_bindK {α β : Type} {z : Option β} {f : β → Option α} {Q : α → Prop} : optK (z.bind f) Q ↔ optK z fun b => optK (f b) Q := optK_bind
theorem len0 {α : Type} : ([] : List α).length = 0 ↔ True := by simp
theorem len1 {α : Type} {a : α} : ([a] : List α).length = 1 ↔ True := by simp
theorem len2 {α : Type} {a b : α} : ([a, b] : List α).length = 2 ↔ True := by simp
theorem len3 {α : Type} {a b c : α} : ([a, b, c] : List α).length = 3 ↔ True := by simp
theorem len4 {α : Type} {a b c d : α} : ([a, b, c, d] : List α).length = 4 ↔ True := by simp
/-- a tuple of few is laid -/
theorem few1 {α : Type} {a : α} : ([a] : List α).length ≤ 100000 ↔ True := by simp
theorem few2 {α : Type} {a b : α} : ([a, b] : List α).length ≤ 100000 ↔ True := by simp
theorem few3 {α : Type} {a b c : α} : ([a, b, c] : List α).length ≤ 100000 ↔ True := by simp
theorem few4 {α : Type} {a b c d : α} : ([a, b, c, d] : List α).length ≤ 100000 ↔ True := by simp
theorem few0 {α : Type} : ([] : List α).length ≤ 100000 ↔ True := by simp
theorem few5 {α : Type} {a b c d e : α} : ([a, b, c, d, e] : List α).length ≤ 100000 ↔ True := by simp
theorem few6 {α : Type} {a b c d e f : α} : ([a, b, c, d, e, f] : List α).length ≤ 100000 ↔ True := by simp
theorem atLast {α : Type} {xs : List α} {x : α} : L2.atI (xs ++ [x]) (-1) = some x := by
  unfold L2.atI
  have e : L2.ixN (xs ++ [x]).length (-1) = some xs.length := by
    unfold L2.ixN
    rw [if_neg (by omega), if_pos (by simp; omega)]
    simp; omega
  rw [e]; simp
theorem ixLast {α : Type} {xs : List α} {x : α} : L2.ixN (xs ++ [x]).length (-1) = some xs.length := by
  unfold L2.ixN
  rw [if_neg (by omega), if_pos (by simp; omega)]
  simp; omega
theorem setLast {α : Type} {xs : List α} {x y : α} : (xs ++ [x]).set xs.length y = xs ++ [y] := by simp
end FX

/-! FX28: a name's list handed on, the name not wanted any more. -/
namespace FX
open PySem L2 PyProof.Rows PySem.Spec
def eMov (i : Nat) : Sl → O (Rs × Sl) := fun ρ => match ρ[i]? with
  | some (.frz d) => .ok (.val d, ρ)
  | some (.loc ds) => .ok (.own ds, ρ.set i .any)
  | _ => .bad
section
variable {K : PySem.W.Frag} {mg : Str → Option Value} {σ : L2.St} {H : Hp} {W : WX}
theorem de_mov {i : Nat} {Q : VK} (h : dE K mg W (eMov i) σ H Q) : tVar i σ H Q := by
  obtain ⟨R, τ, θ, ρ, F, a, h⟩ := h
  cases e : ρ[i]? with
  | none => unfold eMov at h; rw [e] at h; exact h.elim
  | some s =>
    cases s with
    | frz d =>
      refine de_var (mg := mg) (W := W) ⟨R, τ, θ, ρ, F, a, ?_⟩
      unfold eMov at h
      unfold eVar
      rw [e] at h ⊢
      exact h
    | loc ds =>
      have hi : i < ρ.length := (List.getElem?_eq_some_iff.mp e).1
      have hi' : i < σ.length := by rw [a.len]; exact hi
      have hs2 : (ρ ++ θ)[i]? = some (.loc ds) := by rw [List.getElem?_append_left hi]; exact e
      have hv : σ[i]? = some σ[i] := List.getElem?_eq_getElem hi'
      have hv2 : (σ ++ τ)[i]? = some σ[i] := by rw [List.getElem?_append_left hi']; exact hv
      obtain ⟨p, xs, e1, _⟩ := a.rel.slot i _ _ hv2 hs2
      have hv3 : σ[i]? = some (some (.ref p)) := by rw [hv, e1]
      unfold eMov at h
      rw [e] at h
      refine ⟨.ref p, hv3, ?_⟩
      exact h (.ref p) F H (At.move (At.of_rel a.rel.pushA a.len) hv3 e) trivial
    | any => unfold eMov at h; rw [e] at h; exact h.elim
    | io ds => unfold eMov at h; rw [e] at h; exact h.elim
    | lock ds => unfold eMov at h; rw [e] at h; exact h.elim
end
theorem x_mov {X : Cx} {W : WX} {pos : Pos} (i : Nat) {x : Str} (hN : X.N[i]? = some x := by rfl) (hv : Vis X.env.scope x := by first | exact Or.inl rfl | exact Or.inr (Or.inl rfl) | exact Or.inr (Or.inr rfl)) (hd : (x == ("__debug__" : Str)) = false := by decide)
    (hcd : (x == ("__classdict__" : Str)) = false := by decide) : XE X W (.Name x pos) (eMov i) := PE.imp (pe_var hN hv hd hcd) fun _ _ _ => de_mov
def movK (i : Nat) (o : Option Slot) (ρ : Sl) : O (Rs × Sl) := match o with
  | some (.frz d) => .ok (.val d, ρ)
  | some (.loc ds) => .ok (.own ds, ρ.set i .any)
  | _ => .bad
section
variable {s0 : Slot} {ρ τ : Sl} {P : Rs × Sl → Prop} {i : Nat} {d : Dt} {ds : List Dt}
theorem w_mov : Wp (eMov i (s0 :: ρ)) P ↔ Wp (movK i (s0 :: ρ : Sl)[i]? (s0 :: ρ)) P := by
  have : eMov i (s0 :: ρ) = movK i (s0 :: ρ : Sl)[i]? (s0 :: ρ) := rfl
  rw [this]
theorem movK_frz : Wp (movK i (some (.frz d)) τ) P ↔ P (.val d, τ) := wp_ok
theorem movK_loc : Wp (movK i (some (.loc ds)) τ) P ↔ P (.own ds, τ.set i .any) := wp_ok
end
end FX

/-! FX29: loops over ranges and by places, the state told by a type. -/
namespace FX
open PySem L2 PyProof.Rows PySem.Spec
section
variable {ρ τ : Sl} {s : Sl → O (Fl × Sl)} {P : Fl × Sl → Prop} {b : Dt → Sl → Option Sl} {n : Nat}
theorem wp_rangeT {S : Type} {lo : Int} (sl : S → Sl) (I : Nat → S → Prop) (st : S) (h0 : I 0 st) (hend : ∀ st, I n st → P (.nx, sl st))
    (hstep : ∀ i st, i < n → I i st → optK (b (.int (lo + (i : Int))) (sl st)) fun ρ1 => Wp (s ρ1) (turnK (fun ρ2 => ∃ st2, ρ2 = sl st2 ∧ I (i + 1) st2) P)) : Wp (loopD b s (rngL lo n) (sl st)) P := by
  refine wp_loopR (fun i ρ => ∃ st, ρ = sl st ∧ I i st) ⟨st, rfl, h0⟩ (fun ρ ⟨st, e, h⟩ => e ▸ hend st h) fun i ρ hi ⟨st, e, h⟩ => ?_
  subst e
  have := hstep i st hi h
  cases e : b (.int (lo + (i : Int))) (sl st) with
  | none => rw [e] at this; exact this.elim
  | some ρ1 => rw [e] at this; exact ⟨ρ1, rfl, this⟩
/-- by the places of a typed list -/
theorem wp_placeT {α S : Type} (sl : S → Sl) (enc : α → Dt) (xs : List α) (I : Nat → S → Prop) (st : S) (h0 : I 0 st) (hend : ∀ st, I xs.length st → P (.nx, sl st))
    (hstep : ∀ i x st, xs[i]? = some x → I i st → optK (b (enc x) (sl st)) fun ρ1 => Wp (s ρ1) (turnK (fun ρ2 => ∃ st2, ρ2 = sl st2 ∧ I (i + 1) st2) P)) : Wp (loopD b s (xs.map enc) (sl st)) P := by
  refine wp_loopN (fun i ρ => ∃ st, ρ = sl st ∧ I i st) ⟨st, rfl, h0⟩ (fun ρ ⟨st, e, h⟩ => e ▸ hend st (by simpa using h)) fun i d ρ hd ⟨st, e, h⟩ => ?_
  subst e
  rw [List.getElem?_map] at hd
  obtain ⟨x, hx, rfl⟩ := Option.map_eq_some_iff.mp hd
  have := hstep i x st hx h
  cases e : b (enc x) (sl st) with
  | none => rw [e] at this; exact this.elim
  | some ρ1 => rw [e] at this; exact ⟨ρ1, rfl, this⟩
/-- nothing is carried from turn to turn -/
theorem wp_sameT {α : Type} (enc : α → Dt) (xs : List α) (h : P (.nx, ρ)) (hstep : ∀ x ∈ xs, optK (b (enc x) ρ) fun ρ1 => Wp (s ρ1) (turnK (fun ρ2 => ρ2 = ρ) P)) : Wp (loopD b s (xs.map enc) ρ) P := by
  refine wp_loopT (fun _ : Unit => ρ) enc xs (fun _ ys => ∀ y ∈ ys, y ∈ xs) () (fun _ h => h) (fun _ _ => h) fun _ x ys hm => ?_
  have := hstep x (hm x (by simp))
  cases e : b (enc x) ρ with
  | none => rw [e] at this; exact this.elim
  | some ρ1 =>
    rw [e] at this
    refine Wp.imp this fun q hq => ?_
    obtain ⟨fl, ρ2⟩ := q
    cases fl with
    | nx => exact ⟨(), hq, fun y hy => hm y (by simp [hy])⟩
    | ct => exact ⟨(), hq, fun y hy => hm y (by simp [hy])⟩
    | bk => exact hq
    | rt r => exact hq
theorem wp_sameR {lo : Int} (h : P (.nx, ρ)) (hstep : ∀ i : Nat, i < n → optK (b (.int (lo + (i : Int))) ρ) fun ρ1 => Wp (s ρ1) (turnK (fun ρ2 => ρ2 = ρ) P)) : Wp (loopD b s (rngL lo n) ρ) P := by
  rw [rngL_map]
  exact wp_sameT (fun i : Nat => .int (lo + (i : Int))) (List.range n) h fun i hi => hstep i (List.mem_range.mp hi)
end
/-- a comprehension over a range -/
theorem wp_compRT {ρ : Sl} {b : Dt → Sl → Option Sl} {c : Sl → O (Bool × Sl)} {el : Sl → O (Rs × Sl)} {ix : List Nat} {Q : List Dt × Sl → Prop} {lo : Int} {n : Nat} (h : Nat → Dt)
    (hstep : ∀ i : Nat, i < n → optK (b (.int (lo + (i : Int))) ρ) fun ρ1 => Wp (c ρ1) fun q => q.1 = true ∧ Wp (el q.2) fun q2 => optK (freeze1 q2.1 q2.2) fun z => z.1 = h i ∧ wipeS z.2 ix = ρ) (hQ : Q ((List.range n).map h, ρ)) : Wp (compD b c el ix (rngL lo n) ρ []) Q := by
  rw [rngL_map]
  exact wp_compT _ (List.range n) h (fun i hi => hstep i (List.mem_range.mp hi)) hQ
end FX

/-! FX30: comprehensions of two clauses. -/
namespace FX
open PySem L2 PyProof.Rows
def compD2 (b : Dt → Sl → Option Sl) (c : Sl → O (Bool × Sl)) (fi1 : Sl → O (List Dt × Sl)) (b1 : Dt → Sl → Option Sl) (c1 : Sl → O (Bool × Sl)) (el : Sl → O (Rs × Sl)) (ix ix1 : List Nat) : List Dt → Sl → List Dt → O (List Dt × Sl)
  | [], ρ, acc => .ok (acc, ρ)
  | d :: ds, ρ, acc => match b d ρ with
    | none => .bad
    | some ρ1 => (c ρ1).bind fun q => if q.1 = true then (fi1 q.2).bind fun p => if acc.length + p.1.length ≤ 16777216 then
          (compD b1 c1 el ix1 p.1 (wipeS p.2 ix1) acc).bind fun z => compD2 b c fi1 b1 c1 el ix ix1 ds (wipeS z.2 ix) z.1
        else .bad
      else compD2 b c fi1 b1 c1 el ix ix1 ds (wipeS q.2 ix) acc
def eComp2 (fi : Sl → O (List Dt × Sl)) (b : Dt → Sl → Option Sl) (c : Sl → O (Bool × Sl)) (fi1 : Sl → O (List Dt × Sl)) (b1 : Dt → Sl → Option Sl) (c1 : Sl → O (Bool × Sl)) (el : Sl → O (Rs × Sl)) (ix ix1 : List Nat) : Sl → O (Rs × Sl) := fun ρ => (fi ρ).bind fun q => if q.1.length ≤ 16777216 then
    (noExc (compD2 b c fi1 b1 c1 el ix ix1 q.1 (wipeS q.2 ix) [])).bind fun z => .ok (.own z.1, z.2)
  else .bad
section
variable {K : PySem.W.Frag} {mg : Str → Option Value} {W : WX} {R : RC} {σ : L2.St} {τ : List (Option V)} {θ ρ : Sl} {F : Hp} {H : Hp}
theorem de_comp2 {fi fi1 : Sl → O (List Dt × Sl)} {ix ix1 : List Nat} {g g1 : TG} {b b1 : Dt → Sl → Option Sl} {c c1 : Sl → O (Bool × Sl)} {el : Sl → O (Rs × Sl)} {Q : VK} (hg : TgOk K ix g b) (hg1 : TgOk K ix1 g1 b1) (hsub : ∀ j ∈ ix1, j ∈ ix) (h : dE K mg W (eComp2 fi b c fi1 b1 c1 el ix ix1) σ H Q) :
    tLc2 (dI K mg W fi) g (dT K mg W0 c) (dI K mg W0 fi1) g1 (dT K mg W0 c1) (dE K mg W0 el) ix ix1 σ H Q := by
  obtain ⟨R, τ, θ, ρ, F, a, h⟩ := h
  refine dI_bind (kB := kE K mg W R σ τ θ Q) a kE_x kE_b h fun ds ρ1 J tv ts F1 H1 hl a1 ok h1 => ?_
  simp only at h1
  by_cases hz : ds.length ≤ 16777216
  · rw [if_pos hz] at h1
    intro Da hD
    have tl := a.tlen
    have ht : (τ ++ tv).length = (θ ++ ts).length := by simp; omega
    refine ⟨fun i m H => ∃ ρ F acc, At K R σ ((τ ++ tv) ++ [some (.ref Da)]) ρ ((θ ++ ts) ++ [.loc acc]) F H ∧ wipeS ρ ix = ρ ∧ i ≤ ds.length ∧ m = ds.length - i ∧
      kE K mg W R σ τ θ Q ((noExc (compD2 b c fi1 b1 c1 el ix ix1 (ds.drop i) ρ acc)).bind fun z => .ok (.own z.1, z.2)), ⟨ds.length, wipeS ρ1 ix, F1, [], ?_, ?_, Nat.zero_le _, rfl, h1⟩, ?_⟩
    · exact At.of_rel ((a1.swap rfl fun _ _ => rfl).rel.allocM (xs := []) hD .nil (by simp)) (by rw [wipeS_len]; exact a1.len)
    · exact wipeS_idem _ _
    · rintro i m H2 ⟨ρ2, F2, acc, a2, hw, hi, rfl, h2⟩
      have aw : At K R (wipe σ ix) ((τ ++ tv) ++ [some (.ref Da)]) ρ2 ((θ ++ ts) ++ [.loc acc]) F2 H2 := by
        have := a2.swap (σ2 := wipe σ ix) (vs := ix) (wipe_length σ ix) fun j hj => wipe_out' hj
        rw [hw] at this; exact this
      obtain ⟨o1, o2⟩ := ok i R (wipe σ ix) τ [some (.ref Da)] ρ2 θ [.loc acc] F2 H2 aw tl rfl
      by_cases hlt : i < ds.length
      · have e : ds[i]? = some ds[i] := List.getElem?_eq_getElem hlt
        obtain ⟨go, yl⟩ := o1 _ e
        have ed : ds.drop i = ds[i] :: ds.drop (i + 1) := List.drop_eq_getElem_cons hlt
        rw [ed] at h2
        refine .inr ⟨go, fun H' => ∃ ρ F acc, At K R σ ((τ ++ tv) ++ [some (.ref Da)]) ρ ((θ ++ ts) ++ [.loc acc]) F H' ∧ wipeS ρ ix = ρ ∧
          kE K mg W R σ τ θ Q ((noExc (compD2 b c fi1 b1 c1 el ix ix1 (ds.drop (i + 1)) ρ acc)).bind fun z => .ok (.own z.1, z.2)), ?_, fun x H3 y => ?_⟩
        · rintro H' ⟨ρ', F', acc', a', w', k'⟩
          exact ⟨ds.length - (i + 1), by omega, ρ', F', acc', a', w', by omega, rfl, k'⟩
        · obtain ⟨F3, a3⟩ := yl x H3 y
          unfold compD2 at h2
          cases eb : b ds[i] ρ2 with
          | none => rw [eb] at h2; exact h2.elim
          | some ρ3 =>
            rw [eb] at h2
            simp only at h2
            refine hg R (wipe σ ix) ((τ ++ tv) ++ [some (.ref Da)]) ρ2 ((θ ++ ts) ++ [.loc acc]) F3 H3 x _ ρ3 _ (a3.drop (t2 := [some x]) (s2 := [.frz ds[i]]) rfl) a3.pushed eb fun σ4 a4 fr4 => ?_
            have weq : wipe σ4 ix = wipe σ ix := by
              rw [eq_of_out fr4.1 fr4.2]
              exact eq_of_out (wipe_length σ ix) fun j hj => wipe_out' hj
            have l4 : σ4.length = σ.length := fr4.1.trans (wipe_length σ ix)
            have out4 : ∀ j, j ∉ ix → σ[j]? = σ4[j]? := fun j hj => by rw [fr4.2 j hj, wipe_out' hj]
            refine ⟨weq, ?_⟩
            let kB : O (List Dt × Sl) → Prop := fun o => kE K mg W R σ τ θ Q ((noExc o).bind fun z => .ok (.own z.1, z.2))
            refine dT_bind (W := W0) (kB := kB) a4.nil rfl (fun _ _ z => False.elim z) (fun z => z) h2 fun cb ρ5 F5 H5 a5 h5 => ?_
            have a5 := a5.unnil
            cases cb with
            | false => exact iteF ⟨wipeS ρ5 ix, F5, acc, a5.swap l4.symm out4, wipeS_idem _ _, h5⟩
            | true =>
              refine iteT ?_
              simp only [if_true] at h5
              refine dI_bind (W := W0) (kB := kB) a5 (fun _ _ z => False.elim z) (fun z => z) h5 fun ds1 ρ6 J1 tv1 ts1 F6 H6 hl1 a6 ok1 h6 => ?_
              simp only at h6
              by_cases hz1 : acc.length + ds1.length ≤ 16777216
              · rw [if_pos hz1] at h6
                have tl5 := a5.tlen
                refine ⟨fun j m H => ∃ ρ F acc1, At K R σ4 (((τ ++ tv) ++ [some (.ref Da)]) ++ tv1) ρ (((θ ++ ts) ++ [.loc acc1]) ++ ts1) F H ∧ wipeS ρ ix1 = ρ ∧ j ≤ ds1.length ∧ m = ds1.length - j ∧ acc1.length ≤ acc.length + j ∧
                  kB ((compD b1 c1 el ix1 (ds1.drop j) ρ acc1).bind fun z => compD2 b c fi1 b1 c1 el ix ix1 (ds.drop (i + 1)) (wipeS z.2 ix) z.1), ⟨ds1.length, wipeS ρ6 ix1, F6, acc, a6.swap rfl fun _ _ => rfl, wipeS_idem _ _, Nat.zero_le _, rfl, Nat.le_refl _, h6⟩, ?_⟩
                rintro j m H7 ⟨ρ7, F7, acc1, a7, hw7, hj, rfl, hacc, h7⟩
                have aw7 : At K R (wipe σ4 ix1) (((τ ++ tv) ++ [some (.ref Da)]) ++ tv1) ρ7 (((θ ++ ts) ++ [.loc acc1]) ++ ts1) F7 H7 := by
                  have := a7.swap (σ2 := wipe σ4 ix1) (vs := ix1) (wipe_length σ4 ix1) fun j hj => wipe_out' hj
                  rw [hw7] at this; exact this
                have tl7 : ((τ ++ tv) ++ [some (V.ref Da)]).length = ((θ ++ ts) ++ [Slot.loc acc1]).length := by simp at ht ⊢; omega
                obtain ⟨p1, p2⟩ := ok1 j R (wipe σ4 ix1) ((τ ++ tv) ++ [some (.ref Da)]) [] ρ7 ((θ ++ ts) ++ [.loc acc1]) [] F7 H7 aw7.nil tl7 rfl
                by_cases hlt1 : j < ds1.length
                · have e1 : ds1[j]? = some ds1[j] := List.getElem?_eq_getElem hlt1
                  obtain ⟨go1, yl1⟩ := p1 _ e1
                  have ed1 : ds1.drop j = ds1[j] :: ds1.drop (j + 1) := List.drop_eq_getElem_cons hlt1
                  rw [ed1] at h7
                  refine .inr ⟨go1, fun H' => ∃ ρ F acc1, At K R σ4 (((τ ++ tv) ++ [some (.ref Da)]) ++ tv1) ρ (((θ ++ ts) ++ [.loc acc1]) ++ ts1) F H' ∧ wipeS ρ ix1 = ρ ∧ acc1.length ≤ acc.length + (j + 1) ∧
                    kB ((compD b1 c1 el ix1 (ds1.drop (j + 1)) ρ acc1).bind fun z => compD2 b c fi1 b1 c1 el ix ix1 (ds.drop (i + 1)) (wipeS z.2 ix) z.1), ?_, fun x1 H8 y1 => ?_⟩
                  · rintro H' ⟨ρ', F', acc', a', w', l', k'⟩
                    exact ⟨ds1.length - (j + 1), by omega, ρ', F', acc', a', w', by omega, rfl, l', k'⟩
                  · obtain ⟨F8, a8⟩ := yl1 x1 H8 y1
                    unfold compD at h7
                    cases eb1 : b1 ds1[j] ρ7 with
                    | none => rw [eb1] at h7; exact h7.elim
                    | some ρ8 =>
                      rw [eb1] at h7
                      simp only at h7
                      let kB1 : O (List Dt × Sl) → Prop := fun o => kB (o.bind fun z => compD2 b c fi1 b1 c1 el ix ix1 (ds.drop (i + 1)) (wipeS z.2 ix) z.1)
                      have a8' : At K R (wipe σ4 ix1) ((((τ ++ tv) ++ [some (.ref Da)]) ++ tv1) ++ [some x1]) ρ7 ((((θ ++ ts) ++ [.loc acc1]) ++ ts1) ++ [.frz ds1[j]]) F8 H8 := by
                        simpa using a8
                      refine hg1 R (wipe σ4 ix1) _ ρ7 _ F8 H8 x1 _ ρ8 _ (a8'.drop (t2 := [some x1]) (s2 := [.frz ds1[j]]) rfl) a8'.pushed eb1 fun σ9 a9 fr9 => ?_
                      have weq9 : wipe σ9 ix1 = wipe σ4 ix1 := by
                        rw [eq_of_out fr9.1 fr9.2]
                        exact eq_of_out (wipe_length σ4 ix1) fun j hj => wipe_out' hj
                      have l9 : σ9.length = σ4.length := fr9.1.trans (wipe_length σ4 ix1)
                      have out9 : ∀ j, j ∉ ix1 → σ4[j]? = σ9[j]? := fun j hj => by rw [fr9.2 j hj, wipe_out' hj]
                      refine ⟨weq9, ?_⟩
                      refine dT_bind (W := W0) (kB := kB1) a9.nil rfl (fun _ _ z => False.elim z) (fun z => z) h7 fun cb1 ρ10 F10 H10 a10 h10 => ?_
                      have a10 := a10.unnil
                      cases cb1 with
                      | false => exact iteF ⟨wipeS ρ10 ix1, F10, acc1, a10.swap l9.symm out9, wipeS_idem _ _, by omega, h10⟩
                      | true =>
                        refine iteT ?_
                        simp only [if_true] at h10
                        refine dE_bind (W := W0) (kB := kB1) a10.nil rfl (fun _ _ z => False.elim z) (fun z => z) h10 fun r ρ11 v F11 H11 a11 hr11 h11 => ?_
                        simp only [List.nil_append] at a11
                        simp only at h11
                        cases ef : freeze1 r ρ11 with
                        | none => rw [ef] at h11; exact h11.elim
                        | some q =>
                          obtain ⟨e12, ρ12⟩ := q
                          rw [ef] at h11
                          obtain ⟨F12, ex12, a12, rp12⟩ := freeze1_ok a11 hr11 ef
                          have a13 := a12.drop (t2 := [some v]) (s2 := [.frz e12]) rfl
                          have l13 := a13.len
                          have iv : (σ9 ++ (((τ ++ tv) ++ [some (V.ref Da)]) ++ tv1))[σ9.length + (τ ++ tv).length]? = some (some (.ref Da)) := by
                            rw [List.getElem?_append_right (by simp), List.getElem?_append_left (by simp), List.getElem?_append_right (by simp)]; simp
                          have is : (ρ12 ++ (((θ ++ ts) ++ [Slot.loc acc1]) ++ ts1))[σ9.length + (τ ++ tv).length]? = some (.loc acc1) := by
                            rw [List.getElem?_append_right (by omega), List.getElem?_append_left (by simp at ht ⊢; omega), List.getElem?_append_right (by simp at ht ⊢; omega)]
                            have : σ9.length + (τ ++ tv).length - ρ12.length - (θ ++ ts).length = 0 := by simp at ht ⊢; omega
                            rw [this]; rfl
                          obtain ⟨p, xs, g1, g2, g3, g4, g5, g6⟩ := a13.rel.slot _ _ _ iv is
                          cases g1
                          have hlen : xs.length < sizeLine := by rw [g6.length, sizeLine_eq]; omega
                          refine ⟨xs, g4, hlen, wipeS ρ12 ix1, F12, acc1 ++ [e12], ?_, wipeS_idem _ _, by simp; omega, h11⟩
                          have w := a13.rel.write (s' := .loc (acc1 ++ [e12])) iv is rfl (g6.append (.one rp12)) (by simp; omega) (.inl ⟨_, rfl, rfl⟩)
                          have es : (ρ12 ++ (((θ ++ ts) ++ [Slot.loc acc1]) ++ ts1)).set (σ9.length + (τ ++ tv).length) (.loc (acc1 ++ [e12])) = ρ12 ++ (((θ ++ ts) ++ [.loc (acc1 ++ [e12])]) ++ ts1) := by
                            rw [List.set_append_right _ _ (by omega), List.set_append_left _ _ (by simp at ht ⊢; omega), List.set_append_right _ _ (by simp at ht ⊢; omega)]
                            have : σ9.length + (τ ++ tv).length - ρ12.length - (θ ++ ts).length = 0 := by simp at ht ⊢; omega
                            rw [this]; rfl
                          rw [es] at w
                          exact (⟨w, l13⟩ : At K R σ9 (((τ ++ tv) ++ [some (V.ref Da)]) ++ tv1) ρ12 (((θ ++ ts) ++ [.loc (acc1 ++ [e12])]) ++ ts1) F12 (upd H11 Da (.lst (xs ++ [v])))).swap l9.symm out9
                · have e2 : ds1.drop j = [] := List.drop_eq_nil_of_le (by omega)
                  rw [e2] at h7
                  refine .inl ⟨p2 (by omega), wipeS ρ7 ix, F7, acc1, ?_, wipeS_idem _ _, h7⟩
                  exact (a7.drop hl1).swap l4.symm out4
              · rw [if_neg hz1] at h6; exact h6.elim
      · have e : ds.drop i = [] := List.drop_eq_nil_of_le (by omega)
        rw [e] at h2
        refine .inl ⟨o2 (by omega), ?_⟩
        exact h2 (.ref Da) F2 H2 (a2.mid hl rfl) trivial
  · rw [if_neg hz] at h1; exact h1.elim
end
theorem TgOk.more {K : PySem.W.Frag} {ix jx : List Nat} {g : TG} {b : Dt → Sl → Option Sl} (h : TgOk K ix g b) (hs : ∀ j ∈ ix, j ∈ jx) : TgOk K jx g b := by
  intro R σ τ ρ θ F H v d ρ' Q a h1 h2 k
  exact h R σ τ ρ θ F H v d ρ' Q a h1 h2 fun σ2 a2 fr => k σ2 a2 ⟨fr.1, fun j hj => fr.2 j fun e => hj (hs j e)⟩
theorem XG.more {X : Cx} {tg : Expr} {ix jx : List Nat} {g : TG} {b : Dt → Sl → Option Sl} (h : XG X tg ix g b) (hs : ∀ j ∈ ix, j ∈ jx := by decide) : XG X tg jx g b := ⟨h.pg, h.ok.more hs⟩
structure XC2 (X : Cx) (tg tg1 iter1 : Expr) (ifs ifs1 : List Expr) (elt : Expr) (scope : Scope) (ix ix1 : List Nat) (g g1 : TG) (b : Dt → Sl → Option Sl) (c : Sl → O (Bool × Sl)) (fi1 : Sl → O (List Dt × Sl)) (b1 : Dt → Sl → Option Sl) (c1 : Sl → O (Bool × Sl)) (el : Sl → O (Rs × Sl)) : Prop where
  hg : ∀ (s : Shared) (H : Hp) (C : Addr) (cl : List (Str × Addr)) (fp : List Addr), XG (X.blk s H scope (compEnvC scope cl C X.env) fp) tg ix g b
  hc : ∀ (s : Shared) (H : Hp) (C : Addr) (cl : List (Str × Addr)) (fp : List Addr), XTs (X.blk s H scope (compEnvC scope cl C X.env) fp) W0 ifs c
  hi1 : ∀ (s : Shared) (H : Hp) (C : Addr) (cl : List (Str × Addr)) (fp : List Addr), XI (X.blk s H scope (compEnvC scope cl C X.env) fp) W0 tg1 iter1 fi1
  hg1 : ∀ (s : Shared) (H : Hp) (C : Addr) (cl : List (Str × Addr)) (fp : List Addr), XG (X.blk s H scope (compEnvC scope cl C X.env) fp) tg1 ix1 g1 b1
  hc1 : ∀ (s : Shared) (H : Hp) (C : Addr) (cl : List (Str × Addr)) (fp : List Addr), XTs (X.blk s H scope (compEnvC scope cl C X.env) fp) W0 ifs1 c1
  he : ∀ (s : Shared) (H : Hp) (C : Addr) (cl : List (Str × Addr)) (fp : List Addr), XE (X.blk s H scope (compEnvC scope cl C X.env) fp) W0 elt el
section
variable {X : Cx} {W : WX} {a tg iter tg1 iter1 : Expr} {ifs ifs1 : List Expr} {pos p1 p2 : Pos} {fi fi1 : Sl → O (List Dt × Sl)} {t c1 : Sl → O (Bool × Sl)} {f : Sl → O (Rs × Sl)}
theorem x_comp2 {scope : Scope} {own : List (Str × Nat)} {ix1 : List Nat} {g g1 : TG} {b b1 : Dt → Sl → Option Sl} (hN : X.N.Nodup) (hi : XI X W tg iter fi) (ok : BlkOk X.N X.env.scope scope own)
    (h : XC2 X tg tg1 iter1 ifs ifs1 a scope (own.map (·.2)) ix1 g g1 b t fi1 b1 c1 f) (hv : ∀ j ∈ ix1, j ∈ own.map (·.2) := by decide) (hc : X.calm = true := by rfl) (hs : ∀ x, foldedSetIterable iter X.env x = pure x := by intro _; rfl) (hs1 : ∀ env x, foldedSetIterable iter1 env x = pure x := by intro _ _; rfl) :
    XE X W (.ListComp a [⟨tg, iter, ifs, 0⟩, ⟨tg1, iter1, ifs1, 0⟩] scope pos) (eComp2 fi b t fi1 b1 c1 f (own.map (·.2)) ix1) :=
  PE.imp (pe_lc2 hc hN hi ok hv (fun s H C cl fp => (h.hg s H C cl fp).pg) h.hc h.hi1 (fun s H C cl fp => (h.hg1 s H C cl fp).pg) h.hc1 h.he hs hs1) fun _ _ _ => de_comp2 (h.hg X.s_0 (fun _ => none) 0 [] []).ok (h.hg1 X.s_0 (fun _ => none) 0 [] []).ok hv
theorem s_setLc2 {i : Nat} {y : Str} {scope : Scope} {own : List (Str × Nat)} {ix1 : List Nat} {g g1 : TG} {b b1 : Dt → Sl → Option Sl} (hN : X.N.Nodup) (hsw : swapsWith (.ListComp a [⟨tg, iter, ifs, 0⟩, ⟨tg1, iter1, ifs1, 0⟩] scope p1) (some (.Name y p2)) pos.line X.env = pure true)
    (hi : XI X W tg iter fi) (ok : BlkOk X.N X.env.scope scope own) (h : XC2 X tg tg1 iter1 ifs ifs1 a scope (own.map (·.2)) ix1 g g1 b t fi1 b1 c1 f) (hv : ∀ j ∈ ix1, j ∈ own.map (·.2) := by decide) (hy : X.N[i]? = some y := by rfl) (hyl : X.env.scope.names.lookup y = some .local := by rfl) (hc : X.calm = true := by rfl) (hs : ∀ x, foldedSetIterable iter X.env x = pure x := by intro _; rfl) (hs1 : ∀ env x, foldedSetIterable iter1 env x = pure x := by intro _ _; rfl) :
    XS X W (.Assign [.Name y p2] (.ListComp a [⟨tg, iter, ifs, 0⟩, ⟨tg1, iter1, ifs1, 0⟩] scope p1) pos) (sSet i (eComp2 fi b t fi1 b1 c1 f (own.map (·.2)) ix1)) :=
  PS.imp (ps_setLc2 hc hN hy hyl hsw hi ok hv (fun s H C cl fp => (h.hg s H C cl fp).pg) h.hc h.hi1 (fun s H C cl fp => (h.hg1 s H C cl fp).pg) h.hc1 h.he hs hs1) fun D σ H h' => by
    have := ds_set (i := i) h'
    exact de_comp2 (h.hg X.s_0 (fun _ => none) 0 [] []).ok (h.hg1 X.s_0 (fun _ => none) 0 [] []).ok hv this
/-! running them -/
end
section
variable {s0 : Slot} {ρ : Sl} {fi fi1 : Sl → O (List Dt × Sl)} {b b1 : Dt → Sl → Option Sl} {c c1 : Sl → O (Bool × Sl)} {el : Sl → O (Rs × Sl)} {ix ix1 : List Nat}
theorem w_comp2 {Q : Rs × Sl → Prop} : Wp (eComp2 fi b c fi1 b1 c1 el ix ix1 (s0 :: ρ)) Q ↔ Wp (fi (s0 :: ρ)) fun q => q.1.length ≤ 16777216 ∧ Wp (compD2 b c fi1 b1 c1 el ix ix1 q.1 (wipeS q.2 ix) []) fun z => Q (.own z.1, z.2) := by
  unfold eComp2
  simp only [wp_bind, wp_iteBad, wp_noExc, wp_ok]
/-- every pair is taken -/
theorem wp_comp2T {α β : Type} {Q : List Dt × Sl → Prop} (enc : α → Dt) (xs : List α) (enc1 : β → Dt) (ys : α → List β) (h : α → β → Dt)
    (hstep : ∀ x, x ∈ xs → optK (b (enc x) ρ) fun ρ1 => Wp (c ρ1) fun q => q.1 = true ∧ Wp (fi1 q.2) fun p => p.1 = (ys x).map enc1 ∧ ∀ y, y ∈ ys x → optK (b1 (enc1 y) (wipeS p.2 ix1)) fun ρ2 => Wp (c1 ρ2) fun q2 => q2.1 = true ∧ Wp (el q2.2) fun q3 => optK (freeze1 q3.1 q3.2) fun z => z.1 = h x y ∧ wipeS z.2 ix1 = wipeS p.2 ix1)
    (hw : ∀ x, x ∈ xs → ∀ ρ1 q p, b (enc x) ρ = some ρ1 → c ρ1 = .ok q → fi1 q.2 = .ok p → wipeS (wipeS p.2 ix1) ix = ρ)
    (hlen : (xs.flatMap ys).length ≤ 16777216)
    (hQ : Q (xs.flatMap fun x => (ys x).map (h x), ρ)) : Wp (compD2 b c fi1 b1 c1 el ix ix1 (xs.map enc) ρ []) Q := by
  suffices H : ∀ (zs : List α) (acc : List Dt), (∀ y ∈ zs, y ∈ xs) → acc.length + (zs.flatMap ys).length ≤ 16777216 → Q (acc ++ zs.flatMap fun x => (ys x).map (h x), ρ) → Wp (compD2 b c fi1 b1 c1 el ix ix1 (zs.map enc) ρ acc) Q from H xs [] (fun _ h => h) (by simpa using hlen) (by simpa using hQ)
  intro zs
  induction zs with
  | nil => intro acc _ _ h; exact wp_ok.mpr (by simpa using h)
  | cons x zs ih =>
    intro acc hm hl hq
    have hs := hstep x (hm x (by simp))
    have hwx := hw x (hm x (by simp))
    rw [List.map_cons]
    unfold compD2
    cases eb : b (enc x) ρ with
    | none => rw [eb] at hs; exact hs.elim
    | some ρ1 =>
      rw [eb] at hs
      simp only [optK_some] at hs
      obtain ⟨q, ec, e1, p, ef, e2, e3⟩ := hs
      have hwp := hwx ρ1 q p eb ec ef
      simp only [wp_bind]
      refine ⟨q, ec, ?_⟩
      dsimp only
      rw [if_pos e1, wp_bind]
      refine ⟨p, ef, ?_⟩
      dsimp only
      simp only [List.flatMap_cons, List.length_append] at hl
      rw [e2, if_pos (by rw [List.length_map]; omega), wp_bind]
      have key : ∀ (us : List β) (acc : List Dt), (∀ y ∈ us, y ∈ ys x) → Wp (compD b1 c1 el ix1 (us.map enc1) (wipeS p.2 ix1) acc) fun z => z.1 = acc ++ us.map (h x) ∧ z.2 = wipeS p.2 ix1 := by
        intro us
        induction us with
        | nil => intro acc _; exact wp_ok.mpr ⟨by simp, rfl⟩
        | cons y us ih2 =>
          intro acc hm2
          have hy := e3 y (hm2 y (by simp))
          rw [List.map_cons]
          unfold compD
          cases eb1 : b1 (enc1 y) (wipeS p.2 ix1) with
          | none => rw [eb1] at hy; exact hy.elim
          | some ρ2 =>
            rw [eb1] at hy
            simp only [optK_some] at hy
            obtain ⟨q2, ec2, f1, q3, el3, f2⟩ := hy
            simp only [wp_bind]
            refine ⟨q2, ec2, ?_⟩
            dsimp only
            rw [if_pos f1, wp_bind]
            refine ⟨q3, el3, ?_⟩
            dsimp only
            cases ef3 : freeze1 q3.1 q3.2 with
            | none => rw [ef3] at f2; exact f2.elim
            | some z =>
              rw [ef3] at f2
              obtain ⟨f3, f4⟩ := f2
              simp only
              rw [f4]
              refine Wp.imp (ih2 (acc ++ [z.1]) fun u hu => hm2 u (by simp [hu])) fun w hw2 => ?_
              rw [f3] at hw2
              exact ⟨by rw [hw2.1]; simp, hw2.2⟩
      refine Wp.imp (key (ys x) acc fun _ hh => hh) fun z hz => ?_
      rw [hz.1, hz.2, hwp]
      refine ih (acc ++ (ys x).map (h x)) (fun y hy => hm y (by simp [hy])) (by rw [List.length_append, List.length_map]; omega) ?_
      simpa [List.flatMap_cons, List.append_assoc] using hq
end
end FX

/-! FX31: a comprehension that changes more than its own names. -/
namespace FX
open PySem L2 PyProof.Rows
theorem wp_chzJ {α : Type} {c : Bool} {a b : O α} {P : α → Prop} {v : α} (hb : Wp b fun q => q = v) (ha : Wp a fun q => q = v) (h : P v) : Wp (chz c a b) P := by
  cases c
  · exact Wp.imp hb fun q e => e ▸ h
  · exact Wp.imp ha fun q e => e ▸ h
theorem wp_chzE {α : Type} {c : Bool} {a b : O α} {P : α → Prop} (M : α → Prop) (ha : c = true → Wp a M) (hb : c = false → Wp b M) (h : ∀ q, M q → P q) : Wp (chz c a b) P := by
  cases c
  · exact Wp.imp (hb rfl) h
  · exact Wp.imp (ha rfl) h
theorem wp_compS {α β S : Type} {b : Dt → Sl → Option Sl} {c : Sl → O (Bool × Sl)} {el : Sl → O (Rs × Sl)} {ix : List Nat} {Q : List Dt × Sl → Prop} (sl : S → Sl) (enc : α → Dt) (out : β → Dt) (xs : List α) (I : S → List β → List α → Prop) (st : S)
    (h0 : I st [] xs) (hend : ∀ st ys, I st ys [] → Q (ys.map out, sl st))
    (hstep : ∀ st ys x rest, I st ys (x :: rest) → optK (b (enc x) (sl st)) fun ρ1 => Wp (c ρ1) fun q => q.1 = true ∧ Wp (el q.2) fun q2 => optK (freeze1 q2.1 q2.2) fun z => ∃ st2 y, z.1 = out y ∧ wipeS z.2 ix = sl st2 ∧ I st2 (ys ++ [y]) rest) :
    Wp (compD b c el ix (xs.map enc) (sl st) []) Q := by
  suffices H : ∀ (xs : List α) (st : S) (ys : List β), I st ys xs → Wp (compD b c el ix (xs.map enc) (sl st) (ys.map out)) Q from H xs st [] h0
  intro xs
  induction xs with
  | nil => intro st ys h; exact wp_ok.mpr (hend st ys h)
  | cons x xs ih =>
    intro st ys h
    have hs := hstep st ys x xs h
    rw [List.map_cons]
    unfold compD
    cases eb : b (enc x) (sl st) with
    | none => rw [eb] at hs; exact hs.elim
    | some ρ1 =>
      rw [eb] at hs
      simp only [optK_some] at hs
      obtain ⟨q, ec, e1, q2, el2, e2⟩ := hs
      simp only [wp_bind]
      refine ⟨q, ec, ?_⟩
      dsimp only
      rw [if_pos e1, wp_bind]
      refine ⟨q2, el2, ?_⟩
      dsimp only
      cases ef : freeze1 q2.1 q2.2 with
      | none => rw [ef] at e2; exact e2.elim
      | some z =>
        rw [ef] at e2
        obtain ⟨st2, y, f1, f2, f3⟩ := e2
        dsimp only
        rw [f2, f1]
        have := ih st2 (ys ++ [y]) f3
        rw [List.map_append] at this
        exact this
end FX

/-! FX32: a tuple compared with the empty one. -/
namespace FX
open PySem L2 PyProof.Rows
def rEqT0 (K : PySem.W.Frag) : R2 := fun x y H Q => ∃ a b vs, x = .ref a ∧ y = .ref b ∧ SqT K H a vs ∧ SqT K H b [] ∧ Q (.bl vs.isEmpty) H
theorem op_eqT0 {X : Cx} (hu : X.A.units + 64 < cLine) : OpR X (compareOp .Eq) (rEqT0 X.K) := by
  intro pins s σ H x y v u Q I rx ry h
  obtain ⟨a, b, vs, rfl, rfl, h1, h2, q⟩ := h
  cases rx
  cases ry
  obtain ⟨its, rv, tt, _⟩ := I.tuple h1
  obtain ⟨its2, rv2, tt2, _⟩ := I.tuple h2
  cases rv2
  have e : (((List.range (min its.toArray.size ([] : List Value).toArray.size)).all fun _ => true) && its.toArray.size == ([] : List Value).toArray.size) = vs.isEmpty := by
    have := rv.length
    cases vs <;> cases its <;> simp at this ⊢
  refine SeqAt.eq_tupleAt (e := fun _ => true) tt tt2 (by omega) (fun j _ h2 => absurd h2 (by simp)) ?_
  rw [e]
  exact ⟨.bl _, H, I, rfl, q⟩
def eqT0D : Dt → Dt → Option Rs
  | .tup ds, .tup [] => some (.val (.bl ds.isEmpty))
  | _, _ => none
theorem v_eqT0 {K : PySem.W.Frag} : VOp2 K (rEqT0 K) eqT0D := by
  intro R vs ss F H x y d1 d2 out Q rel v1 v2 e k
  unfold eqT0D at e
  split at e
  · rename_i ds
    cases e
    have e1 := v1.full rel.fz
    have e2 := v2.full rel.fz
    cases e1 with
    | tup h z q =>
      rename_i a xs
      cases e2 with
      | tup h2 z2 q2 =>
        cases q2
        refine ⟨_, _, xs, rfl, rfl, h, h2, ?_⟩
        have : xs.isEmpty = ds.isEmpty := by cases q <;> rfl
        rw [this]
        exact endF rel k (.bl _)
  · cases e
section
variable {X : Cx} {W : WX} {a b : Expr} {pos : Pos} {f g : Sl → O (Rs × Sl)}
theorem x_eqT0 (hu : X.A.units + 64 < cLine) (ha : XE X W a f) (hb : XE X W b g) : XE X W (.Compare a [.Eq] [b] pos) (eBin eqT0D f g) := x_cmp (op_eqT0 hu) v_eqT0 ha hb (nomark _)
theorem t_eqT0 (hu : X.A.units + 64 < cLine) (ha : XE X W a f) (hb : XE X W b g) : XT X W (.Compare a [.Eq] [b] pos) (tstB (eBin eqT0D f g)) := t_cmp (op_eqT0 hu) v_eqT0 ha hb (nomark _)
end
theorem eqT0D_tup {ds : List Dt} : eqT0D (.tup ds) (.tup []) = some (.val (.bl ds.isEmpty)) := rfl
def Dt.kd : Dt → String
  | .non => "n" | .bl _ => "b" | .int _ => "i" | .str _ => "s" | .tup _ => "t" | .lst _ => "l" | .scr _ => "l" | .emp => "d"
def Dt.is_int : Dt → Bool
  | .int _ => true
  | .bl _ => true
  | _ => false
theorem isi_intA {d : Dt} : isiD "int" d = some (.val (.bl d.is_int)) := by
  have kNoneType : kitB "NoneType" "int" = some false := by decide +kernel
  have kbool : kitB "bool" "int" = some true := by decide +kernel
  have kdict : kitB "dict" "int" = some false := by decide +kernel
  have kint : kitB "int" "int" = some true := by decide +kernel
  have klist : kitB "list" "int" = some false := by decide +kernel
  have kstr : kitB "str" "int" = some false := by decide +kernel
  have ktuple : kitB "tuple" "int" = some false := by decide +kernel
  cases d
  · show (kitB "NoneType" "int").map _ = _
    rw [kNoneType]; rfl
  · show (kitB "bool" "int").map _ = _
    rw [kbool]; rfl
  · show (kitB "int" "int").map _ = _
    rw [kint]; rfl
  · show (kitB "str" "int").map _ = _
    rw [kstr]; rfl
  · show (kitB "tuple" "int").map _ = _
    rw [ktuple]; rfl
  · show (kitB "list" "int").map _ = _
    rw [klist]; rfl
  · show (kitB "list" "int").map _ = _
    rw [klist]; rfl
  · show (kitB "dict" "int").map _ = _
    rw [kdict]; rfl
def Dt.is_bool : Dt → Bool
  | .bl _ => true
  | _ => false
theorem isi_boolA {d : Dt} : isiD "bool" d = some (.val (.bl d.is_bool)) := by
  have kNoneType : kitB "NoneType" "bool" = some false := by decide +kernel
  have kbool : kitB "bool" "bool" = some true := by decide +kernel
  have kdict : kitB "dict" "bool" = some false := by decide +kernel
  have kint : kitB "int" "bool" = some false := by decide +kernel
  have klist : kitB "list" "bool" = some false := by decide +kernel
  have kstr : kitB "str" "bool" = some false := by decide +kernel
  have ktuple : kitB "tuple" "bool" = some false := by decide +kernel
  cases d
  · show (kitB "NoneType" "bool").map _ = _
    rw [kNoneType]; rfl
  · show (kitB "bool" "bool").map _ = _
    rw [kbool]; rfl
  · show (kitB "int" "bool").map _ = _
    rw [kint]; rfl
  · show (kitB "str" "bool").map _ = _
    rw [kstr]; rfl
  · show (kitB "tuple" "bool").map _ = _
    rw [ktuple]; rfl
  · show (kitB "list" "bool").map _ = _
    rw [klist]; rfl
  · show (kitB "list" "bool").map _ = _
    rw [klist]; rfl
  · show (kitB "dict" "bool").map _ = _
    rw [kdict]; rfl
def Dt.is_str : Dt → Bool
  | .str _ => true
  | _ => false
theorem isi_strA {d : Dt} : isiD "str" d = some (.val (.bl d.is_str)) := by
  have kNoneType : kitB "NoneType" "str" = some false := by decide +kernel
  have kbool : kitB "bool" "str" = some false := by decide +kernel
  have kdict : kitB "dict" "str" = some false := by decide +kernel
  have kint : kitB "int" "str" = some false := by decide +kernel
  have klist : kitB "list" "str" = some false := by decide +kernel
  have kstr : kitB "str" "str" = some true := by decide +kernel
  have ktuple : kitB "tuple" "str" = some false := by decide +kernel
  cases d
  · show (kitB "NoneType" "str").map _ = _
    rw [kNoneType]; rfl
  · show (kitB "bool" "str").map _ = _
    rw [kbool]; rfl
  · show (kitB "int" "str").map _ = _
    rw [kint]; rfl
  · show (kitB "str" "str").map _ = _
    rw [kstr]; rfl
  · show (kitB "tuple" "str").map _ = _
    rw [ktuple]; rfl
  · show (kitB "list" "str").map _ = _
    rw [klist]; rfl
  · show (kitB "list" "str").map _ = _
    rw [klist]; rfl
  · show (kitB "dict" "str").map _ = _
    rw [kdict]; rfl
def Dt.is_tuple : Dt → Bool
  | .tup _ => true
  | _ => false
theorem isi_tupleA {d : Dt} : isiD "tuple" d = some (.val (.bl d.is_tuple)) := by
  have kNoneType : kitB "NoneType" "tuple" = some false := by decide +kernel
  have kbool : kitB "bool" "tuple" = some false := by decide +kernel
  have kdict : kitB "dict" "tuple" = some false := by decide +kernel
  have kint : kitB "int" "tuple" = some false := by decide +kernel
  have klist : kitB "list" "tuple" = some false := by decide +kernel
  have kstr : kitB "str" "tuple" = some false := by decide +kernel
  have ktuple : kitB "tuple" "tuple" = some true := by decide +kernel
  cases d
  · show (kitB "NoneType" "tuple").map _ = _
    rw [kNoneType]; rfl
  · show (kitB "bool" "tuple").map _ = _
    rw [kbool]; rfl
  · show (kitB "int" "tuple").map _ = _
    rw [kint]; rfl
  · show (kitB "str" "tuple").map _ = _
    rw [kstr]; rfl
  · show (kitB "tuple" "tuple").map _ = _
    rw [ktuple]; rfl
  · show (kitB "list" "tuple").map _ = _
    rw [klist]; rfl
  · show (kitB "list" "tuple").map _ = _
    rw [klist]; rfl
  · show (kitB "dict" "tuple").map _ = _
    rw [kdict]; rfl
def Dt.is_list : Dt → Bool
  | .lst _ => true
  | .scr _ => true
  | _ => false
theorem isi_listA {d : Dt} : isiD "list" d = some (.val (.bl d.is_list)) := by
  have kNoneType : kitB "NoneType" "list" = some false := by decide +kernel
  have kbool : kitB "bool" "list" = some false := by decide +kernel
  have kdict : kitB "dict" "list" = some false := by decide +kernel
  have kint : kitB "int" "list" = some false := by decide +kernel
  have klist : kitB "list" "list" = some true := by decide +kernel
  have kstr : kitB "str" "list" = some false := by decide +kernel
  have ktuple : kitB "tuple" "list" = some false := by decide +kernel
  cases d
  · show (kitB "NoneType" "list").map _ = _
    rw [kNoneType]; rfl
  · show (kitB "bool" "list").map _ = _
    rw [kbool]; rfl
  · show (kitB "int" "list").map _ = _
    rw [kint]; rfl
  · show (kitB "str" "list").map _ = _
    rw [kstr]; rfl
  · show (kitB "tuple" "list").map _ = _
    rw [ktuple]; rfl
  · show (kitB "list" "list").map _ = _
    rw [klist]; rfl
  · show (kitB "list" "list").map _ = _
    rw [klist]; rfl
  · show (kitB "dict" "list").map _ = _
    rw [kdict]; rfl
end FX

/-! FX33: a tuple turned round, t[::-1]. -/
namespace HT
open PySem PyProof.Rows
open PySem.SeqAt
open PySem.AutoSeq1 (wpAny_loadPart')
open PySem.MeetsSeq PySem.MeetsSeq2 PySem.MeetsSeq3
section
variable {prog : Program} {w : World} {A : Around} {E : Value → Shared → Prop} {s : Shared}
theorem adjust_rev (n : Nat) : Builtin.Slice.sliceAdjust none none (-1) (n : Int) = ((n : Int) - 1, -1) := by
  unfold Builtin.Slice.sliceAdjust
  simp
theorem places_rev (n : Nat) : Builtin.Slice.slicePlaces ((n : Int) - 1) (-1) (-1) = n := by
  unfold Builtin.Slice.slicePlaces
  rw [if_neg (by decide)]
  split
  · rw [show -(-1 : Int) = 1 from rfl, Int.ediv_one]; omega
  · omega
theorem sliceApplied_rev {sl : Addr} {vl vu vs : Value} {n : Nat} {Q : Int × Int × Nat → Shared → Prop} (hs : s.heap.IsSliceOf sl vl vu vs) (pl : IsPart vl none) (pu : IsPart vu none) (ps : IsPart vs (some (-1)))
    (h : Q ((n : Int) - 1, -1, n) s) : wpAny (model prog w) A (Builtin.Slice.sliceApplied (.ref sl) (pure (n : Int))) Q E s := by
  obtain ⟨os, hos, hcs, hds⟩ := id hs
  unfold Builtin.Slice.sliceApplied Builtin.Slice.sliceFields
  refine wpAny_bind (wpAny_bind (wpAny_field hos hds (x := vl) rfl (wpAny_bind (wpAny_field hos hds (x := vu) rfl (wpAny_bind (wpAny_field hos hds (x := vs) rfl (wpAny_pure ?_)))))))
  refine wpAny_bind (slicePart_ ps ?_)
  show wpAny _ _ (if ((-1 : Int) == 0) = true then _ else _) _ _ s
  rw [if_neg (by decide)]
  refine wpAny_bind (slicePart_ pl (wpAny_bind (slicePart_ pu (wpAny_bind (wpAny_pure ?_)))))
  show wpAny _ _ (match Builtin.Slice.sliceAdjust none none (-1) (n : Int) with | (lo, hi) => pure (lo, (-1 : Int), Builtin.Slice.slicePlaces lo hi (-1))) _ _ s
  rw [adjust_rev n]
  show wpAny _ _ (pure (((n : Int) - 1), (-1 : Int), Builtin.Slice.slicePlaces ((n : Int) - 1) (-1) (-1))) _ _ s
  rw [places_rev]
  exact wpAny_pure h
theorem pick_rev (xs : List Value) : ((List.range xs.length).filterMap fun (m : Nat) => xs.toArray[(((xs.length : Int) - 1) + (m : Int) * (-1)).toNat]?) = xs.reverse := by
  have e : ∀ k : Nat, k ≤ xs.length → ((List.range k).filterMap fun (m : Nat) => xs.toArray[(((xs.length : Int) - 1) + (m : Int) * (-1)).toNat]?) = (xs.reverse).take k := by
    intro k
    induction k with
    | zero => intro _; simp
    | succ k ih =>
      intro hk
      rw [List.range_succ, List.filterMap_append, ih (by omega), List.take_succ]
      congr 1
      have h1 : xs.reverse[k]? = xs[xs.length - 1 - k]? := List.getElem?_reverse (by omega)
      rw [h1]
      simp only [List.filterMap_cons, List.filterMap_nil, List.getElem?_toArray]
      rw [show (((xs.length : Int) - 1) + (k : Int) * (-1)).toNat = xs.length - 1 - k by omega]
      cases xs[xs.length - 1 - k]? <;> rfl
  rw [e xs.length (Nat.le_refl _), List.take_of_length_le (by simp)]
theorem getItem_tuple_rev {t sl : Addr} {xs : List Value} {vl vu vs : Value} {Q : Value → Shared → Prop} (ht : IsTup s.heap t xs.toArray) (hs : s.heap.IsSliceOf sl vl vu vs) (pl : IsPart vl none) (pu : IsPart vu none) (ps : IsPart vs (some (-1)))
    (h : Q (.ref s.heap.objs.size) { s with heap := s.heap.push { cls := .type "tuple", data := .seq xs.reverse.toArray } })
    (hsz : xs.length ≤ sizeLine) : wpAny (model prog w) A (getItem (.ref t) (.ref sl)) Q E s := by
  have htake : sizeOk (.seq xs.reverse.toArray) := by
    show xs.reverse.toArray.size ≤ sizeLine
    rw [List.size_toArray, List.length_reverse]; exact hsz
  obtain ⟨os, hos, hcs, hds⟩ := id hs
  have hTs : s.TypeIs (.ref sl) "slice" := ⟨os, hos, hcs⟩
  unfold getItem
  try with_reducible refine wpAny_holding ?_
  first | refine wpAny_bind (wpAny_pure ?_) | skip
  refine wpAny_bind (wpAny_sequenceKey ht.typeIs (by decide) ?_)
  refine wpAny_bind (wpAny_callSpecial?_slot (name := Str.ofString "__getitem__") ht.typeIs PyProof.Rows.slot_tuple_getitem
    (wpAny_call_entry PyProof.Rows.slot_tuple_getitem ht.typeIs entry_tuple_getitem ?_ (args_tuple_getitem _ _)))
  show wpAny _ _ (Builtin.Tuple.tupleItemsOf (.ref t) >>= _) _ _ s
  refine wpAny_bind (tupleItemsOf_ ht ?_)
  refine wpAny_bind (wpAny_typeOf hTs ?_)
  rw [if_pos (by decide)]
  refine wpAny_bind (sliceApplied_rev hs pl pu ps ?_)
  have hno : ¬ ((((xs.toArray.size : Int) - 1) == 0 && (-1 : Int) == 1 && xs.toArray.size == xs.toArray.size) = true) := by
    rw [show ((-1 : Int) == 1) = false from rfl]; simp
  show wpAny _ _ (if (((xs.toArray.size : Int) - 1) == 0 && (-1 : Int) == 1 && xs.toArray.size == xs.toArray.size) = true then _ else _) _ _ s
  rw [if_neg hno]
  have e : ((List.range xs.toArray.size).filterMap fun (m : Nat) => xs.toArray[(((xs.toArray.size : Int) - 1) + (m : Int) * (-1)).toNat]?) = xs.reverse := by
    rw [List.size_toArray]; exact pick_rev xs
  rw [e]
  first
    | exact wpAny_bind (m := Builtin.Tuple.tupleExact _) (wpAny_newObj_type (wpAny_pure ⟨_, rfl, wpAny_pure h⟩) htake)
    | exact wpAny_bind (m := Builtin.Tuple.tupleExact _) (wpAny_newObj_type (wpAny_bind (wpAny_pure (wpAny_pure ⟨_, rfl, wpAny_pure h⟩))) htake)
    | exact wpAny_bind (wpAny_bind (m := Builtin.Tuple.tupleExact _) (wpAny_newObj_type (wpAny_pure (wpAny_pure ⟨_, rfl, wpAny_pure h⟩)) htake))
    | exact wpAny_bind (wpAny_bind (m := Builtin.Tuple.tupleExact _) (wpAny_newObj_type (wpAny_pure ⟨_, rfl, wpAny_pure h⟩) htake))
end
end HT
namespace L2
open PySem PySem.Spec PyProof.Rows
section
variable {X : Cx}
def tRevA (K : PySem.W.Frag) (te : TE) : TE := fun σ H Q => te σ H fun x H1 => ∃ a xs, x = .ref a ∧ ((SqL K H1 a xs ∧ ∀ p, H1 p = none → Q (.ref p) (upd H1 p (.lst xs.reverse))) ∨ (SqT K H1 a xs ∧ ∀ p, H1 p = none → Q (.ref p) (upd H1 p (.tup xs.reverse))))
theorem pe_revA {e : Expr} {te : TE} {k : Nat} {p1 p2 p3 pos : Pos} (he : PE X e te) : PE X (.Subscript e (.Slice none none (some (.UnaryOp .USub (.Constant (.int 1) k p1) p2)) p3) pos) (tRevA X.K te) := by
  refine ⟨fun pins s σ H Q I h => ?_⟩
  refine Subscript_ (thn (he.run pins s σ H _ I h) fun v s1 ⟨x, H1, I1, r1, q1⟩ => ?_)
  obtain ⟨a, xs, ex, q⟩ := q1
  subst ex
  cases r1
  have hst : PO X (some (.UnaryOp .USub (.Constant (.int 1) k p1) p2)) (tPart (tUn (rU fun i => .int (-i)) (tC (.int 1)))) := po_some (pe_un un_neg pe_int)
  refine wpAny_Slice (thn (po_none.run pins s1 σ H1 (fun o H2 => o = none ∧ H2 = H1) I1 ⟨rfl, rfl⟩) fun vl s2 ⟨l, H2, I2, pl, el, e2⟩ => ?_)
  subst el e2
  refine thn (po_none.run pins s2 σ H2 (fun o H3 => o = none ∧ H3 = H2) I2 ⟨rfl, rfl⟩) fun vu s3 ⟨u, H3, I3, pu, eu, e3⟩ => ?_
  subst eu e3
  refine thn (hst.run pins s3 σ H3 (fun o H4 => o = some (-1) ∧ H4 = H3) I3 ⟨1, rfl, -1, rfl, rfl, rfl⟩) fun vs s4 ⟨o, H4, I4, ps, eo, e4⟩ => ?_
  subst eo e4
  have I5 : Inv X pins σ H4 { s4 with heap := s4.heap.push { cls := .type "slice", data := .fields #[vl, vu, vs] } } := I4.kept (t' := s4.toks) fun b ob q => Heap.get?_push_of_some _ q
  rcases q with ⟨hx, q⟩ | ⟨hx, q⟩
  · obtain ⟨its, r, ht, hz⟩ := I5.list hx
    have hlen := r.length
    show wpAny (model X.prog X.w) X.A (subscriptTail e (.Slice none none (some (.UnaryOp .USub (.Constant (.int 1) k p1) p2)) p3) (.ref a) (.ref s4.heap.objs.size)) (EP X pins σ Q) X.xe { s4 with heap := s4.heap.push { cls := .type "slice", data := .fields #[vl, vu, vs] } }
    refine tail_any (ops := [.ref a, .ref s4.heap.objs.size]) ht.isList.typeIs (PySem.slot_list_getitem.lookup) ?_ (by with_unfolding_all rfl)
    refine wpAny_getItem_list_slice ht.isList (Heap.IsSliceOf.new _ vl vu vs) pl pu ps (by decide) ?_ (by rw [List.size_toArray]; omega)
    rw [PySem.W.krv_pick]
    refine ⟨.ref _, _, I5.laid (t' := s4.toks) (o := .lst xs.reverse) (fun b ob q => Heap.get?_push_of_some _ q) (Nat.le_refl _) ?_, rfl, q _ (I5.hok.fresh (Nat.le_refl _))⟩
    exact ⟨by rw [List.length_reverse]; exact hz, _, 0, r.reverse, Heap.get?_push_size _ rfl⟩
  · obtain ⟨its, r, ht, hz⟩ := I5.tuple hx
    have hlen := r.length
    show wpAny (model X.prog X.w) X.A (subscriptTail e (.Slice none none (some (.UnaryOp .USub (.Constant (.int 1) k p1) p2)) p3) (.ref a) (.ref s4.heap.objs.size)) (EP X pins σ Q) X.xe { s4 with heap := s4.heap.push { cls := .type "slice", data := .fields #[vl, vu, vs] } }
    refine tail_any (ops := [.ref a, .ref s4.heap.objs.size]) ht.typeIs (PyProof.Rows.slot_tuple_getitem.lookup) ?_ (by with_unfolding_all rfl)
    refine HT.getItem_tuple_rev ht (Heap.IsSliceOf.new _ vl vu vs) pl pu ps ?_ (by omega)
    refine ⟨.ref _, _, I5.laid (t' := s4.toks) (o := .tup xs.reverse) (fun b ob q => Heap.get?_push_of_some _ q) (Nat.le_refl _) ?_, rfl, q _ (I5.hok.fresh (Nat.le_refl _))⟩
    exact ⟨by rw [List.length_reverse]; exact hz, _, r.reverse, ⟨_, Heap.get?_push_size _ rfl, rfl, _, rfl⟩⟩
end
end L2
namespace FX
open PySem L2 PyProof.Rows
open Evl (Ex ex_t ex_l)
def revA : Dt → Option Rs
  | .lst ds => some (.own ds.reverse)
  | .tup ds => some (.val (.tup ds.reverse))
  | _ => none
theorem revA_lst {ds : List Dt} : revA (.lst ds) = some (.own ds.reverse) := rfl
theorem revA_tup {ds : List Dt} : revA (.tup ds) = some (.val (.tup ds.reverse)) := rfl
theorem v_revA {K : PySem.W.Frag} : VOp1 K (fun x H Q => ∃ a xs, x = .ref a ∧ ((SqL K H a xs ∧ ∀ p, H p = none → Q (.ref p) (upd H p (.lst xs.reverse))) ∨ (SqT K H a xs ∧ ∀ p, H p = none → Q (.ref p) (upd H p (.tup xs.reverse))))) revA := by
  intro R vs ss F H x d1 out Q rel v e k
  unfold revA at e
  split at e
  · cases e
    obtain ⟨p, ys, h1, h2, h3, h4⟩ := v.items rel.fz
    exact ⟨p, ys, h1, .inl ⟨h2, fun q hq => endL rel k h4.reverse (by rw [List.length_reverse]; exact h3) hq⟩⟩
  · cases e
    rename_i ds
    obtain ⟨p, ys, h1, h2, h3, h4⟩ := v.tup_of rel.fz
    exact ⟨p, ys, h1, .inr ⟨ex_t rel.fz h2, fun q hq => endT rel k h4.reverse (by rw [List.length_reverse]; exact h3) hq⟩⟩
  · cases e
theorem x_revA {X : Cx} {W : WX} {a : Expr} {pos p1 p2 p3 : Pos} {f : Sl → O (Rs × Sl)} {k : Nat} (ha : XE X W a f) : XE X W (.Subscript a (.Slice none none (some (.UnaryOp .USub (.Constant (.int 1) k p1) p2)) p3) pos) (eUn revA f) :=
  PE.imp (pe_revA ha) fun σ H Q h => (show tUn (fun x H Q => ∃ a xs, x = .ref a ∧ ((SqL X.K H a xs ∧ ∀ p, H p = none → Q (.ref p) (upd H p (.lst xs.reverse))) ∨ (SqT X.K H a xs ∧ ∀ p, H p = none → Q (.ref p) (upd H p (.tup xs.reverse))))) (dE X.K X.mg W f) σ H Q from de_un v_revA h)
end FX

namespace FD
open PySem L2 PyProof.Rows FX
def g_is_integer : Sl → O (Fl × Sl) :=
  (sSeq (sIf (tOrD (tNotD (tst (eUn (isiD "int") (eVar 0)))) (tOrD (tst (eUn (isiD "bool") (eVar 0))) (tstB (eBin ltD (eVar 0) (eVar 1))))) (sRet (eC (.bl false))) sNx)
    (sRet (eOrV (eBin isD (eVar 2) (eC .non)) (eBin leD (eVar 0) (eVar 2)))))
def F_is_integer : Sl → O (Rs × Sl) := fnD 3 0 g_is_integer
def g_is_run : Sl → O (Fl × Sl) :=
  (sSeq (sIf (tOrD (tNotD (tst (eUn (isiD "tuple") (eVar 0)))) (tOrD (tstB (eBin neD (eBlt lenD (aCons (eVar 0) aNil)) (eC (.int 2)))) (tNotD (tst (eUn (isiD "str") (eBin ixD (eVar 0) (eC (.int 0)))))))) (sRet (eC (.bl false))) sNx)
    (sRet (eAndV (eBin inD (eBin ixD (eVar 0) (eC (.int 0))) (eTup (aCons (eC (.str "D")) (aCons (eC (.str "L")) aNil)))) (eCall [false, false, false] F_is_integer (aCons (eBin ixD (eVar 0) (eC (.int 1))) (aCons (eC (.int 1)) (aCons (eC .non) aNil)))))))
def F_is_run : Sl → O (Rs × Sl) := fnD 1 0 g_is_run
def g_is_strand : Sl → O (Fl × Sl) :=
  (sSeq (sIf (tOrD (tNotD (tst (eUn (isiD "tuple") (eVar 0)))) (tOrD (tstB (eBin eqT0D (eVar 0) (eTup aNil))) (tNotD (tst (eBlt allD (aCons (eComp (iSeqD (eVar 0)) (bName 3) cYes (eCall [false] F_is_run (aCons (eVar 3) aNil)) [3]) aNil)))))) (sRet (eC (.bl false))) sNx)
    (sRet (eBlt allD (aCons (eComp (iFrz zipD (aCons (eVar 0) (aCons (eSlice (eVar 0) (oSome (eC (.int 1))) oNone) aNil))) (bTup 2 (bCons (bName 1) (bCons (bName 2) bNil))) cYes (eBin neD (eBin ixD (eVar 1) (eC (.int 0))) (eBin ixD (eVar 2) (eC (.int 0)))) [1, 2]) aNil))))
def F_is_strand : Sl → O (Rs × Sl) := fnD 1 3 g_is_strand
def g_check_strand : Sl → O (Fl × Sl) :=
  (sIf (tNotD (tst (eCall [false] F_is_strand (aCons (eVar 0) aNil)))) sBad sNx)
def F_check_strand : Sl → O (Rs × Sl) := fnD 1 0 g_check_strand
def g_beads_in : Sl → O (Fl × Sl) :=
  (sRet (eBlt sumD (aCons (eComp (iSeqD (eVar 0)) (bTup 2 (bCons (bName 1) (bCons (bName 2) bNil))) cYes (eVar 2) [1, 2]) aNil)))
def F_beads_in : Sl → O (Rs × Sl) := fnD 1 2 g_beads_in
def g_dark_total : Sl → O (Fl × Sl) :=
  (sRet (eBlt sumD (aCons (eComp (iSeqD (eVar 0)) (bTup 2 (bCons (bName 1) (bCons (bName 2) bNil))) (tstB (eBin eqD (eVar 1) (eC (.str "D")))) (eVar 2) [1, 2]) aNil)))
def F_dark_total : Sl → O (Rs × Sl) := fnD 1 2 g_dark_total
def g_dark_up_to : Sl → O (Fl × Sl) :=
  (sSeq (sSet 2 (eC (.int 0)))
    (sSeq (sFor (iWipe [0, 3, 4] (iSeqD (eVar 0))) (bTup 2 (bCons (bName 3) (bCons (bName 4) bNil))) (sWipe [0, 3, 4] (sSeq (sIf (tstB (eBin eqD (eVar 3) (eC (.str "D")))) (sAug 2 augAddD (eBlt maxD (aCons (eC (.int 0)) (aCons (eBlt minD (aCons (eVar 1) (aCons (eVar 4) aNil))) aNil)))) sNx)
    (sAug 1 subD (eVar 4)))))
    (sRet (eVar 2))))
def F_dark_up_to : Sl → O (Rs × Sl) := fnD 2 3 g_dark_up_to
def g_cut_runs : Sl → O (Fl × Sl) :=
  (sSeq (sSet 3 (eLst aNil))
    (sSeq (sSet 4 (eC (.int 0)))
    (sSeq (sFor (iWipe [0, 5, 6, 7] (iSeqD (eVar 0))) (bTup 2 (bCons (bName 5) (bCons (bName 6) bNil))) (sWipe [0, 5, 6, 7] (sSeq (sSet 7 (eBin subD (eBlt minD (aCons (eVar 2) (aCons (eBin addD (eVar 4) (eVar 6)) aNil))) (eBlt maxD (aCons (eVar 1) (aCons (eVar 4) aNil)))))
    (sSeq (sIf (tstB (eBin gtD (eVar 7) (eC (.int 0)))) (sExpr (eMut 3 appU (aCons (eTup (aCons (eVar 5) (aCons (eVar 7) aNil))) aNil))) sNx)
    (sAug 4 augAddD (eVar 6))))))
    (sRet (eVar 3)))))
def F_cut_runs : Sl → O (Rs × Sl) := fnD 3 5 g_cut_runs
def g_check_place : Sl → O (Fl × Sl) :=
  (sIf (tNotD (tst (eCall [false, false, false] F_is_integer (aCons (eVar 1) (aCons (eC (.int 0)) (aCons (eBin subD (eCall [false] F_beads_in (aCons (eVar 0) aNil)) (eC (.int 1))) aNil)))))) sBad sNx)
def F_check_place : Sl → O (Rs × Sl) := fnD 2 0 g_check_place
def g_count_beads : Sl → O (Fl × Sl) :=
  (sSeq (sExpr (eCall [false] F_check_strand (aCons (eVar 0) aNil)))
    (sRet (eCall [false] F_beads_in (aCons (eVar 0) aNil))))
def F_count_beads : Sl → O (Rs × Sl) := fnD 1 0 g_count_beads
def g_count_dark : Sl → O (Fl × Sl) :=
  (sSeq (sExpr (eCall [false] F_check_strand (aCons (eVar 0) aNil)))
    (sRet (eCall [false] F_dark_total (aCons (eVar 0) aNil))))
def F_count_dark : Sl → O (Rs × Sl) := fnD 1 0 g_count_dark
def g_colour_at : Sl → O (Fl × Sl) :=
  (sSeq (sExpr (eCall [false] F_check_strand (aCons (eVar 0) aNil)))
    (sSeq (sExpr (eCall [false, false] F_check_place (aCons (eVar 0) (aCons (eVar 1) aNil))))
    (sRet (eBin ixD (eBin ixD (eCall [false, false, false] F_cut_runs (aCons (eVar 0) (aCons (eVar 1) (aCons (eBin addD (eVar 1) (eC (.int 1))) aNil)))) (eC (.int 0))) (eC (.int 0))))))
def F_colour_at : Sl → O (Rs × Sl) := fnD 2 0 g_colour_at
def g_dark_before : Sl → O (Fl × Sl) :=
  (sSeq (sExpr (eCall [false] F_check_strand (aCons (eVar 0) aNil)))
    (sSeq (sIf (tNotD (tst (eCall [false, false, false] F_is_integer (aCons (eVar 1) (aCons (eC (.int 0)) (aCons (eCall [false] F_beads_in (aCons (eVar 0) aNil)) aNil)))))) sBad sNx)
    (sRet (eCall [false, false] F_dark_up_to (aCons (eVar 0) (aCons (eVar 1) aNil))))))
def F_dark_before : Sl → O (Rs × Sl) := fnD 2 0 g_dark_before
def g_dark_place : Sl → O (Fl × Sl) :=
  (sSeq (sExpr (eCall [false] F_check_strand (aCons (eVar 0) aNil)))
    (sSeq (sIf (tNotD (tst (eCall [false, false, false] F_is_integer (aCons (eVar 1) (aCons (eC (.int 0)) (aCons (eBin subD (eCall [false] F_dark_total (aCons (eVar 0) aNil)) (eC (.int 1))) aNil)))))) sBad sNx)
    (sSeq (sSet 2 (eC (.int 0)))
    (sSeq (sFor (iWipe [0, 3, 4] (iSeqD (eVar 0))) (bTup 2 (bCons (bName 3) (bCons (bName 4) bNil))) (sWipe [0, 3, 4] (sSeq (sIf (tAndD (tstB (eBin eqD (eVar 3) (eC (.str "D")))) (tstB (eBin ltD (eVar 1) (eVar 4)))) (sRet (eBin addD (eVar 2) (eVar 1))) sNx)
    (sSeq (sIf (tstB (eBin eqD (eVar 3) (eC (.str "D")))) (sAug 1 subD (eVar 4)) sNx)
    (sAug 2 augAddD (eVar 4))))))
    (sRet (eVar 2))))))
def F_dark_place : Sl → O (Rs × Sl) := fnD 2 3 g_dark_place
def g_law_source_k01 : Sl → O (Fl × Sl) :=
  (sSeq (sSet 2 (eIf (tstB (eBin ltD (eVar 1) (eBlt lenD (aCons (eVar 0) aNil)))) (eBin ixD (eVar 0) (eVar 1)) (eC (.int 0))))
    (sRet (eLst (aCons (eBlt maxD (aCons (eC (.int 0)) (aCons (eBin subD (eBlt absD (aCons (eVar 2) aNil)) (eBin powD (eC (.int 10)) (eC (.int 18)))) aNil))) (aCons (eBin addD (eBin modD (eVar 2) (eBin addD (eBin powD (eC (.int 10)) (eC (.int 40))) (eC (.int 121)))) (eBin mulD (eC (.int 32452867)) (eVar 1))) (aCons (eC (.int 0)) aNil))))))
def F_law_source_k01 : Sl → O (Rs × Sl) := fnD 2 1 g_law_source_k01
def g_law_draw_k01 : Sl → O (Fl × Sl) :=
  (sSeq (sIf (tstB (eBin gtD (eBin ixD (eVar 0) (eC (.int 0))) (eC (.int 0)))) (sSeq (sSet 2 (eBin modD (eBin ixD (eVar 0) (eC (.int 0))) (eVar 1)))
    (sSeq (sSetIx 0 (eC (.int 0)) (eBin fdivD (eBin ixD (eVar 0) (eC (.int 0))) (eVar 1)))
    (sRet (eVar 2)))) sNx)
    (sSeq (sSetIx 0 (eC (.int 2)) (eBin addD (eBin ixD (eVar 0) (eC (.int 2))) (eC (.int 1))))
    (sSeq (sSet 3 (eBin modD (eBin powD (eBin addD (eBin ixD (eVar 0) (eC (.int 1))) (eBin mulD (eC (.int 295075147)) (eBin ixD (eVar 0) (eC (.int 2))))) (eC (.int 3))) (eBin addD (eBin powD (eC (.int 10)) (eC (.int 41))) (eC (.int 37)))))
    (sSeq (sSet 3 (eBin modD (eBin powD (eBin addD (eVar 3) (eBin mulD (eC (.int 472882027)) (eBin ixD (eVar 0) (eC (.int 2))))) (eC (.int 3))) (eBin addD (eBin powD (eC (.int 10)) (eC (.int 40))) (eC (.int 121)))))
    (sRet (eBin modD (eBin fdivD (eVar 3) (eC (.int 1301081))) (eVar 1)))))))
def F_law_draw_k01 : Sl → O (Rs × Sl) := fnD 2 2 g_law_draw_k01
def g_law_runs_k01 : Sl → O (Fl × Sl) :=
  (sSeq (sSet 1 (eLst aNil))
    (sSeq (sFor (iWipe [0, 2] (iSeqD (eVar 0))) (bName 2) (sWipe [0, 2] (sIf (tAndD (tstB (eBin neD (eVar 1) (eLst aNil))) (tstB (eBin eqD (eBin ixD (eBin ixD (eVar 1) (eUn negD (eC (.int 1)))) (eC (.int 0))) (eVar 2)))) (sSetIx 1 (eUn negD (eC (.int 1))) (eTup (aCons (eVar 2) (aCons (eBin addD (eBin ixD (eBin ixD (eVar 1) (eUn negD (eC (.int 1)))) (eC (.int 1))) (eC (.int 1))) aNil)))) (sExpr (eMut 1 appU (aCons (eTup (aCons (eVar 2) (aCons (eC (.int 1)) aNil))) aNil))))))
    (sRet (eBlt tupleD (aCons (eVar 1) aNil)))))
def F_law_runs_k01 : Sl → O (Rs × Sl) := fnD 1 2 g_law_runs_k01
def g_law_right_k01 : Sl → O (Fl × Sl) :=
  (sSeq (sPar2 1 2 (aCons (eCall [false] F_law_runs_k01 (aCons (eVar 0) aNil)) (aCons (eBlt lenD (aCons (eVar 0) aNil)) aNil)))
    (sSeq (sIf (tOrD (tstB (eBin isNotD (eCall [false] F_is_strand (aCons (eVar 1) aNil)) (eC (.bl true)))) (tstB (eBin isNotD (eCallK [false] F_is_strand 0 1 [0] aNil (aCons (eVar 1) aNil)) (eC (.bl true))))) (sRet (eC (.bl false))) sNx)
    (sSeq (sIf (tstB (eBin neD (eLst (aCons (eCall [false] F_count_beads (aCons (eVar 1) aNil)) (aCons (eCall [false] F_count_dark (aCons (eVar 1) aNil)) aNil))) (eLst (aCons (eVar 2) (aCons (eMet "str" scountD (eVar 0) (aCons (eC (.str "D")) aNil)) aNil))))) (sRet (eC (.bl false))) sNx)
    (sSeq (sIf (tstB (eBin neD (eLst (aCons (eCallK [false] F_count_beads 0 1 [0] aNil (aCons (eVar 1) aNil)) (aCons (eCallK [false] F_count_dark 0 1 [0] aNil (aCons (eVar 1) aNil)) aNil))) (eLst (aCons (eVar 2) (aCons (eMet "str" scountD (eVar 0) (aCons (eC (.str "D")) aNil)) aNil))))) (sRet (eC (.bl false))) sNx)
    (sSeq (sIf (tstB (eBin neD (eMet "str" joinD (eC (.str "")) (aCons (eComp (iRng rng1D (aCons (eVar 2) aNil)) (bName 5) cYes (eCall [false, false] F_colour_at (aCons (eVar 1) (aCons (eVar 5) aNil))) [5]) aNil)) (eVar 0))) (sRet (eC (.bl false))) sNx)
    (sSeq (sSet 3 (eComp (iRng rng1D (aCons (eBin addD (eVar 2) (eC (.int 1))) aNil)) (bName 5) cYes (eMet "str" scountD (eSlice (eVar 0) oNone (oSome (eVar 5))) (aCons (eC (.str "D")) aNil)) [5]))
    (sSeq (sIf (tstB (eBin neD (eComp (iRng rng1D (aCons (eBin addD (eVar 2) (eC (.int 1))) aNil)) (bName 5) cYes (eCall [false, false] F_dark_before (aCons (eVar 1) (aCons (eVar 5) aNil))) [5]) (eVar 3))) (sRet (eC (.bl false))) sNx)
    (sSeq (sSet 4 (eComp (iRng rng1D (aCons (eVar 2) aNil)) (bName 5) (tstB (eBin eqD (eBin ixD (eVar 0) (eVar 5)) (eC (.str "D")))) (eVar 5) [5]))
    (sRet (eBin eqD (eComp (iRng rng1D (aCons (eBlt lenD (aCons (eVar 4) aNil)) aNil)) (bName 6) cYes (eCall [false, false] F_dark_place (aCons (eVar 1) (aCons (eVar 6) aNil))) [6]) (eVar 4)))))))))))
def F_law_right_k01 : Sl → O (Rs × Sl) := fnD 1 6 g_law_right_k01
def g_law_names_right_k01 : Sl → O (Fl × Sl) :=
  (sSeq (sPar2 2 3 (aCons (eCall [false] F_law_runs_k01 (aCons (eVar 1) aNil)) (aCons (eCall [true, false] F_law_draw_k01 (aCons (eVar 0) (aCons (eBlt lenD (aCons (eVar 1) aNil)) aNil))) aNil)))
    (sSeq (sIf (tstB (eBin neD (eCallK [false, false] F_colour_at 0 2 [1, 0] aNil (aCons (eVar 3) (aCons (eVar 2) aNil))) (eBin ixD (eVar 1) (eVar 3)))) (sRet (eC (.bl false))) sNx)
    (sSeq (sIf (tstB (eBin neD (eCallK [false, false] F_dark_before 0 2 [1, 0] aNil (aCons (eVar 3) (aCons (eVar 2) aNil))) (eMet "str" scountD (eSlice (eVar 1) oNone (oSome (eVar 3))) (aCons (eC (.str "D")) aNil)))) (sRet (eC (.bl false))) sNx)
    (sSeq (sSet 4 (eComp (iRng rng1D (aCons (eBlt lenD (aCons (eVar 1) aNil)) aNil)) (bName 5) (tstB (eBin eqD (eBin ixD (eVar 1) (eVar 5)) (eC (.str "D")))) (eVar 5) [5]))
    (sSeq (sSet 5 (eCall [true, false] F_law_draw_k01 (aCons (eVar 0) (aCons (eBlt maxD (aCons (eC (.int 1)) (aCons (eBlt lenD (aCons (eVar 4) aNil)) aNil))) aNil))))
    (sRet (eOrV (eBin eqD (eVar 4) (eLst aNil)) (eBin eqD (eCallK [false, false] F_dark_place 0 2 [1, 0] aNil (aCons (eVar 5) (aCons (eVar 2) aNil))) (eBin ixD (eVar 4) (eVar 5))))))))))
def F_law_names_right_k01 : Sl → O (Rs × Sl) := fnD 2 4 g_law_names_right_k01
def g_law_k01 : Sl → O (Fl × Sl) :=
  (sSeq (sSet 1 (eLst (aCons (eC (.str "")) aNil)))
    (sSeq (sFor (iWipe [2, 3, 4, 5, 6, 7] (iRng rng1D (aCons (eC (.int 8)) aNil))) (bName 2) (sWipe [2, 3, 4, 5, 6, 7] (sSeq (sSet 1 (eBin addD (eComp (iSeqD (eVar 1)) (bName 5) cYes (eBin addD (eVar 5) (eC (.str "D"))) [5]) (eComp (iSeqD (eVar 1)) (bName 5) cYes (eBin addD (eVar 5) (eC (.str "L"))) [5])))
    (sIf (tstB (eBin neD (eComp (iSeqD (eVar 1)) (bName 5) (tNotD (tst (eCall [false] F_law_right_k01 (aCons (eVar 5) aNil)))) (eVar 5) [5]) (eLst aNil))) (sRet (eC (.bl false))) sNx))))
    (sSeq (sFor (iWipe [1, 2, 3, 4, 5, 6, 7] (iRng rng1D (aCons (eBlt maxD (aCons (eC (.int 1)) (aCons (eBlt minD (aCons (eC (.int 6)) (aCons (eBlt lenD (aCons (eVar 0) aNil)) aNil))) aNil))) aNil))) (bName 3) (sWipe [1, 2, 3, 4, 5, 6, 7] (sSeq (sSet 4 (eCall [false, false] F_law_source_k01 (aCons (eVar 0) (aCons (eVar 3) aNil))))
    (sSeq (sPar2 5 6 (aCons (eC (.str "")) (aCons (eCall [true, false] F_law_draw_k01 (aCons (eVar 4) (aCons (eC (.int 2)) aNil))) aNil)))
    (sSeq (sFor (iWipe [1, 2, 3, 7] (iRng rng1D (aCons (eBin addD (eC (.int 1)) (eCall [true, false] F_law_draw_k01 (aCons (eVar 4) (aCons (eC (.int 20)) aNil)))) aNil))) (bName 7) (sWipe [1, 2, 3, 7] (sSet 5 (eBin addD (eVar 5) (eBin mulD (eBin ixD (eC (.str "DL")) (eBin modD (eBin addD (eVar 6) (eVar 7)) (eC (.int 2)))) (eBin addD (eC (.int 1)) (eCall [true, false] F_law_draw_k01 (aCons (eVar 4) (aCons (eBin ixD (eLst (aCons (eC (.int 1)) (aCons (eC (.int 3)) (aCons (eC (.int 15)) aNil)))) (eCall [true, false] F_law_draw_k01 (aCons (eVar 4) (aCons (eC (.int 3)) aNil)))) aNil)))))))))
    (sIf (tOrD (tNotD (tst (eCall [false] F_law_right_k01 (aCons (eVar 5) aNil)))) (tNotD (tst (eCall [true, false] F_law_names_right_k01 (aCons (eVar 4) (aCons (eVar 5) aNil)))))) (sRet (eC (.bl false))) sNx))))))
    (sRet (eC (.bl true))))))
def F_law_k01 : Sl → O (Rs × Sl) := fnD 1 7 g_law_k01
def g_law_strand_k02 : Sl → O (Fl × Sl) :=
  (sSeq (sPar2 3 4 (aCons (eCall [true, false] F_law_draw_k01 (aCons (eVar 0) (aCons (eC (.int 2)) aNil))) (aCons (eLst aNil) aNil)))
    (sSeq (sFor (iWipe [1, 5, 6] (iRng rng1D (aCons (eBin ixD (eLst (aCons (eBin addD (eC (.int 1)) (eCall [true, false] F_law_draw_k01 (aCons (eVar 0) (aCons (eVar 1) aNil)))) (aCons (eVar 1) aNil))) (eBlt intD (aCons (eBin eqD (eCall [true, false] F_law_draw_k01 (aCons (eVar 0) (aCons (eC (.int 8)) aNil))) (eC (.int 0))) aNil))) aNil))) (bName 5) (sWipe [1, 5, 6] (sSeq (sSet 6 (eBin ixD (eLst (aCons (eC (.int 1)) (aCons (eBin addD (eC (.int 1)) (eCall [true, false] F_law_draw_k01 (aCons (eVar 0) (aCons (eC (.int 3)) aNil)))) (aCons (eBin addD (eC (.int 1)) (eCall [true, false] F_law_draw_k01 (aCons (eVar 0) (aCons (eVar 2) aNil)))) (aCons (eVar 2) aNil))))) (eCall [true, false] F_law_draw_k01 (aCons (eVar 0) (aCons (eC (.int 4)) aNil)))))
    (sExpr (eMut 4 appU (aCons (eTup (aCons (eBin ixD (eC (.str "DL")) (eBin modD (eBin addD (eVar 3) (eVar 5)) (eC (.int 2)))) (aCons (eVar 6) aNil))) aNil))))))
    (sRet (eBlt tupleD (aCons (eVar 4) aNil)))))
def F_law_strand_k02 : Sl → O (Rs × Sl) := fnD 3 4 g_law_strand_k02
def g_law_runs_with_ends_k02 : Sl → O (Fl × Sl) :=
  (sSeq (sPar3 1 2 3 (aCons (eLst aNil) (aCons (eC (.int 0)) (aCons (eC (.int 0)) aNil))))
    (sSeq (sFor (iWipe [0, 4, 5] (iSeqD (eVar 0))) (bTup 2 (bCons (bName 4) (bCons (bName 5) bNil))) (sWipe [0, 4, 5] (sSeq (sExpr (eMut 1 appU (aCons (eTup (aCons (eVar 4) (aCons (eVar 2) (aCons (eBin addD (eVar 2) (eVar 5)) (aCons (eVar 3) aNil))))) aNil)))
    (sSeq (sSet 2 (eBin addD (eVar 2) (eVar 5)))
    (sSet 3 (eBin addD (eVar 3) (eBin mulD (eVar 5) (eBlt intD (aCons (eBin eqD (eVar 4) (eC (.str "D"))) aNil)))))))))
    (sRet (eVar 1))))
def F_law_runs_with_ends_k02 : Sl → O (Rs × Sl) := fnD 1 5 g_law_runs_with_ends_k02
def g_law_right_k02 : Sl → O (Fl × Sl) :=
  (sSeq (sPar2 2 3 (aCons (eCall [false] F_law_runs_with_ends_k02 (aCons (eVar 1) aNil)) (aCons (eBlt sumD (aCons (eComp (iSeqD (eVar 1)) (bTup 2 (bCons (bName 5) (bCons (bName 12) bNil))) cYes (eVar 12) [5, 12]) aNil)) aNil)))
    (sSeq (sSet 4 (eBlt sumD (aCons (eComp (iSeqD (eVar 1)) (bTup 2 (bCons (bName 5) (bCons (bName 12) bNil))) (tstB (eBin eqD (eVar 5) (eC (.str "D")))) (eVar 12) [5, 12]) aNil)))
    (sSeq (sIf (tOrD (tstB (eBin isNotD (eCall [false] F_is_strand (aCons (eVar 1) aNil)) (eC (.bl true)))) (tstB (eBin neD (eLst (aCons (eCall [false] F_count_beads (aCons (eVar 1) aNil)) (aCons (eCall [false] F_count_dark (aCons (eVar 1) aNil)) aNil))) (eLst (aCons (eVar 3) (aCons (eVar 4) aNil)))))) (sRet (eC (.bl false))) sNx)
    (sSeq (sFor (iWipe [2, 5, 6, 7, 8, 9, 10, 11] (iSeqD (eVar 2))) (bTup 4 (bCons (bName 5) (bCons (bName 6) (bCons (bName 7) (bCons (bName 8) bNil))))) (sWipe [2, 5, 6, 7, 8, 9, 10, 11] (sSeq (sFor (iWipe [2, 9, 10, 11] (iSeqD (eLst (aCons (eVar 6) (aCons (eBin subD (eVar 7) (eC (.int 1))) (aCons (eBin addD (eVar 6) (eCall [true, false] F_law_draw_k01 (aCons (eVar 0) (aCons (eBin subD (eVar 7) (eVar 6)) aNil)))) aNil)))))) (bName 9) (sWipe [2, 9, 10, 11] (sSeq (sSet 10 (eBin addD (eVar 8) (eBin mulD (eBin subD (eVar 9) (eVar 6)) (eBlt intD (aCons (eBin eqD (eVar 5) (eC (.str "D"))) aNil)))))
    (sSeq (sIf (tOrD (tstB (eBin neD (eCall [false, false] F_colour_at (aCons (eVar 1) (aCons (eVar 9) aNil))) (eVar 5))) (tstB (eBin neD (eCall [false, false] F_dark_before (aCons (eVar 1) (aCons (eVar 9) aNil))) (eVar 10)))) (sRet (eC (.bl false))) sNx)
    (sSeq (sIf (tstB (eBin neD (eCall [false, false] F_dark_before (aCons (eVar 1) (aCons (eBin addD (eVar 9) (eC (.int 1))) aNil))) (eBin addD (eVar 10) (eBlt intD (aCons (eBin eqD (eVar 5) (eC (.str "D"))) aNil))))) (sRet (eC (.bl false))) sNx)
    (sIf (tAndD (tstB (eBin eqD (eVar 5) (eC (.str "D")))) (tstB (eBin neD (eCall [false, false] F_dark_place (aCons (eVar 1) (aCons (eVar 10) aNil))) (eVar 9)))) (sRet (eC (.bl false))) sNx))))))
    (sIf (tstB (eBin neD (eCall [false, false] F_dark_before (aCons (eVar 1) (aCons (eVar 7) aNil))) (eBin addD (eVar 8) (eBin mulD (eBin subD (eVar 7) (eVar 6)) (eBlt intD (aCons (eBin eqD (eVar 5) (eC (.str "D"))) aNil)))))) (sRet (eC (.bl false))) sNx))))
    (sSeq (sIf (tstB (eBin neD (eCall [false, false] F_dark_before (aCons (eVar 1) (aCons (eVar 3) aNil))) (eVar 4))) (sRet (eC (.bl false))) sNx)
    (sSeq (sIf (tstB (eBin gtD (eVar 4) (eC (.int 0)))) (sSeq (sSet 11 (eBin ixD (eLst (aCons (eC (.int 0)) (aCons (eBin subD (eVar 4) (eC (.int 1))) (aCons (eCall [true, false] F_law_draw_k01 (aCons (eVar 0) (aCons (eVar 4) aNil))) aNil)))) (eCall [true, false] F_law_draw_k01 (aCons (eVar 0) (aCons (eC (.int 3)) aNil)))))
    (sSeq (sSet 9 (eCall [false, false] F_dark_place (aCons (eVar 1) (aCons (eVar 11) aNil))))
    (sIf (tOrD (tstB (eBin neD (eCall [false, false] F_dark_before (aCons (eVar 1) (aCons (eVar 9) aNil))) (eVar 11))) (tstB (eBin neD (eCall [false, false] F_colour_at (aCons (eVar 1) (aCons (eVar 9) aNil))) (eC (.str "D"))))) (sRet (eC (.bl false))) sNx))) sNx)
    (sRet (eC (.bl true)))))))))
def F_law_right_k02 : Sl → O (Rs × Sl) := fnD 2 11 g_law_right_k02
def g_law_k02 : Sl → O (Fl × Sl) :=
  (sSeq (sFor (iWipe [1, 2, 3, 4, 5] (iRng rng1D (aCons (eBlt maxD (aCons (eC (.int 1)) (aCons (eBlt minD (aCons (eC (.int 6)) (aCons (eBlt lenD (aCons (eVar 0) aNil)) aNil))) aNil))) aNil))) (bName 1) (sWipe [1, 2, 3, 4, 5] (sSeq (sSet 2 (eCall [false, false] F_law_source_k01 (aCons (eVar 0) (aCons (eVar 1) aNil))))
    (sFor (iWipe [1, 3, 4, 5] (iRng rng1D (aCons (eC (.int 3)) aNil))) (bName 3) (sWipe [1, 3, 4, 5] (sSeq (sPar2 4 5 (aCons (eBin ixD (eLst (aCons (eC (.int 24)) (aCons (eC (.int 5)) aNil))) (eCall [true, false] F_law_draw_k01 (aCons (eVar 2) (aCons (eC (.int 2)) aNil)))) (aCons (eBin ixD (eLst (aCons (eBin subD (eBin powD (eC (.int 10)) (eC (.int 32))) (eC (.int 1))) (aCons (eBin powD (eC (.int 10)) (eC (.int 10))) (aCons (eC (.int 4)) aNil)))) (eCall [true, false] F_law_draw_k01 (aCons (eVar 2) (aCons (eC (.int 3)) aNil)))) aNil)))
    (sIf (tNotD (tst (eCall [true, false] F_law_right_k02 (aCons (eVar 2) (aCons (eCall [true, false, false] F_law_strand_k02 (aCons (eVar 2) (aCons (eVar 4) (aCons (eVar 5) aNil)))) aNil))))) (sRet (eC (.bl false))) sNx)))))))
    (sRet (eBin eqD (eCall [false] F_count_beads (aCons (eTup (aCons (eTup (aCons (eC (.str "D")) (aCons (eBin subD (eBin powD (eC (.int 10)) (eC (.int 32))) (eC (.int 1))) aNil))) aNil)) aNil)) (eBin subD (eBin powD (eC (.int 10)) (eC (.int 32))) (eC (.int 1))))))
def F_law_k02 : Sl → O (Rs × Sl) := fnD 1 5 g_law_k02
def g_law_no_strands_k03 : Sl → O (Fl × Sl) :=
  (sSeq (sSet 1 (eLst (aCons (eC .non) (aCons (eC (.int 0)) (aCons (eC (.bl true)) (aCons (eC (.str "D1")) (aCons (eC (.str "")) (aCons (eTup aNil) (aCons (eLst aNil) (aCons eEmp (aCons (eBlt listD (aCons (eVar 0) aNil)) (aCons (eTup (aCons (eC (.str "D")) (aCons (eC (.int 1)) aNil))) (aCons (eTup (aCons (eTup (aCons (eC (.str "D")) aNil)) aNil)) (aCons (eTup (aCons (eTup (aCons (eC (.str "D")) (aCons (eC (.int 1)) (aCons (eC (.int 1)) aNil)))) aNil)) (aCons (eTup (aCons (eLst (aCons (eC (.str "D")) (aCons (eC (.int 1)) aNil))) aNil)) aNil)))))))))))))))
    (sSeq (sSet 1 (eBin addD (eVar 1) (eLst (aCons (eTup (aCons (eTup (aCons (eC (.str "D")) (aCons (eC (.int 0)) aNil))) aNil)) (aCons (eTup (aCons (eTup (aCons (eC (.str "D")) (aCons (eUn negD (eC (.int 1))) aNil))) aNil)) (aCons (eTup (aCons (eTup (aCons (eC (.str "D")) (aCons (eC (.bl true)) aNil))) aNil)) (aCons (eTup (aCons (eTup (aCons (eC (.str "D")) (aCons (eC (.str "1")) aNil))) aNil)) (aCons (eTup (aCons (eTup (aCons (eC (.str "d")) (aCons (eC (.int 1)) aNil))) aNil)) (aCons (eTup (aCons (eTup (aCons (eC (.int 1)) (aCons (eC (.str "D")) aNil))) aNil)) (aCons (eTup (aCons (eTup (aCons (eC (.str "")) (aCons (eC (.int 1)) aNil))) aNil)) aNil))))))))))
    (sSeq (sSet 1 (eBin addD (eVar 1) (eLst (aCons (eTup (aCons (eTup (aCons (eC (.str "DL")) (aCons (eC (.int 1)) aNil))) aNil)) (aCons (eTup (aCons (eTup (aCons (eC (.str "D")) (aCons (eC (.int 1)) aNil))) (aCons (eTup (aCons (eC (.str "D")) (aCons (eC (.int 2)) aNil))) aNil))) (aCons (eTup (aCons (eTup (aCons (eC (.str "D")) (aCons (eC .non) aNil))) aNil)) (aCons (eTup (aCons (eTup (aCons (eC .non) (aCons (eC (.int 1)) aNil))) aNil)) (aCons (eTup (aCons (eC (.str "DL")) aNil)) (aCons (eTup (aCons (eTup (aCons (eC (.str "X")) (aCons (eC (.int 1)) aNil))) aNil)) aNil)))))))))
    (sSeq (sSet 1 (eBin addD (eVar 1) (eLst (aCons (eBin addD (eVar 0) (eSlice (eVar 0) (oSome (eUn negD (eC (.int 1)))) oNone)) (aCons (eBin addD (eVar 0) (eTup (aCons (eC .non) aNil))) (aCons (eTup (aCons (eTup (aCons (eLst (aCons (eC (.str "D")) aNil)) (aCons (eC (.int 1)) aNil))) aNil)) (aCons (eTup (aCons (eTup (aCons (eC (.str "D")) (aCons (eLst (aCons (eC (.int 1)) aNil)) aNil))) aNil)) aNil)))))))
    (sSeq (sExpr (eMut 1 appU (aCons (eTup (aCons (eTup (aCons (eC (.str "D")) (aCons (eTup (aCons (eC (.int 1)) aNil)) aNil))) aNil)) aNil)))
    (sSeq (sSet 1 (eBin addD (eVar 1) (eLst (aCons (eBin addD (eSlice (eVar 0) oNone (oSome (eUn negD (eC (.int 1))))) (eTup (aCons (eTup (aCons (eBin ixD (eBin ixD (eVar 0) (eUn negD (eC (.int 1)))) (eC (.int 0))) (aCons (eC (.int 0)) aNil))) aNil))) (aCons (eBin addD (eSlice (eVar 0) oNone (oSome (eUn negD (eC (.int 1))))) (eTup (aCons (eLst (aCons (eBin ixD (eBin ixD (eVar 0) (eUn negD (eC (.int 1)))) (eC (.int 0))) (aCons (eC (.int 1)) aNil))) aNil))) aNil)))))
    (sRet (eBin addD (eVar 1) (eLst (aCons (eBin addD (eVar 0) (eTup (aCons (eTup (aCons (eC (.str "D")) (aCons (eC (.int 1)) aNil))) (aCons (eTup (aCons (eC (.str "D")) (aCons (eC (.int 1)) aNil))) aNil)))) (aCons (eBin addD (eTup (aCons (eTup (aCons (eC (.str "L")) (aCons (eC (.bl false)) aNil))) aNil)) (eVar 0)) aNil)))))))))))
def F_law_no_strands_k03 : Sl → O (Rs × Sl) := fnD 1 1 g_law_no_strands_k03
def g_law_is_strand_k03 : Sl → O (Fl × Sl) :=
  (sSeq (sIf (tOrD (tNotD (tst (eUn (isiD "tuple") (eVar 0)))) (tstB (eBin eqD (eBlt lenD (aCons (eVar 0) aNil)) (eC (.int 0))))) (sRet (eC (.bl false))) sNx)
    (sSeq (sSet 1 (eC (.str "")))
    (sSeq (sFor (iWipe [0, 2] (iSeqD (eVar 0))) (bName 2) (sWipe [0, 2] (sSeq (sIf (tOrD (tNotD (tst (eUn (isiD "tuple") (eVar 2)))) (tOrD (tstB (eBin neD (eBlt lenD (aCons (eVar 2) aNil)) (eC (.int 2)))) (tNotD (tst (eUn (isiD "str") (eBin ixD (eVar 2) (eC (.int 0)))))))) (sRet (eC (.bl false))) sNx)
    (sSeq (sIf (tOrD (tstB (eBin notInD (eBin ixD (eVar 2) (eC (.int 0))) (eLst (aCons (eC (.str "D")) (aCons (eC (.str "L")) aNil))))) (tstB (eBin eqD (eBin ixD (eVar 2) (eC (.int 0))) (eVar 1)))) (sRet (eC (.bl false))) sNx)
    (sSeq (sIf (tOrD (tNotD (tst (eUn (isiD "int") (eBin ixD (eVar 2) (eC (.int 1)))))) (tOrD (tst (eUn (isiD "bool") (eBin ixD (eVar 2) (eC (.int 1))))) (tstB (eBin ltD (eBin ixD (eVar 2) (eC (.int 1))) (eC (.int 1)))))) (sRet (eC (.bl false))) sNx)
    (sSet 1 (eBin ixD (eVar 2) (eC (.int 0)))))))))
    (sRet (eC (.bl true))))))
def F_law_is_strand_k03 : Sl → O (Rs × Sl) := fnD 1 2 g_law_is_strand_k03
def g_law_bent_k03 : Sl → O (Fl × Sl) :=
  (sSeq (sPar2 2 3 (aCons (eCall [true, false] F_law_draw_k01 (aCons (eVar 0) (aCons (eBlt lenD (aCons (eVar 1) aNil)) aNil))) (aCons (eCall [true, false] F_law_draw_k01 (aCons (eVar 0) (aCons (eC (.int 9)) aNil))) aNil)))
    (sSeq (sPar2 4 5 (aCons (eBlt listD (aCons (eVar 1) aNil)) (aCons (eBin ixD (eVar 1) (eVar 2)) aNil)))
    (sSeq (sSet 6 (eLst (aCons (eC .non) (aCons (eC (.int 0)) (aCons (eUn negD (eC (.int 1))) (aCons (eC (.bl true)) (aCons (eC (.bl false)) (aCons (eC (.str "1")) (aCons (eC (.str "d")) (aCons (eC (.str "")) (aCons (eC (.str "X")) (aCons (eC (.str "LD")) (aCons (eBin subD (eBin powD (eC (.int 10)) (eC (.int 32))) (eC (.int 1))) (aCons (eC (.int 1)) (aCons (eC (.str "D")) (aCons (eC (.str "L")) (aCons (eLst (aCons (eC (.int 1)) aNil)) (aCons eEmp (aCons (eTup (aCons (eC (.int 1)) aNil)) aNil)))))))))))))))))))
    (sSeq (sIf (tstB (eBin eqD (eVar 3) (eC (.int 0)))) (sRet (eBlt tupleD (aCons (eBin addD (eSlice (eVar 4) oNone (oSome (eVar 2))) (eSlice (eVar 4) (oSome (eBin addD (eVar 2) (eC (.int 1)))) oNone)) aNil))) sNx)
    (sSeq (sIf (tstB (eBin eqD (eVar 3) (eC (.int 1)))) (sRet (eBlt tupleD (aCons (eBin addD (eBin addD (eSlice (eVar 4) oNone (oSome (eVar 2))) (eLst (aCons (eVar 5) aNil))) (eSlice (eVar 4) (oSome (eVar 2)) oNone)) aNil))) sNx)
    (sSeq (sIf (tstB (eBin eqD (eVar 3) (eC (.int 2)))) (sRet (eBlt tupleD (aCons (eBin addD (eBin addD (eSlice (eVar 4) oNone (oSome (eVar 2))) (eLst (aCons (eBlt listD (aCons (eVar 5) aNil)) aNil))) (eSlice (eVar 4) (oSome (eBin addD (eVar 2) (eC (.int 1)))) oNone)) aNil))) sNx)
    (sSeq (sIf (tstB (eBin eqD (eVar 3) (eC (.int 3)))) (sRet (eVar 4)) sNx)
    (sSeq (sIf (tstB (eBin eqD (eVar 3) (eC (.int 4)))) (sRet (eBlt tupleD (aCons (eBin addD (eBin addD (eSlice (eVar 4) oNone (oSome (eVar 2))) (eLst (aCons (eTup (aCons (eBin ixD (eVar 5) (eC (.int 0))) (aCons (eBin ixD (eVar 6) (eCall [true, false] F_law_draw_k01 (aCons (eVar 0) (aCons (eC (.int 17)) aNil)))) aNil))) aNil))) (eSlice (eVar 4) (oSome (eBin addD (eVar 2) (eC (.int 1)))) oNone)) aNil))) sNx)
    (sSeq (sIf (tstB (eBin eqD (eVar 3) (eC (.int 5)))) (sRet (eBlt tupleD (aCons (eBin addD (eBin addD (eSlice (eVar 4) oNone (oSome (eVar 2))) (eLst (aCons (eTup (aCons (eBin ixD (eVar 6) (eCall [true, false] F_law_draw_k01 (aCons (eVar 0) (aCons (eC (.int 17)) aNil)))) (aCons (eBin ixD (eVar 5) (eC (.int 1))) aNil))) aNil))) (eSlice (eVar 4) (oSome (eBin addD (eVar 2) (eC (.int 1)))) oNone)) aNil))) sNx)
    (sSeq (sIf (tstB (eBin eqD (eVar 3) (eC (.int 6)))) (sRet (eBlt tupleD (aCons (eBin addD (eBin addD (eSlice (eVar 4) oNone (oSome (eVar 2))) (eLst (aCons (eBin ixD (eVar 6) (eCall [true, false] F_law_draw_k01 (aCons (eVar 0) (aCons (eC (.int 17)) aNil)))) aNil))) (eSlice (eVar 4) (oSome (eBin addD (eVar 2) (eC (.int 1)))) oNone)) aNil))) sNx)
    (sSeq (sIf (tstB (eBin eqD (eVar 3) (eC (.int 7)))) (sRet (eBlt tupleD (aCons (eBin addD (eBin addD (eSlice (eVar 4) oNone (oSome (eVar 2))) (eLst (aCons (eUn revA (eVar 5)) aNil))) (eSlice (eVar 4) (oSome (eBin addD (eVar 2) (eC (.int 1)))) oNone)) aNil))) sNx)
    (sRet (eBlt tupleD (aCons (eBin addD (eBin addD (eSlice (eVar 4) oNone (oSome (eVar 2))) (eLst (aCons (eBin addD (eVar 5) (eTup (aCons (eC (.int 1)) aNil))) aNil))) (eSlice (eVar 4) (oSome (eBin addD (eVar 2) (eC (.int 1)))) oNone)) aNil))))))))))))))
def F_law_bent_k03 : Sl → O (Rs × Sl) := fnD 2 5 g_law_bent_k03
def g_law_k03 : Sl → O (Fl × Sl) :=
  (sSeq (sFor (iWipe [1, 2, 3, 4, 5, 7, 8, 9, 10] (iRng rng1D (aCons (eBlt maxD (aCons (eC (.int 1)) (aCons (eBlt minD (aCons (eC (.int 6)) (aCons (eBlt lenD (aCons (eVar 0) aNil)) aNil))) aNil))) aNil))) (bName 1) (sWipe [1, 2, 3, 4, 5, 7, 8, 9, 10] (sSeq (sSet 2 (eCall [false, false] F_law_source_k01 (aCons (eVar 0) (aCons (eVar 1) aNil))))
    (sSeq (sFor (iWipe [1, 3, 4, 5, 7, 8, 9, 10] (iRng rng1D (aCons (eC (.int 20)) aNil))) (bName 3) (sWipe [1, 3, 4, 5, 7, 8, 9, 10] (sSeq (sPar2 4 5 (aCons (eBin ixD (eLst (aCons (eC (.int 24)) (aCons (eC (.int 3)) aNil))) (eCall [true, false] F_law_draw_k01 (aCons (eVar 2) (aCons (eC (.int 2)) aNil)))) (aCons (eBin ixD (eLst (aCons (eC (.int 4)) (aCons (eBin subD (eBin powD (eC (.int 10)) (eC (.int 32))) (eC (.int 1))) aNil))) (eCall [true, false] F_law_draw_k01 (aCons (eVar 2) (aCons (eC (.int 2)) aNil)))) aNil)))
    (sSeq (sSet 6 (eCall [true, false, false] F_law_strand_k02 (aCons (eVar 2) (aCons (eVar 4) (aCons (eVar 5) aNil)))))
    (sFor (iWipe [1, 3, 4, 5, 7, 8, 9, 10] (iSeqD (eLst (aCons (eVar 6) (aCons (eCall [true, false] F_law_bent_k03 (aCons (eVar 2) (aCons (eVar 6) aNil))) (aCons (eCall [true, false] F_law_bent_k03 (aCons (eVar 2) (aCons (eVar 6) aNil))) aNil)))))) (bName 7) (sWipe [1, 3, 4, 5, 7, 8, 9, 10] (sSeq (sSet 8 (eBlt reprD (aCons (eVar 7) aNil)))
    (sSeq (sIf (tstB (eBin neD (eBlt reprD (aCons (eLst (aCons (eCall [false] F_is_strand (aCons (eVar 7) aNil)) (aCons (eCallK [false] F_is_strand 0 1 [0] aNil (aCons (eVar 7) aNil)) aNil))) aNil)) (eBlt reprD (aCons (eBin mulD (eLst (aCons (eCall [false] F_law_is_strand_k03 (aCons (eVar 7) aNil)) aNil)) (eC (.int 2))) aNil)))) (sRet (eC (.bl false))) sNx)
    (sIf (tstB (eBin neD (eBlt reprD (aCons (eVar 7) aNil)) (eVar 8))) (sRet (eC (.bl false))) sNx)))))))))
    (sSeq (sFor (iWipe [1, 3, 4, 5, 7, 8, 9, 10] (iSeqD (eCall [false] F_law_no_strands_k03 (aCons (eVar 6) aNil)))) (bName 7) (sWipe [1, 3, 4, 5, 7, 8, 9, 10] (sIf (tstB (eBin isNotD (eCall [false] F_is_strand (aCons (eVar 7) aNil)) (eC (.bl false)))) (sRet (eC (.bl false))) sNx)))
    (sSeq (sSet 9 (eBin mulD (eTup (aCons (eTup (aCons (eC (.str "D")) (aCons (eC (.int 1)) aNil))) (aCons (eTup (aCons (eC (.str "L")) (aCons (eC (.int 2)) aNil))) aNil))) (eC (.int 750))))
    (sSeq (sSet 10 (eCall [true, false] F_law_draw_k01 (aCons (eVar 2) (aCons (eC (.int 1499)) aNil))))
    (sIf (tOrD (tstB (eBin isNotD (eCall [false] F_is_strand (aCons (eVar 9) aNil)) (eC (.bl true)))) (tstB (eBin neD (eCall [false] F_is_strand (aCons (eBin addD (eSlice (eVar 9) oNone (oSome (eVar 10))) (eSlice (eVar 9) (oSome (eBin addD (eVar 10) (eC (.int 1)))) oNone)) aNil)) (eBin eqD (eVar 10) (eC (.int 0)))))) (sRet (eC (.bl false))) sNx))))))))
    (sRet (eC (.bl true))))
def F_law_k03 : Sl → O (Rs × Sl) := fnD 1 10 g_law_k03
def g_law_outside_k04 : Sl → O (Fl × Sl) :=
  (sSeq (sSet 2 (eLst (aCons (eUn negD (eC (.int 1))) (aCons (eBin addD (eVar 1) (eC (.int 1))) (aCons (eC .non) (aCons (eC (.bl true)) (aCons (eC (.bl false)) (aCons (eC (.str "0")) (aCons (eLst (aCons (eC (.int 0)) aNil)) (aCons (eTup (aCons (eC (.int 0)) aNil)) (aCons eEmp (aCons (eUn negD (eBin powD (eC (.int 10)) (eC (.int 31)))) (aCons (eBin addD (eBin addD (eVar 1) (eC (.int 1))) (eCall [true, false] F_law_draw_k01 (aCons (eVar 0) (aCons (eBin powD (eC (.int 10)) (eC (.int 31))) aNil)))) aNil)))))))))))))
    (sRet (eBin ixD (eBin addD (eVar 2) (eLst (aCons (eBin subD (eUn negD (eC (.int 2))) (eCall [true, false] F_law_draw_k01 (aCons (eVar 0) (aCons (eC (.int 10)) aNil)))) (aCons (eUn negD (eC (.int 2))) aNil)))) (eCall [true, false] F_law_draw_k01 (aCons (eVar 0) (aCons (eC (.int 13)) aNil))))))
def F_law_outside_k04 : Sl → O (Rs × Sl) := fnD 2 1 g_law_outside_k04
def g_wall_k05 : Sl → O (Fl × Sl) :=
  (sPre [0] (sWhile fuelN (tst (eC (.bl true))) (sWipe [0] sNx)))
def F_wall_k05 : Sl → O (Rs × Sl) := fnD 1 0 g_wall_k05
def g_joined_runs : Sl → O (Fl × Sl) :=
  (sSeq (sSet 1 (eLst aNil))
    (sSeq (sFor (iWipe [0, 2, 3] (iSeqD (eVar 0))) (bTup 2 (bCons (bName 2) (bCons (bName 3) bNil))) (sWipe [0, 2, 3] (sIf (tAndD (tstB (eBin neD (eVar 1) (eLst aNil))) (tstB (eBin eqD (eBin ixD (eBin ixD (eVar 1) (eUn negD (eC (.int 1)))) (eC (.int 0))) (eVar 2)))) (sSetIx 1 (eUn negD (eC (.int 1))) (eTup (aCons (eVar 2) (aCons (eBin addD (eBin ixD (eBin ixD (eVar 1) (eUn negD (eC (.int 1)))) (eC (.int 1))) (eVar 3)) aNil)))) (sIf (tstB (eBin gtD (eVar 3) (eC (.int 0)))) (sExpr (eMut 1 appU (aCons (eTup (aCons (eVar 2) (aCons (eVar 3) aNil))) aNil))) sNx))))
    (sRet (eBlt tupleD (aCons (eVar 1) aNil)))))
def F_joined_runs : Sl → O (Rs × Sl) := fnD 1 3 g_joined_runs
def g_check_arc_live : Sl → O (Fl × Sl) :=
  (sSeq (sIf (tOrD (tNotD (tst (eUn (isiD "tuple") (eVar 1)))) (tstB (eBin neD (eBlt lenD (aCons (eVar 1) aNil)) (eC (.int 2))))) sBad sNx)
    (sSeq (sSet 2 (eCall [false] F_beads_in (aCons (eVar 0) aNil)))
    (sIf (tOrD (tNotD (tst (eCall [false, false, false] F_is_integer (aCons (eBin ixD (eVar 1) (eC (.int 0))) (aCons (eC (.int 0)) (aCons (eBin subD (eVar 2) (eC (.int 1))) aNil)))))) (tNotD (tst (eCall [false, false, false] F_is_integer (aCons (eBin ixD (eVar 1) (eC (.int 1))) (aCons (eC (.int 1)) (aCons (eBin subD (eVar 2) (eC (.int 1))) aNil))))))) sBad sNx)))
def F_check_arc_live : Sl → O (Rs × Sl) := fnD 2 1 g_check_arc_live
def g_dark_of : Sl → O (Fl × Sl) :=
  (sSeq (sSet 3 (eCall [false] F_beads_in (aCons (eVar 0) aNil)))
    (sSeq (sSet 4 (eBin addD (eVar 1) (eVar 2)))
    (sSeq (sIf (tstB (eBin leD (eVar 4) (eVar 3))) (sRet (eBin subD (eCall [false, false] F_dark_up_to (aCons (eVar 0) (aCons (eVar 4) aNil))) (eCall [false, false] F_dark_up_to (aCons (eVar 0) (aCons (eVar 1) aNil))))) sNx)
    (sRet (eBin addD (eBin subD (eCall [false] F_dark_total (aCons (eVar 0) aNil)) (eCall [false, false] F_dark_up_to (aCons (eVar 0) (aCons (eVar 1) aNil)))) (eCall [false, false] F_dark_up_to (aCons (eVar 0) (aCons (eBin subD (eVar 4) (eVar 3)) aNil))))))))
def F_dark_of : Sl → O (Rs × Sl) := fnD 3 2 g_dark_of
def g_arc_runs : Sl → O (Fl × Sl) :=
  (sSeq (sSet 3 (eCall [false] F_beads_in (aCons (eVar 0) aNil)))
    (sSeq (sSet 4 (eBin addD (eVar 1) (eVar 2)))
    (sSeq (sIf (tstB (eBin leD (eVar 4) (eVar 3))) (sRet (eBlt listD (aCons (eCall [false, false, false] F_cut_runs (aCons (eVar 0) (aCons (eVar 1) (aCons (eVar 4) aNil)))) aNil))) sNx)
    (sRet (eBin addD (eBlt listD (aCons (eCall [false, false, false] F_cut_runs (aCons (eVar 0) (aCons (eVar 1) (aCons (eVar 3) aNil)))) aNil)) (eBlt listD (aCons (eCall [false, false, false] F_cut_runs (aCons (eVar 0) (aCons (eC (.int 0)) (aCons (eBin subD (eVar 4) (eVar 3)) aNil)))) aNil)))))))
def F_arc_runs : Sl → O (Rs × Sl) := fnD 3 2 g_arc_runs
def g_number_in : Sl → O (Fl × Sl) :=
  (sSeq (sIf (tOrD (tstB (eBin eqD (eVar 0) (eC (.str "")))) (tOrD (tNotD (tst (eBlt allD (aCons (eComp (iSeqD (eVar 0)) (bName 1) cYes (eBin inD (eVar 1) (eC (.str "0123456789"))) [1]) aNil)))) (tAndD (tstB (eBin eqD (eBin ixD (eVar 0) (eC (.int 0))) (eC (.str "0")))) (tstB (eBin neD (eVar 0) (eC (.str "0"))))))) (sRet (eC .non)) sNx)
    (sRet (eBlt intD (aCons (eVar 0) aNil))))
def F_number_in : Sl → O (Rs × Sl) := fnD 1 1 g_number_in
def g_divided : Sl → O (Fl × Sl) :=
  (sSeq (sTgt (bTup 2 (bCons (bName 2) (bCons (bName 3) bNil))) (eVar 1))
    (sSeq (sSet 4 (eCall [false] F_beads_in (aCons (eVar 0) aNil)))
    (sSeq (sSet 5 (eBin addD (eVar 2) (eVar 3)))
    (sSeq (sIf (tstB (eBin leD (eVar 5) (eVar 4))) (sSeq (sSet 6 (eBin addD (eCall [false, false, false] F_cut_runs (aCons (eVar 0) (aCons (eC (.int 0)) (aCons (eVar 2) aNil)))) (eCall [false, false, false] F_cut_runs (aCons (eVar 0) (aCons (eVar 5) (aCons (eVar 4) aNil))))))
    (sRet (eTup (aCons (eCall [false] F_joined_runs (aCons (eCall [false, false, false] F_cut_runs (aCons (eVar 0) (aCons (eVar 2) (aCons (eVar 5) aNil)))) aNil)) (aCons (eCall [false] F_joined_runs (aCons (eVar 6) aNil)) aNil))))) sNx)
    (sSeq (sSet 7 (eBin addD (eCall [false, false, false] F_cut_runs (aCons (eVar 0) (aCons (eVar 2) (aCons (eVar 4) aNil)))) (eCall [false, false, false] F_cut_runs (aCons (eVar 0) (aCons (eC (.int 0)) (aCons (eBin subD (eVar 5) (eVar 4)) aNil))))))
    (sRet (eTup (aCons (eCall [false] F_joined_runs (aCons (eVar 7) aNil)) (aCons (eCall [false] F_joined_runs (aCons (eCall [false, false, false] F_cut_runs (aCons (eVar 0) (aCons (eBin subD (eVar 5) (eVar 4)) (aCons (eVar 2) aNil)))) aNil)) aNil)))))))))
def F_divided : Sl → O (Rs × Sl) := fnD 2 6 g_divided
def g_turned : Sl → O (Fl × Sl) :=
  (sRet (eBlt tupleD (aCons (eCall [false] F_joined_runs (aCons (eCall [false, false, false] F_arc_runs (aCons (eVar 0) (aCons (eVar 1) (aCons (eCall [false] F_beads_in (aCons (eVar 0) aNil)) aNil)))) aNil)) aNil)))
def F_turned : Sl → O (Rs × Sl) := fnD 2 0 g_turned
def g_rotated : Sl → O (Fl × Sl) :=
  (sSeq (sExpr (eCall [false] F_check_strand (aCons (eVar 0) aNil)))
    (sSeq (sIf (tNotD (tst (eCall [false, false, false] F_is_integer (aCons (eVar 1) (aCons (eC (.int 0)) (aCons (eBin subD (eCall [false] F_beads_in (aCons (eVar 0) aNil)) (eC (.int 1))) aNil)))))) sBad sNx)
    (sRet (eCall [false, false] F_turned (aCons (eVar 0) (aCons (eVar 1) aNil))))))
def F_rotated : Sl → O (Rs × Sl) := fnD 2 0 g_rotated
def g_mirrored : Sl → O (Fl × Sl) :=
  (sSeq (sExpr (eCall [false] F_check_strand (aCons (eVar 0) aNil)))
    (sRet (eUn revA (eVar 0))))
def F_mirrored : Sl → O (Rs × Sl) := fnD 1 0 g_mirrored
def g_check_arc_arcs : Sl → O (Fl × Sl) :=
  (sSeq (sExpr (eCall [false] F_check_strand (aCons (eVar 0) aNil)))
    (sSeq (sIf (tNotD (tst (eCall [false, false, false] F_is_integer (aCons (eVar 1) (aCons (eC (.int 0)) (aCons (eBin subD (eCall [false] F_beads_in (aCons (eVar 0) aNil)) (eC (.int 1))) aNil)))))) sBad sNx)
    (sIf (tNotD (tst (eCall [false, false, false] F_is_integer (aCons (eVar 2) (aCons (eC (.int 0)) (aCons (eCall [false] F_beads_in (aCons (eVar 0) aNil)) aNil)))))) sBad sNx)))
def F_check_arc_arcs : Sl → O (Rs × Sl) := fnD 3 0 g_check_arc_arcs
def g_dark_in : Sl → O (Fl × Sl) :=
  (sSeq (sExpr (eCall [false, false, false] F_check_arc_arcs (aCons (eVar 0) (aCons (eVar 1) (aCons (eVar 2) aNil)))))
    (sRet (eCall [false, false, false] F_dark_of (aCons (eVar 0) (aCons (eVar 1) (aCons (eVar 2) aNil))))))
def F_dark_in : Sl → O (Rs × Sl) := fnD 3 0 g_dark_in
def g_other_arc : Sl → O (Fl × Sl) :=
  (sSeq (sExpr (eCall [false, false, false] F_check_arc_arcs (aCons (eVar 0) (aCons (eVar 1) (aCons (eVar 2) aNil)))))
    (sSeq (sSet 3 (eCall [false] F_beads_in (aCons (eVar 0) aNil)))
    (sRet (eTup (aCons (eBin modD (eBin addD (eVar 1) (eVar 2)) (eVar 3)) (aCons (eBin subD (eVar 3) (eVar 2)) aNil))))))
def F_other_arc : Sl → O (Rs × Sl) := fnD 3 1 g_other_arc
def g_law_cell_at_k06 : Sl → O (Fl × Sl) :=
  (sSeq (sIf (tstB (eBin ltD (eVar 1) (eBlt lenD (aCons (eVar 0) aNil)))) (sRet (eBin ixD (eVar 0) (eVar 1))) sNx)
    (sRet (eC (.int 0))))
def F_law_cell_at_k06 : Sl → O (Rs × Sl) := fnD 2 0 g_law_cell_at_k06
def g_law_source_k06 : Sl → O (Fl × Sl) :=
  (sRet (eLst (aCons (eBlt maxD (aCons (eC (.int 0)) (aCons (eBin subD (eVar 0) (eBin powD (eC (.int 10)) (eC (.int 18)))) aNil))) (aCons (eBin addD (eBin modD (eVar 0) (eC (.int 162259276829213363391578010288127))) (eBin mulD (eC (.int 7919)) (eBin addD (eVar 1) (eC (.int 1))))) (aCons (eC (.int 0)) aNil)))))
def F_law_source_k06 : Sl → O (Rs × Sl) := fnD 2 0 g_law_source_k06
def g_law_draw_k06 : Sl → O (Fl × Sl) :=
  (sSeq (sIf (tstB (eBin gtD (eBin ixD (eVar 0) (eC (.int 0))) (eC (.int 1)))) (sSeq (sSet 2 (eBin modD (eBin ixD (eVar 0) (eC (.int 0))) (eVar 1)))
    (sSeq (sSetIx 0 (eC (.int 0)) (eBin fdivD (eBin ixD (eVar 0) (eC (.int 0))) (eVar 1)))
    (sRet (eVar 2)))) sNx)
    (sSeq (sSetIx 0 (eC (.int 2)) (eBin addD (eBin ixD (eVar 0) (eC (.int 2))) (eC (.int 1))))
    (sSeq (sSet 3 (eBin modD (eBin powD (eBin addD (eBin ixD (eVar 0) (eC (.int 1))) (eBin mulD (eC (.int 1299709)) (eBin ixD (eVar 0) (eC (.int 2))))) (eC (.int 3))) (eC (.int 162259276829213363391578010288127))))
    (sSeq (sSet 3 (eBin modD (eBin powD (eBin addD (eVar 3) (eBin mulD (eC (.int 15485863)) (eBin ixD (eVar 0) (eC (.int 2))))) (eC (.int 5))) (eC (.int 618970019642690137449562111))))
    (sRet (eBin modD (eBin fdivD (eVar 3) (eC (.int 1048576))) (eVar 1)))))))
def F_law_draw_k06 : Sl → O (Rs × Sl) := fnD 2 2 g_law_draw_k06
def g_law_runs_k06 : Sl → O (Fl × Sl) :=
  (sSeq (sSet 1 (eLst aNil))
    (sSeq (sFor (iWipe [0, 2] (iSeqD (eVar 0))) (bName 2) (sWipe [0, 2] (sIf (tAndD (tstB (eBin neD (eVar 1) (eLst aNil))) (tstB (eBin eqD (eBin ixD (eBin ixD (eVar 1) (eBin subD (eBlt lenD (aCons (eVar 1) aNil)) (eC (.int 1)))) (eC (.int 0))) (eVar 2)))) (sSetIx 1 (eBin subD (eBlt lenD (aCons (eVar 1) aNil)) (eC (.int 1))) (eTup (aCons (eVar 2) (aCons (eBin addD (eBin ixD (eBin ixD (eVar 1) (eBin subD (eBlt lenD (aCons (eVar 1) aNil)) (eC (.int 1)))) (eC (.int 1))) (eC (.int 1))) aNil)))) (sExpr (eMut 1 appU (aCons (eTup (aCons (eVar 2) (aCons (eC (.int 1)) aNil))) aNil))))))
    (sRet (eBlt tupleD (aCons (eVar 1) aNil)))))
def F_law_runs_k06 : Sl → O (Rs × Sl) := fnD 1 2 g_law_runs_k06
def g_law_line_k06 : Sl → O (Fl × Sl) :=
  (sSeq (sSet 2 (eC (.str "")))
    (sSeq (sSet 3 (eBin addD (eC (.int 1)) (eCall [true, false] F_law_draw_k06 (aCons (eVar 0) (aCons (eVar 1) aNil)))))
    (sSeq (sPre [1, 4] (sWhile fuelN (tstB (eBin ltD (eBlt lenD (aCons (eVar 2) aNil)) (eVar 3))) (sWipe [1, 4] (sSeq (sSet 4 (eBin ixD (eC (.str "DL")) (eCall [true, false] F_law_draw_k06 (aCons (eVar 0) (aCons (eC (.int 2)) aNil)))))
    (sSet 2 (eBin addD (eVar 2) (eBin mulD (eVar 4) (eBin ixD (eLst (aCons (eC (.int 1)) (aCons (eC (.int 1)) (aCons (eBin addD (eC (.int 1)) (eCall [true, false] F_law_draw_k06 (aCons (eVar 0) (aCons (eC (.int 5)) aNil)))) aNil)))) (eCall [true, false] F_law_draw_k06 (aCons (eVar 0) (aCons (eC (.int 3)) aNil)))))))))))
    (sRet (eSlice (eVar 2) oNone (oSome (eVar 3)))))))
def F_law_line_k06 : Sl → O (Rs × Sl) := fnD 2 3 g_law_line_k06
def g_law_large_k07 : Sl → O (Fl × Sl) :=
  (sSeq (sSet 3 (eCall [true, false] F_law_draw_k06 (aCons (eVar 0) (aCons (eC (.int 2)) aNil))))
    (sSeq (sSet 4 (eLst aNil))
    (sSeq (sFor (iWipe [1, 5, 6] (iRng rng1D (aCons (eBin addD (eC (.int 1)) (eCall [true, false] F_law_draw_k06 (aCons (eVar 0) (aCons (eVar 1) aNil)))) aNil))) (bName 5) (sWipe [1, 5, 6] (sSeq (sSet 6 (eBin addD (eC (.int 1)) (eCall [true, false] F_law_draw_k06 (aCons (eVar 0) (aCons (eBin ixD (eLst (aCons (eC (.int 2)) (aCons (eVar 2) aNil))) (eCall [true, false] F_law_draw_k06 (aCons (eVar 0) (aCons (eC (.int 2)) aNil)))) aNil)))))
    (sExpr (eMut 4 appU (aCons (eTup (aCons (eBin ixD (eC (.str "DL")) (eBin modD (eBin addD (eVar 5) (eVar 3)) (eC (.int 2)))) (aCons (eVar 6) aNil))) aNil))))))
    (sRet (eBlt tupleD (aCons (eVar 4) aNil))))))
def F_law_large_k07 : Sl → O (Rs × Sl) := fnD 3 4 g_law_large_k07
def g_law_size_k07 : Sl → O (Fl × Sl) :=
  (sRet (eBlt sumD (aCons (eComp (iSeqD (eVar 0)) (bTup 2 (bCons (bName 1) (bCons (bName 2) bNil))) cYes (eVar 2) [1, 2]) aNil)))
def F_law_size_k07 : Sl → O (Rs × Sl) := fnD 1 2 g_law_size_k07
def g_law_dark_k07 : Sl → O (Fl × Sl) :=
  (sSeq (sSet 2 (eC (.int 0)))
    (sSeq (sFor (iWipe [0, 3, 4, 5] (iSeqD (eVar 0))) (bTup 2 (bCons (bName 3) (bCons (bName 4) bNil))) (sWipe [0, 3, 4, 5] (sSeq (sSet 5 (eBlt maxD (aCons (eC (.int 0)) (aCons (eBlt minD (aCons (eVar 4) (aCons (eVar 1) aNil))) aNil))))
    (sSeq (sSet 1 (eBin subD (eVar 1) (eVar 5)))
    (sIf (tstB (eBin eqD (eVar 3) (eC (.str "D")))) (sSet 2 (eBin addD (eVar 2) (eVar 5))) sNx)))))
    (sRet (eVar 2))))
def F_law_dark_k07 : Sl → O (Rs × Sl) := fnD 2 4 g_law_dark_k07
def g_law_in_arc_k07 : Sl → O (Fl × Sl) :=
  (sSeq (sSet 3 (eCall [false] F_law_size_k07 (aCons (eVar 0) aNil)))
    (sSeq (sSet 4 (eBin addD (eVar 1) (eVar 2)))
    (sSeq (sIf (tstB (eBin leD (eVar 4) (eVar 3))) (sRet (eBin subD (eCall [false, false] F_law_dark_k07 (aCons (eVar 0) (aCons (eVar 4) aNil))) (eCall [false, false] F_law_dark_k07 (aCons (eVar 0) (aCons (eVar 1) aNil))))) sNx)
    (sRet (eBin addD (eBin subD (eCall [false, false] F_law_dark_k07 (aCons (eVar 0) (aCons (eVar 3) aNil))) (eCall [false, false] F_law_dark_k07 (aCons (eVar 0) (aCons (eVar 1) aNil)))) (eCall [false, false] F_law_dark_k07 (aCons (eVar 0) (aCons (eBin subD (eVar 4) (eVar 3)) aNil))))))))
def F_law_in_arc_k07 : Sl → O (Rs × Sl) := fnD 3 2 g_law_in_arc_k07
def g_law_spot_k07 : Sl → O (Fl × Sl) :=
  (sSeq (sSet 2 (eCall [false] F_law_size_k07 (aCons (eVar 1) aNil)))
    (sSeq (sSet 3 (eCall [true, false] F_law_draw_k06 (aCons (eVar 0) (aCons (eBin addD (eBlt lenD (aCons (eVar 1) aNil)) (eC (.int 1))) aNil))))
    (sSeq (sSet 4 (eBlt sumD (aCons (eComp (iSeqD (eSlice (eVar 1) oNone (oSome (eVar 3)))) (bTup 2 (bCons (bName 6) (bCons (bName 7) bNil))) cYes (eVar 7) [6, 7]) aNil)))
    (sSeq (sSet 5 (eLst (aCons (eCall [true, false] F_law_draw_k06 (aCons (eVar 0) (aCons (eVar 2) aNil))) (aCons (eVar 4) (aCons (eBin subD (eVar 4) (eC (.int 1))) (aCons (eBin addD (eVar 4) (eC (.int 1))) aNil))))))
    (sRet (eBin modD (eBin ixD (eVar 5) (eCall [true, false] F_law_draw_k06 (aCons (eVar 0) (aCons (eC (.int 4)) aNil)))) (eVar 2)))))))
def F_law_spot_k07 : Sl → O (Rs × Sl) := fnD 2 6 g_law_spot_k07
def g_law_colour_k07 : Sl → O (Fl × Sl) :=
  (sRet (eIf (tstB (eBin gtD (eCall [false, false] F_law_dark_k07 (aCons (eVar 0) (aCons (eBin addD (eVar 1) (eC (.int 1))) aNil))) (eCall [false, false] F_law_dark_k07 (aCons (eVar 0) (aCons (eVar 1) aNil))))) (eC (.str "D")) (eC (.str "L"))))
def F_law_colour_k07 : Sl → O (Rs × Sl) := fnD 2 0 g_law_colour_k07
def g_borders : Sl → O (Fl × Sl) :=
  (sSeq (sSet 1 (eLst (aCons (eC (.int 0)) aNil)))
    (sSeq (sFor (iWipe [0, 2, 3] (iSeqD (eSlice (eVar 0) oNone (oSome (eUn negD (eC (.int 1))))))) (bTup 2 (bCons (bName 2) (bCons (bName 3) bNil))) (sWipe [0, 2, 3] (sExpr (eMut 1 appU (aCons (eBin addD (eBin ixD (eVar 1) (eUn negD (eC (.int 1)))) (eVar 3)) aNil)))))
    (sRet (eVar 1))))
def F_borders : Sl → O (Rs × Sl) := fnD 1 3 g_borders
def g_turn_between : Sl → O (Fl × Sl) :=
  (sSeq (sExpr (eCall [false] F_check_strand (aCons (eVar 0) aNil)))
    (sSeq (sExpr (eCall [false] F_check_strand (aCons (eVar 1) aNil)))
    (sSeq (sSet 2 (eCall [false] F_beads_in (aCons (eVar 0) aNil)))
    (sSeq (sIf (tstB (eBin neD (eCall [false] F_beads_in (aCons (eVar 1) aNil)) (eVar 2))) (sRet (eC .non)) sNx)
    (sSeq (sSet 3 (eLst (aCons (eC (.int 0)) aNil)))
    (sSeq (sSet 4 (eC (.int 0)))
    (sSeq (sFor (iWipe [5, 6, 7] (iSeqD (eVar 0))) (bTup 2 (bCons (bName 5) (bCons (bName 6) bNil))) (sWipe [5, 6, 7] (sSeq (sAug 4 augAddD (eVar 6))
    (sExpr (eMut 3 appU (aCons (eBin modD (eBin subD (eVar 4) (eBin ixD (eBin ixD (eVar 1) (eC (.int 0))) (eC (.int 1)))) (eVar 2)) aNil))))))
    (sSeq (sSet 7 (eComp (iSeqD (eVar 3)) (bName 8) (tstB (eBin eqD (eCall [false, false] F_turned (aCons (eVar 0) (aCons (eVar 8) aNil))) (eVar 1))) (eVar 8) [8]))
    (sRet (eIf (tstB (eBin neD (eVar 7) (eLst aNil))) (eBlt minD (aCons (eVar 7) aNil)) (eC .non)))))))))))
def F_turn_between : Sl → O (Rs × Sl) := fnD 2 7 g_turn_between
def g_is_dark_at : Sl → O (Fl × Sl) :=
  (sSeq (sFor (iWipe [0, 2, 3] (iSeqD (eVar 0))) (bTup 2 (bCons (bName 2) (bCons (bName 3) bNil))) (sWipe [0, 2, 3] (sSeq (sIf (tstB (eBin ltD (eVar 1) (eVar 3))) (sRet (eBin eqD (eVar 2) (eC (.str "D")))) sNx)
    (sAug 1 subD (eVar 3)))))
    (sRet (eC (.bl false))))
def F_is_dark_at : Sl → O (Rs × Sl) := fnD 2 2 g_is_dark_at
def g_pieces : Sl → O (Fl × Sl) :=
  (sSeq (sSet 2 (eCall [false] F_beads_in (aCons (eVar 0) aNil)))
    (sSeq (sSet 3 (eCall [false] F_borders (aCons (eVar 0) aNil)))
    (sSeq (sSet 4 (eBlt sortedSetD (aCons (eBin addD (eVar 3) (eComp (iSeqD (eVar 3)) (bName 10) cYes (eBin modD (eBin subD (eVar 10) (eVar 1)) (eVar 2)) [10])) aNil)))
    (sSeq (sSet 5 (eCall [false, false, false] F_dark_of (aCons (eVar 0) (aCons (eC (.int 0)) (aCons (eVar 1) aNil)))))
    (sSeq (sSet 6 (eLst aNil))
    (sSeq (sFor (iWipe [3, 4, 7, 8, 9] (iFrz zipD (aCons (eVar 4) (aCons (eBin addD (eSlice (eVar 4) (oSome (eC (.int 1))) oNone) (eLst (aCons (eVar 2) aNil))) aNil)))) (bTup 2 (bCons (bName 7) (bCons (bName 8) bNil))) (sWipe [3, 4, 7, 8, 9] (sSeq (sSet 9 (eBin subD (eBlt intD (aCons (eCall [false, false] F_is_dark_at (aCons (eVar 0) (aCons (eBin modD (eBin addD (eVar 7) (eVar 1)) (eVar 2)) aNil))) aNil)) (eBlt intD (aCons (eCall [false, false] F_is_dark_at (aCons (eVar 0) (aCons (eVar 7) aNil))) aNil))))
    (sSeq (sExpr (eMut 6 appU (aCons (eTup (aCons (eVar 7) (aCons (eBin subD (eVar 8) (eC (.int 1))) (aCons (eVar 5) (aCons (eVar 9) aNil))))) aNil)))
    (sAug 5 augAddD (eBin mulD (eVar 9) (eBin subD (eVar 8) (eVar 7))))))))
    (sRet (eVar 6))))))))
def F_pieces : Sl → O (Rs × Sl) := fnD 2 9 g_pieces
def g_check_length : Sl → O (Fl × Sl) :=
  (sIf (tNotD (tst (eCall [false, false, false] F_is_integer (aCons (eVar 1) (aCons (eC (.int 0)) (aCons (eVar 0) aNil)))))) sBad sNx)
def F_check_length : Sl → O (Rs × Sl) := fnD 2 0 g_check_length
def g_check_arcs : Sl → O (Fl × Sl) :=
  (sSeq (sExpr (eCall [false] F_check_strand (aCons (eVar 0) aNil)))
    (sSeq (sExpr (eCall [false, false] F_check_length (aCons (eCall [false] F_beads_in (aCons (eVar 0) aNil)) (aCons (eVar 1) aNil))))
    (sIf (tNotD (tst (eCall [false, false, false] F_is_integer (aCons (eVar 2) (aCons (eC (.int 0)) (aCons (eC .non) aNil)))))) sBad sNx)))
def F_check_arcs : Sl → O (Rs × Sl) := fnD 3 0 g_check_arcs
def g_stretches : Sl → O (Fl × Sl) :=
  (sSeq (sSet 3 (eLst aNil))
    (sSeq (sFor (iWipe [0, 1, 4, 5, 6, 7, 8] (iSeqD (eCall [false, false] F_pieces (aCons (eVar 0) (aCons (eVar 1) aNil))))) (bTup 4 (bCons (bName 4) (bCons (bName 5) (bCons (bName 6) (bCons (bName 7) bNil))))) (sWipe [0, 1, 4, 5, 6, 7, 8] (sSeq (sSet 8 (eBin addD (eVar 4) (eBin mulD (eBin subD (eVar 2) (eVar 6)) (eVar 7))))
    (sIf (tAndD (tstB (eBin eqD (eVar 7) (eC (.int 0)))) (tstB (eBin eqD (eVar 6) (eVar 2)))) (sExpr (eMut 3 appU (aCons (eTup (aCons (eVar 4) (aCons (eVar 5) aNil))) aNil))) (sIf (tAndD (tstB (eBin neD (eVar 7) (eC (.int 0)))) (tstB (eChain leD leD (eVar 4) (eVar 8) (eVar 5)))) (sExpr (eMut 3 appU (aCons (eTup (aCons (eVar 8) (aCons (eVar 8) aNil))) aNil))) sNx)))))
    (sRet (eVar 3))))
def F_stretches : Sl → O (Rs × Sl) := fnD 3 6 g_stretches
def g_total_places : Sl → O (Fl × Sl) :=
  (sRet (eBlt sumD (aCons (eComp (iSeqD (eVar 0)) (bTup 2 (bCons (bName 1) (bCons (bName 2) bNil))) cYes (eBin addD (eBin subD (eVar 2) (eVar 1)) (eC (.int 1))) [1, 2]) aNil)))
def F_total_places : Sl → O (Rs × Sl) := fnD 1 2 g_total_places
def g_place_at : Sl → O (Fl × Sl) :=
  (sSeq (sFor (iWipe [0, 2, 3] (iSeqD (eVar 0))) (bTup 2 (bCons (bName 2) (bCons (bName 3) bNil))) (sWipe [0, 2, 3] (sSeq (sIf (tstB (eBin leD (eVar 1) (eBin subD (eVar 3) (eVar 2)))) (sRet (eBin addD (eVar 2) (eVar 1))) sNx)
    (sAug 1 subD (eBin addD (eBin subD (eVar 3) (eVar 2)) (eC (.int 1)))))))
    (sRet (eC .non)))
def F_place_at : Sl → O (Rs × Sl) := fnD 2 2 g_place_at
def g_count_arcs : Sl → O (Fl × Sl) :=
  (sSeq (sExpr (eCall [false, false, false] F_check_arcs (aCons (eVar 0) (aCons (eVar 1) (aCons (eVar 2) aNil)))))
    (sRet (eCall [false] F_total_places (aCons (eCall [false, false, false] F_stretches (aCons (eVar 0) (aCons (eVar 1) (aCons (eVar 2) aNil)))) aNil))))
def F_count_arcs : Sl → O (Rs × Sl) := fnD 3 0 g_count_arcs
def g_nth_arc : Sl → O (Fl × Sl) :=
  (sSeq (sExpr (eCall [false, false, false] F_check_arcs (aCons (eVar 0) (aCons (eVar 1) (aCons (eVar 2) aNil)))))
    (sSeq (sSet 4 (eCall [false, false, false] F_stretches (aCons (eVar 0) (aCons (eVar 1) (aCons (eVar 2) aNil)))))
    (sSeq (sIf (tNotD (tst (eCall [false, false, false] F_is_integer (aCons (eVar 3) (aCons (eC (.int 0)) (aCons (eBin subD (eCall [false] F_total_places (aCons (eVar 4) aNil)) (eC (.int 1))) aNil)))))) sBad sNx)
    (sRet (eCall [false, false] F_place_at (aCons (eVar 4) (aCons (eVar 3) aNil)))))))
def F_nth_arc : Sl → O (Rs × Sl) := fnD 4 1 g_nth_arc
def g_check_halves : Sl → O (Fl × Sl) :=
  (sSeq (sExpr (eCall [false] F_check_strand (aCons (eVar 0) aNil)))
    (sIf (tOrD (tstB (eBin neD (eBin modD (eCall [false] F_beads_in (aCons (eVar 0) aNil)) (eC (.int 2))) (eC (.int 0)))) (tstB (eBin neD (eBin modD (eCall [false] F_dark_total (aCons (eVar 0) aNil)) (eC (.int 2))) (eC (.int 0))))) sBad sNx))
def F_check_halves : Sl → O (Rs × Sl) := fnD 1 0 g_check_halves
def g_is_cut_in_half : Sl → O (Fl × Sl) :=
  (sRet (eBin eqD (eCall [false, false, false] F_dark_of (aCons (eVar 0) (aCons (eC (.int 0)) (aCons (eBin fdivD (eCall [false] F_beads_in (aCons (eVar 0) aNil)) (eC (.int 2))) aNil)))) (eBin fdivD (eCall [false] F_dark_total (aCons (eVar 0) aNil)) (eC (.int 2)))))
def F_is_cut_in_half : Sl → O (Rs × Sl) := fnD 1 0 g_is_cut_in_half
def g_halvings : Sl → O (Fl × Sl) :=
  (sSeq (sSet 1 (eCall [false, false, false] F_count_arcs (aCons (eVar 0) (aCons (eBin fdivD (eCall [false] F_beads_in (aCons (eVar 0) aNil)) (eC (.int 2))) (aCons (eBin fdivD (eCall [false] F_dark_total (aCons (eVar 0) aNil)) (eC (.int 2))) aNil)))))
    (sRet (eBin addD (eBin fdivD (eVar 1) (eC (.int 2))) (eBlt intD (aCons (eCall [false] F_is_cut_in_half (aCons (eVar 0) aNil)) aNil)))))
def F_halvings : Sl → O (Rs × Sl) := fnD 1 1 g_halvings
def g_count_halvings : Sl → O (Fl × Sl) :=
  (sSeq (sExpr (eCall [false] F_check_halves (aCons (eVar 0) aNil)))
    (sRet (eCall [false] F_halvings (aCons (eVar 0) aNil))))
def F_count_halvings : Sl → O (Rs × Sl) := fnD 1 0 g_count_halvings
def g_nth_halving : Sl → O (Fl × Sl) :=
  (sSeq (sExpr (eCall [false] F_check_halves (aCons (eVar 0) aNil)))
    (sSeq (sIf (tNotD (tst (eCall [false, false, false] F_is_integer (aCons (eVar 1) (aCons (eC (.int 0)) (aCons (eBin subD (eCall [false] F_halvings (aCons (eVar 0) aNil)) (eC (.int 1))) aNil)))))) sBad sNx)
    (sRet (eCall [false, false, false, false] F_nth_arc (aCons (eVar 0) (aCons (eBin fdivD (eCall [false] F_beads_in (aCons (eVar 0) aNil)) (eC (.int 2))) (aCons (eBin fdivD (eCall [false] F_dark_total (aCons (eVar 0) aNil)) (eC (.int 2))) (aCons (eVar 1) aNil))))))))
def F_nth_halving : Sl → O (Rs × Sl) := fnD 2 0 g_nth_halving
def g_fewest_row_cuts : Sl → O (Fl × Sl) :=
  (sSeq (sExpr (eCall [false] F_check_halves (aCons (eVar 0) aNil)))
    (sRet (eIf (tst (eCall [false] F_is_cut_in_half (aCons (eVar 0) aNil))) (eC (.int 1)) (eC (.int 2)))))
def F_fewest_row_cuts : Sl → O (Rs × Sl) := fnD 1 0 g_fewest_row_cuts
def g_law_bad_strand_k08 : Sl → O (Fl × Sl) :=
  (sSeq (sSet 2 (eBin ixD (eBin ixD (eVar 1) (eC (.int 0))) (eC (.int 0))))
    (sSeq (sSet 3 (eLst (aCons (eC .non) (aCons (eTup (aCons (eVar 2) aNil)) (aCons (eTup (aCons (eVar 2) (aCons (eC (.int 0)) aNil))) (aCons (eTup (aCons (eVar 2) (aCons (eUn negD (eC (.int 1))) aNil))) (aCons (eTup (aCons (eVar 2) (aCons (eC (.bl true)) aNil))) (aCons (eTup (aCons (eVar 2) (aCons (eC (.str "1")) aNil))) (aCons (eTup (aCons (eC (.str "X")) (aCons (eC (.int 1)) aNil))) aNil)))))))))
    (sSeq (sSet 3 (eBin addD (eVar 3) (eLst (aCons (eTup (aCons (eC .non) (aCons (eC (.int 1)) aNil))) (aCons (eLst (aCons (eVar 2) (aCons (eC (.int 1)) aNil))) (aCons (eTup (aCons (eVar 2) (aCons (eC (.int 1)) (aCons (eC (.int 1)) aNil)))) (aCons (eTup (aCons (eC (.int 1)) (aCons (eVar 2) aNil))) (aCons (eC (.str "D1")) aNil))))))))
    (sSeq (sSet 4 (eCall [true, false] F_law_draw_k06 (aCons (eVar 0) (aCons (eC (.int 17)) aNil))))
    (sSeq (sIf (tstB (eBin gtD (eVar 4) (eC (.int 11)))) (sRet (eBin ixD (eLst (aCons (eC .non) (aCons (eTup aNil) (aCons (eBlt listD (aCons (eVar 1) aNil)) (aCons (eBin addD (eVar 1) (eSlice (eVar 1) (oSome (eBin subD (eBlt lenD (aCons (eVar 1) aNil)) (eC (.int 1)))) oNone)) (aCons (eC (.str "D1 L1")) aNil)))))) (eBin subD (eVar 4) (eC (.int 12))))) sNx)
    (sSeq (sSet 5 (eCall [true, false] F_law_draw_k06 (aCons (eVar 0) (aCons (eBlt lenD (aCons (eVar 1) aNil)) aNil))))
    (sRet (eBin addD (eBin addD (eSlice (eVar 1) oNone (oSome (eVar 5))) (eTup (aCons (eBin ixD (eVar 3) (eVar 4)) aNil))) (eSlice (eVar 1) (oSome (eBin addD (eVar 5) (eC (.int 1)))) oNone)))))))))
def F_law_bad_strand_k08 : Sl → O (Rs × Sl) := fnD 2 4 g_law_bad_strand_k08
def g_law_arguments_k08 : Sl → O (Fl × Sl) :=
  (sSeq (sSet 3 (eBlt lenD (aCons (eVar 2) aNil)))
    (sSeq (sSet 4 (eLst (aCons (eC .non) (aCons (eUn negD (eC (.int 1))) (aCons (eC (.bl true)) (aCons (eC (.str "1")) (aCons (eTup (aCons (eC (.int 1)) aNil)) (aCons (eLst (aCons (eC (.int 1)) aNil)) (aCons (eBin addD (eVar 3) (eC (.int 1))) (aCons (eBin addD (eVar 3) (eBin powD (eC (.int 10)) (eC (.int 9)))) aNil))))))))))
    (sSeq (sSet 5 (eLst (aCons (eCall [true, false] F_law_draw_k06 (aCons (eVar 0) (aCons (eVar 3) aNil))) (aCons (eCall [true, false] F_law_draw_k06 (aCons (eVar 0) (aCons (eBin addD (eVar 3) (eC (.int 1))) aNil))) aNil))))
    (sSeq (sSet 6 (eLst aNil))
    (sSeq (sIf (tAndD (tstB (eBin ltD (eVar 1) (eC (.int 3)))) (tstB (eBin eqD (eCall [true, false] F_law_draw_k06 (aCons (eVar 0) (aCons (eC (.int 4)) aNil))) (eC (.int 0))))) (sSeq (sSetIx 5 (eC (.int 1)) (eBin ixD (eVar 4) (eCall [true, false] F_law_draw_k06 (aCons (eVar 0) (aCons (eC (.int 8)) aNil)))))
    (sSet 6 (eLst (aCons (eC (.str "InvalidLength")) (aCons (eC (.str "ValueError")) aNil))))) sNx)
    (sSeq (sIf (tAndD (tstB (eBin ltD (eVar 1) (eC (.int 4)))) (tstB (eBin eqD (eCall [true, false] F_law_draw_k06 (aCons (eVar 0) (aCons (eC (.int 4)) aNil))) (eC (.int 0))))) (sSeq (sSetIx 5 (eC (.int 0)) (eBin ixD (eBin addD (eVar 4) (eLst (aCons (eVar 3) aNil))) (eCall [true, false] F_law_draw_k06 (aCons (eVar 0) (aCons (eC (.int 9)) aNil)))))
    (sSet 6 (eLst (aCons (eC (.str "InvalidPlace")) (aCons (eC (.str "ValueError")) aNil))))) sNx)
    (sRet (eTup (aCons (eVar 5) (aCons (eVar 6) aNil))))))))))
def F_law_arguments_k08 : Sl → O (Rs × Sl) := fnD 3 4 g_law_arguments_k08
def g_law_row_arguments_k08 : Sl → O (Fl × Sl) :=
  (sSeq (sIf (tstB (eBin gtD (eBin addD (eBin modD (eBlt lenD (aCons (eVar 1) aNil)) (eC (.int 2))) (eBin modD (eMet "list" countD (eVar 1) (aCons (eC (.str "D")) aNil)) (eC (.int 2)))) (eC (.int 0)))) (sRet (eTup (aCons (eLst (aCons (eC (.int 0)) (aCons (eC (.int 0)) aNil))) (aCons (eLst (aCons (eC (.str "NotDivisible")) (aCons (eC (.str "ValueError")) (aCons (eC (.int 0)) aNil)))) aNil)))) sNx)
    (sSeq (sSet 2 (eBin fdivD (eBlt lenD (aCons (eVar 1) aNil)) (eC (.int 2))))
    (sSeq (sSet 3 (eBin fdivD (eMet "list" countD (eVar 1) (aCons (eC (.str "D")) aNil)) (eC (.int 2))))
    (sSeq (sSet 4 (eBlt lenD (aCons (eComp (iRng rng1D (aCons (eBin addD (eVar 2) (eC (.int 1))) aNil)) (bName 6) (tstB (eBin eqD (eMet "list" countD (eSlice (eVar 1) (oSome (eVar 6)) (oSome (eBin addD (eVar 6) (eVar 2)))) (aCons (eC (.str "D")) aNil)) (eVar 3))) (eVar 6) [6]) aNil)))
    (sSeq (sIf (tstB (eBin eqD (eCall [true, false] F_law_draw_k06 (aCons (eVar 0) (aCons (eC (.int 2)) aNil))) (eC (.int 0)))) (sRet (eTup (aCons (eLst (aCons (eCall [true, false] F_law_draw_k06 (aCons (eVar 0) (aCons (eVar 4) aNil))) (aCons (eC (.int 0)) aNil))) (aCons (eLst aNil) aNil)))) sNx)
    (sSeq (sSet 5 (eBin ixD (eLst (aCons (eC .non) (aCons (eUn negD (eC (.int 1))) (aCons (eC (.bl true)) (aCons (eC (.str "0")) (aCons (eVar 4) (aCons (eBin addD (eVar 4) (eBin powD (eC (.int 10)) (eC (.int 9)))) aNil))))))) (eCall [true, false] F_law_draw_k06 (aCons (eVar 0) (aCons (eC (.int 6)) aNil)))))
    (sRet (eTup (aCons (eLst (aCons (eVar 5) (aCons (eC (.int 0)) aNil))) (aCons (eLst (aCons (eC (.str "InvalidIndex")) (aCons (eC (.str "ValueError")) aNil))) aNil))))))))))
def F_law_row_arguments_k08 : Sl → O (Rs × Sl) := fnD 2 5 g_law_row_arguments_k08
def g_range_at : Sl → O (Fl × Sl) :=
  (sSeq (sSet 2 (eLst aNil))
    (sSeq (sFor (iWipe [0, 1, 3, 4, 5, 6] (iSeqD (eCall [false, false] F_pieces (aCons (eVar 0) (aCons (eVar 1) aNil))))) (bTup 4 (bCons (bName 3) (bCons (bName 4) (bCons (bName 5) (bCons (bName 6) bNil))))) (sWipe [0, 1, 3, 4, 5, 6] (sExpr (eMut 2 extU (aCons (eLst (aCons (eVar 5) (aCons (eBin addD (eVar 5) (eBin mulD (eVar 6) (eBin subD (eVar 4) (eVar 3)))) aNil))) aNil)))))
    (sRet (eTup (aCons (eBlt minD (aCons (eVar 2) aNil)) (aCons (eBlt maxD (aCons (eVar 2) aNil)) aNil))))))
def F_range_at : Sl → O (Rs × Sl) := fnD 2 5 g_range_at
def g_least_length : Sl → O (Fl × Sl) :=
  (sSeq (sPar2 2 3 (aCons (eC (.int 0)) (aCons (eCall [false] F_beads_in (aCons (eVar 0) aNil)) aNil)))
    (sSeq (sPre [4] (sWhile fuelN (tstB (eBin ltD (eVar 2) (eVar 3))) (sWipe [4] (sSeq (sSet 4 (eBin fdivD (eBin addD (eVar 2) (eVar 3)) (eC (.int 2))))
    (sIf (tstB (eBin geD (eBin ixD (eCall [false, false] F_range_at (aCons (eVar 0) (aCons (eVar 4) aNil))) (eC (.int 1))) (eVar 1))) (sSet 3 (eMov 4)) (sSet 2 (eBin addD (eVar 4) (eC (.int 1)))))))))
    (sRet (eVar 2))))
def F_least_length : Sl → O (Rs × Sl) := fnD 2 3 g_least_length
def g_dark_range : Sl → O (Fl × Sl) :=
  (sSeq (sExpr (eCall [false] F_check_strand (aCons (eVar 0) aNil)))
    (sSeq (sExpr (eCall [false, false] F_check_length (aCons (eCall [false] F_beads_in (aCons (eVar 0) aNil)) (aCons (eVar 1) aNil))))
    (sRet (eCall [false, false] F_range_at (aCons (eVar 0) (aCons (eVar 1) aNil))))))
def F_dark_range : Sl → O (Rs × Sl) := fnD 2 0 g_dark_range
def g_length_range : Sl → O (Fl × Sl) :=
  (sSeq (sExpr (eCall [false] F_check_strand (aCons (eVar 0) aNil)))
    (sSeq (sSet 2 (eCall [false] F_dark_total (aCons (eVar 0) aNil)))
    (sSeq (sIf (tNotD (tst (eCall [false, false, false] F_is_integer (aCons (eVar 1) (aCons (eC (.int 0)) (aCons (eVar 2) aNil)))))) sBad sNx)
    (sRet (eTup (aCons (eCall [false, false] F_least_length (aCons (eVar 0) (aCons (eVar 1) aNil))) (aCons (eBin subD (eCall [false] F_beads_in (aCons (eVar 0) aNil)) (eCall [false, false] F_least_length (aCons (eVar 0) (aCons (eBin subD (eVar 2) (eVar 1)) aNil)))) aNil)))))))
def F_length_range : Sl → O (Rs × Sl) := fnD 2 1 g_length_range
def g_law_cell_k09 : Sl → O (Fl × Sl) :=
  (sRet (eIf (tstB (eBin ltD (eVar 1) (eBlt lenD (aCons (eVar 0) aNil)))) (eBin ixD (eVar 0) (eVar 1)) (eC (.int 0))))
def F_law_cell_k09 : Sl → O (Rs × Sl) := fnD 2 0 g_law_cell_k09
def g_law_source_k09 : Sl → O (Fl × Sl) :=
  (sRet (eLst (aCons (eBlt maxD (aCons (eC (.int 0)) (aCons (eBin subD (eBlt absD (aCons (eVar 0) aNil)) (eBin powD (eC (.int 10)) (eC (.int 18)))) aNil))) (aCons (eBin modD (eVar 0) (eBin addD (eBin powD (eC (.int 10)) (eC (.int 36))) (eC (.int 67)))) (aCons (eC (.int 0)) aNil)))))
def F_law_source_k09 : Sl → O (Rs × Sl) := fnD 1 0 g_law_source_k09
def g_law_draw_k09 : Sl → O (Fl × Sl) :=
  (sSeq (sIf (tstB (eBin gtD (eBin ixD (eVar 0) (eC (.int 0))) (eC (.int 0)))) (sSeq (sSet 2 (eBin modD (eBin ixD (eVar 0) (eC (.int 0))) (eVar 1)))
    (sSeq (sSetIx 0 (eC (.int 0)) (eBin fdivD (eBin ixD (eVar 0) (eC (.int 0))) (eVar 1)))
    (sRet (eVar 2)))) sNx)
    (sSeq (sSetIx 0 (eC (.int 2)) (eBin addD (eBin ixD (eVar 0) (eC (.int 2))) (eC (.int 1))))
    (sSeq (sSet 3 (eBin modD (eBin powD (eBin addD (eBin addD (eBin ixD (eVar 0) (eC (.int 1))) (eBin mulD (eC (.int 86028157)) (eBin ixD (eVar 0) (eC (.int 2))))) (eC (.int 7))) (eC (.int 3))) (eBin addD (eBin powD (eC (.int 10)) (eC (.int 41))) (eC (.int 37)))))
    (sSeq (sSet 3 (eBin modD (eBin powD (eBin addD (eVar 3) (eBin mulD (eC (.int 141650963)) (eBin ixD (eVar 0) (eC (.int 2))))) (eC (.int 3))) (eBin addD (eBin powD (eC (.int 10)) (eC (.int 43))) (eC (.int 57)))))
    (sRet (eBin modD (eBin fdivD (eVar 3) (eC (.int 9341))) (eVar 1)))))))
def F_law_draw_k09 : Sl → O (Rs × Sl) := fnD 2 2 g_law_draw_k09
def g_law_packed_k09 : Sl → O (Fl × Sl) :=
  (sSeq (sSet 1 (eLst aNil))
    (sSeq (sFor (iWipe [0, 2] (iSeqD (eVar 0))) (bName 2) (sWipe [0, 2] (sIf (tAndD (tstB (eBin neD (eVar 1) (eLst aNil))) (tstB (eBin eqD (eBin ixD (eBin ixD (eVar 1) (eUn negD (eC (.int 1)))) (eC (.int 0))) (eVar 2)))) (sSetIx 1 (eUn negD (eC (.int 1))) (eTup (aCons (eVar 2) (aCons (eBin addD (eBin ixD (eBin ixD (eVar 1) (eUn negD (eC (.int 1)))) (eC (.int 1))) (eC (.int 1))) aNil)))) (sExpr (eMut 1 appU (aCons (eTup (aCons (eVar 2) (aCons (eC (.int 1)) aNil))) aNil))))))
    (sRet (eBlt tupleD (aCons (eVar 1) aNil)))))
def F_law_packed_k09 : Sl → O (Rs × Sl) := fnD 1 2 g_law_packed_k09
def g_law_all_sides_k09 : Sl → O (Fl × Sl) :=
  (sSeq (sSet 1 (eLst (aCons (eLst aNil) aNil)))
    (sSeq (sFor (iWipe [0, 2, 3, 4] (iRng rng1D (aCons (eVar 0) aNil))) (bName 2) (sWipe [0, 2, 3, 4] (sSeq (sSet 3 (eLst aNil))
    (sSeq (sFor (iWipe [0, 1, 2, 4] (iSeqD (eVar 1))) (bName 4) (sWipe [0, 1, 2, 4] (sExpr (eMut 3 extU (aCons (eLst (aCons (eBin addD (eVar 4) (eLst (aCons (eC (.str "D")) aNil))) (aCons (eBin addD (eVar 4) (eLst (aCons (eC (.str "L")) aNil))) aNil))) aNil)))))
    (sSet 1 (eMov 3))))))
    (sRet (eVar 1))))
def F_law_all_sides_k09 : Sl → O (Rs × Sl) := fnD 1 4 g_law_all_sides_k09
def g_law_some_sides_k09 : Sl → O (Fl × Sl) :=
  (sSeq (sPar3 2 3 4 (aCons (eCall [true, false] F_law_draw_k09 (aCons (eVar 0) (aCons (eC (.int 4)) aNil))) (aCons (eBin ixD (eC (.str "DL")) (eCall [true, false] F_law_draw_k09 (aCons (eVar 0) (aCons (eC (.int 2)) aNil)))) (aCons (eLst aNil) aNil))))
    (sSeq (sFor (iWipe [1, 5, 6, 7] (iRng rng1D (aCons (eBin addD (eC (.int 1)) (eCall [true, false] F_law_draw_k09 (aCons (eVar 0) (aCons (eVar 1) aNil)))) aNil))) (bName 5) (sWipe [1, 5, 6, 7] (sSeq (sSet 6 (eSwp 3))
    (sSeq (sSet 7 (eBin ixD (eLst (aCons (eCall [true, false] F_law_draw_k09 (aCons (eVar 0) (aCons (eC (.int 2)) aNil))) (aCons (eBlt intD (aCons (eBin eqD (eCall [true, false] F_law_draw_k09 (aCons (eVar 0) (aCons (eC (.int 4)) aNil))) (eC (.int 0))) aNil)) (aCons (eC (.int 0)) (aCons (eC (.int 1)) aNil))))) (eVar 2)))
    (sSeq (sSet 3 (eBin ixD (eLst (aCons (eVar 3) (aCons (eVar 6) aNil))) (eVar 7)))
    (sExpr (eMut 4 appU (aCons (eVar 3) aNil))))))))
    (sRet (eVar 4))))
def F_law_some_sides_k09 : Sl → O (Rs × Sl) := fnD 2 6 g_law_some_sides_k09
def g_law_table_k09 : Sl → O (Fl × Sl) :=
  (sSeq (sPar2 1 2 (aCons (eBlt lenD (aCons (eVar 0) aNil)) (aCons (eLst aNil) aNil)))
    (sSeq (sFor (iWipe [3] (iRng rng1D (aCons (eBin addD (eVar 1) (eC (.int 1))) aNil))) (bName 3) (sWipe [3] (sExpr (eMut 2 appU (aCons (eComp (iRng rng1D (aCons (eVar 1) aNil)) (bName 4) cYes (eMet "list" countD (eSlice (eBin addD (eVar 0) (eVar 0)) (oSome (eVar 4)) (oSome (eBin addD (eVar 4) (eVar 3)))) (aCons (eC (.str "D")) aNil)) [4]) aNil)))))
    (sRet (eVar 2))))
def F_law_table_k09 : Sl → O (Rs × Sl) := fnD 1 4 g_law_table_k09
def g_law_right_k09 : Sl → O (Fl × Sl) :=
  (sSeq (sPar2 1 2 (aCons (eCall [false] F_law_packed_k09 (aCons (eVar 0) aNil)) (aCons (eCall [false] F_law_table_k09 (aCons (eFz (eVar 0)) aNil)) aNil)))
    (sSeq (sFor (iWipe [3, 4, 5, 6, 7] (iFrz enumD (aCons (eVar 2) aNil))) (bTup 2 (bCons (bName 3) (bCons (bName 4) bNil))) (sWipe [3, 4, 5, 6, 7] (sSeq (sSet 5 (eTup (aCons (eBlt minD (aCons (eVar 4) aNil)) (aCons (eBlt maxD (aCons (eVar 4) aNil)) aNil))))
    (sSeq (sIf (tOrD (tstB (eBin neD (eCall [false, false] F_dark_range (aCons (eVar 1) (aCons (eVar 3) aNil))) (eVar 5))) (tstB (eBin neD (eCallK [false, false] F_dark_range 0 2 [1, 0] aNil (aCons (eVar 3) (aCons (eVar 1) aNil))) (eVar 5)))) (sRet (eC (.bl false))) sNx)
    (sIf (tstB (eBin neD (eBlt sortedSetD (aCons (eVar 4) aNil)) (eBin lrg2D (eBin ixD (eVar 5) (eC (.int 0))) (eBin addD (eBin ixD (eVar 5) (eC (.int 1))) (eC (.int 1)))))) (sRet (eC (.bl false))) sNx)))))
    (sSeq (sFor (iWipe [0, 3, 4, 5, 6, 7] (iRng rng1D (aCons (eBin addD (eMet "list" countD (eVar 0) (aCons (eC (.str "D")) aNil)) (eC (.int 1))) aNil))) (bName 6) (sWipe [0, 3, 4, 5, 6, 7] (sSeq (sSet 7 (eComp (iFrz enumD (aCons (eVar 2) aNil)) (bTup 2 (bCons (bName 3) (bCons (bName 4) bNil))) (tstB (eBin inD (eVar 6) (eVar 4))) (eVar 3) [3, 4]))
    (sSeq (sSet 5 (eTup (aCons (eBin ixD (eVar 7) (eC (.int 0))) (aCons (eBin ixD (eVar 7) (eUn negD (eC (.int 1)))) aNil))))
    (sSeq (sIf (tOrD (tstB (eBin neD (eCall [false, false] F_length_range (aCons (eVar 1) (aCons (eVar 6) aNil))) (eVar 5))) (tstB (eBin neD (eCallK [false, false] F_length_range 0 2 [1, 0] aNil (aCons (eVar 6) (aCons (eVar 1) aNil))) (eVar 5)))) (sRet (eC (.bl false))) sNx)
    (sIf (tstB (eBin neD (eVar 7) (eBin lrg2D (eBin ixD (eVar 7) (eC (.int 0))) (eBin addD (eBin ixD (eVar 7) (eUn negD (eC (.int 1)))) (eC (.int 1)))))) (sRet (eC (.bl false))) sNx))))))
    (sRet (eC (.bl true))))))
def F_law_right_k09 : Sl → O (Rs × Sl) := fnD 1 7 g_law_right_k09
def g_law_k09 : Sl → O (Fl × Sl) :=
  (sSeq (sFor (iWipe [1, 2, 3, 4] (iRng rng2D (aCons (eC (.int 1)) (aCons (eC (.int 6)) aNil)))) (bName 1) (sWipe [1, 2, 3, 4] (sIf (tstB (eBin neD (eComp (iSeqD (eCall [false] F_law_all_sides_k09 (aCons (eFz (eVar 1)) aNil))) (bName 5) (tNotD (tst (eCall [false] F_law_right_k09 (aCons (eVar 5) aNil)))) (eVar 5) [5]) (eLst aNil))) (sRet (eC (.bl false))) sNx)))
    (sSeq (sFor (iWipe [1, 2, 3, 4] (iRng rng1D (aCons (eBlt maxD (aCons (eC (.int 1)) (aCons (eBlt minD (aCons (eC (.int 4)) (aCons (eBlt lenD (aCons (eVar 0) aNil)) aNil))) aNil))) aNil))) (bName 2) (sWipe [1, 2, 3, 4] (sSeq (sSet 3 (eCall [false] F_law_source_k09 (aCons (eBin addD (eCall [false, false] F_law_cell_k09 (aCons (eVar 0) (aCons (eVar 2) aNil))) (eC (.int 9))) aNil)))
    (sFor (iWipe [1, 2, 4] (iRng rng1D (aCons (eC (.int 3)) aNil))) (bName 4) (sWipe [1, 2, 4] (sIf (tNotD (tst (eCall [false] F_law_right_k09 (aCons (eCall [true, false] F_law_some_sides_k09 (aCons (eVar 3) (aCons (eC (.int 12)) aNil))) aNil)))) (sRet (eC (.bl false))) sNx))))))
    (sRet (eC (.bl true)))))
def F_law_k09 : Sl → O (Rs × Sl) := fnD 1 5 g_law_k09
def g_law_line_k10 : Sl → O (Fl × Sl) :=
  (sSeq (sPar2 3 4 (aCons (eCall [true, false] F_law_draw_k09 (aCons (eVar 0) (aCons (eC (.int 2)) aNil))) (aCons (eLst aNil) aNil)))
    (sSeq (sFor (iWipe [1, 5, 6] (iRng rng1D (aCons (eBin addD (eC (.int 1)) (eCall [true, false] F_law_draw_k09 (aCons (eVar 0) (aCons (eVar 1) aNil)))) aNil))) (bName 5) (sWipe [1, 5, 6] (sSeq (sSet 6 (eBin ixD (eLst (aCons (eBin addD (eC (.int 1)) (eCall [true, false] F_law_draw_k09 (aCons (eVar 0) (aCons (eC (.int 3)) aNil)))) (aCons (eBin addD (eC (.int 1)) (eCall [true, false] F_law_draw_k09 (aCons (eVar 0) (aCons (eC (.int 40)) aNil)))) (aCons (eBin addD (eC (.int 1)) (eCall [true, false] F_law_draw_k09 (aCons (eVar 0) (aCons (eVar 2) aNil)))) aNil)))) (eCall [true, false] F_law_draw_k09 (aCons (eVar 0) (aCons (eC (.int 3)) aNil)))))
    (sExpr (eMut 4 appU (aCons (eTup (aCons (eBin ixD (eC (.str "DL")) (eBin modD (eBin addD (eVar 3) (eVar 5)) (eC (.int 2)))) (aCons (eVar 6) aNil))) aNil))))))
    (sRet (eBlt tupleD (aCons (eVar 4) aNil)))))
def F_law_line_k10 : Sl → O (Rs × Sl) := fnD 3 4 g_law_line_k10
def g_law_amount_k10 : Sl → O (Fl × Sl) :=
  (sRet (eBlt sumD (aCons (eComp (iSeqD (eVar 0)) (bTup 2 (bCons (bName 1) (bCons (bName 2) bNil))) cYes (eVar 2) [1, 2]) aNil)))
def F_law_amount_k10 : Sl → O (Rs × Sl) := fnD 1 2 g_law_amount_k10
def g_law_dark_k10 : Sl → O (Fl × Sl) :=
  (sSeq (sPar2 2 3 (aCons (eC (.int 0)) (aCons (eC (.int 0)) aNil)))
    (sSeq (sFor (iWipe [0, 4, 5] (iSeqD (eVar 0))) (bTup 2 (bCons (bName 4) (bCons (bName 5) bNil))) (sWipe [0, 4, 5] (sSeq (sSet 2 (eBin addD (eVar 2) (eBin mulD (eBlt maxD (aCons (eC (.int 0)) (aCons (eBlt minD (aCons (eVar 5) (aCons (eBin subD (eVar 1) (eVar 3)) aNil))) aNil))) (eBlt intD (aCons (eBin eqD (eVar 4) (eC (.str "D"))) aNil)))))
    (sSet 3 (eBin addD (eVar 3) (eVar 5))))))
    (sRet (eVar 2))))
def F_law_dark_k10 : Sl → O (Rs × Sl) := fnD 2 4 g_law_dark_k10
def g_law_arc_k10 : Sl → O (Fl × Sl) :=
  (sSeq (sSet 3 (eCall [false] F_law_amount_k10 (aCons (eVar 0) aNil)))
    (sSeq (sSet 4 (eBin addD (eVar 1) (eVar 2)))
    (sSeq (sIf (tstB (eBin leD (eVar 4) (eVar 3))) (sRet (eBin subD (eCall [false, false] F_law_dark_k10 (aCons (eVar 0) (aCons (eVar 4) aNil))) (eCall [false, false] F_law_dark_k10 (aCons (eVar 0) (aCons (eVar 1) aNil))))) sNx)
    (sRet (eBin addD (eBin subD (eCall [false, false] F_law_dark_k10 (aCons (eVar 0) (aCons (eVar 3) aNil))) (eCall [false, false] F_law_dark_k10 (aCons (eVar 0) (aCons (eVar 1) aNil)))) (eCall [false, false] F_law_dark_k10 (aCons (eVar 0) (aCons (eBin subD (eVar 4) (eVar 3)) aNil))))))))
def F_law_arc_k10 : Sl → O (Rs × Sl) := fnD 3 2 g_law_arc_k10
def g_law_edges_k10 : Sl → O (Fl × Sl) :=
  (sSeq (sPar2 1 2 (aCons (eLst aNil) (aCons (eC (.int 0)) aNil)))
    (sSeq (sFor (iWipe [0, 3, 4] (iSeqD (eVar 0))) (bTup 2 (bCons (bName 3) (bCons (bName 4) bNil))) (sWipe [0, 3, 4] (sSeq (sExpr (eMut 1 appU (aCons (eVar 2) aNil)))
    (sSet 2 (eBin addD (eVar 2) (eVar 4))))))
    (sRet (eVar 1))))
def F_law_edges_k10 : Sl → O (Rs × Sl) := fnD 1 4 g_law_edges_k10
def g_law_breaks_k10 : Sl → O (Fl × Sl) :=
  (sSeq (sPar2 2 3 (aCons (eCall [false] F_law_amount_k10 (aCons (eVar 0) aNil)) (aCons (eCall [false] F_law_edges_k10 (aCons (eVar 0) aNil)) aNil)))
    (sRet (eBlt sortedSetD (aCons (eBin addD (eVar 3) (eComp (iSeqD (eVar 3)) (bName 4) cYes (eBin modD (eBin subD (eVar 4) (eVar 1)) (eVar 2)) [4])) aNil))))
def F_law_breaks_k10 : Sl → O (Rs × Sl) := fnD 2 3 g_law_breaks_k10
def g_law_low_high_k10 : Sl → O (Fl × Sl) :=
  (sSeq (sSet 2 (eComp (iSeqD (eCall [false, false] F_law_breaks_k10 (aCons (eVar 0) (aCons (eVar 1) aNil)))) (bName 3) cYes (eCall [false, false, false] F_law_arc_k10 (aCons (eVar 0) (aCons (eVar 3) (aCons (eVar 1) aNil)))) [3]))
    (sRet (eTup (aCons (eBlt minD (aCons (eVar 2) aNil)) (aCons (eBlt maxD (aCons (eVar 2) aNil)) aNil)))))
def F_law_low_high_k10 : Sl → O (Rs × Sl) := fnD 2 2 g_law_low_high_k10
def g_law_size_k10 : Sl → O (Fl × Sl) :=
  (sSeq (sPar2 2 3 (aCons (eCall [false] F_law_amount_k10 (aCons (eVar 1) aNil)) (aCons (eCall [false] F_law_edges_k10 (aCons (eVar 1) aNil)) aNil)))
    (sSeq (sSet 4 (eBin modD (eBin subD (eBin ixD (eVar 3) (eCall [true, false] F_law_draw_k09 (aCons (eVar 0) (aCons (eBlt lenD (aCons (eVar 3) aNil)) aNil)))) (eBin ixD (eVar 3) (eCall [true, false] F_law_draw_k09 (aCons (eVar 0) (aCons (eBlt lenD (aCons (eVar 3) aNil)) aNil))))) (eVar 2)))
    (sSeq (sSet 5 (eLst (aCons (eC (.int 0)) (aCons (eVar 2) (aCons (eVar 4) (aCons (eBlt maxD (aCons (eC (.int 0)) (aCons (eBin subD (eVar 4) (eC (.int 1))) aNil))) (aCons (eBlt minD (aCons (eVar 2) (aCons (eBin addD (eVar 4) (eC (.int 1))) aNil))) (aCons (eCall [true, false] F_law_draw_k09 (aCons (eVar 0) (aCons (eBin addD (eVar 2) (eC (.int 1))) aNil))) (aCons (eBin fdivD (eVar 2) (eC (.int 2))) aNil)))))))))
    (sRet (eBin ixD (eBin addD (eVar 5) (eBin mulD (eLst (aCons (eCall [true, false] F_law_draw_k09 (aCons (eVar 0) (aCons (eBin addD (eVar 2) (eC (.int 1))) aNil))) aNil)) (eC (.int 3)))) (eCall [true, false] F_law_draw_k09 (aCons (eVar 0) (aCons (eC (.int 10)) aNil))))))))
def F_law_size_k10 : Sl → O (Rs × Sl) := fnD 2 4 g_law_size_k10
def g_law_no_strand_k11 : Sl → O (Fl × Sl) :=
  (sSeq (sSet 2 (eLst (aCons (eTup (aCons (eC (.str "D")) (aCons (eC (.int 0)) aNil))) (aCons (eTup (aCons (eC (.str "D")) (aCons (eC (.bl true)) aNil))) (aCons (eTup (aCons (eC (.str "d")) (aCons (eC (.int 1)) aNil))) (aCons (eTup (aCons (eC (.str "")) (aCons (eC (.int 1)) aNil))) (aCons (eTup (aCons (eC (.str "D")) aNil)) (aCons (eTup (aCons (eC (.str "D")) (aCons (eC (.int 1)) (aCons (eC (.int 1)) aNil)))) (aCons (eLst (aCons (eC (.str "D")) (aCons (eC (.int 1)) aNil))) (aCons (eC .non) (aCons (eTup (aCons (eC (.str "D")) (aCons (eC (.str "1")) aNil))) (aCons (eTup (aCons (eC (.int 1)) (aCons (eC (.str "D")) aNil))) aNil))))))))))))
    (sSeq (sSet 3 (eCall [true, false] F_law_draw_k09 (aCons (eVar 0) (aCons (eBin addD (eBlt lenD (aCons (eVar 1) aNil)) (eC (.int 1))) aNil))))
    (sSeq (sSet 4 (eBin addD (eBin addD (eSlice (eVar 1) oNone (oSome (eVar 3))) (eTup (aCons (eBin ixD (eBin addD (eVar 2) (eLst (aCons (eTup (aCons (eC (.str "DL")) (aCons (eC (.int 1)) aNil))) aNil))) (eCall [true, false] F_law_draw_k09 (aCons (eVar 0) (aCons (eC (.int 11)) aNil)))) aNil))) (eSlice (eVar 1) (oSome (eVar 3)) oNone)))
    (sSeq (sSet 5 (eLst (aCons (eVar 4) (aCons (eTup aNil) (aCons (eBlt listD (aCons (eVar 1) aNil)) (aCons (eC .non) (aCons (eC (.int 7)) (aCons (eC (.str "D1")) (aCons eEmp (aCons (eC (.bl true)) (aCons (eBin addD (eVar 1) (eSlice (eVar 1) (oSome (eUn negD (eC (.int 1)))) oNone)) (aCons (eTup (aCons (eTup (aCons (eC (.str "L")) (aCons (eC (.int 2)) aNil))) (aCons (eTup (aCons (eC (.str "L")) (aCons (eC (.int 1)) aNil))) aNil))) (aCons (eTup (aCons (eVar 1) aNil)) (aCons (eTup (aCons (eC (.str "D")) (aCons (eC (.int 1)) aNil))) aNil))))))))))))))
    (sRet (eBin ixD (eVar 5) (eBin ixD (eLst (aCons (eC (.int 0)) (aCons (eCall [true, false] F_law_draw_k09 (aCons (eVar 0) (aCons (eC (.int 12)) aNil))) aNil))) (eCall [true, false] F_law_draw_k09 (aCons (eVar 0) (aCons (eC (.int 2)) aNil))))))))))
def F_law_no_strand_k11 : Sl → O (Rs × Sl) := fnD 2 4 g_law_no_strand_k11
def g_law_found_k13 : Sl → O (Fl × Sl) :=
  (sSeq (sPar3 3 4 5 (aCons (eCall [false, false] F_law_breaks_k10 (aCons (eVar 0) (aCons (eVar 1) aNil))) (aCons (eCall [false] F_law_amount_k10 (aCons (eVar 0) aNil)) (aCons (eLst aNil) aNil))))
    (sSeq (sFor (iWipe [3, 4, 6, 7, 8, 9] (iFrz zipD (aCons (eVar 3) (aCons (eBin addD (eSlice (eVar 3) (oSome (eC (.int 1))) oNone) (eLst (aCons (eVar 4) aNil))) aNil)))) (bTup 2 (bCons (bName 6) (bCons (bName 7) bNil))) (sWipe [3, 4, 6, 7, 8, 9] (sSeq (sPar2 8 9 (aCons (eCall [false, false, false] F_law_arc_k10 (aCons (eVar 0) (aCons (eVar 6) (aCons (eVar 1) aNil)))) (aCons (eCall [false, false, false] F_law_arc_k10 (aCons (eVar 0) (aCons (eBin subD (eVar 7) (eC (.int 1))) (aCons (eVar 1) aNil)))) aNil)))
    (sIf (tstB (eChain eqD eqD (eVar 8) (eVar 9) (eVar 2))) (sExpr (eMut 5 appU (aCons (eTup (aCons (eVar 6) (aCons (eBin subD (eVar 7) (eC (.int 1))) aNil))) aNil))) (sIf (tAndD (tstB (eBin neD (eVar 8) (eVar 9))) (tstB (eChain leD leD (eBlt minD (aCons (eVar 8) (aCons (eVar 9) aNil))) (eVar 2) (eBlt maxD (aCons (eVar 8) (aCons (eVar 9) aNil)))))) (sExpr (eMut 5 appU (aCons (eTup (aCons (eBin addD (eVar 6) (eBlt absD (aCons (eBin subD (eVar 2) (eVar 8)) aNil))) (aCons (eBin addD (eVar 6) (eBlt absD (aCons (eBin subD (eVar 2) (eVar 8)) aNil))) aNil))) aNil))) sNx)))))
    (sRet (eVar 5))))
def F_law_found_k13 : Sl → O (Rs × Sl) := fnD 3 7 g_law_found_k13
def g_law_near_k13 : Sl → O (Fl × Sl) :=
  (sSeq (sTgt (bTup 2 (bCons (bName 3) (bCons (bName 4) bNil))) (eCall [false, false] F_law_low_high_k10 (aCons (eVar 1) (aCons (eVar 2) aNil))))
    (sSeq (sSet 5 (eBin fdivD (eBin mulD (eVar 2) (eCall [false, false] F_law_dark_k10 (aCons (eVar 1) (aCons (eCall [false] F_law_amount_k10 (aCons (eVar 1) aNil)) aNil)))) (eCall [false] F_law_amount_k10 (aCons (eVar 1) aNil))))
    (sSeq (sSet 6 (eLst (aCons (eVar 3) (aCons (eVar 4) (aCons (eBin addD (eVar 4) (eC (.int 1))) (aCons (eBlt maxD (aCons (eC (.int 0)) (aCons (eBin subD (eVar 3) (eC (.int 1))) aNil))) (aCons (eVar 5) (aCons (eBin addD (eVar 3) (eCall [true, false] F_law_draw_k09 (aCons (eVar 0) (aCons (eBin addD (eBin subD (eVar 4) (eVar 3)) (eC (.int 1))) aNil)))) aNil))))))))
    (sRet (eBin ixD (eBin addD (eVar 6) (eBin mulD (eLst (aCons (eBin addD (eVar 3) (eCall [true, false] F_law_draw_k09 (aCons (eVar 0) (aCons (eBin addD (eBin subD (eVar 4) (eVar 3)) (eC (.int 1))) aNil)))) aNil)) (eC (.int 2)))) (eCall [true, false] F_law_draw_k09 (aCons (eVar 0) (aCons (eC (.int 8)) aNil))))))))
def F_law_near_k13 : Sl → O (Rs × Sl) := fnD 3 4 g_law_near_k13
def g_law_mirrored_k14 : Sl → O (Fl × Sl) :=
  (sRet (eUn revA (eVar 0)))
def F_law_mirrored_k14 : Sl → O (Rs × Sl) := fnD 1 0 g_law_mirrored_k14
def g_law_swapped_k14 : Sl → O (Fl × Sl) :=
  (sRet (eBlt tupleD (aCons (eComp (iSeqD (eVar 0)) (bTup 2 (bCons (bName 1) (bCons (bName 2) bNil))) cYes (eTup (aCons (eSwp 1) (aCons (eVar 2) aNil))) [1, 2]) aNil)))
def F_law_swapped_k14 : Sl → O (Rs × Sl) := fnD 1 2 g_law_swapped_k14
def g_law_joined_k14 : Sl → O (Fl × Sl) :=
  (sSeq (sSet 1 (eLst aNil))
    (sSeq (sFor (iWipe [0, 2, 3] (iSeqD (eVar 0))) (bTup 2 (bCons (bName 2) (bCons (bName 3) bNil))) (sWipe [0, 2, 3] (sIf (tAndD (tstB (eBin neD (eVar 1) (eLst aNil))) (tstB (eBin eqD (eBin ixD (eBin ixD (eVar 1) (eUn negD (eC (.int 1)))) (eC (.int 0))) (eVar 2)))) (sSetIx 1 (eUn negD (eC (.int 1))) (eTup (aCons (eVar 2) (aCons (eBin addD (eBin ixD (eBin ixD (eVar 1) (eUn negD (eC (.int 1)))) (eC (.int 1))) (eVar 3)) aNil)))) (sExpr (eMut 1 appU (aCons (eTup (aCons (eVar 2) (aCons (eVar 3) aNil))) aNil))))))
    (sRet (eBlt tupleD (aCons (eVar 1) aNil)))))
def F_law_joined_k14 : Sl → O (Rs × Sl) := fnD 1 3 g_law_joined_k14
def g_law_turned_k14 : Sl → O (Fl × Sl) :=
  (sSeq (sPar3 2 3 4 (aCons (eLst aNil) (aCons (eLst aNil) (aCons (eC (.int 0)) aNil))))
    (sSeq (sFor (iWipe [0, 5, 6, 7] (iSeqD (eVar 0))) (bTup 2 (bCons (bName 5) (bCons (bName 6) bNil))) (sWipe [0, 5, 6, 7] (sSeq (sSet 7 (eBlt maxD (aCons (eC (.int 0)) (aCons (eBlt minD (aCons (eVar 6) (aCons (eBin subD (eVar 1) (eVar 4)) aNil))) aNil))))
    (sSeq (sSet 2 (eBin addD (eVar 2) (eBin mulD (eLst (aCons (eTup (aCons (eVar 5) (aCons (eVar 7) aNil))) aNil)) (eBlt intD (aCons (eBin gtD (eVar 7) (eC (.int 0))) aNil)))))
    (sSeq (sSet 3 (eBin addD (eVar 3) (eBin mulD (eLst (aCons (eTup (aCons (eVar 5) (aCons (eBin subD (eVar 6) (eVar 7)) aNil))) aNil)) (eBlt intD (aCons (eBin ltD (eVar 7) (eVar 6)) aNil)))))
    (sSet 4 (eBin addD (eVar 4) (eVar 6))))))))
    (sRet (eCall [false] F_law_joined_k14 (aCons (eBin addD (eVar 3) (eVar 2)) aNil)))))
def F_law_turned_k14 : Sl → O (Rs × Sl) := fnD 2 6 g_law_turned_k14
def g_law_has_k14 : Sl → O (Fl × Sl) :=
  (sSeq (sPar2 5 6 (aCons (eC (.int 0)) (aCons (eBin subD (eVar 3) (eC (.int 1))) aNil)))
    (sSeq (sPre [3, 7] (sWhile fuelN (tstB (eBin ltD (eVar 5) (eVar 6))) (sWipe [3, 7] (sSeq (sSet 7 (eBin fdivD (eBin addD (eVar 5) (eVar 6)) (eC (.int 2))))
    (sIf (tstB (eBin ltD (eCall [false, false, false, false] F_nth_arc (aCons (eVar 0) (aCons (eVar 1) (aCons (eVar 2) (aCons (eVar 7) aNil))))) (eVar 4))) (sSet 5 (eBin addD (eVar 7) (eC (.int 1)))) (sSet 6 (eMov 7)))))))
    (sRet (eBin eqD (eCall [false, false, false, false] F_nth_arc (aCons (eVar 0) (aCons (eVar 1) (aCons (eVar 2) (aCons (eVar 5) aNil))))) (eVar 4)))))
def F_law_has_k14 : Sl → O (Rs × Sl) := fnD 5 3 g_law_has_k14
def g_first_place_with : Sl → O (Fl × Sl) :=
  (sSeq (sFor (iWipe [0, 1, 3, 4, 5, 6] (iSeqD (eCall [false, false] F_pieces (aCons (eVar 0) (aCons (eVar 1) aNil))))) (bTup 4 (bCons (bName 3) (bCons (bName 4) (bCons (bName 5) (bCons (bName 6) bNil))))) (sWipe [0, 1, 3, 4, 5, 6] (sSeq (sIf (tstB (eBin eqD (eVar 5) (eVar 2))) (sRet (eVar 3)) sNx)
    (sIf (tstB (eBin eqD (eBin addD (eVar 5) (eBin mulD (eVar 6) (eBin subD (eVar 4) (eVar 3)))) (eVar 2))) (sRet (eVar 4)) sNx))))
    (sRet (eC .non)))
def F_first_place_with : Sl → O (Rs × Sl) := fnD 3 4 g_first_place_with
def g_widest_of : Sl → O (Fl × Sl) :=
  (sSeq (sSet 1 (eCall [false] F_beads_in (aCons (eVar 0) aNil)))
    (sSeq (sSet 2 (eCall [false] F_borders (aCons (eVar 0) aNil)))
    (sSeq (sSet 3 (eBlt sortedSetD (aCons (eComp2 (iSeqD (eVar 2)) (bName 8) cYes (iSeqD (eVar 2)) (bName 9) cYes (eBin modD (eBin subD (eVar 9) (eVar 8)) (eVar 1)) [8, 9] [9]) aNil)))
    (sSeq (sSet 4 (eTup (aCons (eUn negD (eC (.int 1))) (aCons (eC (.int 0)) aNil))))
    (sSeq (sFor (iWipe [1, 2, 3, 5, 6, 7] (iSeqD (eVar 3))) (bName 5) (sWipe [1, 2, 3, 5, 6, 7] (sSeq (sTgt (bTup 2 (bCons (bName 6) (bCons (bName 7) bNil))) (eCall [false, false] F_range_at (aCons (eVar 0) (aCons (eVar 5) aNil))))
    (sIf (tstB (eBin gtD (eBin subD (eVar 7) (eVar 6)) (eBin ixD (eVar 4) (eC (.int 0))))) (sSet 4 (eTup (aCons (eBin subD (eVar 7) (eVar 6)) (aCons (eVar 5) aNil)))) sNx))))
    (sRet (eVar 4)))))))
def F_widest_of : Sl → O (Rs × Sl) := fnD 1 9 g_widest_of
def g_widest : Sl → O (Fl × Sl) :=
  (sSeq (sExpr (eCall [false] F_check_strand (aCons (eVar 0) aNil)))
    (sSeq (sTgt (bTup 2 (bCons (bName 1) (bCons (bName 2) bNil))) (eCall [false] F_widest_of (aCons (eVar 0) aNil)))
    (sSeq (sTgt (bTup 2 (bCons (bName 3) (bCons (bName 4) bNil))) (eCall [false, false] F_range_at (aCons (eVar 0) (aCons (eVar 2) aNil))))
    (sRet (eTup (aCons (eVar 1) (aCons (eVar 2) (aCons (eCall [false, false, false] F_first_place_with (aCons (eVar 0) (aCons (eVar 2) (aCons (eVar 4) aNil)))) (aCons (eCall [false, false, false] F_first_place_with (aCons (eVar 0) (aCons (eVar 2) (aCons (eVar 3) aNil)))) aNil)))))))))
def F_widest : Sl → O (Rs × Sl) := fnD 1 4 g_widest
def g_is_even : Sl → O (Fl × Sl) :=
  (sSeq (sExpr (eCall [false] F_check_strand (aCons (eVar 0) aNil)))
    (sRet (eBin leD (eBin ixD (eCall [false] F_widest_of (aCons (eVar 0) aNil)) (eC (.int 0))) (eC (.int 1)))))
def F_is_even : Sl → O (Rs × Sl) := fnD 1 0 g_is_even
def g_law_right_k16 : Sl → O (Fl × Sl) :=
  (sSeq (sPar2 1 2 (aCons (eCall [false] F_law_packed_k09 (aCons (eVar 0) aNil)) (aCons (eCall [false] F_law_table_k09 (aCons (eFz (eVar 0)) aNil)) aNil)))
    (sSeq (sSet 3 (eComp (iSeqD (eVar 2)) (bName 7) cYes (eBin subD (eBlt maxD (aCons (eVar 7) aNil)) (eBlt minD (aCons (eVar 7) aNil))) [7]))
    (sSeq (sSet 4 (eBlt maxD (aCons (eVar 3) aNil)))
    (sSeq (sSet 5 (eMet "list" indexD (eVar 3) (aCons (eVar 4) aNil)))
    (sSeq (sSet 6 (eTup (aCons (eVar 4) (aCons (eVar 5) (aCons (eMet "list" indexD (eBin ixD (eVar 2) (eVar 5)) (aCons (eBlt maxD (aCons (eBin ixD (eVar 2) (eVar 5)) aNil)) aNil)) (aCons (eMet "list" indexD (eBin ixD (eVar 2) (eVar 5)) (aCons (eBlt minD (aCons (eBin ixD (eVar 2) (eVar 5)) aNil)) aNil)) aNil))))))
    (sSeq (sIf (tOrD (tstB (eBin neD (eCall [false] F_widest (aCons (eVar 1) aNil)) (eVar 6))) (tstB (eBin neD (eCallK [false] F_widest 0 1 [0] aNil (aCons (eVar 1) aNil)) (eVar 6)))) (sRet (eC (.bl false))) sNx)
    (sRet (eBin eqD (eBlt reprD (aCons (eLst (aCons (eCall [false] F_is_even (aCons (eVar 1) aNil)) (aCons (eCallK [false] F_is_even 0 1 [0] aNil (aCons (eVar 1) aNil)) aNil))) aNil)) (eBlt reprD (aCons (eLst (aCons (eBin ltD (eVar 4) (eC (.int 2))) (aCons (eBin ltD (eVar 4) (eC (.int 2))) aNil))) aNil))))))))))
def F_law_right_k16 : Sl → O (Rs × Sl) := fnD 1 7 g_law_right_k16
def g_law_k16 : Sl → O (Fl × Sl) :=
  (sSeq (sFor (iWipe [1, 2, 3, 4] (iRng rng2D (aCons (eC (.int 1)) (aCons (eC (.int 6)) aNil)))) (bName 1) (sWipe [1, 2, 3, 4] (sIf (tstB (eBin neD (eComp (iSeqD (eCall [false] F_law_all_sides_k09 (aCons (eFz (eVar 1)) aNil))) (bName 5) (tNotD (tst (eCall [false] F_law_right_k16 (aCons (eVar 5) aNil)))) (eVar 5) [5]) (eLst aNil))) (sRet (eC (.bl false))) sNx)))
    (sSeq (sFor (iWipe [1, 2, 3, 4] (iRng rng1D (aCons (eBlt maxD (aCons (eC (.int 1)) (aCons (eBlt minD (aCons (eC (.int 4)) (aCons (eBlt lenD (aCons (eVar 0) aNil)) aNil))) aNil))) aNil))) (bName 2) (sWipe [1, 2, 3, 4] (sSeq (sSet 3 (eCall [false] F_law_source_k09 (aCons (eBin addD (eCall [false, false] F_law_cell_k09 (aCons (eVar 0) (aCons (eVar 2) aNil))) (eC (.int 16))) aNil)))
    (sFor (iWipe [1, 2, 4] (iRng rng1D (aCons (eC (.int 3)) aNil))) (bName 4) (sWipe [1, 2, 4] (sIf (tNotD (tst (eCall [false] F_law_right_k16 (aCons (eCall [true, false] F_law_some_sides_k09 (aCons (eVar 3) (aCons (eC (.int 11)) aNil))) aNil)))) (sRet (eC (.bl false))) sNx))))))
    (sRet (eC (.bl true)))))
def F_law_k16 : Sl → O (Rs × Sl) := fnD 1 5 g_law_k16
def g_law_first_k17 : Sl → O (Fl × Sl) :=
  (sSeq (sPar2 3 4 (aCons (eCall [false, false] F_law_breaks_k10 (aCons (eVar 0) (aCons (eVar 1) aNil))) (aCons (eCall [false] F_law_amount_k10 (aCons (eVar 0) aNil)) aNil)))
    (sSeq (sFor (iWipe [3, 4, 5, 6, 7] (iFrz zipD (aCons (eVar 3) (aCons (eBin addD (eSlice (eVar 3) (oSome (eC (.int 1))) oNone) (eLst (aCons (eVar 4) aNil))) aNil)))) (bTup 2 (bCons (bName 5) (bCons (bName 6) bNil))) (sWipe [3, 4, 5, 6, 7] (sFor (iWipe [3, 4, 5, 6, 7] (iSeqD (eLst (aCons (eVar 5) (aCons (eBin subD (eVar 6) (eC (.int 1))) aNil))))) (bName 7) (sWipe [3, 4, 5, 6, 7] (sIf (tstB (eBin eqD (eCall [false, false, false] F_law_arc_k10 (aCons (eVar 0) (aCons (eVar 7) (aCons (eVar 1) aNil)))) (eVar 2))) (sRet (eVar 7)) sNx)))))
    (sRet (eC .non))))
def F_law_first_k17 : Sl → O (Rs × Sl) := fnD 3 5 g_law_first_k17
def g_law_right_k17 : Sl → O (Fl × Sl) :=
  (sSeq (sPar2 2 3 (aCons (eCall [false] F_law_amount_k10 (aCons (eVar 1) aNil)) (aCons (eCall [false] F_law_edges_k10 (aCons (eVar 1) aNil)) aNil)))
    (sSeq (sTgt (bTup 4 (bCons (bName 4) (bCons (bName 5) (bCons (bName 6) (bCons (bName 7) bNil))))) (eCall [false] F_widest (aCons (eVar 1) aNil)))
    (sSeq (sTgt (bTup 2 (bCons (bName 8) (bCons (bName 9) bNil))) (eCall [false, false] F_law_low_high_k10 (aCons (eVar 1) (aCons (eVar 5) aNil))))
    (sSeq (sIf (tOrD (tstB (eBin neD (eVar 4) (eBin subD (eVar 9) (eVar 8)))) (tAndD (tstB (eBin ltD (eBlt lenD (aCons (eVar 3) aNil)) (eC (.int 9)))) (tstB (eBin neD (eCall [false] F_is_even (aCons (eVar 1) aNil)) (eBin leD (eVar 4) (eC (.int 1))))))) (sRet (eC (.bl false))) sNx)
    (sSeq (sIf (tstB (eBin neD (eLst (aCons (eVar 6) (aCons (eVar 7) aNil))) (eLst (aCons (eCall [false, false, false] F_law_first_k17 (aCons (eVar 1) (aCons (eVar 5) (aCons (eVar 9) aNil)))) (aCons (eCall [false, false, false] F_law_first_k17 (aCons (eVar 1) (aCons (eVar 5) (aCons (eVar 8) aNil)))) aNil))))) (sRet (eC (.bl false))) sNx)
    (sSeq (sSet 10 (eLst aNil))
    (sSeq (sFor (iWipe [6, 7, 8, 9, 11, 12, 13] (iSeqD (eVar 3))) (bName 11) (sWipe [6, 7, 8, 9, 11, 12, 13] (sSet 10 (eBin addD (eVar 10) (eComp (iSeqD (eVar 3)) (bName 15) cYes (eBin modD (eBin subD (eVar 15) (eVar 11)) (eVar 2)) [15])))))
    (sSeq (sSet 12 (eBlt sortedSetD (aCons (eVar 10) aNil)))
    (sSeq (sIf (tstB (eBin gtD (eBlt lenD (aCons (eVar 3) aNil)) (eC (.int 8)))) (sSet 12 (eComp (iRng rng1D (aCons (eC (.int 12)) aNil)) (bName 14) cYes (eBin ixD (eVar 10) (eCall [true, false] F_law_draw_k09 (aCons (eVar 0) (aCons (eBlt lenD (aCons (eVar 10) aNil)) aNil)))) [14])) sNx)
    (sSeq (sFor (iWipe [2, 3, 6, 7, 8, 9, 10, 11, 12, 13] (iSeqD (eBin addD (eBin addD (eVar 12) (eLst (aCons (eBlt maxD (aCons (eC (.int 0)) (aCons (eBin subD (eVar 5) (eC (.int 1))) aNil))) aNil))) (eComp (iRng rng1D (aCons (eC (.int 4)) aNil)) (bName 14) cYes (eCall [true, false] F_law_draw_k09 (aCons (eVar 0) (aCons (eBin addD (eVar 2) (eC (.int 1))) aNil))) [14])))) (bName 13) (sWipe [2, 3, 6, 7, 8, 9, 10, 11, 12, 13] (sSeq (sTgt (bTup 2 (bCons (bName 8) (bCons (bName 9) bNil))) (eCall [false, false] F_law_low_high_k10 (aCons (eVar 1) (aCons (eVar 13) aNil))))
    (sIf (tOrD (tstB (eBin gtD (eBin subD (eVar 9) (eVar 8)) (eVar 4))) (tAndD (tstB (eBin eqD (eBin subD (eVar 9) (eVar 8)) (eVar 4))) (tstB (eBin ltD (eVar 13) (eVar 5))))) (sRet (eC (.bl false))) sNx))))
    (sRet (eC (.bl true)))))))))))))
def F_law_right_k17 : Sl → O (Rs × Sl) := fnD 2 14 g_law_right_k17
def g_law_k17 : Sl → O (Fl × Sl) :=
  (sSeq (sFor (iWipe [1, 2] (iRng rng1D (aCons (eBlt maxD (aCons (eC (.int 1)) (aCons (eBlt minD (aCons (eC (.int 2)) (aCons (eBlt lenD (aCons (eVar 0) aNil)) aNil))) aNil))) aNil))) (bName 1) (sWipe [1, 2] (sSeq (sSet 2 (eCall [false] F_law_source_k09 (aCons (eBin addD (eCall [false, false] F_law_cell_k09 (aCons (eVar 0) (aCons (eVar 1) aNil))) (eC (.int 17))) aNil)))
    (sSeq (sIf (tNotD (tst (eCall [true, false] F_law_right_k17 (aCons (eVar 2) (aCons (eCall [true, false, false] F_law_line_k10 (aCons (eVar 2) (aCons (eC (.int 7)) (aCons (eBin ixD (eLst (aCons (eC (.int 6)) (aCons (eBin powD (eC (.int 10)) (eC (.int 30))) aNil))) (eCall [true, false] F_law_draw_k09 (aCons (eVar 2) (aCons (eC (.int 2)) aNil)))) aNil)))) aNil))))) (sRet (eC (.bl false))) sNx)
    (sIf (tAndD (tstB (eBin eqD (eVar 1) (eC (.int 0)))) (tNotD (tst (eCall [true, false] F_law_right_k17 (aCons (eVar 2) (aCons (eCall [true, false, false] F_law_line_k10 (aCons (eVar 2) (aCons (eC (.int 12)) (aCons (eBin powD (eC (.int 10)) (eC (.int 30))) aNil)))) aNil)))))) (sRet (eC (.bl false))) sNx)))))
    (sRet (eC (.bl true))))
def F_law_k17 : Sl → O (Rs × Sl) := fnD 1 2 g_law_k17
def g_law_by_floors_k18 : Sl → O (Fl × Sl) :=
  (sSeq (sPar2 2 3 (aCons (eLst aNil) (aCons (eC (.int 0)) aNil)))
    (sSeq (sFor (iWipe [4, 5] (iRng rng1D (aCons (eVar 1) aNil))) (bName 4) (sWipe [4, 5] (sSeq (sSet 5 (eBin subD (eBin fdivD (eBin subD (eBin addD (eBin mulD (eBin addD (eVar 4) (eC (.int 1))) (eVar 0)) (eVar 1)) (eC (.int 1))) (eVar 1)) (eC (.int 1))))
    (sSeq (sSet 2 (eBin addD (eBin addD (eVar 2) (eBin mulD (eLst (aCons (eTup (aCons (eC (.str "L")) (aCons (eBin subD (eVar 5) (eVar 3)) aNil))) aNil)) (eBlt intD (aCons (eBin gtD (eVar 5) (eVar 3)) aNil)))) (eLst (aCons (eTup (aCons (eC (.str "D")) (aCons (eC (.int 1)) aNil))) aNil))))
    (sSet 3 (eBin addD (eVar 5) (eC (.int 1))))))))
    (sRet (eCall [false] F_law_joined_k14 (aCons (eBin addD (eVar 2) (eBin mulD (eLst (aCons (eTup (aCons (eC (.str "L")) (aCons (eBin subD (eVar 0) (eVar 3)) aNil))) aNil)) (eBlt intD (aCons (eBin gtD (eVar 0) (eVar 3)) aNil)))) aNil)))))
def F_law_by_floors_k18 : Sl → O (Rs × Sl) := fnD 2 4 g_law_by_floors_k18
def g_law_even_k18 : Sl → O (Fl × Sl) :=
  (sSeq (sPar2 1 2 (aCons (eCall [false] F_law_edges_k10 (aCons (eVar 0) aNil)) (aCons (eCall [false] F_law_amount_k10 (aCons (eVar 0) aNil)) aNil)))
    (sSeq (sFor (iWipe [3, 4, 5, 6] (iSeqD (eVar 1))) (bName 3) (sWipe [3, 4, 5, 6] (sFor (iWipe [4, 5, 6] (iSeqD (eVar 1))) (bName 4) (sWipe [4, 5, 6] (sSeq (sTgt (bTup 2 (bCons (bName 5) (bCons (bName 6) bNil))) (eCall [false, false] F_law_low_high_k10 (aCons (eVar 0) (aCons (eBin modD (eBin subD (eVar 4) (eVar 3)) (eVar 2)) aNil))))
    (sIf (tstB (eBin gtD (eBin subD (eVar 6) (eVar 5)) (eC (.int 1)))) (sRet (eC (.bl false))) sNx))))))
    (sRet (eC (.bl true)))))
def F_law_even_k18 : Sl → O (Rs × Sl) := fnD 1 6 g_law_even_k18
def g_even_dark : Sl → O (Fl × Sl) :=
  (sSeq (sIf (tNotD (tst (eCall [false, false, false] F_is_integer (aCons (eVar 0) (aCons (eC (.int 1)) (aCons (eC .non) aNil)))))) sBad sNx)
    (sSeq (sIf (tNotD (tst (eCall [false, false, false] F_is_integer (aCons (eVar 1) (aCons (eC (.int 0)) (aCons (eVar 0) aNil)))))) sBad sNx)
    (sSeq (sIf (tNotD (tst (eCall [false, false, false] F_is_integer (aCons (eVar 2) (aCons (eC (.int 0)) (aCons (eBin subD (eVar 0) (eC (.int 1))) aNil)))))) sBad sNx)
    (sSeq (sExpr (eCall [false, false] F_check_length (aCons (eVar 0) (aCons (eVar 3) aNil))))
    (sRet (eBin subD (eBin fdivD (eBin mulD (eBin addD (eVar 2) (eVar 3)) (eVar 1)) (eVar 0)) (eBin fdivD (eBin mulD (eVar 2) (eVar 1)) (eVar 0))))))))
def F_even_dark : Sl → O (Rs × Sl) := fnD 4 0 g_even_dark
def g_law_small_right_k19 : Sl → O (Fl × Sl) :=
  (sSeq (sSet 1 (eBin addD (eC (.int 1)) (eCall [true, false] F_law_draw_k09 (aCons (eVar 0) (aCons (eC (.int 15)) aNil)))))
    (sSeq (sSet 2 (eCall [true, false] F_law_draw_k09 (aCons (eVar 0) (aCons (eBin addD (eVar 1) (eC (.int 1))) aNil))))
    (sSeq (sSet 3 (eComp (iRng rng1D (aCons (eBin addD (eVar 1) (eC (.int 1))) aNil)) (bName 8) cYes (eBin fdivD (eBin mulD (eVar 8) (eVar 2)) (eVar 1)) [8]))
    (sSeq (sSet 4 (eComp (iRng rng1D (aCons (eVar 1) aNil)) (bName 8) cYes (eBin ixD (eC (.str "LD")) (eBin subD (eBin ixD (eVar 3) (eBin addD (eVar 8) (eC (.int 1)))) (eBin ixD (eVar 3) (eVar 8)))) [8]))
    (sSeq (sSet 5 (eCall [false] F_law_table_k09 (aCons (eFz (eVar 4)) aNil)))
    (sSeq (sFor (iWipe [3, 4, 5, 6, 7] (iFrz enumD (aCons (eVar 5) aNil))) (bTup 2 (bCons (bName 6) (bCons (bName 7) bNil))) (sWipe [3, 4, 5, 6, 7] (sSeq (sIf (tstB (eBin neD (eComp (iRng rng1D (aCons (eVar 1) aNil)) (bName 8) cYes (eCall [false, false, false, false] F_even_dark (aCons (eVar 1) (aCons (eVar 2) (aCons (eVar 8) (aCons (eVar 6) aNil))))) [8]) (eVar 7))) (sRet (eC (.bl false))) sNx)
    (sIf (tstB (eBin gtD (eBin subD (eBlt maxD (aCons (eVar 7) aNil)) (eBlt minD (aCons (eVar 7) aNil))) (eC (.int 1)))) (sRet (eC (.bl false))) sNx))))
    (sRet (eC (.bl true)))))))))
def F_law_small_right_k19 : Sl → O (Rs × Sl) := fnD 1 8 g_law_small_right_k19
def g_law_large_right_k19 : Sl → O (Fl × Sl) :=
  (sSeq (sSet 1 (eBin addD (eC (.int 1)) (eCall [true, false] F_law_draw_k09 (aCons (eVar 0) (aCons (eBin ixD (eLst (aCons (eBin powD (eC (.int 10)) (eC (.int 6))) (aCons (eBin powD (eC (.int 10)) (eC (.int 30))) (aCons (eBin powD (eC (.int 10)) (eC (.int 39))) aNil)))) (eCall [true, false] F_law_draw_k09 (aCons (eVar 0) (aCons (eC (.int 3)) aNil)))) aNil)))))
    (sSeq (sSet 2 (eCall [true, false] F_law_draw_k09 (aCons (eVar 0) (aCons (eBin addD (eVar 1) (eC (.int 1))) aNil))))
    (sSeq (sPar2 3 4 (aCons (eCall [true, false] F_law_draw_k09 (aCons (eVar 0) (aCons (eVar 1) aNil))) (aCons (eCall [true, false] F_law_draw_k09 (aCons (eVar 0) (aCons (eBin addD (eVar 1) (eC (.int 1))) aNil))) aNil)))
    (sSeq (sSet 5 (eCall [false, false, false, false] F_even_dark (aCons (eVar 1) (aCons (eVar 2) (aCons (eVar 3) (aCons (eVar 4) aNil))))))
    (sSeq (sIf (tstB (eBin neD (eCallK [false, false, false, false] F_even_dark 0 4 [3, 2, 1, 0] aNil (aCons (eVar 4) (aCons (eVar 3) (aCons (eVar 2) (aCons (eVar 1) aNil))))) (eVar 5))) (sRet (eC (.bl false))) sNx)
    (sSeq (sIf (tstB (eBin neD (eVar 5) (eBin subD (eBin fdivD (eBin mulD (eBin addD (eVar 3) (eVar 4)) (eVar 2)) (eVar 1)) (eBin fdivD (eBin mulD (eVar 3) (eVar 2)) (eVar 1))))) (sRet (eC (.bl false))) sNx)
    (sSeq (sIf (tstB (eBin neD (eCall [false, false, false, false] F_even_dark (aCons (eVar 1) (aCons (eVar 2) (aCons (eC (.int 0)) (aCons (eVar 4) aNil))))) (eBin fdivD (eBin mulD (eVar 4) (eVar 2)) (eVar 1)))) (sRet (eC (.bl false))) sNx)
    (sSeq (sIf (tstB (eBin notInD (eVar 5) (eLst (aCons (eBin fdivD (eBin mulD (eVar 4) (eVar 2)) (eVar 1)) (aCons (eBin fdivD (eBin subD (eBin addD (eBin mulD (eVar 4) (eVar 2)) (eVar 1)) (eC (.int 1))) (eVar 1)) aNil))))) (sRet (eC (.bl false))) sNx)
    (sSeq (sSet 6 (eCall [true, false] F_law_draw_k09 (aCons (eVar 0) (aCons (eBin addD (eBin subD (eVar 1) (eVar 4)) (eC (.int 1))) aNil))))
    (sSeq (sSet 7 (eBin modD (eBin addD (eVar 3) (eVar 4)) (eVar 1)))
    (sSeq (sIf (tstB (eBin neD (eBin addD (eVar 5) (eCall [false, false, false, false] F_even_dark (aCons (eVar 1) (aCons (eVar 2) (aCons (eVar 7) (aCons (eVar 6) aNil)))))) (eCall [false, false, false, false] F_even_dark (aCons (eVar 1) (aCons (eVar 2) (aCons (eVar 3) (aCons (eBin addD (eVar 4) (eVar 6)) aNil))))))) (sRet (eC (.bl false))) sNx)
    (sSeq (sIf (tOrD (tstB (eBin neD (eBin addD (eVar 5) (eCall [false, false, false, false] F_even_dark (aCons (eVar 1) (aCons (eVar 2) (aCons (eVar 7) (aCons (eBin subD (eVar 1) (eVar 4)) aNil)))))) (eVar 2))) (tstB (eBin neD (eCall [false, false, false, false] F_even_dark (aCons (eVar 1) (aCons (eVar 2) (aCons (eVar 3) (aCons (eVar 1) aNil))))) (eVar 2)))) (sRet (eC (.bl false))) sNx)
    (sSeq (sSet 8 (eBin addD (eC (.int 1)) (eCall [true, false] F_law_draw_k09 (aCons (eVar 0) (aCons (eC (.int 9)) aNil)))))
    (sRet (eBin eqD (eCall [false, false, false, false] F_even_dark (aCons (eBin mulD (eVar 1) (eVar 8)) (aCons (eBin mulD (eVar 2) (eVar 8)) (aCons (eBin addD (eVar 3) (eBin mulD (eVar 1) (eBin subD (eVar 8) (eC (.int 1))))) (aCons (eVar 4) aNil))))) (eVar 5))))))))))))))))
def F_law_large_right_k19 : Sl → O (Rs × Sl) := fnD 1 8 g_law_large_right_k19
def g_law_k19 : Sl → O (Fl × Sl) :=
  (sSeq (sFor (iWipe [1, 2, 3] (iRng rng1D (aCons (eBlt maxD (aCons (eC (.int 1)) (aCons (eBlt minD (aCons (eC (.int 6)) (aCons (eBlt lenD (aCons (eVar 0) aNil)) aNil))) aNil))) aNil))) (bName 1) (sWipe [1, 2, 3] (sSeq (sSet 2 (eCall [false] F_law_source_k09 (aCons (eBin addD (eCall [false, false] F_law_cell_k09 (aCons (eVar 0) (aCons (eVar 1) aNil))) (eC (.int 19))) aNil)))
    (sFor (iWipe [1, 3] (iRng rng1D (aCons (eC (.int 4)) aNil))) (bName 3) (sWipe [1, 3] (sIf (tOrD (tNotD (tst (eCall [true] F_law_small_right_k19 (aCons (eVar 2) aNil)))) (tNotD (tst (eCall [true] F_law_large_right_k19 (aCons (eVar 2) aNil))))) (sRet (eC (.bl false))) sNx))))))
    (sRet (eBin eqD (eCall [false, false, false, false] F_even_dark (aCons (eC (.int 10)) (aCons (eC (.int 4)) (aCons (eC (.int 8)) (aCons (eC (.int 3)) aNil))))) (eC (.int 1)))))
def F_law_k19 : Sl → O (Rs × Sl) := fnD 1 3 g_law_k19
def g_check_weights : Sl → O (Fl × Sl) :=
  (sSeq (sIf (tOrD (tstB (eBin eqD (eBlt lenD (aCons (eVar 1) aNil)) (eC (.int 0)))) (tNotD (tst (eBlt allD (aCons (eComp (iSeqD (eVar 1)) (bName 4) cYes (eCall [false, false, false] F_is_integer (aCons (eVar 4) (aCons (eC (.int 1)) (aCons (eC .non) aNil)))) [4]) aNil))))) sBad sNx)
    (sSeq (sSet 2 (eBlt sumD (aCons (eVar 1) aNil)))
    (sFor (iWipe [1, 3, 4] (iFrz enumD (aCons (eVar 1) aNil))) (bTup 2 (bCons (bName 3) (bCons (bName 4) bNil))) (sWipe [1, 3, 4] (sIf (tOrD (tstB (eBin neD (eBin modD (eBin mulD (eCall [false] F_beads_in (aCons (eVar 0) aNil)) (eVar 4)) (eVar 2)) (eC (.int 0)))) (tstB (eBin neD (eBin modD (eBin mulD (eCall [false] F_dark_total (aCons (eVar 0) aNil)) (eVar 4)) (eVar 2)) (eC (.int 0))))) sBad sNx)))))
def F_check_weights : Sl → O (Rs × Sl) := fnD 2 3 g_check_weights
def g_least_start : Sl → O (Fl × Sl) :=
  (sSeq (sSet 3 (eCall [false] F_beads_in (aCons (eVar 0) aNil)))
    (sSeq (sSet 4 (eLst (aCons (eC (.int 0)) (aCons (eVar 3) aNil))))
    (sSeq (sFor (iWipe [5, 6, 7, 8, 9, 10] (iSeqD (eCall [false] F_borders (aCons (eVar 0) aNil)))) (bName 5) (sWipe [5, 6, 7, 8, 9, 10] (sExpr (eMut 4 extU (aCons (eLst (aCons (eBin modD (eVar 5) (eVar 3)) (aCons (eBin modD (eBin subD (eVar 5) (eVar 1)) (eVar 3)) aNil))) aNil)))))
    (sSeq (sSet 6 (eBlt sortedSetD (aCons (eVar 4) aNil)))
    (sSeq (sFor (iWipe [4, 5, 6, 7, 8, 9, 10] (iFrz zipD (aCons (eVar 6) (aCons (eSlice (eVar 6) (oSome (eC (.int 1))) oNone) aNil)))) (bTup 2 (bCons (bName 7) (bCons (bName 8) bNil))) (sWipe [4, 5, 6, 7, 8, 9, 10] (sSeq (sPar2 9 10 (aCons (eCall [false, false, false] F_dark_of (aCons (eVar 0) (aCons (eVar 7) (aCons (eVar 1) aNil)))) (aCons (eCall [false, false, false] F_dark_of (aCons (eVar 0) (aCons (eBin modD (eVar 8) (eVar 3)) (aCons (eVar 1) aNil)))) aNil)))
    (sIf (tstB (eChain leD leD (eBlt minD (aCons (eVar 9) (aCons (eVar 10) aNil))) (eVar 2) (eBlt maxD (aCons (eVar 9) (aCons (eVar 10) aNil))))) (sRet (eBin addD (eVar 7) (eBlt absD (aCons (eBin subD (eVar 2) (eVar 9)) aNil)))) sNx))))
    (sRet (eC .non)))))))
def F_least_start : Sl → O (Rs × Sl) := fnD 3 8 g_least_start
def g_places_within : Sl → O (Fl × Sl) :=
  (sSeq (sSet 3 (eLst aNil))
    (sSeq (sSet 4 (eC (.int 0)))
    (sSeq (sFor (iWipe [0, 5, 6, 7, 8] (iSeqD (eVar 0))) (bTup 2 (bCons (bName 5) (bCons (bName 6) bNil))) (sWipe [0, 5, 6, 7, 8] (sSeq (sPar2 7 8 (aCons (eBlt maxD (aCons (eVar 1) (aCons (eVar 4) aNil))) (aCons (eBlt minD (aCons (eVar 2) (aCons (eBin subD (eBin addD (eVar 4) (eVar 6)) (eVar 5)) aNil))) aNil)))
    (sSeq (sIf (tstB (eBin ltD (eVar 7) (eVar 8))) (sExpr (eMut 3 appU (aCons (eTup (aCons (eBin subD (eBin addD (eVar 5) (eVar 7)) (eVar 4)) (aCons (eBin subD (eBin addD (eVar 5) (eVar 8)) (eVar 4)) aNil))) aNil))) sNx)
    (sAug 4 augAddD (eBin subD (eVar 6) (eVar 5)))))))
    (sRet (eVar 3)))))
def F_places_within : Sl → O (Rs × Sl) := fnD 3 6 g_places_within
def g_parts_of : Sl → O (Fl × Sl) :=
  (sSeq (sSet 2 (eLst aNil))
    (sSeq (sFor (iWipe [1, 3, 4, 5] (iSeqD (eVar 1))) (bTup 2 (bCons (bName 3) (bCons (bName 4) bNil))) (sWipe [1, 3, 4, 5] (sIf (tAndD (tstB (eBin neD (eVar 2) (eLst aNil))) (tstB (eBin eqD (eBin addD (eBin ixD (eBin ixD (eVar 2) (eUn negD (eC (.int 1)))) (eC (.int 0))) (eBin ixD (eBin ixD (eVar 2) (eUn negD (eC (.int 1)))) (eC (.int 1)))) (eVar 3)))) (sSetIx 2 (eUn negD (eC (.int 1))) (eTup (aCons (eBin ixD (eBin ixD (eVar 2) (eUn negD (eC (.int 1)))) (eC (.int 0))) (aCons (eBin subD (eBin addD (eBin ixD (eBin ixD (eVar 2) (eUn negD (eC (.int 1)))) (eC (.int 1))) (eVar 4)) (eVar 3)) aNil)))) (sExpr (eMut 2 appU (aCons (eTup (aCons (eVar 3) (aCons (eBin subD (eVar 4) (eVar 3)) aNil))) aNil))))))
    (sSeq (sIf (tAndD (tstB (eBin gtD (eBlt lenD (aCons (eVar 2) aNil)) (eC (.int 1)))) (tAndD (tstB (eBin eqD (eBin ixD (eBin ixD (eVar 2) (eC (.int 0))) (eC (.int 0))) (eC (.int 0)))) (tstB (eBin eqD (eBlt sumD (aCons (eBin ixD (eVar 2) (eUn negD (eC (.int 1)))) aNil)) (eVar 0))))) (sSeq (sTgt (bTup 2 (bCons (bName 3) (bCons (bName 5) bNil))) (eMut 2 popU aNil))
    (sSeq (sAug 5 augAddD (eBin ixD (eMut 2 popAtU (aCons (eC (.int 0)) aNil)) (eC (.int 1))))
    (sExpr (eMut 2 appU (aCons (eTup (aCons (eVar 3) (aCons (eVar 5) aNil))) aNil))))) sNx)
    (sRet (eVar 2)))))
def F_parts_of : Sl → O (Rs × Sl) := fnD 2 4 g_parts_of
def g_law_bag_k21 : Sl → O (Fl × Sl) :=
  (sRet (eLst (aCons (eBlt maxD (aCons (eC (.int 0)) (aCons (eBin subD (eVar 0) (eBin powD (eC (.int 10)) (eC (.int 18)))) aNil))) (aCons (eBin addD (eBin modD (eVar 0) (eC (.int 162259276829213363391578010288127))) (eBin mulD (eC (.int 6469)) (eBin addD (eVar 1) (eC (.int 1))))) (aCons (eC (.int 0)) aNil)))))
def F_law_bag_k21 : Sl → O (Rs × Sl) := fnD 2 0 g_law_bag_k21
def g_law_take_k21 : Sl → O (Fl × Sl) :=
  (sSeq (sIf (tstB (eBin gtD (eBin ixD (eVar 0) (eC (.int 0))) (eC (.int 1)))) (sSeq (sSet 2 (eBin modD (eBin ixD (eVar 0) (eC (.int 0))) (eVar 1)))
    (sSeq (sSetIx 0 (eC (.int 0)) (eBin fdivD (eBin ixD (eVar 0) (eC (.int 0))) (eVar 1)))
    (sRet (eVar 2)))) sNx)
    (sSeq (sSetIx 0 (eC (.int 2)) (eBin addD (eBin ixD (eVar 0) (eC (.int 2))) (eC (.int 1))))
    (sSeq (sSet 3 (eBin modD (eBin powD (eBin addD (eBin ixD (eVar 0) (eC (.int 1))) (eBin mulD (eC (.int 1300223)) (eBin ixD (eVar 0) (eC (.int 2))))) (eC (.int 3))) (eC (.int 162259276829213363391578010288127))))
    (sSeq (sSet 3 (eBin modD (eBin powD (eBin addD (eVar 3) (eBin mulD (eC (.int 15486253)) (eBin ixD (eVar 0) (eC (.int 2))))) (eC (.int 5))) (eC (.int 618970019642690137449562111))))
    (sRet (eBin modD (eBin fdivD (eVar 3) (eC (.int 1048576))) (eVar 1)))))))
def F_law_take_k21 : Sl → O (Rs × Sl) := fnD 2 2 g_law_take_k21
def g_law_weights_k21 : Sl → O (Fl × Sl) :=
  (sSeq (sPar2 2 3 (aCons (eBin addD (eC (.int 1)) (eCall [true, false] F_law_take_k21 (aCons (eVar 0) (aCons (eVar 1) aNil)))) (aCons (eCall [true, false] F_law_take_k21 (aCons (eVar 0) (aCons (eC (.int 3)) aNil))) aNil)))
    (sSeq (sSet 4 (eComp (iRng rng1D (aCons (eVar 2) aNil)) (bName 6) cYes (eBin addD (eC (.int 1)) (eBin mulD (eCall [true, false] F_law_take_k21 (aCons (eVar 0) (aCons (eC (.int 3)) aNil))) (eBlt intD (aCons (eBin gtD (eVar 3) (eC (.int 0))) aNil)))) [6]))
    (sSeq (sSet 5 (eBin ixD (eLst (aCons (eC (.int 1)) (aCons (eC (.int 1)) (aCons (eBin addD (eC (.int 1)) (eCall [true, false] F_law_take_k21 (aCons (eVar 0) (aCons (eBin powD (eC (.int 10)) (eC (.int 38))) aNil)))) aNil)))) (eVar 3)))
    (sRet (eComp (iSeqD (eVar 4)) (bName 7) cYes (eBin mulD (eVar 7) (eVar 5)) [7])))))
def F_law_weights_k21 : Sl → O (Rs × Sl) := fnD 2 6 g_law_weights_k21
def g_law_common_k21 : Sl → O (Fl × Sl) :=
  (sSeq (sSet 1 (eBin ixD (eVar 0) (eC (.int 0))))
    (sSeq (sFor (iWipe [0, 2] (iSeqD (eSlice (eVar 0) (oSome (eC (.int 1))) oNone))) (bName 2) (sWipe [0, 2] (sPre [0] (sWhile fuelN (tstB (eBin gtD (eVar 2) (eC (.int 0)))) (sWipe [0] (sPar2 1 2 (aCons (eVar 2) (aCons (eBin modD (eVar 1) (eVar 2)) aNil))))))))
    (sRet (eVar 1))))
def F_law_common_k21 : Sl → O (Rs × Sl) := fnD 1 2 g_law_common_k21
def g_law_runs_k21 : Sl → O (Fl × Sl) :=
  (sSeq (sSet 1 (eLst aNil))
    (sSeq (sFor (iWipe [0, 2] (iSeqD (eVar 0))) (bName 2) (sWipe [0, 2] (sIf (tAndD (tstB (eBin neD (eVar 1) (eLst aNil))) (tstB (eBin eqD (eBin ixD (eBin ixD (eVar 1) (eUn negD (eC (.int 1)))) (eC (.int 0))) (eVar 2)))) (sSetIx 1 (eUn negD (eC (.int 1))) (eTup (aCons (eVar 2) (aCons (eBin addD (eBin ixD (eBin ixD (eVar 1) (eUn negD (eC (.int 1)))) (eC (.int 1))) (eC (.int 1))) aNil)))) (sExpr (eMut 1 appU (aCons (eTup (aCons (eVar 2) (aCons (eC (.int 1)) aNil))) aNil))))))
    (sRet (eBlt tupleD (aCons (eVar 1) aNil)))))
def F_law_runs_k21 : Sl → O (Rs × Sl) := fnD 1 2 g_law_runs_k21
def g_law_owned_k21 : Sl → O (Fl × Sl) :=
  (sSeq (sPar3 2 3 4 (aCons (eUn lrg1D (eBlt lenD (aCons (eVar 0) aNil))) (aCons (eLst aNil) (aCons (eBlt sumD (aCons (eVar 1) aNil)) aNil))))
    (sSeq (sFor (iWipe [1, 5, 6, 7, 8, 9] (iSeqD (eSlice (eVar 1) oNone (oSome (eUn negD (eC (.int 1))))))) (bName 5) (sWipe [1, 5, 6, 7, 8, 9] (sSeq (sSet 6 (eBin fdivD (eBin mulD (eBlt lenD (aCons (eVar 0) aNil)) (eVar 5)) (eVar 4)))
    (sSeq (sSet 7 (eBin fdivD (eBin mulD (eMet "list" countD (eVar 0) (aCons (eC (.str "D")) aNil)) (eVar 5)) (eVar 4)))
    (sSeq (sSet 8 (eBin addD (eVar 2) (eVar 2)))
    (sSeq (sFor (iWipe [1, 5, 9] (iRng rng1D (aCons (eBlt lenD (aCons (eVar 2) aNil)) aNil))) (bName 9) (sWipe [1, 5, 9] (sSeq (sSet 10 (eSlice (eVar 8) (oSome (eVar 9)) (oSome (eBin addD (eVar 9) (eVar 6)))))
    (sIf (tstB (eBin eqD (eBlt lenD (aCons (eComp (iSeqD (eVar 10)) (bName 11) (tstB (eBin eqD (eBin ixD (eVar 0) (eVar 11)) (eC (.str "D")))) (eVar 11) [11]) aNil)) (eVar 7))) sBk sNx))))
    (sSeq (sExpr (eMut 3 appU (aCons (eVar 10) aNil)))
    (sSet 2 (eComp (iSeqD (eVar 2)) (bName 11) (tstB (eBin notInD (eVar 11) (eVar 10))) (eVar 11) [11])))))))))
    (sRet (eBin addD (eVar 3) (eLst (aCons (eVar 2) aNil))))))
def F_law_owned_k21 : Sl → O (Rs × Sl) := fnD 2 10 g_law_owned_k21
def g_law_arcs_k21 : Sl → O (Fl × Sl) :=
  (sSeq (sIf (tstB (eBin eqD (eBlt lenD (aCons (eVar 1) aNil)) (eVar 0))) (sRet (eLst (aCons (eTup (aCons (eC (.int 0)) (aCons (eVar 0) aNil))) aNil))) sNx)
    (sSeq (sSet 2 (eLst aNil))
    (sSeq (sFor (iWipe [3, 4] (iSeqD (eBlt sortedD (aCons (eVar 1) aNil)))) (bName 3) (sWipe [3, 4] (sIf (tstB (eBin notInD (eBin modD (eBin subD (eVar 3) (eC (.int 1))) (eVar 0)) (eVar 1))) (sSeq (sSet 4 (eC (.int 1)))
    (sSeq (sWhile fuelN (tstB (eBin inD (eBin modD (eBin addD (eVar 3) (eVar 4)) (eVar 0)) (eVar 1))) (sSet 4 (eBin addD (eVar 4) (eC (.int 1)))))
    (sExpr (eMut 2 appU (aCons (eTup (aCons (eVar 3) (aCons (eVar 4) aNil))) aNil))))) sNx)))
    (sRet (eVar 2)))))
def F_law_arcs_k21 : Sl → O (Rs × Sl) := fnD 2 3 g_law_arcs_k21
def g_law_ring_k21 : Sl → O (Fl × Sl) :=
  (sSeq (sSet 2 (eBin addD (eC (.int 1)) (eCall [true, false] F_law_take_k21 (aCons (eVar 0) (aCons (eBlt maxD (aCons (eC (.int 1)) (aCons (eBin fdivD (eC (.int 24)) (eVar 1)) aNil))) aNil)))))
    (sSeq (sSet 3 (eCall [true, false] F_law_take_k21 (aCons (eVar 0) (aCons (eBin addD (eVar 2) (eC (.int 1))) aNil))))
    (sSeq (sSet 4 (eBin addD (eBin mulD (eLst (aCons (eC (.str "D")) aNil)) (eBin mulD (eVar 1) (eVar 3))) (eBin mulD (eLst (aCons (eC (.str "L")) aNil)) (eBin mulD (eVar 1) (eBin subD (eVar 2) (eVar 3))))))
    (sRet (eComp (iRng rng1D (aCons (eBin mulD (eVar 1) (eVar 2)) aNil)) (bName 5) cYes (eMut 4 popAtU (aCons (eCall [true, false] F_law_take_k21 (aCons (eVar 0) (aCons (eBlt lenD (aCons (eVar 4) aNil)) aNil))) aNil)) [5])))))
def F_law_ring_k21 : Sl → O (Rs × Sl) := fnD 2 4 g_law_ring_k21
def g_law_line_k22 : Sl → O (Fl × Sl) :=
  (sSeq (sPar2 3 4 (aCons (eLst aNil) (aCons (eCall [true, false] F_law_take_k21 (aCons (eVar 0) (aCons (eC (.int 2)) aNil))) aNil)))
    (sSeq (sFor (iWipe [1, 5, 6] (iRng rng1D (aCons (eBin addD (eC (.int 1)) (eCall [true, false] F_law_take_k21 (aCons (eVar 0) (aCons (eVar 1) aNil)))) aNil))) (bName 5) (sWipe [1, 5, 6] (sSeq (sSet 6 (eBin addD (eC (.int 1)) (eCall [true, false] F_law_take_k21 (aCons (eVar 0) (aCons (eBin ixD (eLst (aCons (eC (.int 3)) (aCons (eC (.int 9)) (aCons (eVar 2) aNil)))) (eCall [true, false] F_law_take_k21 (aCons (eVar 0) (aCons (eC (.int 3)) aNil)))) aNil)))))
    (sExpr (eMut 3 appU (aCons (eTup (aCons (eBin ixD (eC (.str "DL")) (eBin modD (eBin addD (eVar 4) (eVar 5)) (eC (.int 2)))) (aCons (eVar 6) aNil))) aNil))))))
    (sRet (eBlt tupleD (aCons (eVar 3) aNil)))))
def F_law_line_k22 : Sl → O (Rs × Sl) := fnD 3 4 g_law_line_k22
def g_law_total_k22 : Sl → O (Fl × Sl) :=
  (sRet (eBlt sumD (aCons (eComp (iSeqD (eVar 0)) (bTup 2 (bCons (bName 1) (bCons (bName 2) bNil))) cYes (eVar 2) [1, 2]) aNil)))
def F_law_total_k22 : Sl → O (Rs × Sl) := fnD 1 2 g_law_total_k22
def g_law_dark_k22 : Sl → O (Fl × Sl) :=
  (sRet (eBlt sumD (aCons (eComp (iSeqD (eVar 0)) (bTup 2 (bCons (bName 1) (bCons (bName 2) bNil))) (tstB (eBin eqD (eVar 1) (eC (.str "D")))) (eVar 2) [1, 2]) aNil)))
def F_law_dark_k22 : Sl → O (Rs × Sl) := fnD 1 2 g_law_dark_k22
def g_law_stretches_k22 : Sl → O (Fl × Sl) :=
  (sSeq (sPar2 3 4 (aCons (eBlt listD (aCons (eVar 0) aNil)) (aCons (eCall [false] F_law_total_k22 (aCons (eVar 0) aNil)) aNil)))
    (sSeq (sTgt (bTup 4 (bCons (bName 5) (bCons (bName 6) (bCons (bName 7) (bCons (bName 8) bNil))))) (eTup (aCons (eC (.int 0)) (aCons (eBin ixD (eBin ixD (eVar 3) (eC (.int 0))) (eC (.int 1))) (aCons (eC (.int 0)) (aCons (eBin ixD (eBin ixD (eVar 3) (eC (.int 0))) (eC (.int 1))) aNil))))))
    (sSeq (sPar2 9 10 (aCons (eC (.int 0)) (aCons (eVar 1) aNil)))
    (sSeq (sPre [0, 1, 11, 12, 13, 14, 15] (sWhile fuelN (tstB (eBin geD (eVar 10) (eVar 8))) (sWipe [0, 1, 11, 12, 13, 14, 15] (sSeq (sSet 9 (eBin addD (eVar 9) (eBin mulD (eVar 8) (eBlt intD (aCons (eBin eqD (eBin ixD (eBin ixD (eVar 3) (eVar 7)) (eC (.int 0))) (eC (.str "D"))) aNil)))))
    (sSeq (sSet 10 (eBin subD (eVar 10) (eVar 8)))
    (sSeq (sSet 7 (eBin modD (eBin addD (eVar 7) (eC (.int 1))) (eBlt lenD (aCons (eVar 3) aNil))))
    (sSeq (sSet 8 (eBin ixD (eBin ixD (eVar 3) (eVar 7)) (eC (.int 1))))
    (sIf (tstB (eBin eqD (eVar 10) (eC (.int 0)))) sBk sNx))))))))
    (sSeq (sSet 9 (eBin addD (eVar 9) (eBin mulD (eVar 10) (eBlt intD (aCons (eBin eqD (eBin ixD (eBin ixD (eVar 3) (eVar 7)) (eC (.int 0))) (eC (.str "D"))) aNil)))))
    (sSeq (sSet 8 (eBin subD (eVar 8) (eVar 10)))
    (sSeq (sPar2 11 12 (aCons (eLst aNil) (aCons (eC (.int 0)) aNil)))
    (sSeq (sPre [0, 1, 10, 13, 14, 15] (sWhile fuelN (tstB (eBin ltD (eVar 12) (eVar 4))) (sWipe [0, 1, 10, 13, 14, 15] (sSeq (sSet 13 (eBlt minD (aCons (eVar 6) (aCons (eVar 8) aNil))))
    (sSeq (sSet 14 (eBin subD (eBlt intD (aCons (eBin eqD (eBin ixD (eBin ixD (eVar 3) (eVar 7)) (eC (.int 0))) (eC (.str "D"))) aNil)) (eBlt intD (aCons (eBin eqD (eBin ixD (eBin ixD (eVar 3) (eVar 5)) (eC (.int 0))) (eC (.str "D"))) aNil))))
    (sSeq (sIf (tAndD (tstB (eBin eqD (eVar 14) (eC (.int 0)))) (tstB (eBin eqD (eVar 9) (eVar 2)))) (sExpr (eMut 11 appU (aCons (eTup (aCons (eVar 12) (aCons (eBin subD (eBin addD (eVar 12) (eVar 13)) (eC (.int 1))) aNil))) aNil))) sNx)
    (sSeq (sSet 15 (eBin mulD (eBin subD (eVar 2) (eVar 9)) (eVar 14)))
    (sSeq (sIf (tAndD (tstB (eBin neD (eVar 14) (eC (.int 0)))) (tstB (eChain leD ltD (eC (.int 0)) (eVar 15) (eVar 13)))) (sExpr (eMut 11 appU (aCons (eTup (aCons (eBin addD (eVar 12) (eVar 15)) (aCons (eBin addD (eVar 12) (eVar 15)) aNil))) aNil))) sNx)
    (sSeq (sPar2 12 9 (aCons (eBin addD (eVar 12) (eVar 13)) (aCons (eBin addD (eVar 9) (eBin mulD (eVar 14) (eVar 13))) aNil)))
    (sSeq (sPar2 6 8 (aCons (eBin subD (eVar 6) (eVar 13)) (aCons (eBin subD (eVar 8) (eVar 13)) aNil)))
    (sSeq (sIf (tstB (eBin eqD (eVar 6) (eC (.int 0)))) (sSeq (sSet 5 (eBin modD (eBin addD (eVar 5) (eC (.int 1))) (eBlt lenD (aCons (eVar 3) aNil))))
    (sSet 6 (eBin ixD (eBin ixD (eVar 3) (eVar 5)) (eC (.int 1))))) sNx)
    (sIf (tstB (eBin eqD (eVar 8) (eC (.int 0)))) (sSeq (sSet 7 (eBin modD (eBin addD (eVar 7) (eC (.int 1))) (eBlt lenD (aCons (eVar 3) aNil))))
    (sSet 8 (eBin ixD (eBin ixD (eVar 3) (eVar 7)) (eC (.int 1))))) sNx))))))))))))
    (sRet (eVar 11))))))))))
def F_law_stretches_k22 : Sl → O (Rs × Sl) := fnD 3 13 g_law_stretches_k22
def g_law_whole_k22 : Sl → O (Fl × Sl) :=
  (sSeq (sSet 2 (eBlt listD (aCons (eVar 0) aNil)))
    (sSeq (sFor (iWipe [3, 4, 5] (iSeqD (eC (.str "DL")))) (bName 3) (sWipe [3, 4, 5] (sSeq (sSet 4 (eBin modD (eBin subD (eC (.int 0)) (eBlt sumD (aCons (eComp (iSeqD (eVar 0)) (bTup 2 (bCons (bName 7) (bCons (bName 8) bNil))) (tstB (eBin eqD (eVar 7) (eVar 3))) (eVar 8) [7, 8]) aNil))) (eVar 1)))
    (sSeq (sSet 5 (eComp (iRng rng1D (aCons (eBlt lenD (aCons (eVar 0) aNil)) aNil)) (bName 6) (tstB (eBin eqD (eBin ixD (eBin ixD (eVar 0) (eVar 6)) (eC (.int 0))) (eVar 3))) (eVar 6) [6]))
    (sIf (tstB (eBin neD (eVar 5) (eLst aNil))) (sSetIx 2 (eBin ixD (eVar 5) (eC (.int 0))) (eTup (aCons (eVar 3) (aCons (eBin addD (eBin ixD (eBin ixD (eVar 0) (eBin ixD (eVar 5) (eC (.int 0)))) (eC (.int 1))) (eVar 4)) aNil)))) sNx)))))
    (sRet (eBlt tupleD (aCons (eVar 2) aNil)))))
def F_law_whole_k22 : Sl → O (Rs × Sl) := fnD 2 7 g_law_whole_k22
def g_law_parted_k22 : Sl → O (Fl × Sl) :=
  (sSeq (sPar2 3 4 (aCons (eLst aNil) (aCons (eC (.int 0)) aNil)))
    (sSeq (sFor (iWipe [0, 5, 6, 7, 8, 9] (iSeqD (eVar 0))) (bTup 3 (bCons (bName 5) (bCons (bName 6) (bCons (bName 7) bNil)))) (sWipe [0, 5, 6, 7, 8, 9] (sSeq (sPar2 8 9 (aCons (eBlt maxD (aCons (eBin subD (eVar 1) (eVar 4)) (aCons (eC (.int 0)) aNil))) (aCons (eBlt minD (aCons (eBin subD (eVar 2) (eVar 4)) (aCons (eBin subD (eVar 6) (eVar 5)) aNil))) aNil)))
    (sSeq (sIf (tstB (eBin ltD (eVar 8) (eVar 9))) (sExpr (eMut 3 appU (aCons (eTup (aCons (eBin addD (eVar 5) (eVar 8)) (aCons (eBin addD (eVar 5) (eVar 9)) (aCons (eVar 7) aNil)))) aNil))) sNx)
    (sSet 4 (eBin subD (eBin addD (eVar 4) (eVar 6)) (eVar 5)))))))
    (sRet (eVar 3))))
def F_law_parted_k22 : Sl → O (Rs × Sl) := fnD 3 7 g_law_parted_k22
def g_law_arcs_k22 : Sl → O (Fl × Sl) :=
  (sSeq (sSet 2 (eLst aNil))
    (sSeq (sFor (iWipe [1, 3, 4, 5] (iSeqD (eBlt sortedD (aCons (eVar 1) aNil)))) (bTup 3 (bCons (bName 3) (bCons (bName 4) (bCons (bName 5) bNil)))) (sWipe [1, 3, 4, 5] (sIf (tAndD (tstB (eBin neD (eVar 2) (eLst aNil))) (tstB (eBin eqD (eBin addD (eBin ixD (eBin ixD (eVar 2) (eUn negD (eC (.int 1)))) (eC (.int 0))) (eBin ixD (eBin ixD (eVar 2) (eUn negD (eC (.int 1)))) (eC (.int 1)))) (eVar 3)))) (sSetIx 2 (eUn negD (eC (.int 1))) (eTup (aCons (eBin ixD (eBin ixD (eVar 2) (eUn negD (eC (.int 1)))) (eC (.int 0))) (aCons (eBin subD (eBin addD (eBin ixD (eBin ixD (eVar 2) (eUn negD (eC (.int 1)))) (eC (.int 1))) (eVar 4)) (eVar 3)) aNil)))) (sExpr (eMut 2 appU (aCons (eTup (aCons (eVar 3) (aCons (eBin subD (eVar 4) (eVar 3)) aNil))) aNil))))))
    (sSeq (sIf (tAndD (tstB (eBin gtD (eBlt lenD (aCons (eVar 2) aNil)) (eC (.int 1)))) (tAndD (tstB (eBin eqD (eBin ixD (eBin ixD (eVar 2) (eC (.int 0))) (eC (.int 0))) (eC (.int 0)))) (tstB (eBin eqD (eBin addD (eBin ixD (eBin ixD (eVar 2) (eUn negD (eC (.int 1)))) (eC (.int 0))) (eBin ixD (eBin ixD (eVar 2) (eUn negD (eC (.int 1)))) (eC (.int 1)))) (eVar 0))))) (sSet 2 (eBin addD (eSlice (eVar 2) (oSome (eC (.int 1))) (oSome (eUn negD (eC (.int 1))))) (eLst (aCons (eTup (aCons (eBin ixD (eBin ixD (eVar 2) (eUn negD (eC (.int 1)))) (eC (.int 0))) (aCons (eBin addD (eBin ixD (eBin ixD (eVar 2) (eUn negD (eC (.int 1)))) (eC (.int 1))) (eBin ixD (eBin ixD (eVar 2) (eC (.int 0))) (eC (.int 1)))) aNil))) aNil)))) sNx)
    (sRet (eVar 2)))))
def F_law_arcs_k22 : Sl → O (Rs × Sl) := fnD 2 4 g_law_arcs_k22
def g_law_due_k22 : Sl → O (Fl × Sl) :=
  (sSeq (sPar2 2 3 (aCons (eLst aNil) (aCons (eC (.int 0)) aNil)))
    (sSeq (sFor (iWipe [4, 5, 6, 7, 8, 9, 10, 11, 12, 13, 14] (iSeqD (eVar 0))) (bTup 2 (bCons (bName 4) (bCons (bName 5) bNil))) (sWipe [4, 5, 6, 7, 8, 9, 10, 11, 12, 13, 14] (sSeq (sExpr (eMut 2 appU (aCons (eTup (aCons (eVar 3) (aCons (eBin addD (eVar 3) (eVar 5)) (aCons (eVar 4) aNil)))) aNil)))
    (sSet 3 (eBin addD (eVar 3) (eVar 5))))))
    (sSeq (sSet 6 (eLst aNil))
    (sSeq (sFor (iWipe [4, 5, 7, 8, 9, 10, 11, 12, 13, 14] (iSeqD (eSlice (eVar 1) oNone (oSome (eUn negD (eC (.int 1))))))) (bName 7) (sWipe [4, 5, 7, 8, 9, 10, 11, 12, 13, 14] (sSeq (sSet 8 (eComp (iSeqD (eVar 2)) (bTup 3 (bCons (bName 15) (bCons (bName 16) (bCons (bName 4) bNil)))) cYes (eTup (aCons (eVar 4) (aCons (eBin subD (eVar 16) (eVar 15)) aNil))) [15, 16, 4]))
    (sSeq (sSet 9 (eBin fdivD (eBin mulD (eVar 3) (eVar 7)) (eBlt sumD (aCons (eVar 1) aNil))))
    (sSeq (sSet 10 (eBin fdivD (eBin mulD (eCall [false] F_law_dark_k22 (aCons (eVar 0) aNil)) (eVar 7)) (eBlt sumD (aCons (eVar 1) aNil))))
    (sSeq (sSet 11 (eBin ixD (eBin ixD (eCall [false, false, false] F_law_stretches_k22 (aCons (eVar 8) (aCons (eVar 9) (aCons (eVar 10) aNil)))) (eC (.int 0))) (eC (.int 0))))
    (sSeq (sSet 12 (eCall [false] F_law_total_k22 (aCons (eVar 8) aNil)))
    (sSeq (sSet 13 (eBlt maxD (aCons (eC (.int 0)) (aCons (eBin subD (eBin addD (eVar 11) (eVar 9)) (eVar 12)) aNil))))
    (sSeq (sSet 14 (eBin addD (eCall [false, false, false] F_law_parted_k22 (aCons (eVar 2) (aCons (eC (.int 0)) (aCons (eVar 13) aNil)))) (eCall [false, false, false] F_law_parted_k22 (aCons (eVar 2) (aCons (eVar 11) (aCons (eBin addD (eVar 11) (eVar 9)) aNil))))))
    (sSeq (sIf (tstB (eBin neD (eBlt sumD (aCons (eComp (iSeqD (eVar 14)) (bTup 3 (bCons (bName 15) (bCons (bName 16) (bCons (bName 4) bNil)))) (tstB (eBin eqD (eVar 4) (eC (.str "D")))) (eBin subD (eVar 16) (eVar 15)) [15, 16, 4]) aNil)) (eVar 10))) (sRet (eC .non)) sNx)
    (sSeq (sExpr (eMut 6 appU (aCons (eCall [false, false] F_law_arcs_k22 (aCons (eVar 3) (aCons (eVar 14) aNil))) aNil)))
    (sSet 2 (eBin addD (eCall [false, false, false] F_law_parted_k22 (aCons (eVar 2) (aCons (eVar 13) (aCons (eVar 11) aNil)))) (eCall [false, false, false] F_law_parted_k22 (aCons (eVar 2) (aCons (eBin addD (eVar 11) (eVar 9)) (aCons (eVar 12) aNil)))))))))))))))))
    (sRet (eBin addD (eVar 6) (eLst (aCons (eCall [false, false] F_law_arcs_k22 (aCons (eVar 3) (aCons (eVar 2) aNil))) aNil))))))))
def F_law_due_k22 : Sl → O (Rs × Sl) := fnD 2 15 g_law_due_k22
def g_is_arc : Sl → O (Fl × Sl) :=
  (sSeq (sIf (tOrD (tNotD (tst (eUn (isiD "tuple") (eVar 1)))) (tstB (eBin neD (eBlt lenD (aCons (eVar 1) aNil)) (eC (.int 2))))) (sRet (eC (.bl false))) sNx)
    (sRet (eAndV (eCall [false, false, false] F_is_integer (aCons (eBin ixD (eVar 1) (eC (.int 0))) (aCons (eC (.int 0)) (aCons (eBin subD (eVar 0) (eC (.int 1))) aNil)))) (eCall [false, false, false] F_is_integer (aCons (eBin ixD (eVar 1) (eC (.int 1))) (aCons (eC (.int 1)) (aCons (eVar 0) aNil)))))))
def F_is_arc : Sl → O (Rs × Sl) := fnD 2 0 g_is_arc
def g_owned_stretches : Sl → O (Fl × Sl) :=
  (sSeq (sIf (tNotD (tst (eUn (isiD "list") (eVar 1)))) sBad sNx)
    (sSeq (sSet 2 (eLst aNil))
    (sSeq (sFor (iWipe [1, 3, 4, 5, 6, 7, 8] (iFrz enumD (aCons (eVar 1) aNil))) (bTup 2 (bCons (bName 3) (bCons (bName 4) bNil))) (sWipe [1, 3, 4, 5, 6, 7, 8] (sSeq (sIf (tOrD (tNotD (tst (eUn (isiD "list") (eVar 4)))) (tOrD (tstB (eBin eqD (eVar 4) (eLst aNil))) (tNotD (tst (eBlt allD (aCons (eComp (iSeqD (eVar 4)) (bName 9) cYes (eCall [false, false] F_is_arc (aCons (eVar 0) (aCons (eVar 9) aNil))) [9]) aNil)))))) sBad sNx)
    (sFor (iWipe [1, 4, 5, 6, 7, 8] (iSeqD (eVar 4))) (bTup 2 (bCons (bName 5) (bCons (bName 6) bNil))) (sWipe [1, 4, 5, 6, 7, 8] (sSeq (sExpr (eMut 2 appU (aCons (eTup (aCons (eVar 5) (aCons (eBlt minD (aCons (eVar 0) (aCons (eBin addD (eVar 5) (eVar 6)) aNil))) (aCons (eVar 3) aNil)))) aNil)))
    (sIf (tstB (eBin gtD (eBin addD (eVar 5) (eVar 6)) (eVar 0))) (sExpr (eMut 2 appU (aCons (eTup (aCons (eC (.int 0)) (aCons (eBin subD (eBin addD (eVar 5) (eVar 6)) (eVar 0)) (aCons (eVar 3) aNil)))) aNil))) sNx)))))))
    (sSeq (sSet 2 (eBlt sortedD (aCons (eVar 2) aNil)))
    (sSeq (sSet 7 (eC (.int 0)))
    (sSeq (sFor (iWipe [1, 3, 4, 5, 6, 8] (iSeqD (eVar 2))) (bTup 3 (bCons (bName 5) (bCons (bName 8) (bCons (bName 3) bNil)))) (sWipe [1, 3, 4, 5, 6, 8] (sSeq (sIf (tstB (eBin neD (eVar 5) (eVar 7))) sBad sNx)
    (sSet 7 (eMov 8)))))
    (sSeq (sIf (tstB (eBin neD (eVar 7) (eVar 0))) sBad sNx)
    (sRet (eVar 2)))))))))
def F_owned_stretches : Sl → O (Rs × Sl) := fnD 2 8 g_owned_stretches
def g_count_cuts : Sl → O (Fl × Sl) :=
  (sSeq (sExpr (eCall [false] F_check_strand (aCons (eVar 0) aNil)))
    (sSeq (sSet 2 (eComp (iSeqD (eCall [false, false] F_owned_stretches (aCons (eCall [false] F_beads_in (aCons (eVar 0) aNil)) (aCons (eVar 1) aNil)))) (bTup 3 (bCons (bName 3) (bCons (bName 4) (bCons (bName 5) bNil)))) cYes (eVar 5) [3, 4, 5]))
    (sRet (eBlt lenD (aCons (eComp (iFrz zipD (aCons (eVar 2) (aCons (eBin addD (eSlice (eVar 2) (oSome (eC (.int 1))) oNone) (eSlice (eVar 2) oNone (oSome (eC (.int 1))))) aNil))) (bTup 2 (bCons (bName 6) (bCons (bName 7) bNil))) (tstB (eBin neD (eVar 6) (eVar 7))) (eC (.int 1)) [6, 7]) aNil)))))
def F_count_cuts : Sl → O (Rs × Sl) := fnD 2 6 g_count_cuts
def g_law_mixed_k23 : Sl → O (Fl × Sl) :=
  (sSeq (sSet 2 (eBlt listD (aCons (eVar 1) aNil)))
    (sRet (eComp (iSeqD (eVar 1)) (bName 3) cYes (eMut 2 popAtU (aCons (eCall [true, false] F_law_take_k21 (aCons (eVar 0) (aCons (eBlt lenD (aCons (eVar 2) aNil)) aNil))) aNil)) [3])))
def F_law_mixed_k23 : Sl → O (Rs × Sl) := fnD 2 2 g_law_mixed_k23
def g_law_parts_k23 : Sl → O (Fl × Sl) :=
  (sSeq (sSet 3 (eLst aNil))
    (sSeq (sFor (iWipe [4, 5, 6] (iSeqD (eVar 2))) (bTup 2 (bCons (bName 4) (bCons (bName 5) bNil))) (sWipe [4, 5, 6] (sSeq (sSet 6 (eCall [true, false] F_law_take_k21 (aCons (eVar 0) (aCons (eVar 5) aNil))))
    (sIf (tAndD (tstB (eBin gtD (eVar 6) (eC (.int 0)))) (tstB (eBin ltD (eBlt lenD (aCons (eVar 2) aNil)) (eC (.int 10))))) (sSet 3 (eBin addD (eVar 3) (eLst (aCons (eTup (aCons (eVar 4) (aCons (eVar 6) aNil))) (aCons (eTup (aCons (eBin modD (eBin addD (eVar 4) (eVar 6)) (eVar 1)) (aCons (eBin subD (eVar 5) (eVar 6)) aNil))) aNil))))) (sExpr (eMut 3 appU (aCons (eTup (aCons (eVar 4) (aCons (eVar 5) aNil))) aNil)))))))
    (sRet (eCall [true, false] F_law_mixed_k23 (aCons (eVar 0) (aCons (eVar 3) aNil))))))
def F_law_parts_k23 : Sl → O (Rs × Sl) := fnD 3 4 g_law_parts_k23
def g_law_no_strand_k24 : Sl → O (Fl × Sl) :=
  (sSeq (sSet 2 (eLst (aCons (eC .non) (aCons (eC (.int 0)) (aCons (eC (.bl true)) (aCons (eC (.str "")) (aCons (eC (.str "D1")) (aCons (eTup aNil) (aCons (eLst aNil) (aCons eEmp (aCons (eBlt listD (aCons (eVar 1) aNil)) (aCons (eTup (aCons (eC (.str "D")) (aCons (eC (.int 1)) aNil))) (aCons (eTup (aCons (eTup (aCons (eC (.str "D")) (aCons (eC (.int 1)) aNil))) (aCons (eTup (aCons (eC (.str "D")) (aCons (eC (.int 2)) aNil))) aNil))) aNil)))))))))))))
    (sSeq (sSet 3 (eLst (aCons (eTup (aCons (eC (.str "D")) (aCons (eC (.int 0)) aNil))) (aCons (eTup (aCons (eC (.str "D")) (aCons (eUn negD (eC (.int 1))) aNil))) (aCons (eTup (aCons (eC (.str "D")) (aCons (eC (.bl true)) aNil))) (aCons (eTup (aCons (eC (.str "X")) (aCons (eC (.int 1)) aNil))) (aCons (eTup (aCons (eC (.str "d")) (aCons (eC (.int 1)) aNil))) (aCons (eLst (aCons (eC (.str "D")) (aCons (eC (.int 1)) aNil))) (aCons (eTup (aCons (eC (.str "D")) aNil)) (aCons (eTup (aCons (eC (.str "D")) (aCons (eC (.int 1)) (aCons (eC (.int 1)) aNil)))) (aCons (eC .non) (aCons (eTup (aCons (eC (.str "")) (aCons (eC (.int 1)) aNil))) aNil))))))))))))
    (sSeq (sSet 3 (eBin addD (eVar 3) (eLst (aCons (eTup (aCons (eC (.str "DL")) (aCons (eC (.int 1)) aNil))) (aCons (eTup (aCons (eC (.int 1)) (aCons (eC (.str "D")) aNil))) (aCons (eTup (aCons (eC (.str "D")) (aCons (eC (.str "1")) aNil))) (aCons (eTup (aCons (eC (.str "D")) (aCons (eC .non) aNil))) (aCons (eTup (aCons (eLst (aCons (eC (.str "D")) aNil)) (aCons (eC (.int 1)) aNil))) (aCons (eTup (aCons (eC (.str "L")) (aCons (eLst (aCons (eC (.int 1)) aNil)) aNil))) aNil)))))))))
    (sSeq (sSet 4 (eCall [true, false] F_law_take_k21 (aCons (eVar 0) (aCons (eBlt lenD (aCons (eVar 1) aNil)) aNil))))
    (sSeq (sSet 2 (eBin addD (eVar 2) (eBin mulD (eLst (aCons (eBin addD (eBin addD (eSlice (eVar 1) oNone (oSome (eVar 4))) (eTup (aCons (eBin ixD (eVar 1) (eVar 4)) aNil))) (eSlice (eVar 1) (oSome (eVar 4)) oNone)) aNil)) (eC (.int 5)))))
    (sSeq (sSet 2 (eBin addD (eVar 2) (eBin mulD (eLst (aCons (eBin addD (eBin addD (eSlice (eVar 1) oNone (oSome (eVar 4))) (eTup (aCons (eBin ixD (eVar 3) (eCall [true, false] F_law_take_k21 (aCons (eVar 0) (aCons (eC (.int 16)) aNil)))) aNil))) (eSlice (eVar 1) (oSome (eBin addD (eVar 4) (eC (.int 1)))) oNone)) aNil)) (eC (.int 9)))))
    (sRet (eBin ixD (eVar 2) (eCall [true, false] F_law_take_k21 (aCons (eVar 0) (aCons (eC (.int 25)) aNil)))))))))))
def F_law_no_strand_k24 : Sl → O (Rs × Sl) := fnD 2 3 g_law_no_strand_k24
def g_law_due_k24 : Sl → O (Fl × Sl) :=
  (sSeq (sFor (iWipe [2, 3] (iFrz enumD (aCons (eVar 1) aNil))) (bTup 2 (bCons (bName 2) (bCons (bName 3) bNil))) (sWipe [2, 3] (sIf (tOrD (tstB (eBin neD (eBin modD (eBin mulD (eCall [false] F_law_total_k22 (aCons (eVar 0) aNil)) (eVar 3)) (eBlt sumD (aCons (eVar 1) aNil))) (eC (.int 0)))) (tstB (eBin neD (eBin modD (eBin mulD (eCall [false] F_law_dark_k22 (aCons (eVar 0) aNil)) (eVar 3)) (eBlt sumD (aCons (eVar 1) aNil))) (eC (.int 0))))) (sRet (eBin addD (eC (.str "not divisible ")) (eBlt strD (aCons (eVar 2) aNil)))) sNx)))
    (sRet (eC (.str "none"))))
def F_law_due_k24 : Sl → O (Rs × Sl) := fnD 2 2 g_law_due_k24
def g_law_no_lists_k24 : Sl → O (Fl × Sl) :=
  (sSeq (sSet 3 (eBin ixD (eLst (aCons (eTup (aCons (eBin subD (eVar 1) (eC (.int 1))) (aCons (eC (.int 1)) aNil))) (aCons (eTup (aCons (eC (.int 0)) (aCons (eC (.int 1)) aNil))) (aCons (eTup (aCons (eC (.int 0)) (aCons (eVar 1) aNil))) (aCons (eTup (aCons (eBin fdivD (eVar 1) (eC (.int 2))) (aCons (eC (.int 1)) aNil))) aNil))))) (eCall [true, false] F_law_take_k21 (aCons (eVar 0) (aCons (eC (.int 4)) aNil)))))
    (sSeq (sSet 4 (eLst (aCons (eC .non) (aCons (eC (.int 1)) (aCons (eC (.str "01")) (aCons (eLst (aCons (eC (.int 0)) (aCons (eC (.int 1)) aNil))) (aCons (eTup (aCons (eC (.int 0)) aNil)) (aCons (eTup (aCons (eC (.int 0)) (aCons (eC (.int 1)) (aCons (eC (.int 1)) aNil)))) (aCons (eTup (aCons (eUn negD (eC (.int 1))) (aCons (eC (.int 1)) aNil))) (aCons (eTup (aCons (eVar 1) (aCons (eC (.int 1)) aNil))) (aCons (eTup (aCons (eC (.int 0)) (aCons (eC (.int 0)) aNil))) (aCons (eTup (aCons (eC (.int 0)) (aCons (eBin addD (eVar 1) (eC (.int 1))) aNil))) (aCons (eTup (aCons (eC (.bl true)) (aCons (eC (.int 1)) aNil))) (aCons (eTup (aCons (eC (.int 0)) (aCons (eC (.bl true)) aNil))) aNil))))))))))))))
    (sSeq (sSet 4 (eBin addD (eVar 4) (eLst (aCons (eTup (aCons (eC (.str "0")) (aCons (eC (.int 1)) aNil))) (aCons (eTup (aCons (eC (.int 0)) (aCons (eC .non) aNil))) (aCons (eTup aNil) (aCons (eTup (aCons (eLst (aCons (eC (.int 0)) aNil)) (aCons (eC (.int 1)) aNil))) (aCons (eTup (aCons (eC (.int 0)) (aCons (eLst (aCons (eC (.int 1)) aNil)) aNil))) aNil))))))))
    (sSeq (sSet 5 (eLst (aCons (eC .non) (aCons (eC (.int 0)) (aCons (eC (.bl true)) (aCons (eC (.str "")) (aCons (eTup aNil) (aCons eEmp (aCons (eLst aNil) (aCons (eLst (aCons (eLst aNil) aNil)) (aCons (eLst (aCons (eTup aNil) aNil)) (aCons (eLst (aCons (eC .non) aNil)) (aCons (eBlt tupleD (aCons (eVar 2) aNil)) (aCons (eComp (iSeqD (eVar 2)) (bName 12) cYes (eBlt tupleD (aCons (eVar 12) aNil)) [12]) (aCons (eBin addD (eVar 2) (eLst (aCons (eLst aNil) aNil))) aNil)))))))))))))))
    (sSeq (sSet 5 (eBin addD (eVar 5) (eLst (aCons (eBin addD (eVar 2) (eLst (aCons (eLst (aCons (eVar 3) aNil)) aNil))) (aCons (eBin addD (eLst (aCons (eBin addD (eBin ixD (eVar 2) (eC (.int 0))) (eLst (aCons (eVar 3) aNil))) aNil)) (eSlice (eVar 2) (oSome (eC (.int 1))) oNone)) (aCons (eLst (aCons (eLst (aCons (eTup (aCons (eC (.int 0)) (aCons (eVar 1) aNil))) (aCons (eVar 3) aNil))) aNil)) (aCons (eLst (aCons (eLst (aCons (eTup (aCons (eC (.int 0)) (aCons (eBlt maxD (aCons (eC (.int 1)) (aCons (eBin subD (eVar 1) (eC (.int 1))) aNil))) aNil))) aNil)) aNil)) aNil)))))))
    (sSeq (sPar2 6 7 (aCons (eBin ixD (eBin ixD (eBin ixD (eVar 2) (eC (.int 0))) (eC (.int 0))) (eC (.int 0))) (aCons (eBin fdivD (eVar 1) (eC (.int 2))) aNil)))
    (sSeq (sSet 8 (eLst (aCons (eLst (aCons (eLst (aCons (eTup (aCons (eC (.int 0)) (aCons (eVar 7) aNil))) aNil)) (aCons (eLst (aCons (eTup (aCons (eC (.int 0)) (aCons (eBin subD (eVar 1) (eVar 7)) aNil))) aNil)) aNil))) (aCons (eLst (aCons (eLst (aCons (eTup (aCons (eC (.int 0)) (aCons (eC (.int 1)) aNil))) aNil)) (aCons (eLst (aCons (eTup (aCons (eC (.int 1)) (aCons (eC (.int 1)) aNil))) aNil)) (aCons (eLst (aCons (eTup (aCons (eC (.int 1)) (aCons (eBlt maxD (aCons (eC (.int 1)) (aCons (eBin subD (eVar 1) (eC (.int 2))) aNil))) aNil))) aNil)) aNil)))) aNil))))
    (sSeq (sExpr (eMut 8 appU (aCons (eLst (aCons (eLst (aCons (eTup (aCons (eVar 7) (aCons (eBin subD (eVar 1) (eVar 7)) aNil))) aNil)) (aCons (eLst (aCons (eTup (aCons (eVar 7) (aCons (eVar 7) aNil))) aNil)) aNil))) aNil)))
    (sSeq (sIf (tstB (eBin gtD (eVar 6) (eC (.int 0)))) (sSet 8 (eBin addD (eVar 8) (eBin mulD (eLst (aCons (eLst (aCons (eLst (aCons (eTup (aCons (eBin modD (eBin addD (eVar 6) (eC (.int 1))) (eVar 1)) (aCons (eBin subD (eVar 1) (eVar 6)) aNil))) aNil)) (aCons (eLst (aCons (eTup (aCons (eC (.int 0)) (aCons (eVar 6) aNil))) aNil)) aNil))) aNil)) (eC (.int 2))))) sNx)
    (sSeq (sSet 9 (eCall [true, false] F_law_take_k21 (aCons (eVar 0) (aCons (eBin addD (eBlt lenD (aCons (eBin ixD (eVar 2) (eC (.int 0))) aNil)) (eC (.int 1))) aNil))))
    (sSeq (sSet 10 (eBin addD (eLst (aCons (eBin addD (eBin addD (eSlice (eBin ixD (eVar 2) (eC (.int 0))) oNone (oSome (eVar 9))) (eLst (aCons (eBin ixD (eVar 4) (eCall [true, false] F_law_take_k21 (aCons (eVar 0) (aCons (eC (.int 17)) aNil)))) aNil))) (eSlice (eBin ixD (eVar 2) (eC (.int 0))) (oSome (eVar 9)) oNone)) aNil)) (eSlice (eVar 2) (oSome (eC (.int 1))) oNone)))
    (sSeq (sSet 11 (eBin ixD (eBin addD (eBin addD (eVar 5) (eBin mulD (eLst (aCons (eVar 10) aNil)) (eC (.int 12)))) (eBin mulD (eLst (aCons (eBin ixD (eVar 8) (eCall [true, false] F_law_take_k21 (aCons (eVar 0) (aCons (eBlt lenD (aCons (eVar 8) aNil)) aNil)))) aNil)) (eC (.int 12)))) (eCall [true, false] F_law_take_k21 (aCons (eVar 0) (aCons (eC (.int 41)) aNil)))))
    (sRet (eIf (tAndD (tstB (eBin eqD (eVar 1) (eC (.int 1)))) (tstB (eBin eqD (eVar 11) (eLst (aCons (eLst (aCons (eTup (aCons (eC (.int 0)) (aCons (eC (.int 1)) aNil))) aNil)) aNil))))) (eLst (aCons (eC .non) aNil)) (eVar 11)))))))))))))))
def F_law_no_lists_k24 : Sl → O (Rs × Sl) := fnD 3 10 g_law_no_lists_k24
def g_check_persons : Sl → O (Fl × Sl) :=
  (sSeq (sExpr (eCall [false] F_check_strand (aCons (eVar 0) aNil)))
    (sSeq (sIf (tNotD (tst (eCall [false, false, false] F_is_integer (aCons (eVar 1) (aCons (eC (.int 1)) (aCons (eVar 2) aNil)))))) sBad sNx)
    (sIf (tOrD (tstB (eBin neD (eBin modD (eCall [false] F_beads_in (aCons (eVar 0) aNil)) (eVar 1)) (eC (.int 0)))) (tstB (eBin neD (eBin modD (eCall [false] F_dark_total (aCons (eVar 0) aNil)) (eVar 1)) (eC (.int 0))))) sBad sNx)))
def F_check_persons : Sl → O (Rs × Sl) := fnD 3 0 g_check_persons
def g_fair_within : Sl → O (Fl × Sl) :=
  (sSeq (sSet 4 (eCall [false] F_beads_in (aCons (eVar 0) aNil)))
    (sSeq (sPar2 5 6 (aCons (eBin fdivD (eVar 4) (eVar 1)) (aCons (eBin fdivD (eCall [false] F_dark_total (aCons (eVar 0) aNil)) (eVar 1)) aNil)))
    (sSeq (sPar2 7 8 (aCons (eVar 2) (aCons (eBin subD (eVar 3) (eC (.int 1))) aNil)))
    (sSeq (sFor (iWipe [1, 9, 10, 11, 12, 13] (iRng rng1D (aCons (eVar 1) aNil))) (bName 9) (sWipe [1, 9, 10, 11, 12, 13] (sSeq (sSet 10 (eBin mulD (eVar 9) (eVar 5)))
    (sSeq (sSet 11 (eCall [false, false, false] F_dark_of (aCons (eVar 0) (aCons (eBin modD (eBin addD (eVar 10) (eVar 2)) (eVar 4)) (aCons (eVar 5) aNil)))))
    (sSeq (sSet 12 (eCall [false, false, false] F_dark_of (aCons (eVar 0) (aCons (eBin modD (eBin addD (eVar 10) (eVar 3)) (eVar 4)) (aCons (eVar 5) aNil)))))
    (sSeq (sIf (tAndD (tstB (eBin eqD (eVar 11) (eVar 12))) (tstB (eBin neD (eVar 11) (eVar 6)))) (sRet (eC .non)) sNx)
    (sIf (tstB (eBin neD (eVar 11) (eVar 12))) (sSeq (sIf (tNotD (tstB (eChain leD leD (eBlt minD (aCons (eVar 11) (aCons (eVar 12) aNil))) (eVar 6) (eBlt maxD (aCons (eVar 11) (aCons (eVar 12) aNil)))))) (sRet (eC .non)) sNx)
    (sSeq (sSet 13 (eBin addD (eVar 2) (eBlt absD (aCons (eBin subD (eVar 6) (eVar 11)) aNil))))
    (sPar2 7 8 (aCons (eBlt maxD (aCons (eVar 7) (aCons (eVar 13) aNil))) (aCons (eBlt minD (aCons (eVar 8) (aCons (eVar 13) aNil))) aNil))))) sNx)))))))
    (sRet (eIf (tstB (eBin leD (eVar 7) (eVar 8))) (eTup (aCons (eVar 7) (aCons (eVar 8) aNil))) (eC .non)))))))
def F_fair_within : Sl → O (Rs × Sl) := fnD 4 10 g_fair_within
def g_fair_starts : Sl → O (Fl × Sl) :=
  (sSeq (sSet 2 (eCall [false] F_beads_in (aCons (eVar 0) aNil)))
    (sSeq (sSet 3 (eBin fdivD (eVar 2) (eVar 1)))
    (sSeq (sIf (tstB (eBin gtD (eVar 1) (eBlt lenD (aCons (eVar 0) aNil)))) (sRet (eIf (tstB (eBin inD (eCall [false] F_dark_total (aCons (eVar 0) aNil)) (eTup (aCons (eC (.int 0)) (aCons (eVar 2) aNil))))) (eLst (aCons (eTup (aCons (eC (.int 0)) (aCons (eBin subD (eVar 3) (eC (.int 1))) aNil))) aNil)) (eLst aNil))) sNx)
    (sSeq (sSet 4 (eBlt sortedSetD (aCons (eBin addD (eLst (aCons (eC (.int 0)) (aCons (eVar 3) aNil))) (eComp (iSeqD (eCall [false] F_borders (aCons (eVar 0) aNil))) (bName 9) cYes (eBin modD (eVar 9) (eVar 3)) [9])) aNil)))
    (sSeq (sSet 5 (eComp (iFrz zipD (aCons (eVar 4) (aCons (eSlice (eVar 4) (oSome (eC (.int 1))) oNone) aNil))) (bTup 2 (bCons (bName 6) (bCons (bName 7) bNil))) cYes (eCall [false, false, false, false] F_fair_within (aCons (eVar 0) (aCons (eVar 1) (aCons (eVar 6) (aCons (eVar 7) aNil))))) [6, 7]))
    (sRet (eComp (iSeqD (eVar 5)) (bName 8) (tstB (eBin isNotD (eVar 8) (eC .non))) (eVar 8) [8])))))))
def F_fair_starts : Sl → O (Rs × Sl) := fnD 2 8 g_fair_starts
def g_count : Sl → O (Fl × Sl) :=
  (sSeq (sExpr (eCall [false, false, false] F_check_persons (aCons (eVar 0) (aCons (eVar 1) (aCons (eC .non) aNil)))))
    (sRet (eBlt sumD (aCons (eComp (iSeqD (eCall [false, false] F_fair_starts (aCons (eVar 0) (aCons (eVar 1) aNil)))) (bTup 2 (bCons (bName 2) (bCons (bName 3) bNil))) cYes (eBin addD (eBin subD (eVar 3) (eVar 2)) (eC (.int 1))) [2, 3]) aNil))))
def F_count : Sl → O (Rs × Sl) := fnD 2 2 g_count
def g_nth : Sl → O (Fl × Sl) :=
  (sSeq (sExpr (eCall [false, false, false] F_check_persons (aCons (eVar 0) (aCons (eVar 1) (aCons (eC .non) aNil)))))
    (sSeq (sIf (tNotD (tst (eCall [false, false, false] F_is_integer (aCons (eVar 2) (aCons (eC (.int 0)) (aCons (eC .non) aNil)))))) sBad sNx)
    (sSeq (sSet 3 (eMov 2))
    (sSeq (sFor (iWipe [0, 1, 2, 4, 5] (iSeqD (eCall [false, false] F_fair_starts (aCons (eVar 0) (aCons (eVar 1) aNil))))) (bTup 2 (bCons (bName 4) (bCons (bName 5) bNil))) (sWipe [0, 1, 2, 4, 5] (sSeq (sIf (tstB (eBin leD (eVar 3) (eBin subD (eVar 5) (eVar 4)))) (sRet (eBin addD (eVar 4) (eVar 3))) sNx)
    (sAug 3 subD (eBin addD (eBin subD (eVar 5) (eVar 4)) (eC (.int 1)))))))
    sBad))))
def F_nth : Sl → O (Rs × Sl) := fnD 3 3 g_nth
def g_law_ring_k26 : Sl → O (Fl × Sl) :=
  (sSeq (sSet 2 (eBin addD (eC (.int 1)) (eCall [true, false] F_law_take_k21 (aCons (eVar 0) (aCons (eBlt maxD (aCons (eC (.int 1)) (aCons (eBin fdivD (eC (.int 24)) (eVar 1)) aNil))) aNil)))))
    (sSeq (sSet 3 (eCall [true, false] F_law_take_k21 (aCons (eVar 0) (aCons (eBin addD (eVar 2) (eC (.int 1))) aNil))))
    (sSeq (sIf (tstB (eBin eqD (eCall [true, false] F_law_take_k21 (aCons (eVar 0) (aCons (eC (.int 3)) aNil))) (eC (.int 0)))) (sSeq (sSet 4 (eBin addD (eBin mulD (eLst (aCons (eC (.str "D")) aNil)) (eVar 3)) (eBin mulD (eLst (aCons (eC (.str "L")) aNil)) (eBin subD (eVar 2) (eVar 3)))))
    (sRet (eBin mulD (eComp (iRng rng1D (aCons (eVar 2) aNil)) (bName 7) cYes (eMut 4 popAtU (aCons (eCall [true, false] F_law_take_k21 (aCons (eVar 0) (aCons (eBlt lenD (aCons (eVar 4) aNil)) aNil))) aNil)) [7]) (eVar 1)))) sNx)
    (sSeq (sSet 4 (eBin addD (eBin mulD (eLst (aCons (eC (.str "D")) aNil)) (eBin mulD (eVar 1) (eVar 3))) (eBin mulD (eLst (aCons (eC (.str "L")) aNil)) (eBin mulD (eVar 1) (eBin subD (eVar 2) (eVar 3))))))
    (sSeq (sSet 5 (eComp (iRng rng1D (aCons (eBin mulD (eVar 1) (eVar 2)) aNil)) (bName 7) cYes (eMut 4 popAtU (aCons (eCall [true, false] F_law_take_k21 (aCons (eVar 0) (aCons (eBlt lenD (aCons (eVar 4) aNil)) aNil))) aNil)) [7]))
    (sSeq (sIf (tstB (eBin eqD (eCall [true, false] F_law_take_k21 (aCons (eVar 0) (aCons (eC (.int 2)) aNil))) (eC (.int 0)))) (sRet (eVar 5)) sNx)
    (sSeq (sSet 6 (eBin fdivD (eBlt lenD (aCons (eVar 5) aNil)) (eC (.int 2))))
    (sRet (eBin addD (eBlt sortedD (aCons (eSlice (eVar 5) oNone (oSome (eVar 6))) aNil)) (eBlt sortedD (aCons (eSlice (eVar 5) (oSome (eVar 6)) oNone) aNil)))))))))))
def F_law_ring_k26 : Sl → O (Rs × Sl) := fnD 2 6 g_law_ring_k26
def g_law_starts_k26 : Sl → O (Fl × Sl) :=
  (sSeq (sPar2 2 3 (aCons (eBin fdivD (eBlt lenD (aCons (eVar 0) aNil)) (eVar 1)) (aCons (eBin addD (eVar 0) (eVar 0)) aNil)))
    (sSeq (sPar2 4 5 (aCons (eBin fdivD (eMet "list" countD (eVar 0) (aCons (eC (.str "D")) aNil)) (eVar 1)) (aCons (eLst aNil) aNil)))
    (sSeq (sFor (iWipe [0, 6, 7] (iRng rng1D (aCons (eVar 2) aNil))) (bName 6) (sWipe [0, 6, 7] (sSeq (sSet 7 (eComp (iRng rng1D (aCons (eVar 1) aNil)) (bName 8) cYes (eBin addD (eVar 6) (eBin mulD (eVar 2) (eVar 8))) [8]))
    (sIf (tstB (eBin eqD (eComp (iSeqD (eVar 7)) (bName 9) (tstB (eBin neD (eMet "list" countD (eSlice (eVar 3) (oSome (eVar 9)) (oSome (eBin addD (eVar 9) (eVar 2)))) (aCons (eC (.str "D")) aNil)) (eVar 4))) (eVar 9) [9]) (eLst aNil))) (sExpr (eMut 5 appU (aCons (eVar 6) aNil))) sNx))))
    (sRet (eVar 5)))))
def F_law_starts_k26 : Sl → O (Rs × Sl) := fnD 2 8 g_law_starts_k26
def g_law_joined_k27 : Sl → O (Fl × Sl) :=
  (sSeq (sSet 1 (eLst aNil))
    (sSeq (sFor (iWipe [0, 2, 3] (iSeqD (eVar 0))) (bTup 2 (bCons (bName 2) (bCons (bName 3) bNil))) (sWipe [0, 2, 3] (sIf (tAndD (tstB (eBin neD (eVar 1) (eLst aNil))) (tstB (eBin eqD (eBin ixD (eBin ixD (eVar 1) (eUn negD (eC (.int 1)))) (eC (.int 0))) (eVar 2)))) (sSetIx 1 (eUn negD (eC (.int 1))) (eTup (aCons (eVar 2) (aCons (eBin addD (eBin ixD (eBin ixD (eVar 1) (eUn negD (eC (.int 1)))) (eC (.int 1))) (eVar 3)) aNil)))) (sIf (tstB (eBin gtD (eVar 3) (eC (.int 0)))) (sExpr (eMut 1 appU (aCons (eTup (aCons (eVar 2) (aCons (eVar 3) aNil))) aNil))) sNx))))
    (sRet (eBlt tupleD (aCons (eVar 1) aNil)))))
def F_law_joined_k27 : Sl → O (Rs × Sl) := fnD 1 3 g_law_joined_k27
def g_law_met_k27 : Sl → O (Fl × Sl) :=
  (sSeq (sSet 2 (eLst aNil))
    (sSeq (sFor (iWipe [0, 3, 4, 5, 6] (iSeqD (eVar 0))) (bTup 2 (bCons (bName 3) (bCons (bName 4) bNil))) (sWipe [0, 3, 4, 5, 6] (sFor (iWipe [0, 5, 6] (iSeqD (eVar 1))) (bTup 2 (bCons (bName 5) (bCons (bName 6) bNil))) (sWipe [0, 5, 6] (sIf (tstB (eBin leD (eBlt maxD (aCons (eVar 3) (aCons (eVar 5) aNil))) (eBlt minD (aCons (eVar 4) (aCons (eVar 6) aNil))))) (sExpr (eMut 2 appU (aCons (eTup (aCons (eBlt maxD (aCons (eVar 3) (aCons (eVar 5) aNil))) (aCons (eBlt minD (aCons (eVar 4) (aCons (eVar 6) aNil))) aNil))) aNil))) sNx)))))
    (sRet (eVar 2))))
def F_law_met_k27 : Sl → O (Rs × Sl) := fnD 2 5 g_law_met_k27
def g_law_moved_k27 : Sl → O (Fl × Sl) :=
  (sSeq (sSet 4 (eLst aNil))
    (sSeq (sFor (iWipe [0, 5, 6, 7, 8, 9] (iSeqD (eVar 0))) (bTup 2 (bCons (bName 5) (bCons (bName 6) bNil))) (sWipe [0, 5, 6, 7, 8, 9] (sFor (iWipe [0, 7, 8, 9] (iSeqD (eTup (aCons (eC (.int 0)) (aCons (eVar 2) aNil))))) (bName 7) (sWipe [0, 7, 8, 9] (sSeq (sPar2 8 9 (aCons (eBlt maxD (aCons (eC (.int 0)) (aCons (eBin addD (eBin subD (eVar 5) (eVar 1)) (eVar 7)) aNil))) (aCons (eBlt minD (aCons (eBin subD (eVar 3) (eC (.int 1))) (aCons (eBin addD (eBin subD (eVar 6) (eVar 1)) (eVar 7)) aNil))) aNil)))
    (sIf (tstB (eBin leD (eVar 8) (eVar 9))) (sExpr (eMut 4 appU (aCons (eTup (aCons (eVar 8) (aCons (eVar 9) aNil))) aNil))) sNx))))))
    (sRet (eBlt sortedD (aCons (eVar 4) aNil)))))
def F_law_moved_k27 : Sl → O (Rs × Sl) := fnD 4 6 g_law_moved_k27
def g_law_ring_k27 : Sl → O (Fl × Sl) :=
  (sSeq (sPar2 2 3 (aCons (eCall [true, false, false] F_law_line_k22 (aCons (eVar 0) (aCons (eBin ixD (eLst (aCons (eC (.int 20)) (aCons (eBlt maxD (aCons (eC (.int 1)) (aCons (eBin fdivD (eC (.int 18)) (eVar 1)) aNil))) aNil))) (eBlt intD (aCons (eBin ltD (eVar 1) (eC (.int 19))) aNil))) (aCons (eBin powD (eC (.int 10)) (eC (.int 28))) aNil)))) (aCons (eCall [true, false] F_law_take_k21 (aCons (eVar 0) (aCons (eC (.int 4)) aNil))) aNil)))
    (sSeq (sIf (tOrD (tstB (eBin eqD (eVar 3) (eC (.int 0)))) (tstB (eBin gtD (eVar 1) (eC (.int 18))))) (sRet (eBlt tupleD (aCons (eComp (iSeqD (eCall [true, false, false] F_law_line_k22 (aCons (eVar 0) (aCons (eC (.int 20)) (aCons (eBin powD (eC (.int 10)) (eC (.int 28))) aNil))))) (bTup 2 (bCons (bName 9) (bCons (bName 8) bNil))) cYes (eTup (aCons (eVar 9) (aCons (eBin mulD (eVar 8) (eVar 1)) aNil))) [9, 8]) aNil))) sNx)
    (sSeq (sSet 4 (eBin mulD (eBlt listD (aCons (eVar 2) aNil)) (eVar 1)))
    (sSeq (sIf (tstB (eBin eqD (eVar 3) (eC (.int 1)))) (sRet (eCall [false] F_law_joined_k27 (aCons (eVar 4) aNil))) sNx)
    (sSeq (sSet 5 (eCall [true, false] F_law_take_k21 (aCons (eVar 0) (aCons (eBlt lenD (aCons (eVar 4) aNil)) aNil))))
    (sSeq (sSet 6 (eComp (iRng rng1D (aCons (eBlt lenD (aCons (eVar 4) aNil)) aNil)) (bName 7) (tstB (eBin eqD (eBin ixD (eBin ixD (eVar 4) (eVar 7)) (eC (.int 0))) (eBin ixD (eBin ixD (eVar 4) (eVar 5)) (eC (.int 0))))) (eVar 7) [7]))
    (sSeq (sPar2 7 8 (aCons (eBin ixD (eVar 6) (eCall [true, false] F_law_take_k21 (aCons (eVar 0) (aCons (eBlt lenD (aCons (eVar 6) aNil)) aNil)))) (aCons (eCall [true, false] F_law_take_k21 (aCons (eVar 0) (aCons (eBin ixD (eBin ixD (eVar 4) (eVar 5)) (eC (.int 1))) aNil))) aNil)))
    (sSeq (sIf (tstB (eBin neD (eVar 7) (eVar 5))) (sSeq (sSetIx 4 (eVar 5) (eTup (aCons (eBin ixD (eBin ixD (eVar 4) (eVar 5)) (eC (.int 0))) (aCons (eBin subD (eBin ixD (eBin ixD (eVar 4) (eVar 5)) (eC (.int 1))) (eVar 8)) aNil))))
    (sSetIx 4 (eVar 7) (eTup (aCons (eBin ixD (eBin ixD (eVar 4) (eVar 7)) (eC (.int 0))) (aCons (eBin addD (eBin ixD (eBin ixD (eVar 4) (eVar 7)) (eC (.int 1))) (eVar 8)) aNil))))) sNx)
    (sRet (eCall [false] F_law_joined_k27 (aCons (eVar 4) aNil)))))))))))
def F_law_ring_k27 : Sl → O (Rs × Sl) := fnD 2 8 g_law_ring_k27
def g_law_halves_k29 : Sl → O (Fl × Sl) :=
  (sSeq (sSet 1 (eBin fdivD (eBlt lenD (aCons (eVar 0) aNil)) (eC (.int 2))))
    (sSeq (sSet 2 (eBin fdivD (eMet "list" countD (eVar 0) (aCons (eC (.str "D")) aNil)) (eC (.int 2))))
    (sRet (eComp (iRng rng1D (aCons (eBin addD (eVar 1) (eC (.int 1))) aNil)) (bName 3) (tstB (eBin eqD (eMet "list" countD (eSlice (eVar 0) (oSome (eVar 3)) (oSome (eBin addD (eVar 3) (eVar 1)))) (aCons (eC (.str "D")) aNil)) (eVar 2))) (eVar 3) [3]))))
def F_law_halves_k29 : Sl → O (Rs × Sl) := fnD 1 3 g_law_halves_k29
def g_law_even_row_k30 : Sl → O (Fl × Sl) :=
  (sSeq (sSet 1 (eCall [true, false, false] F_law_large_k07 (aCons (eVar 0) (aCons (eBin ixD (eLst (aCons (eC (.int 6)) (aCons (eC (.int 20)) aNil))) (eCall [true, false] F_law_draw_k06 (aCons (eVar 0) (aCons (eC (.int 2)) aNil)))) (aCons (eBin ixD (eLst (aCons (eC (.int 4)) (aCons (eBin powD (eC (.int 10)) (eC (.int 30))) aNil))) (eCall [true, false] F_law_draw_k06 (aCons (eVar 0) (aCons (eC (.int 2)) aNil)))) aNil)))))
    (sRet (eBlt tupleD (aCons (eComp (iSeqD (eVar 1)) (bTup 2 (bCons (bName 2) (bCons (bName 3) bNil))) cYes (eTup (aCons (eVar 2) (aCons (eBin mulD (eC (.int 2)) (eVar 3)) aNil))) [2, 3]) aNil))))
def F_law_even_row_k30 : Sl → O (Rs × Sl) := fnD 1 3 g_law_even_row_k30
def g_law_is_fair_k30 : Sl → O (Fl × Sl) :=
  (sSeq (sSet 2 (eBin fdivD (eCall [false] F_law_size_k07 (aCons (eVar 0) aNil)) (eC (.int 2))))
    (sSeq (sIf (tNotD (tstB (eChain leD leD (eC (.int 0)) (eVar 1) (eVar 2)))) (sRet (eC (.bl false))) sNx)
    (sSeq (sSet 3 (eBin subD (eCall [false, false] F_law_dark_k07 (aCons (eVar 0) (aCons (eBin addD (eVar 1) (eVar 2)) aNil))) (eCall [false, false] F_law_dark_k07 (aCons (eVar 0) (aCons (eVar 1) aNil)))))
    (sRet (eBin eqD (eBin mulD (eC (.int 2)) (eVar 3)) (eCall [false, false] F_law_dark_k07 (aCons (eVar 0) (aCons (eBin mulD (eC (.int 2)) (eVar 2)) aNil))))))))
def F_law_is_fair_k30 : Sl → O (Rs × Sl) := fnD 2 2 g_law_is_fair_k30
def g_law_row_right_k30 : Sl → O (Fl × Sl) :=
  (sSeq (sSet 2 (eCall [false] F_count_halvings (aCons (eVar 1) aNil)))
    (sSeq (sSet 3 (eBin fdivD (eCall [false] F_law_size_k07 (aCons (eVar 1) aNil)) (eC (.int 2))))
    (sSeq (sIf (tstB (eBin ltD (eVar 2) (eC (.int 1)))) (sRet (eC (.bl false))) sNx)
    (sSeq (sIf (tstB (eBin neD (eCall [false] F_fewest_row_cuts (aCons (eVar 1) aNil)) (eBin subD (eC (.int 2)) (eBlt intD (aCons (eCall [false, false] F_law_is_fair_k30 (aCons (eVar 1) (aCons (eC (.int 0)) aNil))) aNil))))) (sRet (eC (.bl false))) sNx)
    (sSeq (sFor (iWipe [4, 5, 6, 7, 8, 9] (iRng rng1D (aCons (eC (.int 3)) aNil))) (bName 4) (sWipe [4, 5, 6, 7, 8, 9] (sSeq (sSet 5 (eBin ixD (eLst (aCons (eCall [true, false] F_law_draw_k06 (aCons (eVar 0) (aCons (eVar 2) aNil))) (aCons (eC (.int 0)) (aCons (eBin subD (eVar 2) (eC (.int 1))) aNil)))) (eVar 4)))
    (sSeq (sSet 6 (eCall [false, false] F_nth_halving (aCons (eVar 1) (aCons (eVar 5) aNil))))
    (sSeq (sIf (tNotD (tst (eCall [false, false] F_law_is_fair_k30 (aCons (eVar 1) (aCons (eVar 6) aNil))))) (sRet (eC (.bl false))) sNx)
    (sSeq (sSet 7 (eIf (tstB (eBin gtD (eVar 5) (eC (.int 0)))) (eCall [false, false] F_nth_halving (aCons (eVar 1) (aCons (eBin subD (eVar 5) (eC (.int 1))) aNil))) (eUn negD (eC (.int 1)))))
    (sSeq (sIf (tNotD (tstB (eBin ltD (eVar 7) (eVar 6)))) (sRet (eC (.bl false))) sNx)
    (sSeq (sIf (tAndD (tstB (eBin gtD (eBin subD (eVar 6) (eVar 7)) (eC (.int 1)))) (tst (eCall [false, false] F_law_is_fair_k30 (aCons (eVar 1) (aCons (eBin addD (eBin addD (eVar 7) (eC (.int 1))) (eCall [true, false] F_law_draw_k06 (aCons (eVar 0) (aCons (eBin subD (eBin subD (eVar 6) (eVar 7)) (eC (.int 1))) aNil)))) aNil))))) (sRet (eC (.bl false))) sNx)
    (sSeq (sSet 8 (eCall [false, false] F_nth_halving (aCons (eUn revA (eVar 1)) (aCons (eBin subD (eBin subD (eVar 2) (eC (.int 1))) (eVar 5)) aNil))))
    (sIf (tstB (eBin neD (eVar 8) (eBin subD (eVar 3) (eVar 6)))) (sRet (eC (.bl false))) sNx))))))))))
    (sSeq (sSet 9 (eCall [false, false] F_nth_halving (aCons (eVar 1) (aCons (eBin subD (eVar 2) (eC (.int 1))) aNil))))
    (sRet (eOrV (eBin eqD (eVar 9) (eVar 3)) (eNotV (eCall [false, false] F_law_is_fair_k30 (aCons (eVar 1) (aCons (eBin addD (eBin addD (eVar 9) (eC (.int 1))) (eCall [true, false] F_law_draw_k06 (aCons (eVar 0) (aCons (eBin subD (eVar 3) (eVar 9)) aNil)))) aNil))))))))))))
def F_law_row_right_k30 : Sl → O (Rs × Sl) := fnD 2 8 g_law_row_right_k30
def g_is_sight : Sl → O (Fl × Sl) :=
  (sSeq (sIf (tOrD (tNotD (tst (eUn (isiD "tuple") (eVar 1)))) (tOrD (tstB (eBin neD (eBlt lenD (aCons (eVar 1) aNil)) (eC (.int 3)))) (tNotD (tst (eCall [false, false, false] F_is_integer (aCons (eBin ixD (eVar 1) (eC (.int 0))) (aCons (eC (.int 0)) (aCons (eBin subD (eVar 0) (eC (.int 1))) aNil)))))))) (sRet (eC (.bl false))) sNx)
    (sRet (eAndV (eCall [false, false, false] F_is_integer (aCons (eBin ixD (eVar 1) (eC (.int 1))) (aCons (eBin addD (eBin ixD (eVar 1) (eC (.int 0))) (eC (.int 1))) (aCons (eVar 0) aNil)))) (eCall [false, false, false] F_is_integer (aCons (eBin ixD (eVar 1) (eC (.int 2))) (aCons (eC (.int 0)) (aCons (eC .non) aNil)))))))
def F_is_sight : Sl → O (Rs × Sl) := fnD 2 0 g_is_sight
def g_check_beads : Sl → O (Fl × Sl) :=
  (sIf (tNotD (tst (eCall [false, false, false] F_is_integer (aCons (eVar 0) (aCons (eC (.int 1)) (aCons (eC .non) aNil)))))) sBad sNx)
def F_check_beads : Sl → O (Rs × Sl) := fnD 1 0 g_check_beads
def g_check_sights : Sl → O (Fl × Sl) :=
  (sSeq (sExpr (eCall [false] F_check_beads (aCons (eVar 0) aNil)))
    (sIf (tOrD (tNotD (tst (eUn (isiD "list") (eVar 1)))) (tNotD (tst (eBlt allD (aCons (eComp (iSeqD (eVar 1)) (bName 2) cYes (eCall [false, false] F_is_sight (aCons (eVar 0) (aCons (eVar 2) aNil))) [2]) aNil))))) sBad sNx))
def F_check_sights : Sl → O (Rs × Sl) := fnD 2 1 g_check_sights
def g_points_of : Sl → O (Fl × Sl) :=
  (sSeq (sSet 2 (eLst (aCons (eC (.int 0)) (aCons (eVar 0) aNil))))
    (sSeq (sFor (iWipe [0, 1, 3, 4, 5] (iSeqD (eVar 1))) (bTup 3 (bCons (bName 3) (bCons (bName 4) (bCons (bName 5) bNil)))) (sWipe [0, 1, 3, 4, 5] (sExpr (eMut 2 extU (aCons (eLst (aCons (eVar 3) (aCons (eVar 4) aNil))) aNil)))))
    (sRet (eBlt sortedSetD (aCons (eVar 2) aNil)))))
def F_points_of : Sl → O (Rs × Sl) := fnD 2 4 g_points_of
def g_steps_of : Sl → O (Fl × Sl) :=
  (sSeq (sSet 2 (eLst aNil))
    (sSeq (sFor (iWipe [0, 3, 4, 5, 6, 7, 8] (iFrz zipD (aCons (eVar 0) (aCons (eSlice (eVar 0) (oSome (eC (.int 1))) oNone) aNil)))) (bTup 2 (bCons (bName 3) (bCons (bName 4) bNil))) (sWipe [0, 3, 4, 5, 6, 7, 8] (sSeq (sExpr (eMut 2 appU (aCons (eTup (aCons (eVar 3) (aCons (eVar 4) (aCons (eBin subD (eVar 4) (eVar 3)) (aCons (eC .non) aNil))))) aNil)))
    (sExpr (eMut 2 appU (aCons (eTup (aCons (eVar 4) (aCons (eVar 3) (aCons (eC (.int 0)) (aCons (eC .non) aNil))))) aNil))))))
    (sSeq (sFor (iWipe [0, 1, 3, 4, 5, 6, 7, 8] (iFrz enumD (aCons (eVar 1) aNil))) (bTup 2 (bCons (bName 5) (bCons (bTup 3 (bCons (bName 6) (bCons (bName 7) (bCons (bName 8) bNil)))) bNil))) (sWipe [0, 1, 3, 4, 5, 6, 7, 8] (sSeq (sExpr (eMut 2 appU (aCons (eTup (aCons (eVar 6) (aCons (eVar 7) (aCons (eVar 8) (aCons (eTup (aCons (eVar 5) (aCons (eC (.bl true)) aNil))) aNil))))) aNil)))
    (sExpr (eMut 2 appU (aCons (eTup (aCons (eVar 7) (aCons (eVar 6) (aCons (eUn negD (eVar 8)) (aCons (eTup (aCons (eVar 5) (aCons (eC (.bl false)) aNil))) aNil))))) aNil))))))
    (sRet (eVar 2)))))
def F_steps_of : Sl → O (Rs × Sl) := fnD 2 7 g_steps_of
def g_row_with : Sl → O (Fl × Sl) :=
  (sSeq (sSet 3 (eLst aNil))
    (sSeq (sFor (iWipe [0, 4, 5, 6, 7] (iFrz zipD (aCons (eVar 0) (aCons (eSlice (eVar 0) (oSome (eC (.int 1))) oNone) aNil)))) (bTup 2 (bCons (bName 4) (bCons (bName 5) bNil))) (sWipe [0, 4, 5, 6, 7] (sSeq (sSet 6 (eBin subD (eBin ixD (eVar 1) (eVar 5)) (eBin ixD (eVar 1) (eVar 4))))
    (sSeq (sSet 7 (eLst (aCons (eTup (aCons (eC (.str "L")) (aCons (eBin subD (eBin subD (eVar 5) (eVar 4)) (eVar 6)) aNil))) (aCons (eTup (aCons (eC (.str "D")) (aCons (eVar 6) aNil))) aNil))))
    (sExpr (eMut 3 extU (aCons (eIf (tst (eVar 2)) (eVar 7) (eUn revA (eVar 7))) aNil)))))))
    (sRet (eCall [false] F_joined_runs (aCons (eComp (iSeqD (eVar 3)) (bName 8) (tstB (eBin gtD (eBin ixD (eVar 8) (eC (.int 1))) (eC (.int 0)))) (eVar 8) [8]) aNil)))))
def F_row_with : Sl → O (Rs × Sl) := fnD 3 6 g_row_with
def g_law_way_right_k32 : Sl → O (Fl × Sl) :=
  (sSeq (sIf (tOrD (tNotD (tst (eUn (isiD "list") (eVar 1)))) (tstB (eBin eqD (eVar 1) (eLst aNil)))) (sRet (eC (.bl false))) sNx)
    (sSeq (sFor (iWipe [2, 3, 4, 5, 6, 7, 8, 9] (iSeqD (eVar 1))) (bName 2) (sWipe [2, 3, 4, 5, 6, 7, 8, 9] (sSeq (sIf (tOrD (tNotD (tst (eUn (isiD "tuple") (eVar 2)))) (tOrD (tstB (eBin neD (eBlt lenD (aCons (eVar 2) aNil)) (eC (.int 2)))) (tst (eUn (isiD "bool") (eBin ixD (eVar 2) (eC (.int 0))))))) (sRet (eC (.bl false))) sNx)
    (sIf (tOrD (tNotD (tst (eUn (isiD "int") (eBin ixD (eVar 2) (eC (.int 0)))))) (tOrD (tNotD (tstB (eChain leD ltD (eC (.int 0)) (eBin ixD (eVar 2) (eC (.int 0))) (eBlt lenD (aCons (eVar 0) aNil))))) (tNotD (tst (eUn (isiD "bool") (eBin ixD (eVar 2) (eC (.int 1)))))))) (sRet (eC (.bl false))) sNx))))
    (sSeq (sSet 3 (eC (.int 0)))
    (sSeq (sFor (iWipe [1, 2, 4, 5, 6, 7, 8, 9] (iFrz zipD (aCons (eVar 1) (aCons (eBin addD (eSlice (eVar 1) (oSome (eC (.int 1))) oNone) (eSlice (eVar 1) oNone (oSome (eC (.int 1))))) aNil)))) (bTup 2 (bCons (bName 2) (bCons (bName 4) bNil))) (sWipe [1, 2, 4, 5, 6, 7, 8, 9] (sSeq (sTgt (bTup 3 (bCons (bName 5) (bCons (bName 6) (bCons (bName 7) bNil)))) (eBin ixD (eVar 0) (eBin ixD (eVar 2) (eC (.int 0)))))
    (sSeq (sSet 3 (eBin addD (eVar 3) (eIf (tst (eBin ixD (eVar 2) (eC (.int 1)))) (eVar 7) (eBin subD (eC (.int 0)) (eVar 7)))))
    (sSeq (sPar2 8 9 (aCons (eBin ixD (eBin ixD (eVar 0) (eBin ixD (eVar 4) (eC (.int 0)))) (eC (.int 0))) (aCons (eBin ixD (eBin ixD (eVar 0) (eBin ixD (eVar 4) (eC (.int 0)))) (eC (.int 1))) aNil)))
    (sSet 3 (eBin addD (eVar 3) (eBlt maxD (aCons (eC (.int 0)) (aCons (eBin subD (eIf (tst (eBin ixD (eVar 4) (eC (.int 1)))) (eVar 8) (eVar 9)) (eIf (tst (eBin ixD (eVar 2) (eC (.int 1)))) (eVar 6) (eVar 5))) aNil))))))))))
    (sRet (eBin ltD (eVar 3) (eC (.int 0))))))))
def F_law_way_right_k32 : Sl → O (Rs × Sl) := fnD 2 8 g_law_way_right_k32
def g_law_rows_k32 : Sl → O (Fl × Sl) :=
  (sSeq (sSet 1 (eLst (aCons (eLst (aCons (eC (.int 0)) aNil)) aNil)))
    (sSeq (sFor (iWipe [0, 2, 3, 4] (iRng rng1D (aCons (eVar 0) aNil))) (bName 2) (sWipe [0, 2, 3, 4] (sSeq (sSet 3 (eLst aNil))
    (sSeq (sFor (iWipe [0, 1, 2, 4] (iSeqD (eVar 1))) (bName 4) (sWipe [0, 1, 2, 4] (sExpr (eMut 3 extU (aCons (eComp (iSeqD (eTup (aCons (eC (.int 0)) (aCons (eC (.int 1)) aNil)))) (bName 5) cYes (eBin addD (eVar 4) (eLst (aCons (eBin addD (eBin ixD (eVar 4) (eUn negD (eC (.int 1)))) (eVar 5)) aNil))) [5]) aNil)))))
    (sSet 1 (eMov 3))))))
    (sRet (eVar 1))))
def F_law_rows_k32 : Sl → O (Rs × Sl) := fnD 1 5 g_law_rows_k32
def g_law_sights_k32 : Sl → O (Fl × Sl) :=
  (sSeq (sPar2 3 4 (aCons (eLst aNil) (aCons (eBin eqD (eCall [true, false] F_law_take_k21 (aCons (eVar 0) (aCons (eC (.int 3)) aNil))) (eC (.int 0))) aNil)))
    (sSeq (sFor (iWipe [5, 6, 7, 8] (iRng rng1D (aCons (eCall [true, false] F_law_take_k21 (aCons (eVar 0) (aCons (eC (.int 9)) aNil))) aNil))) (bName 5) (sWipe [5, 6, 7, 8] (sSeq (sSet 6 (eCall [true, false] F_law_take_k21 (aCons (eVar 0) (aCons (eVar 1) aNil))))
    (sSeq (sSet 7 (eBin addD (eBin addD (eVar 6) (eC (.int 1))) (eCall [true, false] F_law_take_k21 (aCons (eVar 0) (aCons (eBin subD (eVar 1) (eVar 6)) aNil)))))
    (sSeq (sSet 8 (eBin subD (eBin ixD (eVar 2) (eVar 7)) (eBin ixD (eVar 2) (eVar 6))))
    (sSeq (sIf (tAndD (tst (eVar 4)) (tstB (eBin eqD (eCall [true, false] F_law_take_k21 (aCons (eVar 0) (aCons (eC (.int 3)) aNil))) (eC (.int 0))))) (sSet 8 (eCall [true, false] F_law_take_k21 (aCons (eVar 0) (aCons (eBin addD (eBin subD (eVar 7) (eVar 6)) (eC (.int 2))) aNil)))) sNx)
    (sExpr (eMut 3 appU (aCons (eTup (aCons (eVar 6) (aCons (eVar 7) (aCons (eVar 8) aNil)))) aNil)))))))))
    (sRet (eVar 3))))
def F_law_sights_k32 : Sl → O (Rs × Sl) := fnD 3 6 g_law_sights_k32
def g_law_colours_k32 : Sl → O (Fl × Sl) :=
  (sRet (eComp (iFrz zipD (aCons (eVar 0) (aCons (eSlice (eVar 0) (oSome (eC (.int 1))) oNone) aNil))) (bTup 2 (bCons (bName 1) (bCons (bName 2) bNil))) cYes (eBin ixD (eC (.str "LD")) (eBin subD (eVar 2) (eVar 1))) [1, 2]))
def F_law_colours_k32 : Sl → O (Rs × Sl) := fnD 1 2 g_law_colours_k32
def g_law_before_k33 : Sl → O (Fl × Sl) :=
  (sSeq (sSet 2 (eC (.int 0)))
    (sSeq (sFor (iWipe [0, 3, 4] (iSeqD (eVar 0))) (bTup 2 (bCons (bName 3) (bCons (bName 4) bNil))) (sWipe [0, 3, 4] (sSeq (sSet 2 (eBin addD (eVar 2) (eBin mulD (eBlt minD (aCons (eVar 4) (aCons (eVar 1) aNil))) (eBlt intD (aCons (eBin eqD (eVar 3) (eC (.str "D"))) aNil)))))
    (sSet 1 (eBlt maxD (aCons (eC (.int 0)) (aCons (eBin subD (eVar 1) (eVar 4)) aNil)))))))
    (sRet (eVar 2))))
def F_law_before_k33 : Sl → O (Rs × Sl) := fnD 2 3 g_law_before_k33
def g_law_place_k33 : Sl → O (Fl × Sl) :=
  (sSeq (sSet 2 (eBlt sumD (aCons (eComp (iSeqD (eVar 1)) (bTup 2 (bCons (bName 5) (bCons (bName 6) bNil))) cYes (eVar 6) [5, 6]) aNil)))
    (sSeq (sSet 3 (eBlt sumD (aCons (eComp (iSeqD (eSlice (eVar 1) oNone (oSome (eCall [true, false] F_law_take_k21 (aCons (eVar 0) (aCons (eBin addD (eBlt lenD (aCons (eVar 1) aNil)) (eC (.int 1))) aNil)))))) (bTup 2 (bCons (bName 5) (bCons (bName 6) bNil))) cYes (eVar 6) [5, 6]) aNil)))
    (sSeq (sSet 4 (eBin ixD (eLst (aCons (eVar 3) (aCons (eBin addD (eVar 3) (eC (.int 1))) (aCons (eBin subD (eVar 3) (eC (.int 1))) (aCons (eCall [true, false] F_law_take_k21 (aCons (eVar 0) (aCons (eBin addD (eVar 2) (eC (.int 1))) aNil))) aNil))))) (eCall [true, false] F_law_take_k21 (aCons (eVar 0) (aCons (eC (.int 4)) aNil)))))
    (sRet (eBlt maxD (aCons (eC (.int 0)) (aCons (eBlt minD (aCons (eVar 2) (aCons (eVar 4) aNil))) aNil)))))))
def F_law_place_k33 : Sl → O (Rs × Sl) := fnD 2 5 g_law_place_k33
def g_law_true_sights_k33 : Sl → O (Fl × Sl) :=
  (sSeq (sSet 3 (eLst aNil))
    (sSeq (sFor (iWipe [2, 4, 5] (iRng rng1D (aCons (eVar 2) aNil))) (bName 4) (sWipe [2, 4, 5] (sSeq (sSet 5 (eBlt sortedD (aCons (eLst (aCons (eCall [true, false] F_law_place_k33 (aCons (eVar 0) (aCons (eVar 1) aNil))) (aCons (eCall [true, false] F_law_place_k33 (aCons (eVar 0) (aCons (eVar 1) aNil))) aNil))) aNil)))
    (sIf (tstB (eBin ltD (eBin ixD (eVar 5) (eC (.int 0))) (eBin ixD (eVar 5) (eC (.int 1))))) (sExpr (eMut 3 appU (aCons (eTup (aCons (eBin ixD (eVar 5) (eC (.int 0))) (aCons (eBin ixD (eVar 5) (eC (.int 1))) (aCons (eBin subD (eCall [false, false] F_law_before_k33 (aCons (eVar 1) (aCons (eBin ixD (eVar 5) (eC (.int 1))) aNil))) (eCall [false, false] F_law_before_k33 (aCons (eVar 1) (aCons (eBin ixD (eVar 5) (eC (.int 0))) aNil)))) aNil)))) aNil))) sNx))))
    (sRet (eVar 3))))
def F_law_true_sights_k33 : Sl → O (Rs × Sl) := fnD 3 3 g_law_true_sights_k33
def g_law_bounds_k33 : Sl → O (Fl × Sl) :=
  (sSeq (sSet 3 (eBin addD (eLst (aCons (eC (.int 0)) (aCons (eVar 0) aNil))) (eVar 2)))
    (sSeq (sFor (iWipe [0, 2, 4, 5, 6, 7, 8, 9, 10, 11] (iSeqD (eVar 1))) (bName 4) (sWipe [0, 2, 4, 5, 6, 7, 8, 9, 10, 11] (sExpr (eMut 3 extU (aCons (eSlice (eVar 4) oNone (oSome (eC (.int 2)))) aNil)))))
    (sSeq (sSet 3 (eBlt sortedSetD (aCons (eVar 3) aNil)))
    (sSeq (sSet 5 eEmp)
    (sSeq (sFor (iWipe [0, 2, 4, 6, 7, 8, 9, 10, 11] (iSeqD (eVar 3))) (bName 6) (sWipe [0, 2, 4, 6, 7, 8, 9, 10, 11] (sFor (iWipe [0, 2, 4, 7, 8, 9, 10, 11] (iSeqD (eVar 3))) (bName 7) (sWipe [0, 2, 4, 7, 8, 9, 10, 11] (sSetIx 5 (eTup (aCons (eVar 6) (aCons (eVar 7) aNil))) (eBlt maxD (aCons (eC (.int 0)) (aCons (eBin subD (eVar 7) (eVar 6)) aNil))))))))
    (sSeq (sFor (iWipe [0, 1, 2, 4, 6, 7, 8, 9, 10, 11] (iSeqD (eVar 1))) (bTup 3 (bCons (bName 8) (bCons (bName 9) (bCons (bName 10) bNil)))) (sWipe [0, 1, 2, 4, 6, 7, 8, 9, 10, 11] (sSeq (sSetIx 5 (eTup (aCons (eVar 8) (aCons (eVar 9) aNil))) (eBlt minD (aCons (eBin ixD (eVar 5) (eTup (aCons (eVar 8) (aCons (eVar 9) aNil)))) (aCons (eVar 10) aNil))))
    (sSetIx 5 (eTup (aCons (eVar 9) (aCons (eVar 8) aNil))) (eBlt minD (aCons (eBin ixD (eVar 5) (eTup (aCons (eVar 9) (aCons (eVar 8) aNil)))) (aCons (eBin subD (eC (.int 0)) (eVar 10)) aNil)))))))
    (sSeq (sFor (iWipe [0, 1, 2, 4, 6, 7, 8, 9, 10, 11] (iSeqD (eVar 3))) (bName 11) (sWipe [0, 1, 2, 4, 6, 7, 8, 9, 10, 11] (sFor (iWipe [0, 1, 2, 4, 6, 7, 8, 9, 10] (iSeqD (eVar 3))) (bName 6) (sWipe [0, 1, 2, 4, 6, 7, 8, 9, 10] (sFor (iWipe [0, 1, 2, 4, 7, 8, 9, 10] (iSeqD (eVar 3))) (bName 7) (sWipe [0, 1, 2, 4, 7, 8, 9, 10] (sIf (tstB (eBin ltD (eBin addD (eBin ixD (eVar 5) (eTup (aCons (eVar 6) (aCons (eVar 11) aNil)))) (eBin ixD (eVar 5) (eTup (aCons (eVar 11) (aCons (eVar 7) aNil))))) (eBin ixD (eVar 5) (eTup (aCons (eVar 6) (aCons (eVar 7) aNil)))))) (sSetIx 5 (eTup (aCons (eVar 6) (aCons (eVar 7) aNil))) (eBin addD (eBin ixD (eVar 5) (eTup (aCons (eVar 6) (aCons (eVar 11) aNil)))) (eBin ixD (eVar 5) (eTup (aCons (eVar 11) (aCons (eVar 7) aNil)))))) sNx)))))))
    (sRet (eTup (aCons (eVar 3) (aCons (eVar 5) aNil)))))))))))
def F_law_bounds_k33 : Sl → O (Rs × Sl) := fnD 3 9 g_law_bounds_k33
def g_law_spoiled_k33 : Sl → O (Fl × Sl) :=
  (sSeq (sSet 2 (eBlt listD (aCons (eVar 1) aNil)))
    (sSeq (sFor (iWipe [1, 3, 4, 5, 6, 7, 8] (iRng rng1D (aCons (eBin mulD (eCall [true, false] F_law_take_k21 (aCons (eVar 0) (aCons (eC (.int 4)) aNil))) (eBlt intD (aCons (eBin neD (eVar 1) (eLst aNil)) aNil))) aNil))) (bName 3) (sWipe [1, 3, 4, 5, 6, 7, 8] (sSeq (sSet 4 (eCall [true, false] F_law_take_k21 (aCons (eVar 0) (aCons (eBlt lenD (aCons (eVar 2) aNil)) aNil))))
    (sSeq (sTgt (bTup 3 (bCons (bName 5) (bCons (bName 6) (bCons (bName 7) bNil)))) (eBin ixD (eVar 2) (eVar 4)))
    (sSeq (sSet 8 (eLst (aCons (eBin addD (eVar 7) (eC (.int 1))) (aCons (eBlt maxD (aCons (eC (.int 0)) (aCons (eBin subD (eVar 7) (eC (.int 1))) aNil))) (aCons (eCall [true, false] F_law_take_k21 (aCons (eVar 0) (aCons (eBin addD (eBin subD (eVar 6) (eVar 5)) (eC (.int 1))) aNil))) (aCons (eBin addD (eBin subD (eVar 6) (eVar 5)) (eC (.int 1))) (aCons (eC (.int 0)) (aCons (eBin subD (eVar 6) (eVar 5)) (aCons (eBin powD (eC (.int 10)) (eC (.int 39))) aNil)))))))))
    (sSetIx 2 (eVar 4) (eTup (aCons (eVar 5) (aCons (eVar 6) (aCons (eBin ixD (eVar 8) (eCall [true, false] F_law_take_k21 (aCons (eVar 0) (aCons (eC (.int 7)) aNil)))) aNil))))))))))
    (sRet (eVar 2))))
def F_law_spoiled_k33 : Sl → O (Rs × Sl) := fnD 2 7 g_law_spoiled_k33
def g_law_is_row_k34 : Sl → O (Fl × Sl) :=
  (sSeq (sIf (tOrD (tNotD (tst (eUn (isiD "tuple") (eVar 0)))) (tstB (eBin eqT0D (eVar 0) (eTup aNil)))) (sRet (eC (.bl false))) sNx)
    (sSeq (sFor (iWipe [2] (iSeqD (eVar 0))) (bName 2) (sWipe [2] (sSeq (sIf (tOrD (tNotD (tst (eUn (isiD "tuple") (eVar 2)))) (tOrD (tstB (eBin neD (eBlt lenD (aCons (eVar 2) aNil)) (eC (.int 2)))) (tOrD (tstB (eBin notInD (eBin ixD (eVar 2) (eC (.int 0))) (eTup (aCons (eC (.str "D")) (aCons (eC (.str "L")) aNil))))) (tst (eUn (isiD "bool") (eBin ixD (eVar 2) (eC (.int 1)))))))) (sRet (eC (.bl false))) sNx)
    (sIf (tOrD (tNotD (tst (eUn (isiD "int") (eBin ixD (eVar 2) (eC (.int 1)))))) (tstB (eBin ltD (eBin ixD (eVar 2) (eC (.int 1))) (eC (.int 1))))) (sRet (eC (.bl false))) sNx))))
    (sSeq (sIf (tstB (eBin neD (eComp (iFrz zipD (aCons (eVar 0) (aCons (eSlice (eVar 0) (oSome (eC (.int 1))) oNone) aNil))) (bTup 2 (bCons (bName 3) (bCons (bName 4) bNil))) (tstB (eBin eqD (eBin ixD (eVar 3) (eC (.int 0))) (eBin ixD (eVar 4) (eC (.int 0))))) (eC (.int 1)) [3, 4]) (eLst aNil))) (sRet (eC (.bl false))) sNx)
    (sRet (eBin eqD (eBlt sumD (aCons (eComp (iSeqD (eVar 0)) (bTup 2 (bCons (bName 5) (bCons (bName 6) bNil))) cYes (eVar 6) [5, 6]) aNil)) (eVar 1))))))
def F_law_is_row_k34 : Sl → O (Rs × Sl) := fnD 2 5 g_law_is_row_k34
def g_law_no_sight_k35 : Sl → O (Fl × Sl) :=
  (sSeq (sSet 2 (eLst (aCons (eC .non) (aCons (eC (.int 0)) (aCons (eC (.bl true)) (aCons (eC (.str "0-1:0")) (aCons (eTup aNil) (aCons (eLst aNil) (aCons eEmp (aCons (eTup (aCons (eC (.int 0)) (aCons (eC (.int 1)) aNil))) (aCons (eTup (aCons (eC (.int 0)) (aCons (eC (.int 1)) (aCons (eC (.int 0)) (aCons (eC (.int 0)) aNil))))) (aCons (eLst (aCons (eC (.int 0)) (aCons (eC (.int 1)) (aCons (eC (.int 0)) aNil)))) (aCons (eTup (aCons (eC (.int 0)) (aCons (eC (.int 0)) (aCons (eC (.int 0)) aNil)))) (aCons (eTup (aCons (eVar 1) (aCons (eVar 1) (aCons (eC (.int 0)) aNil)))) aNil))))))))))))))
    (sSeq (sSet 2 (eBin addD (eVar 2) (eLst (aCons (eTup (aCons (eC (.int 0)) (aCons (eBin addD (eVar 1) (eC (.int 1))) (aCons (eC (.int 0)) aNil)))) (aCons (eTup (aCons (eUn negD (eC (.int 1))) (aCons (eVar 1) (aCons (eC (.int 0)) aNil)))) (aCons (eTup (aCons (eC (.int 0)) (aCons (eVar 1) (aCons (eUn negD (eC (.int 1))) aNil)))) (aCons (eTup (aCons (eC (.bl true)) (aCons (eVar 1) (aCons (eC (.int 0)) aNil)))) (aCons (eTup (aCons (eC (.int 0)) (aCons (eC (.bl true)) (aCons (eC (.int 0)) aNil)))) (aCons (eTup (aCons (eC (.int 0)) (aCons (eVar 1) (aCons (eC (.bl true)) aNil)))) aNil)))))))))
    (sSeq (sSet 2 (eBin addD (eVar 2) (eLst (aCons (eTup (aCons (eC (.str "0")) (aCons (eVar 1) (aCons (eC (.int 0)) aNil)))) (aCons (eTup (aCons (eC (.int 0)) (aCons (eC (.str "1")) (aCons (eC (.int 0)) aNil)))) (aCons (eTup (aCons (eC (.int 0)) (aCons (eVar 1) (aCons (eC (.str "0")) aNil)))) (aCons (eTup (aCons (eC .non) (aCons (eVar 1) (aCons (eC (.int 0)) aNil)))) (aCons (eTup (aCons (eC (.int 0)) (aCons (eVar 1) (aCons (eC .non) aNil)))) (aCons (eTup (aCons (eTup (aCons (eC (.int 0)) (aCons (eC (.int 1)) (aCons (eC (.int 0)) aNil)))) aNil)) aNil)))))))))
    (sSeq (sSet 2 (eBin addD (eVar 2) (eLst (aCons (eTup (aCons (eBin subD (eVar 1) (eC (.int 1))) (aCons (eBin subD (eVar 1) (eC (.int 1))) (aCons (eC (.int 0)) aNil)))) (aCons (eTup (aCons (eVar 1) (aCons (eC (.int 0)) (aCons (eC (.int 0)) aNil)))) (aCons (eTup (aCons (eC (.int 0)) (aCons (eLst (aCons (eC (.int 1)) aNil)) (aCons (eC (.int 0)) aNil)))) (aCons (eTup (aCons (eLst (aCons (eC (.int 0)) aNil)) (aCons (eVar 1) (aCons (eC (.int 0)) aNil)))) (aCons (eTup (aCons (eC (.int 0)) (aCons (eVar 1) (aCons (eLst (aCons (eC (.int 0)) aNil)) aNil)))) aNil))))))))
    (sRet (eBin ixD (eVar 2) (eCall [true, false] F_law_take_k21 (aCons (eVar 0) (aCons (eC (.int 29)) aNil)))))))))
def F_law_no_sight_k35 : Sl → O (Rs × Sl) := fnD 2 1 g_law_no_sight_k35
def g_law_sights_k35 : Sl → O (Fl × Sl) :=
  (sSeq (sPar2 3 4 (aCons (eLst aNil) (aCons (eCall [true, false] F_law_take_k21 (aCons (eVar 0) (aCons (eBin addD (eVar 1) (eC (.int 1))) aNil))) aNil)))
    (sSeq (sFor (iWipe [2, 5, 6, 7] (iRng rng1D (aCons (eVar 2) aNil))) (bName 5) (sWipe [2, 5, 6, 7] (sSeq (sSet 6 (eCall [true, false] F_law_take_k21 (aCons (eVar 0) (aCons (eVar 1) aNil))))
    (sSeq (sSet 7 (eBin addD (eBin addD (eVar 6) (eC (.int 1))) (eCall [true, false] F_law_take_k21 (aCons (eVar 0) (aCons (eBin subD (eVar 1) (eVar 6)) aNil)))))
    (sExpr (eMut 3 appU (aCons (eTup (aCons (eVar 6) (aCons (eVar 7) (aCons (eBlt maxD (aCons (eC (.int 0)) (aCons (eBin subD (eVar 7) (eBlt maxD (aCons (eVar 6) (aCons (eVar 4) aNil)))) aNil))) aNil)))) aNil)))))))
    (sRet (eVar 3))))
def F_law_sights_k35 : Sl → O (Rs × Sl) := fnD 3 5 g_law_sights_k35
def g_law_asked_k36 : Sl → O (Fl × Sl) :=
  (sSeq (sSet 2 (eBlt sortedD (aCons (eLst (aCons (eCall [true, false] F_law_place_k33 (aCons (eVar 0) (aCons (eVar 1) aNil))) (aCons (eCall [true, false] F_law_place_k33 (aCons (eVar 0) (aCons (eVar 1) aNil))) aNil))) aNil)))
    (sRet (eIf (tstB (eBin ltD (eBin ixD (eVar 2) (eC (.int 0))) (eBin ixD (eVar 2) (eC (.int 1))))) (eVar 2) (eLst (aCons (eC (.int 0)) (aCons (eCall [false] F_count_beads (aCons (eVar 1) aNil)) aNil))))))
def F_law_asked_k36 : Sl → O (Rs × Sl) := fnD 2 1 g_law_asked_k36
def g_law_swapped_k37 : Sl → O (Fl × Sl) :=
  (sRet (eMet "str" joinD (eC (.str "")) (aCons (eComp (iSeqD (eVar 0)) (bName 1) cYes (eSwp 1) [1]) aNil)))
def F_law_swapped_k37 : Sl → O (Rs × Sl) := fnD 1 1 g_law_swapped_k37
def g_law_turn_k37 : Sl → O (Fl × Sl) :=
  (sSeq (sSet 2 (eComp (iRng rng1D (aCons (eBlt lenD (aCons (eVar 0) aNil)) aNil)) (bName 3) (tstB (eBin eqD (eBin addD (eSlice (eVar 0) (oSome (eVar 3)) oNone) (eSlice (eVar 0) oNone (oSome (eVar 3)))) (eVar 1))) (eVar 3) [3]))
    (sRet (eIf (tAndD (tstB (eBin neD (eVar 2) (eLst aNil))) (tstB (eBin eqD (eBlt lenD (aCons (eVar 0) aNil)) (eBlt lenD (aCons (eVar 1) aNil))))) (eBin ixD (eVar 2) (eC (.int 0))) (eC .non))))
def F_law_turn_k37 : Sl → O (Rs × Sl) := fnD 2 2 g_law_turn_k37
def g_law_same_beads_k38 : Sl → O (Fl × Sl) :=
  (sSeq (sSet 4 (eCall [false] F_law_size_k07 (aCons (eVar 1) aNil)))
    (sSeq (sFor (iWipe [5, 6] (iRng rng1D (aCons (eC (.int 5)) aNil))) (bName 5) (sWipe [5, 6] (sSeq (sSet 6 (eCall [true, false] F_law_spot_k07 (aCons (eVar 0) (aCons (eVar 2) aNil))))
    (sIf (tstB (eBin neD (eCall [false, false] F_law_dark_k07 (aCons (eVar 2) (aCons (eVar 6) aNil))) (eCall [false, false, false] F_law_in_arc_k07 (aCons (eVar 1) (aCons (eVar 3) (aCons (eVar 6) aNil)))))) (sRet (eC (.bl false))) sNx))))
    (sRet (eAndV (eBin eqD (eCall [false] F_law_size_k07 (aCons (eVar 2) aNil)) (eVar 4)) (eCall [false] F_is_strand (aCons (eVar 2) aNil))))))
def F_law_same_beads_k38 : Sl → O (Rs × Sl) := fnD 4 3 g_law_same_beads_k38
def g_law_period_k38 : Sl → O (Fl × Sl) :=
  (sSeq (sSet 1 (eCall [false] F_law_size_k07 (aCons (eVar 0) aNil)))
    (sSeq (sSet 2 (eC (.int 0)))
    (sSeq (sSet 0 (eCall [false, false] F_rotated (aCons (eVar 0) (aCons (eBin ixD (eBin ixD (eVar 0) (eC (.int 0))) (eC (.int 1))) aNil))))
    (sSeq (sFor (iWipe [3, 4] (iSeqD (eVar 0))) (bTup 2 (bCons (bName 3) (bCons (bName 4) bNil))) (sWipe [3, 4] (sSeq (sSet 2 (eBin addD (eVar 2) (eVar 4)))
    (sIf (tAndD (tstB (eBin eqD (eBin modD (eVar 1) (eVar 2)) (eC (.int 0)))) (tstB (eBin eqD (eCall [false, false] F_rotated (aCons (eVar 0) (aCons (eBin modD (eVar 2) (eVar 1)) aNil))) (eVar 0)))) (sRet (eVar 2)) sNx))))
    (sRet (eVar 1))))))
def F_law_period_k38 : Sl → O (Rs × Sl) := fnD 1 4 g_law_period_k38
def g_law_cycle_k38 : Sl → O (Fl × Sl) :=
  (sSeq (sSet 1 (eBlt listD (aCons (eVar 0) aNil)))
    (sSeq (sIf (tAndD (tstB (eBin gtD (eBlt lenD (aCons (eVar 1) aNil)) (eC (.int 1)))) (tstB (eBin eqD (eBin ixD (eBin ixD (eVar 1) (eC (.int 0))) (eC (.int 0))) (eBin ixD (eBin ixD (eVar 1) (eBin subD (eBlt lenD (aCons (eVar 1) aNil)) (eC (.int 1)))) (eC (.int 0)))))) (sSeq (sTgt (bTup 2 (bCons (bName 2) (bCons (bName 3) bNil))) (eMut 1 popU aNil))
    (sSetIx 1 (eC (.int 0)) (eTup (aCons (eVar 2) (aCons (eBin addD (eBin ixD (eBin ixD (eVar 1) (eC (.int 0))) (eC (.int 1))) (eVar 3)) aNil))))) sNx)
    (sRet (eVar 1))))
def F_law_cycle_k38 : Sl → O (Rs × Sl) := fnD 1 3 g_law_cycle_k38
def g_law_taken_k39 : Sl → O (Fl × Sl) :=
  (sSeq (sSet 3 (eBin addD (eVar 1) (eVar 2)))
    (sSeq (sIf (tstB (eBin leD (eVar 3) (eBlt lenD (aCons (eVar 0) aNil)))) (sRet (eLst (aCons (eSlice (eVar 0) (oSome (eVar 1)) (oSome (eVar 3))) (aCons (eBin addD (eSlice (eVar 0) oNone (oSome (eVar 1))) (eSlice (eVar 0) (oSome (eVar 3)) oNone)) aNil)))) sNx)
    (sRet (eLst (aCons (eBin addD (eSlice (eVar 0) (oSome (eVar 1)) oNone) (eSlice (eVar 0) oNone (oSome (eBin subD (eVar 3) (eBlt lenD (aCons (eVar 0) aNil)))))) (aCons (eSlice (eVar 0) (oSome (eBin subD (eVar 3) (eBlt lenD (aCons (eVar 0) aNil)))) (oSome (eVar 1))) aNil))))))
def F_law_taken_k39 : Sl → O (Rs × Sl) := fnD 3 1 g_law_taken_k39
def g_law_string_k39 : Sl → O (Fl × Sl) :=
  (sRet (eMet "str" joinD (eC (.str "")) (aCons (eComp (iRng rng1D (aCons (eBin addD (eC (.int 1)) (eCall [true, false] F_law_draw_k01 (aCons (eVar 0) (aCons (eVar 1) aNil)))) aNil)) (bName 2) cYes (eBin ixD (eC (.str "DL")) (eCall [true, false] F_law_draw_k01 (aCons (eVar 0) (aCons (eC (.int 2)) aNil)))) [2]) aNil)))
def F_law_string_k39 : Sl → O (Rs × Sl) := fnD 2 1 g_law_string_k39
def g_law_joined_k40 : Sl → O (Fl × Sl) :=
  (sSeq (sSet 1 (eLst aNil))
    (sSeq (sFor (iWipe [0, 2, 3] (iSeqD (eVar 0))) (bTup 2 (bCons (bName 2) (bCons (bName 3) bNil))) (sWipe [0, 2, 3] (sIf (tAndD (tstB (eBin gtD (eVar 3) (eC (.int 0)))) (tAndD (tstB (eBin neD (eVar 1) (eLst aNil))) (tstB (eBin eqD (eBin ixD (eBin ixD (eVar 1) (eUn negD (eC (.int 1)))) (eC (.int 0))) (eVar 2))))) (sSetIx 1 (eUn negD (eC (.int 1))) (eTup (aCons (eVar 2) (aCons (eBin addD (eBin ixD (eBin ixD (eVar 1) (eUn negD (eC (.int 1)))) (eC (.int 1))) (eVar 3)) aNil)))) (sIf (tstB (eBin gtD (eVar 3) (eC (.int 0)))) (sExpr (eMut 1 appU (aCons (eTup (aCons (eVar 2) (aCons (eVar 3) aNil))) aNil))) sNx))))
    (sRet (eBlt tupleD (aCons (eVar 1) aNil)))))
def F_law_joined_k40 : Sl → O (Rs × Sl) := fnD 1 3 g_law_joined_k40
def g_law_part_k40 : Sl → O (Fl × Sl) :=
  (sSeq (sPar2 3 4 (aCons (eLst aNil) (aCons (eC (.int 0)) aNil)))
    (sSeq (sFor (iWipe [0, 5, 6, 7, 8] (iSeqD (eVar 0))) (bTup 2 (bCons (bName 5) (bCons (bName 6) bNil))) (sWipe [0, 5, 6, 7, 8] (sSeq (sPar2 7 8 (aCons (eBlt maxD (aCons (eVar 1) (aCons (eVar 4) aNil))) (aCons (eBlt minD (aCons (eVar 2) (aCons (eBin addD (eVar 4) (eVar 6)) aNil))) aNil)))
    (sSeq (sExpr (eMut 3 appU (aCons (eTup (aCons (eVar 5) (aCons (eBlt maxD (aCons (eC (.int 0)) (aCons (eBin subD (eVar 8) (eVar 7)) aNil))) aNil))) aNil)))
    (sSet 4 (eBin addD (eVar 4) (eVar 6)))))))
    (sRet (eVar 3))))
def F_law_part_k40 : Sl → O (Rs × Sl) := fnD 3 6 g_law_part_k40
def g_law_size_k40 : Sl → O (Fl × Sl) :=
  (sRet (eBlt sumD (aCons (eComp (iSeqD (eVar 0)) (bTup 2 (bCons (bName 1) (bCons (bName 2) bNil))) cYes (eVar 2) [1, 2]) aNil)))
def F_law_size_k40 : Sl → O (Rs × Sl) := fnD 1 2 g_law_size_k40
def g_law_taken_k40 : Sl → O (Fl × Sl) :=
  (sSeq (sPar2 3 4 (aCons (eCall [false] F_law_size_k40 (aCons (eVar 0) aNil)) (aCons (eBin addD (eVar 1) (eVar 2)) aNil)))
    (sSeq (sIf (tstB (eBin leD (eVar 4) (eVar 3))) (sSeq (sSet 5 (eBin addD (eCall [false, false, false] F_law_part_k40 (aCons (eVar 0) (aCons (eC (.int 0)) (aCons (eVar 1) aNil)))) (eCall [false, false, false] F_law_part_k40 (aCons (eVar 0) (aCons (eVar 4) (aCons (eVar 3) aNil))))))
    (sRet (eLst (aCons (eCall [false] F_law_joined_k40 (aCons (eCall [false, false, false] F_law_part_k40 (aCons (eVar 0) (aCons (eVar 1) (aCons (eVar 4) aNil)))) aNil)) (aCons (eCall [false] F_law_joined_k40 (aCons (eVar 5) aNil)) aNil))))) sNx)
    (sSeq (sSet 6 (eBin addD (eCall [false, false, false] F_law_part_k40 (aCons (eVar 0) (aCons (eVar 1) (aCons (eVar 3) aNil)))) (eCall [false, false, false] F_law_part_k40 (aCons (eVar 0) (aCons (eC (.int 0)) (aCons (eBin subD (eVar 4) (eVar 3)) aNil))))))
    (sRet (eLst (aCons (eCall [false] F_law_joined_k40 (aCons (eVar 6) aNil)) (aCons (eCall [false] F_law_joined_k40 (aCons (eCall [false, false, false] F_law_part_k40 (aCons (eVar 0) (aCons (eBin subD (eVar 4) (eVar 3)) (aCons (eVar 1) aNil)))) aNil)) aNil)))))))
def F_law_taken_k40 : Sl → O (Rs × Sl) := fnD 3 4 g_law_taken_k40
def g_law_place_k40 : Sl → O (Fl × Sl) :=
  (sSeq (sPar2 2 3 (aCons (eCall [false] F_law_size_k40 (aCons (eVar 1) aNil)) (aCons (eLst (aCons (eC (.int 0)) aNil)) aNil)))
    (sSeq (sFor (iWipe [1, 4, 5, 6, 7] (iSeqD (eSlice (eVar 1) oNone (oSome (eUn negD (eC (.int 1))))))) (bTup 2 (bCons (bName 4) (bCons (bName 5) bNil))) (sWipe [1, 4, 5, 6, 7] (sExpr (eMut 3 appU (aCons (eBin addD (eBin ixD (eVar 3) (eUn negD (eC (.int 1)))) (eVar 5)) aNil)))))
    (sSeq (sSet 6 (eBin ixD (eVar 3) (eCall [true, false] F_law_draw_k01 (aCons (eVar 0) (aCons (eBlt lenD (aCons (eVar 3) aNil)) aNil)))))
    (sSeq (sSet 7 (eLst (aCons (eVar 6) (aCons (eBlt maxD (aCons (eC (.int 0)) (aCons (eBin subD (eVar 6) (eC (.int 1))) aNil))) (aCons (eBlt minD (aCons (eBin subD (eVar 2) (eC (.int 1))) (aCons (eBin addD (eVar 6) (eC (.int 1))) aNil))) (aCons (eBin subD (eVar 2) (eC (.int 1))) (aCons (eCall [true, false] F_law_draw_k01 (aCons (eVar 0) (aCons (eVar 2) aNil))) aNil)))))))
    (sRet (eBin ixD (eVar 7) (eCall [true, false] F_law_draw_k01 (aCons (eVar 0) (aCons (eC (.int 5)) aNil)))))))))
def F_law_place_k40 : Sl → O (Rs × Sl) := fnD 2 6 g_law_place_k40
def g_law_odd_k41 : Sl → O (Fl × Sl) :=
  (sSeq (sSet 3 (eLst (aCons (eBin subD (eVar 1) (eC (.int 1))) (aCons (eBin addD (eVar 2) (eC (.int 1))) (aCons (eC .non) (aCons (eC (.bl true)) (aCons (eC (.bl false)) (aCons (eC (.str "1")) (aCons (eLst (aCons (eC (.int 1)) aNil)) (aCons (eTup (aCons (eC (.int 1)) aNil)) (aCons eEmp (aCons (eUn negD (eBin powD (eC (.int 10)) (eC (.int 31)))) aNil))))))))))))
    (sSeq (sExpr (eMut 3 appU (aCons (eBin addD (eBin addD (eVar 2) (eC (.int 1))) (eCall [true, false] F_law_draw_k01 (aCons (eVar 0) (aCons (eBin powD (eC (.int 10)) (eC (.int 31))) aNil)))) aNil)))
    (sRet (eBin ixD (eVar 3) (eCall [true, false] F_law_draw_k01 (aCons (eVar 0) (aCons (eC (.int 11)) aNil)))))))
def F_law_odd_k41 : Sl → O (Rs × Sl) := fnD 3 1 g_law_odd_k41
def g_check_number : Sl → O (Fl × Sl) :=
  (sIf (tNotD (tst (eCall [false, false, false] F_is_integer (aCons (eVar 0) (aCons (eC (.int 0)) (aCons (eC .non) aNil)))))) sBad sNx)
def F_check_number : Sl → O (Rs × Sl) := fnD 1 0 g_check_number
def g_law_first_told_k43 : Sl → O (Fl × Sl) :=
  (sRet (eLst (aCons (eBin addD (eC (.str "beads ")) (eBlt strD (aCons (eBlt lenD (aCons (eVar 0) aNil)) aNil))) (aCons (eBin addD (eC (.str "dark ")) (eBlt strD (aCons (eMet "list" countD (eVar 0) (aCons (eC (.str "D")) aNil)) aNil))) aNil))))
def F_law_first_told_k43 : Sl → O (Rs × Sl) := fnD 1 0 g_law_first_told_k43
def g_is_sight_form : Sl → O (Fl × Sl) :=
  (sSeq (sIf (tOrD (tNotD (tst (eUn (isiD "tuple") (eVar 0)))) (tOrD (tstB (eBin neD (eBlt lenD (aCons (eVar 0) aNil)) (eC (.int 3)))) (tNotD (tst (eBlt allD (aCons (eComp (iSeqD (eVar 0)) (bName 1) cYes (eCall [false, false, false] F_is_integer (aCons (eVar 1) (aCons (eC (.int 0)) (aCons (eC .non) aNil)))) [1]) aNil)))))) (sRet (eC (.bl false))) sNx)
    (sRet (eBin ltD (eBin ixD (eVar 0) (eC (.int 0))) (eBin ixD (eVar 0) (eC (.int 1))))))
def F_is_sight_form : Sl → O (Rs × Sl) := fnD 1 1 g_is_sight_form
def g_format_strand : Sl → O (Fl × Sl) :=
  (sSeq (sIf (tNotD (tst (eCall [false] F_is_strand (aCons (eVar 0) aNil)))) sBad sNx)
    (sRet (eMet "str" joinD (eC (.str " ")) (aCons (eComp (iSeqD (eVar 0)) (bTup 2 (bCons (bName 1) (bCons (bName 2) bNil))) cYes (eBin addD (eVar 1) (eBlt strD (aCons (eVar 2) aNil))) [1, 2]) aNil))))
def F_format_strand : Sl → O (Rs × Sl) := fnD 1 2 g_format_strand
def g_format_sights : Sl → O (Fl × Sl) :=
  (sSeq (sIf (tOrD (tNotD (tst (eUn (isiD "list") (eVar 0)))) (tNotD (tst (eBlt allD (aCons (eComp (iSeqD (eVar 0)) (bName 4) cYes (eCall [false] F_is_sight_form (aCons (eVar 4) aNil)) [4]) aNil))))) sBad sNx)
    (sRet (eMet "str" joinD (eC (.str " ")) (aCons (eComp (iSeqD (eVar 0)) (bTup 3 (bCons (bName 1) (bCons (bName 2) (bCons (bName 3) bNil)))) cYes (eBin addD (eBin addD (eBin addD (eBin addD (eBlt strD (aCons (eVar 1) aNil)) (eC (.str "-"))) (eBlt strD (aCons (eVar 2) aNil))) (eC (.str ":"))) (eBlt strD (aCons (eVar 3) aNil))) [1, 2, 3]) aNil))))
def F_format_sights : Sl → O (Rs × Sl) := fnD 1 4 g_format_sights
def g_law_strand_note_k47 : Sl → O (Fl × Sl) :=
  (sSeq (sSet 1 (eC (.str "")))
    (sSeq (sFor (iWipe [0, 2, 3] (iSeqD (eVar 0))) (bTup 2 (bCons (bName 2) (bCons (bName 3) bNil))) (sWipe [0, 2, 3] (sSet 1 (eBin addD (eBin addD (eBin addD (eVar 1) (eC (.str " "))) (eVar 2)) (eBlt strD (aCons (eVar 3) aNil))))))
    (sRet (eSlice (eVar 1) (oSome (eC (.int 1))) oNone))))
def F_law_strand_note_k47 : Sl → O (Rs × Sl) := fnD 1 3 g_law_strand_note_k47
def g_law_sights_note_k47 : Sl → O (Fl × Sl) :=
  (sSeq (sSet 1 (eC (.str "")))
    (sSeq (sFor (iWipe [0, 2, 3, 4] (iSeqD (eVar 0))) (bTup 3 (bCons (bName 2) (bCons (bName 3) (bCons (bName 4) bNil)))) (sWipe [0, 2, 3, 4] (sSet 1 (eBin addD (eBin addD (eBin addD (eBin addD (eBin addD (eBin addD (eVar 1) (eC (.str " "))) (eBlt strD (aCons (eVar 2) aNil))) (eC (.str "-"))) (eBlt strD (aCons (eVar 3) aNil))) (eC (.str ":"))) (eBlt strD (aCons (eVar 4) aNil))))))
    (sRet (eSlice (eVar 1) (oSome (eC (.int 1))) oNone))))
def F_law_sights_note_k47 : Sl → O (Rs × Sl) := fnD 1 4 g_law_sights_note_k47
def g_law_number_k48 : Sl → O (Fl × Sl) :=
  (sSeq (sIf (tOrD (tstB (eBin eqD (eVar 0) (eC (.str "")))) (tstB (eBin neD (eComp (iSeqD (eVar 0)) (bName 2) (tstB (eBin notInD (eVar 2) (eC (.str "0123456789")))) (eVar 2) [2]) (eLst aNil)))) (sRet (eUn negD (eC (.int 1)))) sNx)
    (sSeq (sIf (tAndD (tstB (eBin eqD (eBin ixD (eVar 0) (eC (.int 0))) (eC (.str "0")))) (tstB (eBin neD (eVar 0) (eC (.str "0"))))) (sRet (eUn negD (eC (.int 1)))) sNx)
    (sSeq (sSet 1 (eC (.int 0)))
    (sSeq (sFor (iWipe [0, 2] (iSeqD (eVar 0))) (bName 2) (sWipe [0, 2] (sSet 1 (eBin addD (eBin mulD (eVar 1) (eC (.int 10))) (eMet "list" indexD (eC (.str "0123456789")) (aCons (eVar 2) aNil))))))
    (sRet (eVar 1))))))
def F_law_number_k48 : Sl → O (Rs × Sl) := fnD 1 2 g_law_number_k48
def g_law_is_number_k48 : Sl → O (Fl × Sl) :=
  (sRet (eAndV (eUn (isiD "int") (eVar 0)) (eAndV (eNotV (eUn (isiD "bool") (eVar 0))) (eBin geD (eVar 0) (eVar 1)))))
def F_law_is_number_k48 : Sl → O (Rs × Sl) := fnD 2 0 g_law_is_number_k48
def g_law_is_strand_k48 : Sl → O (Fl × Sl) :=
  (sSeq (sIf (tOrD (tNotD (tst (eUn (isiD "tuple") (eVar 0)))) (tstB (eBin eqD (eBlt lenD (aCons (eVar 0) aNil)) (eC (.int 0))))) (sRet (eC (.bl false))) sNx)
    (sSeq (sFor (iWipe [1, 2] (iFrz enumD (aCons (eVar 0) aNil))) (bTup 2 (bCons (bName 1) (bCons (bName 2) bNil))) (sWipe [1, 2] (sSeq (sIf (tOrD (tNotD (tst (eUn (isiD "tuple") (eVar 2)))) (tOrD (tstB (eBin neD (eBlt lenD (aCons (eVar 2) aNil)) (eC (.int 2)))) (tNotD (tst (eUn (isiD "str") (eBin ixD (eVar 2) (eC (.int 0)))))))) (sRet (eC (.bl false))) sNx)
    (sSeq (sIf (tOrD (tstB (eBin notInD (eBin ixD (eVar 2) (eC (.int 0))) (eLst (aCons (eC (.str "D")) (aCons (eC (.str "L")) aNil))))) (tNotD (tst (eCall [false, false] F_law_is_number_k48 (aCons (eBin ixD (eVar 2) (eC (.int 1))) (aCons (eC (.int 1)) aNil)))))) (sRet (eC (.bl false))) sNx)
    (sIf (tAndD (tstB (eBin gtD (eVar 1) (eC (.int 0)))) (tstB (eBin eqD (eBin ixD (eBin ixD (eVar 0) (eBin subD (eVar 1) (eC (.int 1)))) (eC (.int 0))) (eBin ixD (eVar 2) (eC (.int 0)))))) (sRet (eC (.bl false))) sNx)))))
    (sRet (eC (.bl true)))))
def F_law_is_strand_k48 : Sl → O (Rs × Sl) := fnD 1 2 g_law_is_strand_k48
def g_law_is_sights_k48 : Sl → O (Fl × Sl) :=
  (sSeq (sIf (tNotD (tst (eUn (isiD "list") (eVar 0)))) (sRet (eC (.bl false))) sNx)
    (sSeq (sFor (iWipe [0, 1] (iSeqD (eVar 0))) (bName 1) (sWipe [0, 1] (sSeq (sIf (tOrD (tNotD (tst (eUn (isiD "tuple") (eVar 1)))) (tstB (eBin neD (eBlt lenD (aCons (eVar 1) aNil)) (eC (.int 3))))) (sRet (eC (.bl false))) sNx)
    (sIf (tOrD (tstB (eBin neD (eComp (iSeqD (eVar 1)) (bName 2) (tNotD (tst (eCall [false, false] F_law_is_number_k48 (aCons (eVar 2) (aCons (eC (.int 0)) aNil))))) (eVar 2) [2]) (eLst aNil))) (tstB (eBin geD (eBin ixD (eVar 1) (eC (.int 0))) (eBin ixD (eVar 1) (eC (.int 1)))))) (sRet (eC (.bl false))) sNx))))
    (sRet (eC (.bl true)))))
def F_law_is_sights_k48 : Sl → O (Rs × Sl) := fnD 1 2 g_law_is_sights_k48
def g_law_bent_text_k48 : Sl → O (Fl × Sl) :=
  (sSeq (sSet 2 (eLst (aCons (eC (.str " ")) (aCons (eC (.str "D")) (aCons (eC (.str "L")) (aCons (eC (.str "0")) (aCons (eC (.str "1")) (aCons (eC (.str "-")) (aCons (eC (.str ":")) (aCons (eC (.str "x")) (aCons (eC (.str " D1")) (aCons (eC (.str " L1")) (aCons (eC (.str "d")) (aCons (eC (.str "  ")) (aCons (eC (.str "\n")) (aCons (eC (.str ".")) (aCons (eC (.str "_")) (aCons (eC (.str "0-1:0")) (aCons (eC (.str "00")) (aCons (eC (.str "+")) (aCons (eC (.str ",")) aNil)))))))))))))))))))))
    (sSeq (sFor (iWipe [3, 4, 5, 6, 7] (iRng rng1D (aCons (eBin addD (eC (.int 1)) (eCall [true, false] F_law_draw_k01 (aCons (eVar 0) (aCons (eC (.int 3)) aNil)))) aNil))) (bName 3) (sWipe [3, 4, 5, 6, 7] (sSeq (sSet 4 (eCall [true, false] F_law_draw_k01 (aCons (eVar 0) (aCons (eBin addD (eBlt lenD (aCons (eVar 1) aNil)) (eC (.int 1))) aNil))))
    (sSeq (sSet 5 (eBlt minD (aCons (eBlt lenD (aCons (eVar 1) aNil)) (aCons (eBin addD (eBin addD (eVar 4) (eC (.int 1))) (eCall [true, false] F_law_draw_k01 (aCons (eVar 0) (aCons (eC (.int 2)) aNil)))) aNil))))
    (sSeq (sSet 6 (eBin ixD (eVar 2) (eCall [true, false] F_law_draw_k01 (aCons (eVar 0) (aCons (eC (.int 19)) aNil)))))
    (sSeq (sSet 7 (eLst (aCons (eBin addD (eSlice (eVar 1) oNone (oSome (eVar 4))) (eSlice (eVar 1) (oSome (eVar 5)) oNone)) (aCons (eBin addD (eBin addD (eSlice (eVar 1) oNone (oSome (eVar 4))) (eVar 6)) (eSlice (eVar 1) (oSome (eVar 4)) oNone)) (aCons (eBin addD (eBin addD (eSlice (eVar 1) oNone (oSome (eVar 4))) (eVar 6)) (eSlice (eVar 1) (oSome (eVar 5)) oNone)) aNil)))))
    (sSeq (sExpr (eMut 7 appU (aCons (eBin addD (eSlice (eVar 1) oNone (oSome (eVar 5))) (eSlice (eVar 1) (oSome (eVar 4)) oNone)) aNil)))
    (sSet 1 (eBin ixD (eVar 7) (eCall [true, false] F_law_draw_k01 (aCons (eVar 0) (aCons (eC (.int 4)) aNil))))))))))))
    (sRet (eVar 1))))
def F_law_bent_text_k48 : Sl → O (Rs × Sl) := fnD 2 6 g_law_bent_text_k48
def g_law_seen_k52 : Sl → O (Fl × Sl) :=
  (sSeq (sPar2 2 3 (aCons (eCall [false] F_count_beads (aCons (eVar 0) aNil)) (aCons (eLst aNil) aNil)))
    (sSeq (sFor (iWipe [1, 4, 5, 6, 7] (iSeqD (eVar 1))) (bName 4) (sWipe [1, 4, 5, 6, 7] (sFor (iWipe [1, 4, 5, 6, 7] (iSeqD (eVar 4))) (bTup 2 (bCons (bName 5) (bCons (bName 6) bNil))) (sWipe [1, 4, 5, 6, 7] (sSeq (sIf (tstB (eBin gtD (eBin addD (eVar 5) (eVar 6)) (eVar 2))) (sExpr (eMut 3 appU (aCons (eTup (aCons (eC (.int 0)) (aCons (eBin subD (eBin addD (eVar 5) (eVar 6)) (eVar 2)) (aCons (eCall [false, false, false] F_dark_in (aCons (eVar 0) (aCons (eC (.int 0)) (aCons (eBin subD (eBin addD (eVar 5) (eVar 6)) (eVar 2)) aNil)))) aNil)))) aNil))) sNx)
    (sSeq (sSet 7 (eBlt minD (aCons (eVar 2) (aCons (eBin addD (eVar 5) (eVar 6)) aNil))))
    (sExpr (eMut 3 appU (aCons (eTup (aCons (eVar 5) (aCons (eVar 7) (aCons (eCall [false, false, false] F_dark_in (aCons (eVar 0) (aCons (eVar 5) (aCons (eBin subD (eVar 7) (eVar 5)) aNil)))) aNil)))) aNil)))))))))
    (sRet (eVar 3))))
def F_law_seen_k52 : Sl → O (Rs × Sl) := fnD 2 6 g_law_seen_k52
def g_law_spread_right_k53 : Sl → O (Fl × Sl) :=
  (sSeq (sTgt (bTup 4 (bCons (bName 1) (bCons (bName 2) (bCons (bName 3) (bCons (bName 4) bNil))))) (eCall [false] F_widest (aCons (eVar 0) aNil)))
    (sSeq (sTgt (bTup 2 (bCons (bName 5) (bCons (bName 6) bNil))) (eCall [false, false] F_dark_range (aCons (eVar 0) (aCons (eVar 2) aNil))))
    (sSeq (sIf (tOrD (tstB (eBin neD (eVar 1) (eBin subD (eVar 6) (eVar 5)))) (tstB (eBin neD (eCall [false] F_is_even (aCons (eVar 0) aNil)) (eBin ltD (eVar 1) (eC (.int 2)))))) (sRet (eC (.bl false))) sNx)
    (sRet (eBin eqD (eLst (aCons (eCall [false, false, false] F_dark_in (aCons (eVar 0) (aCons (eVar 3) (aCons (eVar 2) aNil)))) (aCons (eCall [false, false, false] F_dark_in (aCons (eVar 0) (aCons (eVar 4) (aCons (eVar 2) aNil)))) aNil))) (eLst (aCons (eVar 6) (aCons (eVar 5) aNil))))))))
def F_law_spread_right_k53 : Sl → O (Rs × Sl) := fnD 1 6 g_law_spread_right_k53
def g_law_numbers_right_k54 : Sl → O (Fl × Sl) :=
  (sSeq (sSet 4 (eCall [false] F_count_beads (aCons (eVar 1) aNil)))
    (sSeq (sSet 5 (eCall [false] F_count_dark (aCons (eVar 1) aNil)))
    (sSeq (sSet 6 (eCall [true, false] F_law_spot_k07 (aCons (eVar 0) (aCons (eVar 1) aNil))))
    (sSeq (sSet 7 (eCall [true, false] F_law_draw_k06 (aCons (eVar 0) (aCons (eBin addD (eVar 4) (eC (.int 1))) aNil))))
    (sSeq (sSet 8 (eCall [true, false] F_law_draw_k06 (aCons (eVar 0) (aCons (eVar 3) aNil))))
    (sSeq (sSet 9 (eBin mulD (eVar 4) (eCall [true, false] F_law_draw_k06 (aCons (eVar 0) (aCons (eVar 3) aNil)))))
    (sSeq (sSet 10 (eBin addD (eCall [false, false, false] F_dark_in (aCons (eVar 1) (aCons (eVar 6) (aCons (eVar 7) aNil)))) (eBin mulD (eVar 8) (eVar 5))))
    (sSeq (sIf (tstB (eBin neD (eCall [false, false, false] F_dark_in (aCons (eVar 2) (aCons (eBin addD (eVar 6) (eVar 9)) (aCons (eBin addD (eVar 7) (eBin mulD (eVar 8) (eVar 4))) aNil)))) (eVar 10))) (sRet (eC (.bl false))) sNx)
    (sSeq (sTgt (bTup 2 (bCons (bName 11) (bCons (bName 12) bNil))) (eCall [false, false] F_dark_range (aCons (eVar 1) (aCons (eVar 7) aNil))))
    (sSeq (sIf (tstB (eBin neD (eCall [false, false] F_dark_range (aCons (eVar 2) (aCons (eBin addD (eVar 7) (eBin mulD (eVar 8) (eVar 4))) aNil))) (eTup (aCons (eBin addD (eVar 11) (eBin mulD (eVar 8) (eVar 5))) (aCons (eBin addD (eVar 12) (eBin mulD (eVar 8) (eVar 5))) aNil))))) (sRet (eC (.bl false))) sNx)
    (sSeq (sSet 13 (eBin addD (eVar 11) (eCall [true, false] F_law_draw_k06 (aCons (eVar 0) (aCons (eBin addD (eBin subD (eVar 12) (eVar 11)) (eC (.int 1))) aNil)))))
    (sSeq (sSet 14 (eCall [false, false, false] F_count_arcs (aCons (eVar 1) (aCons (eVar 7) (aCons (eVar 13) aNil)))))
    (sSeq (sIf (tstB (eBin neD (eCall [false, false, false] F_count_arcs (aCons (eVar 2) (aCons (eBin addD (eVar 7) (eBin mulD (eVar 8) (eVar 4))) (aCons (eBin addD (eVar 13) (eBin mulD (eVar 8) (eVar 5))) aNil)))) (eBin mulD (eVar 3) (eVar 14)))) (sRet (eC (.bl false))) sNx)
    (sSeq (sSet 15 (eCall [true, false] F_law_draw_k06 (aCons (eVar 0) (aCons (eVar 14) aNil))))
    (sSeq (sSet 16 (eCall [false, false, false, false] F_nth_arc (aCons (eVar 1) (aCons (eVar 7) (aCons (eVar 13) (aCons (eVar 15) aNil))))))
    (sSeq (sSet 17 (eCall [true, false] F_law_draw_k06 (aCons (eVar 0) (aCons (eVar 3) aNil))))
    (sSeq (sSet 18 (eCall [false, false, false, false] F_nth_arc (aCons (eVar 2) (aCons (eBin addD (eVar 7) (eBin mulD (eVar 8) (eVar 4))) (aCons (eBin addD (eVar 13) (eBin mulD (eVar 8) (eVar 5))) (aCons (eBin addD (eVar 15) (eBin mulD (eVar 17) (eVar 14))) aNil))))))
    (sRet (eBin eqD (eVar 18) (eBin addD (eVar 16) (eBin mulD (eVar 17) (eVar 4))))))))))))))))))))))
def F_law_numbers_right_k54 : Sl → O (Rs × Sl) := fnD 4 15 g_law_numbers_right_k54
def g_law_places_right_k54 : Sl → O (Fl × Sl) :=
  (sSeq (sSet 4 (eCall [false] F_count_beads (aCons (eVar 1) aNil)))
    (sSeq (sSet 5 (eCall [false] F_count_dark (aCons (eVar 1) aNil)))
    (sSeq (sSet 6 (eCall [true, false] F_law_draw_k06 (aCons (eVar 0) (aCons (eVar 3) aNil))))
    (sSeq (sIf (tstB (eBin gtD (eVar 5) (eC (.int 0)))) (sSeq (sSet 7 (eCall [true, false] F_law_draw_k06 (aCons (eVar 0) (aCons (eVar 5) aNil))))
    (sIf (tstB (eBin neD (eCall [false, false] F_dark_place (aCons (eVar 2) (aCons (eBin addD (eVar 7) (eBin mulD (eVar 6) (eVar 5))) aNil))) (eBin addD (eCall [false, false] F_dark_place (aCons (eVar 1) (aCons (eVar 7) aNil))) (eBin mulD (eVar 6) (eVar 4))))) (sRet (eC (.bl false))) sNx)) sNx)
    (sSeq (sIf (tstB (eBin neD (eCall [false, false] F_dark_range (aCons (eVar 2) (aCons (eBin mulD (eVar 4) (eVar 6)) aNil))) (eTup (aCons (eBin mulD (eVar 5) (eVar 6)) (aCons (eBin mulD (eVar 5) (eVar 6)) aNil))))) (sRet (eC (.bl false))) sNx)
    (sSeq (sSet 8 (eCall [true, false] F_law_draw_k06 (aCons (eVar 0) (aCons (eBin addD (eVar 5) (eC (.int 1))) aNil))))
    (sSeq (sTgt (bTup 2 (bCons (bName 9) (bCons (bName 10) bNil))) (eCall [false, false] F_length_range (aCons (eVar 1) (aCons (eVar 8) aNil))))
    (sSeq (sSet 11 (eCall [false, false] F_length_range (aCons (eVar 2) (aCons (eVar 8) aNil))))
    (sSeq (sIf (tOrD (tstB (eBin neD (eBin ixD (eVar 11) (eC (.int 0))) (eVar 9))) (tAndD (tstB (eBin ltD (eVar 10) (eVar 4))) (tstB (eBin neD (eBin ixD (eVar 11) (eC (.int 1))) (eVar 10))))) (sRet (eC (.bl false))) sNx)
    (sRet (eBin eqD (eCall [false, false] F_turn_between (aCons (eVar 2) (aCons (eCall [false, false] F_rotated (aCons (eVar 2) (aCons (eBin modD (eBin mulD (eVar 4) (eVar 6)) (eBin mulD (eVar 4) (eVar 3))) aNil))) aNil))) (eC (.int 0)))))))))))))
def F_law_places_right_k54 : Sl → O (Rs × Sl) := fnD 4 8 g_law_places_right_k54
end FD

namespace FD
open PySem L2 PyProof.Rows FX
local macro_rules | `(tactic| bv_omega) => `(tactic| try (simp only [wp_ok, wp_some, wp_none, wp_ofIte, wp_ofMap, wp_ofBind, optK_some, optK_ite, get0, get1, get2, get3, get4, get5, get6, get7, get8, get9, getS, put0, put1, put2, put3, put4, put5, put6, put7, put8, put9, putS, w_var, varK_frz, varK_loc, varK_io, w_c, w_bin, w_bin2, bin3_some, deref_val, deref_own, deref_ref, seen_loc, seen_io, seen_frz, map_some, FX.bind_some, w_un, w_un1, un2_some, w_anil, w_acons, w_blt, w_blt1, blt2_some, derefs_nil, derefs_cons, w_met, w_met0, w_met1, met2_some, w_call, w_callK, w_lst, w_tup, w_slice, w_onone, w_osome, w_osome1, w_tst, w_tst1, w_tst1i, w_tstB, w_tstB1, w_not, chz_t, chz_f, chz_not, w_orD, w_andD, w_orV, w_andV, w_notV, w_eIf, w_seq, seqK_nx, seqK_rt, seqK_bk, seqK_ct, w_nx, w_bk, w_ct, w_bad, w_if, w_ret, retK_val, retK_own, retK_ref, retK2_loc, w_retN, w_set, setK_val, setK_own, w_setS, setS2_frz, setS2_any, setS2_loc, w_expr, layS_eq, layK_frz, layK_any, layK_loc, layKo_frz, layKo_any, layKo_loc, parK_some, w_par2, w_par2K, w_par3, w_par3K, w_tgt, tgtK_val, bName_eq, nameK_frz, nameK_any, nameK_loc, bTup_tup, bCons_eq, bNil_eq, w_aug, augK_frz, augK2_val, augK2_own, w_setIx, w_sixK0, w_sixK1, w_sixK2, ixsK_loc, ixsK_io, w_mut, w_mut0, w_mut1, mutK_app_loc, mutK_app_io, freezes_nil, freezes_val, freezes_own, freezes_ref, freeze_ref, frz1K_loc, freeze_val, freeze_own, w_for, turnK_nx, turnK_ct, turnK_bk, turnK_rt, w_rng, iterK_some, iterK_ite, w_frzI, w_seqI, w_comp, w_yes, outK_rt, outK_nx, outS_nil, outS_frz, outS_io, wipe_nil, wipe_cons, ix3_0, ix3_1, ix3_2, at3_0, at3_1, at3_2, at2_0, at2_1, at4_0, at4_1, at4_2, at4_3, set3_0, set3_1, set3_2, isN_int, isN_non, isNN_int, isNN_non, isi_int, isi_intB, isi_tup, isi_str, isi_lst, is_bl, isNot_bl, seqD_lst, seqD_tup, seqD_scr, w_fz, fzK_val, fzK_own, fzK_ref, eqD_int, neD_int, eqD_bl, neD_bl, eq_self, scountD_str, tupleD_lst, tupleD_tup, listD_lst, listD_tup, intD_bl, allInts_map, allBls_map, sliceD_lst, sliceD_tup, countD_lst, allD_lst, anyD_lst, sumD_one, maxD_one, minD_one, intsOf_lst, intsOf_scr, pick_nil, pick_cons, pickC_some, List.nil_append, List.cons_append, notInD_two, inD_two, addD_int, wp_addLst, wp_addTup, wp_addStr, wp_lenStr, wp_sliceStr, wp_ixStr, subD_int, mulD_int, fdivD_int, modD_int, powD_int, ltD_int, leD_int, gtD_int, geD_int, ixD_lst, ixD_tup, ixD_scr, negD_int, lenD_lst, lenD_tup, lenD_scr, absD_int, intD_int, iterK_rng1, iterK_rng2, enumD_lst, zipD_lst, zipD_tup, maxD_two, minD_two, augAddD_int, Bool.not_true, Bool.not_false, decide_true, decide_false, reduceCtorEq, true_and, and_true, not_false_eq_true, w_chain, w_chainK, w_wipe, wipeF_nx, wipeF_bk, wipeF_ct, wipeF_rt, w_pre, w_iwipe, w_emp, wp_listRng1, wp_listRng2, indexD_lst, revD_lst, wp_strI, wp_repr, wp_sorted, wp_sortedSet, zipL_maps, enumL_maps, seqD_str, len0, len1, len2, len3, len4, few0, few1, few2, few3, few4, few5, few6, turnK_nx, loop_nil, mutK_loc, mutK_io, appU1, extU1, popU0, popAtU1, optK_map, optK_bind, Nat.reduceEqDiff, w_mov, movK_frz, movK_loc, w_comp2, eqT0D_tup, revA_lst, revA_tup]))
local macro_rules | `(tactic| ac_nf) => `(tactic| repeat (refine ⟨by first | decide | omega | (simp; done) | (simp; omega), ?_⟩))
/-! ### strands: what the program's functions answer -/
abbrev Run := Bool × Int
def rD (r : Run) : Dt := .tup [sD r.1, .int r.2]
def sT (xs : List Run) : Dt := .tup (xs.map rD)
theorem fit_n {i : Int} (h1 : -(10 ^ 200) ≤ i) (h2 : i ≤ 10 ^ 200) : Fit i := by
  have e : ((10 : Int) ^ 200) ≤ 10 ^ 400 := by decide +kernel
  exact fit_of (by omega) (by omega)
theorem fits_n {i j : Int} (h1 : -(10 ^ 200) ≤ i) (h2 : i ≤ 10 ^ 200) (h3 : -(10 ^ 200) ≤ j) (h4 : j ≤ 10 ^ 200) : Fits i j := (fit_n h1 h2).mul (fit_n h3 h4)
theorem eq_sD {b : Bool} : eqD (sD b) (.str "D") = some (.val (.bl b)) := by cases b <;> rfl
theorem eq_sD2 {a b : Bool} : eqD (sD a) (sD b) = some (.val (.bl (a == b))) := by cases a <;> cases b <;> rfl
theorem ne_sD2 {a b : Bool} : neD (sD a) (sD b) = some (.val (.bl (a != b))) := by cases a <;> cases b <;> rfl
theorem lays_sD {n : Nat} {b : Bool} : Lays n (sD b) := by
  unfold sD
  refine lays_str ?_
  cases b <;> decide +kernel
theorem lays_rD {n : Nat} {r : Run} : Lays (n + 1) (rD r) := by
  refine lays_tup fun d hd => ?_
  simp at hd
  rcases hd with rfl | rfl
  · exact lays_sD
  · exact lays_int
theorem lays_sT {n : Nat} {xs : List Run} : Lays (n + 2) (sT xs) := by
  refine lays_tup fun d hd => ?_
  obtain ⟨r, _, rfl⟩ := List.mem_map.mp hd
  exact lays_rD
/-- neighbours have different colours -/
def Alt : List Run → Prop
  | a :: b :: r => a.1 ≠ b.1 ∧ Alt (b :: r)
  | _ => True
structure Good (xs : List Run) : Prop where
  ne : xs ≠ []
  pos : ∀ r ∈ xs, 1 ≤ r.2
  alt : Alt xs
  len : xs.length ≤ 100000
theorem Good.ln {xs : List Run} (h : Good xs) : xs.length ≤ 1000000 := by have := h.len; omega
theorem isint_ok {v a : Int} {hi : Option Int} (h1 : a ≤ v) (h2 : ∀ x, hi = some x → v ≤ x) : Wp (F_is_integer [.frz (.int v), .frz (.int a), .frz (match hi with | some x => .int x | none => .non)]) fun q => q = (.val (.bl true), [.any, .any, .any]) := by
  refine w_fn rfl ?_
  unfold g_is_integer
  simp only [List.replicate, List.append_nil]
  bv_omega
  rw [decide_eq_false (by omega : ¬ v < a)]
  cases hi with
  | none => bv_omega
  | some x =>
    bv_omega
    rw [decide_eq_true (h2 x rfl)]
theorem isintN_ok {v a : Int} (h1 : a ≤ v) : Wp (F_is_integer [.frz (.int v), .frz (.int a), .frz .non]) fun q => q = (.val (.bl true), [.any, .any, .any]) := isint_ok (hi := none) h1 fun x e => by cases e
theorem isintS_ok {v a b : Int} (h1 : a ≤ v) (h2 : v ≤ b) : Wp (F_is_integer [.frz (.int v), .frz (.int a), .frz (.int b)]) fun q => q = (.val (.bl true), [.any, .any, .any]) := isint_ok (hi := some b) h1 fun x e => by cases e; exact h2
theorem in_DL {b : Bool} : inD (sD b) (.tup [.str "D", .str "L"]) = some (.val (.bl true)) := by cases b <;> rfl
theorem run_ok {r : Run} (h : 1 ≤ r.2) : Wp (F_is_run [.frz (rD r)]) fun q => q = (.val (.bl true), [.any]) := by
  refine w_fn rfl ?_
  unfold g_is_run rD
  simp only [List.replicate, List.append_nil]
  bv_omega
  rw [show sD r.1 = .str (if r.1 then "D" else "L") from rfl]
  rw [decide_eq_true (by rfl : (([Dt.str (if r.1 then "D" else "L"), Dt.int r.2] : List Dt).length : Int) = 2)]
  bv_omega
  rw [show Dt.str (if r.1 then "D" else "L") = sD r.1 from rfl, in_DL]
  bv_omega
  refine wp_callD rfl rfl (Wp.imp (isintN_ok h) ?_)
  rintro _ rfl
  refine ⟨rfl, by first | exact .inl rfl | exact .inr rfl, rfl, ?_⟩
  simp only [putBack, back1]
  bv_omega
theorem alt_zip : ∀ {xs : List Run}, Alt xs → ∀ p ∈ xs.zip xs.tail, p.1.1 ≠ p.2.1
  | [], _, p, hp => by simp at hp
  | [a], _, p, hp => by simp at hp
  | a :: b :: r, h, p, hp => by
    simp at hp
    rcases hp with rfl | hp
    · exact h.1
    · exact alt_zip (xs := b :: r) h.2 p (by simpa using hp)
theorem cutL_tail {α : Type} (f : α → Dt) (xs : List α) : cutL (xs.map f) (some 1) none = xs.tail.map f := by
  unfold cutL
  rw [show HT.sIx (xs.map f).length 0 (some 1) = min 1 (xs.map f).length from HT.sIx_nat _ 0 1, HT.sIx_none]
  cases xs with
  | nil => rfl
  | cons x xs => simp; exact List.take_of_length_le (by simp)
theorem strand_ok {xs : List Run} (h : Good xs) : Wp (F_is_strand [.frz (sT xs)]) fun q => q = (.val (.bl true), [.any]) := by
  refine w_fn rfl ?_
  unfold g_is_strand
  simp only [List.replicate, List.cons_append, List.nil_append]
  rw [sT]
  bv_omega
  rw [show (xs.map rD).isEmpty = false by cases xs with
    | nil => exact absurd rfl h.ne
    | cons x xs => rfl]
  bv_omega
  refine ⟨by have := h.len; simp; omega, ?_⟩
  refine wp_compT rD xs (fun _ => .bl true) (fun r hr => ?_) ?_
  · bv_omega
    refine wp_callD rfl rfl (Wp.imp (run_ok (h.pos r hr)) ?_)
    rintro _ rfl
    refine ⟨rfl, by first | exact .inl rfl | exact .inr rfl, rfl, ?_⟩
    simp only [putBack, back1]
    bv_omega
  rw [show (xs.map fun _ => Dt.bl true) = (xs.map fun _ => true).map Dt.bl by simp [List.map_map, Function.comp_def]]
  bv_omega
  rw [show (xs.map fun _ => true).all id = true by simp]
  bv_omega
  rw [cutL_tail]
  bv_omega
  refine ⟨by simp; have := h.len; omega, ?_⟩
  refine wp_compT _ _ (fun _ => .bl true) (fun p hp => ?_) ?_
  · have hne := alt_zip h.alt p hp
    bv_omega
    simp only [rD]
    bv_omega
    rw [ne_sD2]
    bv_omega
    rw [show (p.1.1 != p.2.1) = true by simpa using hne]
  rw [show ((xs.zip xs.tail).map fun _ => Dt.bl true) = ((xs.zip xs.tail).map fun _ => true).map Dt.bl by simp [List.map_map, Function.comp_def]]
  bv_omega
  rw [show ((xs.zip xs.tail).map fun _ => true).all id = true by simp]
theorem check_ok {xs : List Run} (h : Good xs) : Wp (F_check_strand [.frz (sT xs)]) fun q => q = (.val .non, [.any]) := by
  refine w_fn rfl ?_
  unfold g_check_strand
  simp only [List.replicate, List.append_nil]
  bv_omega
  refine wp_callD rfl rfl (Wp.imp (strand_ok h) ?_)
  rintro _ rfl
  refine ⟨rfl, by first | exact .inl rfl | exact .inr rfl, rfl, ?_⟩
  simp only [putBack, back1]
  bv_omega
/-- all beads, the dark beads -/
def tot (xs : List Run) : Int := (xs.map (·.2)).sum
def dtot (xs : List Run) : Int := ((xs.filter (·.1)).map (·.2)).sum
theorem beadsin_ok {xs : List Run} (h : xs.length ≤ 1000000) : Wp (F_beads_in [.frz (sT xs)]) fun q => q = (.val (.int (tot xs)), [.any]) := by
  refine w_fn rfl ?_
  unfold g_beads_in
  simp only [List.replicate, List.cons_append, List.nil_append]
  rw [sT]
  bv_omega
  refine ⟨by simp; omega, ?_⟩
  refine wp_compT rD xs (fun r => .int r.2) (fun r hr => ?_) ?_
  · simp only [rD]
    bv_omega
  rw [show (xs.map fun r : Run => Dt.int r.2) = (xs.map (·.2)).map Dt.int by simp [List.map_map, Function.comp_def]]
  bv_omega
  rfl
theorem darktot_ok {xs : List Run} (h : xs.length ≤ 1000000) : Wp (F_dark_total [.frz (sT xs)]) fun q => q = (.val (.int (dtot xs)), [.any]) := by
  refine w_fn rfl ?_
  unfold g_dark_total
  simp only [List.replicate, List.cons_append, List.nil_append]
  rw [sT]
  bv_omega
  refine ⟨by simp; omega, ?_⟩
  refine wp_compTF rD xs (fun r => r.1) (fun r => .int r.2) (fun r hr => ?_) ?_
  · simp only [rD]
    bv_omega
    rw [eq_sD]
    bv_omega
    exact ⟨fun _ => trivial, fun _ => trivial⟩
  rw [show ((xs.filter fun r : Run => r.1).map fun r : Run => Dt.int r.2) = ((xs.filter (·.1)).map (·.2)).map Dt.int by simp [List.map_map, Function.comp_def]]
  bv_omega
  rfl
theorem countbeads_ok {xs : List Run} (h : Good xs) : Wp (F_count_beads [.frz (sT xs)]) fun q => q = (.val (.int (tot xs)), [.any]) := by
  refine w_fn rfl ?_
  unfold g_count_beads
  simp only [List.replicate, List.append_nil]
  bv_omega
  refine wp_callD rfl rfl (Wp.imp (check_ok h) ?_)
  rintro _ rfl
  refine ⟨rfl, by first | exact .inl rfl | exact .inr rfl, rfl, ?_⟩
  simp only [putBack, back1]
  bv_omega
  refine wp_callD rfl rfl (Wp.imp (beadsin_ok h.ln) ?_)
  rintro _ rfl
  refine ⟨rfl, by first | exact .inl rfl | exact .inr rfl, rfl, ?_⟩
  simp only [putBack, back1]
  bv_omega
theorem countdark_ok {xs : List Run} (h : Good xs) : Wp (F_count_dark [.frz (sT xs)]) fun q => q = (.val (.int (dtot xs)), [.any]) := by
  refine w_fn rfl ?_
  unfold g_count_dark
  simp only [List.replicate, List.append_nil]
  bv_omega
  refine wp_callD rfl rfl (Wp.imp (check_ok h) ?_)
  rintro _ rfl
  refine ⟨rfl, by first | exact .inl rfl | exact .inr rfl, rfl, ?_⟩
  simp only [putBack, back1]
  bv_omega
  refine wp_callD rfl rfl (Wp.imp (darktot_ok h.ln) ?_)
  rintro _ rfl
  refine ⟨rfl, by first | exact .inl rfl | exact .inr rfl, rfl, ?_⟩
  simp only [putBack, back1]
  bv_omega
/-- the dark beads ahead of a place -/
def clip (p n : Int) : Int := max 0 (min p n)
def dup : List Run → Int → Int
  | [], _ => 0
  | (c, n) :: xs, p => (if c = true then clip p n else 0) + dup xs (p - n)
theorem max_if {a b : Int} : (if b > a then b else a) = max a b := by omega
theorem min_if {a b : Int} : (if b < a then b else a) = min a b := by omega
theorem dup_ok {xs : List Run} {p : Int} : Wp (F_dark_up_to [.frz (sT xs), .frz (.int p)]) fun q => q = (.val (.int (dup xs p)), [.any, .any]) := by
  refine w_fn rfl ?_
  unfold g_dark_up_to
  simp only [List.replicate, List.cons_append, List.nil_append]
  rw [sT]
  bv_omega
  refine wp_loopT (fun st : Int × Int => [.any, .frz (.int st.1), .frz (.int st.2), .any, .any]) rD xs (fun st ys => st.2 + dup ys st.1 = dup xs p) (p, 0) (by simp) (fun st h => ?_) fun st r ys h => ?_
  · bv_omega
    simp [dup] at h
    rw [← h]
  · obtain ⟨c, n⟩ := r
    simp only [rD]
    bv_omega
    rw [eq_sD]
    bv_omega
    cases c with
    | true =>
      bv_omega
      refine ⟨(_, _), rfl, ?_⟩
      rw [← h]
      simp only [dup, clip, if_true, max_if, min_if]
      omega
    | false =>
      bv_omega
      refine ⟨(_, _), rfl, ?_⟩
      rw [← h]
      simp [dup]
theorem darkbefore_ok {xs : List Run} {p : Int} (h : Good xs) (h1 : 0 ≤ p) (h2 : p ≤ tot xs) : Wp (F_dark_before [.frz (sT xs), .frz (.int p)]) fun q => q = (.val (.int (dup xs p)), [.any, .any]) := by
  refine w_fn rfl ?_
  unfold g_dark_before
  simp only [List.replicate, List.append_nil]
  bv_omega
  refine wp_callD rfl rfl (Wp.imp (check_ok h) ?_)
  rintro _ rfl
  refine ⟨rfl, by first | exact .inl rfl | exact .inr rfl, rfl, ?_⟩
  simp only [putBack, back1]
  bv_omega
  refine wp_callD rfl rfl (Wp.imp (beadsin_ok h.ln) ?_)
  rintro _ rfl
  refine ⟨rfl, by first | exact .inl rfl | exact .inr rfl, rfl, ?_⟩
  simp only [putBack, back1]
  bv_omega
  refine wp_callD rfl rfl (Wp.imp (isintS_ok h1 h2) ?_)
  rintro _ rfl
  refine ⟨rfl, by first | exact .inl rfl | exact .inr rfl, rfl, ?_⟩
  simp only [putBack, back1]
  bv_omega
  refine wp_callD rfl rfl (Wp.imp (dup_ok) ?_)
  rintro _ rfl
  refine ⟨rfl, by first | exact .inl rfl | exact .inr rfl, rfl, ?_⟩
  simp only [putBack, back1]
  bv_omega
/-- the runs between two places -/
def cutR : List Run → Int → Int → Int → List Run
  | [], _, _, _ => []
  | (c, n) :: xs, f, s, e => (if min e (f + n) - max s f > 0 then [(c, min e (f + n) - max s f)] else []) ++ cutR xs (f + n) s e
theorem cut_ok {xs : List Run} {s e : Int} (h : xs.length ≤ 1000000) : Wp (F_cut_runs [.frz (sT xs), .frz (.int s), .frz (.int e)]) fun q => q = (.own ((cutR xs 0 s e).map rD), [.any, .any, .any]) := by
  refine w_fn rfl ?_
  unfold g_cut_runs
  simp only [List.replicate, List.cons_append, List.nil_append]
  rw [sT]
  bv_omega
  refine wp_loopT (fun st : List Run × Int => [.any, .frz (.int s), .frz (.int e), .loc (st.1.map rD), .frz (.int st.2), .any, .any, .any]) rD xs
    (fun st ys => st.1 ++ cutR ys st.2 s e = cutR xs 0 s e ∧ st.1.length + ys.length ≤ xs.length) ([], 0) ⟨rfl, by simp⟩ (fun st h => ?_) fun st r ys h => ?_
  · bv_omega
    simp [cutR] at h
    rw [← h.1]
  · obtain ⟨c, n⟩ := r
    simp only [rD]
    bv_omega
    simp only [max_if, min_if]
    obtain ⟨h1, h2⟩ := h
    simp only [cutR] at h1
    refine wp_chzD (fun hp => ?_) fun hp => ?_
    · bv_omega
      refine ⟨by simp at h2 ⊢; omega, (st.1 ++ [(c, min e (st.2 + n) - max s st.2)], st.2 + n), by simp [rD], ?_, by simp at h2 ⊢; omega⟩
      rw [if_pos hp] at h1
      rw [← h1, List.append_assoc]
    · bv_omega
      refine ⟨(st.1, st.2 + n), rfl, ?_, by simp at h2 ⊢; omega⟩
      rw [if_neg hp] at h1
      rw [← h1]; rfl
theorem place_ok {xs : List Run} {p : Int} (h : xs.length ≤ 1000000) (h1 : 0 ≤ p) (h2 : p < tot xs) : Wp (F_check_place [.frz (sT xs), .frz (.int p)]) fun q => q = (.val .non, [.any, .any]) := by
  refine w_fn rfl ?_
  unfold g_check_place
  simp only [List.replicate, List.append_nil]
  bv_omega
  refine wp_callD rfl rfl (Wp.imp (beadsin_ok h) ?_)
  rintro _ rfl
  refine ⟨rfl, by first | exact .inl rfl | exact .inr rfl, rfl, ?_⟩
  simp only [putBack, back1]
  bv_omega
  refine wp_callD rfl rfl (Wp.imp (isintS_ok h1 (show p ≤ tot xs - 1 by omega)) ?_)
  rintro _ rfl
  refine ⟨rfl, by first | exact .inl rfl | exact .inr rfl, rfl, ?_⟩
  simp only [putBack, back1]
  bv_omega
/-- the first places of the runs -/
def bords : Int → List Run → List Int
  | _, [] => []
  | f, r :: xs => f :: bords (f + r.2) xs
theorem cutL_init {α : Type} (f : α → Dt) (xs : List α) : cutL (xs.map f) none (some (-1)) = xs.dropLast.map f := by
  rw [cutL_maps]
  congr 1
  rw [HT.sIx_none, List.drop_zero, Nat.sub_zero, List.dropLast_eq_take]
  congr 1
  have : HT.sIx xs.length xs.length (some (-1)) = ((-1 : Int) + (xs.length : Int)).toNat := rfl
  rw [this]
  omega
theorem borders_ok {xs : List Run} (hne : xs ≠ []) (h : xs.length ≤ 1000000) : Wp (F_borders [.frz (sT xs)]) fun q => q = (.own ((bords 0 xs).map Dt.int), [.any]) := by
  refine w_fn rfl ?_
  unfold g_borders
  simp only [List.replicate, List.cons_append, List.nil_append]
  rw [sT]
  bv_omega
  rw [cutL_init]
  have hx := List.dropLast_concat_getLast hne
  generalize xs.getLast hne = z at hx
  have hl : xs.dropLast.length ≤ 1000000 := by simp; omega
  refine wp_loopT (fun st : List Int => [.any, .loc (st.map Dt.int), .any, .any]) rD xs.dropLast
    (fun st ys => ∃ a l, st = a ++ [l] ∧ a ++ bords l (ys ++ [z]) = bords 0 xs ∧ a.length + ys.length ≤ 1000000) [0] ⟨[], 0, rfl, by rw [hx]; rfl, by simpa using hl⟩ (fun st h => ?_) fun st r ys h => ?_
  · obtain ⟨a, l, rfl, h1, _⟩ := h
    bv_omega
    rw [← h1]; rfl
  · obtain ⟨a, l, rfl, h1, h2⟩ := h
    obtain ⟨c, n⟩ := r
    simp only [rD]
    bv_omega
    rw [List.map_append, show [l].map Dt.int = [Dt.int l] from rfl, atLast]
    bv_omega
    refine ⟨by simp at h2 ⊢; omega, a ++ [l] ++ [l + n], by simp, a ++ [l], l + n, rfl, ?_, by simp at h2 ⊢; omega⟩
    rw [← h1, List.append_assoc]; rfl
/-- without empty runs, equal neighbours joined -/
def addRun : List Run → Run → List Run
  | [], r => if r.2 > 0 then [r] else []
  | [a], r => if a.1 = r.1 then [(a.1, a.2 + r.2)] else if r.2 > 0 then [a, r] else [a]
  | a :: b :: xs, r => a :: addRun (b :: xs) r
def joinR (xs : List Run) : List Run := xs.foldl addRun []
theorem addRun_snoc (xs : List Run) (a r : Run) : addRun (xs ++ [a]) r = xs ++ addRun [a] r := by
  induction xs with
  | nil => rfl
  | cons x xs ih =>
    cases xs with
    | nil => rfl
    | cons y ys => show x :: addRun (y :: ys ++ [a]) r = _; rw [ih]; rfl
theorem addRun_len (xs : List Run) (r : Run) : (addRun xs r).length ≤ xs.length + 1 := by
  rcases List.eq_nil_or_concat xs with rfl | ⟨ys, a, rfl⟩
  · unfold addRun; split <;> simp
  · rw [List.concat_eq_append, addRun_snoc]
    unfold addRun
    split
    · simp
    · split <;> simp
theorem sets_ne {xs : List Run} {a : Run} : neD (.lst ((xs ++ [a]).map rD)) (.lst []) = some (.val (.bl true)) := by
  unfold neD
  rw [eqX_lst, if_pos ⟨lay_of (n := 2) (lays_lst fun d hd => by obtain ⟨r, _, rfl⟩ := List.mem_map.mp hd; exact lays_rD) (by decide), lay_of (n := 1) (lays_lst fun d hd => by simp at hd) (by decide)⟩]
  cases xs <;> rfl
theorem joined_go {xs : List Run} {d : Dt} (hd : d = .lst (xs.map rD) ∨ d = .tup (xs.map rD)) (h : xs.length ≤ 1000000) : Wp (F_joined_runs [.frz d]) fun q => q = (.val (sT (joinR xs)), [.any]) := by
  refine w_fn rfl ?_
  unfold g_joined_runs
  simp only [List.replicate, List.cons_append, List.nil_append]
  have go : Wp (loopD (bTup 2 (bCons (bName 2) (bCons (bName 3) bNil))) (sWipe [0, 2, 3] (sIf (tAndD (tstB (eBin neD (eVar 1) (eLst aNil))) (tstB (eBin eqD (eBin ixD (eBin ixD (eVar 1) (eUn negD (eC (.int 1)))) (eC (.int 0))) (eVar 2)))) (sSetIx 1 (eUn negD (eC (.int 1))) (eTup (aCons (eVar 2) (aCons (eBin addD (eBin ixD (eBin ixD (eVar 1) (eUn negD (eC (.int 1)))) (eC (.int 1))) (eVar 3)) aNil)))) (sIf (tstB (eBin gtD (eVar 3) (eC (.int 0)))) (sExpr (eMut 1 appU (aCons (eTup (aCons (eVar 2) (aCons (eVar 3) aNil))) aNil))) sNx))) (xs.map rD) [.any, .loc [], .any, .any]) fun q => q = (.nx, [.any, .loc ((joinR xs).map rD), .any, .any]) := by
    refine wp_loopT (fun st : List Run => [.any, .loc (st.map rD), .any, .any]) rD xs (fun st ys => ys.foldl addRun st = joinR xs ∧ st.length + ys.length ≤ 1000000) [] ⟨rfl, by simpa using h⟩ (fun st h => ?_) fun st r ys h => ?_
    · obtain ⟨h1, _⟩ := h
      have h1 : st = joinR xs := h1
      rw [h1]
    · obtain ⟨h1, h2⟩ := h
      rw [List.foldl_cons] at h1
      obtain ⟨c, n⟩ := r
      have h3 := addRun_len st (c, n)
      have h4 : (addRun st (c, n)).length + ys.length ≤ 1000000 := by simp at h2; omega
      have h5 : st.length < 16777216 := by simp at h2; omega
      simp only [rD]
      rcases List.eq_nil_or_concat st with rfl | ⟨zs, ⟨c0, n0⟩, rfl⟩
      · bv_omega
        rw [show neD (.lst (([] : List Run).map rD)) (.lst []) = some (.val (.bl false)) from rfl]
        bv_omega
        refine wp_chzD (fun hp => ?_) fun hp => ?_
        · bv_omega
          refine ⟨by simp, addRun [] (c, n), ?_, h1, h4⟩
          unfold addRun; rw [if_pos hp]; rfl
        · bv_omega
          refine ⟨addRun [] (c, n), ?_, h1, h4⟩
          unfold addRun; rw [if_neg hp]
      · rw [List.concat_eq_append] at *
        bv_omega
        rw [sets_ne]
        bv_omega
        rw [List.map_append, show [(c0, n0)].map rD = [rD (c0, n0)] from rfl, atLast]
        simp only [rD]
        bv_omega
        rw [eq_sD2]
        bv_omega
        cases hc : (c0 == c) with
        | true =>
          bv_omega
          rw [atLast]
          bv_omega
          rw [ixLast]
          bv_omega
          refine ⟨addRun (zs ++ [(c0, n0)]) (c, n), ?_, h1, h4⟩
          have hc : c0 = c := by simpa using hc
          subst hc
          rw [addRun_snoc, List.map_append]
          unfold addRun
          rw [if_pos rfl, setLast]
          rfl
        | false =>
          bv_omega
          have hc : ¬ c0 = c := by simpa using hc
          refine wp_chzD (fun hp => ?_) fun hp => ?_
          · bv_omega
            refine ⟨by simpa using h5, addRun (zs ++ [(c0, n0)]) (c, n), ?_, h1, h4⟩
            rw [addRun_snoc, List.map_append]
            unfold addRun
            rw [if_neg hc, if_pos hp]
            simp [rD]
          · bv_omega
            refine ⟨addRun (zs ++ [(c0, n0)]) (c, n), ?_, h1, h4⟩
            rw [addRun_snoc, List.map_append]
            unfold addRun
            rw [if_neg hc, if_neg hp]
            simp [rD]
  rcases hd with rfl | rfl
  · bv_omega
    refine go.imp ?_
    rintro _ rfl
    bv_omega
    rfl
  · bv_omega
    refine go.imp ?_
    rintro _ rfl
    bv_omega
    rfl

end FD

namespace FD
open PySem L2 PyProof.Rows FX
local macro_rules | `(tactic| bv_omega) => `(tactic| try (simp only [wp_ok, wp_some, wp_none, wp_ofIte, wp_ofMap, wp_ofBind, optK_some, optK_ite, get0, get1, get2, get3, get4, get5, get6, get7, get8, get9, getS, put0, put1, put2, put3, put4, put5, put6, put7, put8, put9, putS, w_var, varK_frz, varK_loc, varK_io, w_c, w_bin, w_bin2, bin3_some, deref_val, deref_own, deref_ref, seen_loc, seen_io, seen_frz, map_some, FX.bind_some, w_un, w_un1, un2_some, w_anil, w_acons, w_blt, w_blt1, blt2_some, derefs_nil, derefs_cons, w_met, w_met0, w_met1, met2_some, w_call, w_callK, w_lst, w_tup, w_slice, w_onone, w_osome, w_osome1, w_tst, w_tst1, w_tst1i, w_tstB, w_tstB1, w_not, chz_t, chz_f, chz_not, w_orD, w_andD, w_orV, w_andV, w_notV, w_eIf, w_seq, seqK_nx, seqK_rt, seqK_bk, seqK_ct, w_nx, w_bk, w_ct, w_bad, w_if, w_ret, retK_val, retK_own, retK_ref, retK2_loc, w_retN, w_set, setK_val, setK_own, w_setS, setS2_frz, setS2_any, setS2_loc, w_expr, layS_eq, layK_frz, layK_any, layK_loc, layKo_frz, layKo_any, layKo_loc, parK_some, w_par2, w_par2K, w_par3, w_par3K, w_tgt, tgtK_val, bName_eq, nameK_frz, nameK_any, nameK_loc, bTup_tup, bCons_eq, bNil_eq, w_aug, augK_frz, augK2_val, augK2_own, w_setIx, w_sixK0, w_sixK1, w_sixK2, ixsK_loc, ixsK_io, w_mut, w_mut0, w_mut1, mutK_app_loc, mutK_app_io, freezes_nil, freezes_val, freezes_own, freezes_ref, freeze_ref, frz1K_loc, freeze_val, freeze_own, w_for, turnK_nx, turnK_ct, turnK_bk, turnK_rt, w_rng, iterK_some, iterK_ite, w_frzI, w_seqI, w_comp, w_yes, outK_rt, outK_nx, outS_nil, outS_frz, outS_io, wipe_nil, wipe_cons, ix3_0, ix3_1, ix3_2, at3_0, at3_1, at3_2, at2_0, at2_1, at4_0, at4_1, at4_2, at4_3, set3_0, set3_1, set3_2, isN_int, isN_non, isNN_int, isNN_non, isi_int, isi_intB, isi_tup, isi_str, isi_lst, is_bl, isNot_bl, seqD_lst, seqD_tup, seqD_scr, w_fz, fzK_val, fzK_own, fzK_ref, eqD_int, neD_int, eqD_bl, neD_bl, eq_self, scountD_str, tupleD_lst, tupleD_tup, listD_lst, listD_tup, intD_bl, allInts_map, allBls_map, sliceD_lst, sliceD_tup, countD_lst, allD_lst, anyD_lst, sumD_one, maxD_one, minD_one, intsOf_lst, intsOf_scr, pick_nil, pick_cons, pickC_some, List.nil_append, List.cons_append, notInD_two, inD_two, addD_int, wp_addLst, wp_addTup, wp_addStr, wp_lenStr, wp_sliceStr, wp_ixStr, subD_int, mulD_int, fdivD_int, modD_int, powD_int, ltD_int, leD_int, gtD_int, geD_int, ixD_lst, ixD_tup, ixD_scr, negD_int, lenD_lst, lenD_tup, lenD_scr, absD_int, intD_int, iterK_rng1, iterK_rng2, enumD_lst, zipD_lst, zipD_tup, maxD_two, minD_two, augAddD_int, Bool.not_true, Bool.not_false, decide_true, decide_false, reduceCtorEq, true_and, and_true, not_false_eq_true, w_chain, w_chainK, w_wipe, wipeF_nx, wipeF_bk, wipeF_ct, wipeF_rt, w_pre, w_iwipe, w_emp, wp_listRng1, wp_listRng2, indexD_lst, revD_lst, wp_strI, wp_repr, wp_sorted, wp_sortedSet, zipL_maps, enumL_maps, seqD_str, len0, len1, len2, len3, len4, few0, few1, few2, few3, few4, few5, few6, turnK_nx, loop_nil, mutK_loc, mutK_io, appU1, extU1, popU0, popAtU1, optK_map, optK_bind, Nat.reduceEqDiff, w_mov, movK_frz, movK_loc, w_comp2, eqT0D_tup, revA_lst, revA_tup]))
local macro_rules | `(tactic| ac_nf) => `(tactic| repeat (refine ⟨by first | decide | omega | (simp; done) | (simp; omega), ?_⟩))
/-! ### strands: the plain law -/
theorem tot_cons {r : Run} {xs : List Run} : tot (r :: xs) = r.2 + tot xs := by unfold tot; simp
theorem tot_nil : tot [] = 0 := rfl
theorem dtot_nil : dtot [] = 0 := rfl
theorem dtot_cons {c : Bool} {n : Int} {xs : List Run} : dtot ((c, n) :: xs) = (if c = true then n else 0) + dtot xs := by unfold dtot; cases c <;> simp
theorem tot_app {xs ys : List Run} : tot (xs ++ ys) = tot xs + tot ys := by unfold tot; simp [List.sum_append]
theorem dtot_app {xs ys : List Run} : dtot (xs ++ ys) = dtot xs + dtot ys := by unfold dtot; simp [List.sum_append]
def Pos (xs : List Run) : Prop := ∀ r ∈ xs, 1 ≤ r.2
theorem Pos.tail {r : Run} {xs : List Run} (h : Pos (r :: xs)) : Pos xs := fun q hq => h q (by simp [hq])
theorem Pos.left {xs ys : List Run} (h : Pos (xs ++ ys)) : Pos xs := fun q hq => h q (by simp [hq])
theorem Pos.right {xs ys : List Run} (h : Pos (xs ++ ys)) : Pos ys := fun q hq => h q (by simp [hq])
theorem tot_nn : ∀ {xs : List Run}, Pos xs → 0 ≤ tot xs ∧ 0 ≤ dtot xs ∧ dtot xs ≤ tot xs
  | [], _ => by decide
  | (c, n) :: xs, h => by
    have h1 := h (c, n) (by simp)
    have h2 := tot_nn h.tail
    rw [tot_cons, dtot_cons]
    simp only [] at h1 ⊢
    cases c <;> simp <;> omega
theorem tot_pos {xs : List Run} (h : Pos xs) (hne : xs ≠ []) : 1 ≤ tot xs := by
  cases xs with
  | nil => exact absurd rfl hne
  | cons r xs =>
    have h1 := h r (by simp)
    have h2 := (tot_nn h.tail).1
    rw [tot_cons]; omega
theorem Good.tp {xs : List Run} (h : Good xs) : 1 ≤ tot xs := tot_pos h.pos h.ne
/-! the dark beads ahead of a place -/
theorem dup_post : ∀ {xs : List Run} {p : Int}, Pos xs → p ≤ 0 → dup xs p = 0
  | [], p, _, _ => rfl
  | (c, n) :: xs, p, h, hs => by
    have h1 := h (c, n) (by simp)
    simp only [] at h1
    rw [dup, dup_post h.tail (by omega)]
    have : clip p n = 0 := by unfold clip; omega
    rw [this]; cases c <;> rfl
theorem dup_pre : ∀ {xs ys : List Run} {p : Int}, Pos xs → tot xs ≤ p → dup (xs ++ ys) p = dtot xs + dup ys (p - tot xs)
  | [], ys, p, _, _ => by simp [tot, dtot]
  | (c, n) :: xs, ys, p, h, hs => by
    have h1 := h (c, n) (by simp)
    have h2 := tot_nn h.tail
    rw [tot_cons] at hs ⊢
    simp only [] at h1 hs ⊢
    rw [List.cons_append, dup, dup_pre h.tail (by omega), dtot_cons]
    have : clip p n = n := by unfold clip; omega
    rw [this, show p - n - tot xs = p - (n + tot xs) by omega]
    omega
theorem dup_all {xs : List Run} {p : Int} (h : Pos xs) (hp : tot xs ≤ p) : dup xs p = dtot xs := by
  have := dup_pre (ys := []) h hp
  rw [List.append_nil] at this
  rw [this, dup]; omega
def ind (b : Bool) : Int := if b = true then 1 else 0
theorem ind_01 (b : Bool) : 0 ≤ ind b ∧ ind b ≤ 1 := by cases b <;> decide
/-- the bead at a place -/
def bdk : List Run → Int → Bool
  | [], _ => false
  | (c, n) :: xs, p => if p < n then c else bdk xs (p - n)
theorem dup_step : ∀ {xs : List Run} {p : Int}, Pos xs → 0 ≤ p → p < tot xs → dup xs (p + 1) = dup xs p + ind (bdk xs p)
  | [], p, _, h1, h2 => by rw [tot_nil] at h2; omega
  | (c, n) :: xs, p, h, h1, h2 => by
    have hn := h (c, n) (by simp)
    simp only [] at hn
    rw [tot_cons] at h2
    simp only [] at h2
    rw [dup, dup, bdk]
    by_cases hp : p < n
    · rw [if_pos hp, dup_post h.tail (by omega), dup_post h.tail (by omega)]
      have e1 : clip (p + 1) n = p + 1 := by unfold clip; omega
      have e2 : clip p n = p := by unfold clip; omega
      rw [e1, e2]
      cases c <;> simp [ind]
    · rw [if_neg hp, show p + 1 - n = (p - n) + 1 by omega, dup_step (xs := xs) h.tail (by omega) (by omega)]
      have e1 : clip (p + 1) n = n := by unfold clip; omega
      have e2 : clip p n = n := by unfold clip; omega
      rw [e1, e2]; omega
theorem dup_mono {xs : List Run} (h : Pos xs) {p : Int} (h0 : 0 ≤ p) : ∀ (k : Nat), p + k ≤ tot xs → dup xs p ≤ dup xs (p + k) ∧ dup xs (p + k) ≤ dup xs p + k
  | 0, _ => by simp
  | k + 1, hk => by
    have ih := dup_mono h h0 k (by omega)
    have := dup_step (p := p + k) h (by omega) (by omega)
    have hi := ind_01 (bdk xs (p + k))
    rw [show p + ((k + 1 : Nat) : Int) = p + k + 1 by omega, this]
    omega
theorem dup_le {xs : List Run} (h : Pos xs) {p q : Int} (h0 : 0 ≤ p) (h1 : p ≤ q) (h2 : q ≤ tot xs) : dup xs p ≤ dup xs q ∧ dup xs q ≤ dup xs p + (q - p) := by
  have := dup_mono h h0 (q - p).toNat (by omega)
  rw [show p + (((q - p).toNat : Nat) : Int) = q by omega] at this
  omega
theorem dup_zero {xs : List Run} (h : Pos xs) : dup xs 0 = 0 := dup_post h (Int.le_refl _)
theorem dup_rng {xs : List Run} (h : Pos xs) {p : Int} (h0 : 0 ≤ p) (h1 : p ≤ tot xs) : 0 ≤ dup xs p ∧ dup xs p ≤ dtot xs := by
  have a := dup_le h (Int.le_refl 0) h0 h1
  have b := dup_le h h0 h1 (Int.le_refl _)
  rw [dup_zero h] at a
  rw [dup_all h (Int.le_refl _)] at b
  omega
/-! where the colour changes -/
theorem bords_mem : ∀ {xs : List Run} {f b : Int}, Pos xs → b ∈ bords f xs → f ≤ b ∧ b < f + tot xs
  | [], f, b, _, hb => by simp [bords] at hb
  | r :: xs, f, b, h, hb => by
    have h1 := h r (by simp)
    have h2 := (tot_nn h.tail).1
    rw [tot_cons]
    unfold bords at hb
    rcases List.mem_cons.mp hb with e | e
    · omega
    · have := bords_mem h.tail e; omega
theorem bords_head {xs : List Run} {f : Int} (h : xs ≠ []) : f ∈ bords f xs := by
  cases xs with
  | nil => exact absurd rfl h
  | cons r xs => unfold bords; simp
theorem bords_len : ∀ {xs : List Run} {f : Int}, (bords f xs).length = xs.length
  | [], _ => rfl
  | r :: xs, f => by unfold bords; simp [bords_len (xs := xs)]
theorem bdk_same : ∀ {xs : List Run} {f p : Int}, Pos xs → 0 < p → p < tot xs → f + p ∉ bords f xs → bdk xs p = bdk xs (p - 1)
  | [], f, p, _, h1, h2, _ => by rw [tot_nil] at h2; omega
  | (c, n) :: xs, f, p, h, h1, h2, h3 => by
    have hn := h (c, n) (by simp)
    simp only [] at hn
    rw [tot_cons] at h2
    simp only [] at h2
    rw [bdk, bdk]
    by_cases hp : p < n
    · rw [if_pos hp, if_pos (by omega)]
    · rw [if_neg hp]
      have hx : xs ≠ [] := by
        intro e; subst e; rw [tot_nil] at h2; omega
      have ne : p ≠ n := by
        intro e
        refine h3 ?_
        unfold bords
        rw [e]
        exact List.mem_cons_of_mem _ (bords_head hx)
      rw [if_neg (by omega), show p - 1 - n = p - n - 1 by omega]
      refine bdk_same (f := f + n) h.tail (by omega) (by omega) fun hb => h3 ?_
      unfold bords
      rw [show f + n + (p - n) = f + p by omega] at hb
      exact List.mem_cons_of_mem _ hb
/-! an arc's dark beads -/
def dOf (xs : List Run) (s l : Int) : Int := if s + l ≤ tot xs then dup xs (s + l) - dup xs s else dtot xs - dup xs s + dup xs (s + l - tot xs)
section
variable {xs : List Run} {s l : Int}
theorem dOf_step (h : Pos xs) (h0 : 0 ≤ s) (h1 : s + 1 < tot xs) (h2 : 0 ≤ l) (h3 : l ≤ tot xs) : dOf xs (s + 1) l = dOf xs s l + ind (bdk xs ((s + l) % tot xs)) - ind (bdk xs s) := by
  have e1 := dup_step (p := s) h h0 (by omega)
  unfold dOf
  by_cases c1 : s + 1 + l ≤ tot xs
  · rw [if_pos c1, if_pos (by omega), Int.emod_eq_of_lt (by omega) (by omega), show s + 1 + l = s + l + 1 by omega, dup_step (p := s + l) h (by omega) (by omega)]
    omega
  · rw [if_neg c1]
    by_cases c2 : s + l ≤ tot xs
    · have e : s + l = tot xs := by omega
      rw [if_pos c2, e, Int.emod_self, dup_all h (Int.le_refl _), show s + 1 + l - tot xs = 0 + 1 by omega, dup_step (p := 0) h (by omega) (by omega), dup_zero h]
      omega
    · rw [if_neg c2, show s + 1 + l - tot xs = (s + l - tot xs) + 1 by omega, dup_step (p := s + l - tot xs) h (by omega) (by omega)]
      have : (s + l) % tot xs = s + l - tot xs := by
        rw [← Int.sub_emod_right (s + l) (tot xs), Int.emod_eq_of_lt (by omega) (by omega)]
      rw [this]; omega
theorem dOf_zero (h : Pos xs) (h0 : 0 ≤ s) (h1 : s < tot xs) : dOf xs s 0 = 0 := by
  unfold dOf; rw [if_pos (by omega)]; simp
theorem dOf_full (h : Pos xs) (h0 : 0 ≤ s) (h1 : s < tot xs) : dOf xs s (tot xs) = dtot xs := by
  unfold dOf
  by_cases c : s + tot xs ≤ tot xs
  · have e : s = 0 := by omega
    subst e
    rw [if_pos c, dup_zero h, Int.zero_add, dup_all h (Int.le_refl _)]; omega
  · rw [if_neg c, show s + tot xs - tot xs = s by omega]; omega
/-- longer arcs have more -/
theorem dOf_mono {m : Int} (h : Pos xs) (h0 : 0 ≤ s) (h1 : s < tot xs) (h2 : 0 ≤ l) (h3 : l ≤ m) (h4 : m ≤ tot xs) : dOf xs s l ≤ dOf xs s m ∧ dOf xs s m ≤ dOf xs s l + (m - l) := by
  unfold dOf
  by_cases c1 : s + m ≤ tot xs
  · rw [if_pos c1, if_pos (by omega)]
    have := dup_le (p := s + l) (q := s + m) h (by omega) (by omega) (by omega)
    omega
  · rw [if_neg c1]
    by_cases c2 : s + l ≤ tot xs
    · rw [if_pos c2]
      have a := dup_le (p := s + l) (q := tot xs) h (by omega) (by omega) (by omega)
      have b := dup_le (p := 0) (q := s + m - tot xs) h (by omega) (by omega) (by omega)
      rw [dup_all h (Int.le_refl _)] at a
      rw [dup_zero h] at b
      omega
    · rw [if_neg c2]
      have := dup_le (p := s + l - tot xs) (q := s + m - tot xs) h (by omega) (by omega) (by omega)
      omega
theorem dOf_rng (h : Pos xs) (h0 : 0 ≤ s) (h1 : s < tot xs) (h2 : 0 ≤ l) (h3 : l ≤ tot xs) : 0 ≤ dOf xs s l ∧ dOf xs s l ≤ dtot xs ∧ dOf xs s l ≤ l := by
  have a := dOf_mono (l := 0) (m := l) h h0 h1 (by omega) h2 h3
  have b := dOf_mono (l := l) (m := tot xs) h h0 h1 h2 h3 (by omega)
  rw [dOf_zero h h0 h1] at a
  rw [dOf_full h h0 h1] at b
  omega
/-- the other arc -/
theorem dOf_other (h : Pos xs) (h0 : 0 ≤ s) (h1 : s < tot xs) (h2 : 0 ≤ l) (h3 : l ≤ tot xs) : dOf xs ((s + l) % tot xs) (tot xs - l) = dtot xs - dOf xs s l := by
  by_cases c : s + l < tot xs
  · rw [Int.emod_eq_of_lt (by omega) c]
    unfold dOf
    rw [if_pos (show s + l ≤ tot xs by omega)]
    by_cases c2 : s = 0
    · subst c2
      rw [if_pos (by omega), show 0 + l + (tot xs - l) = tot xs by omega, dup_all h (Int.le_refl _), dup_zero h]; omega
    · rw [if_neg (by omega), show s + l + (tot xs - l) - tot xs = s by omega]; omega
  · have e : (s + l) % tot xs = s + l - tot xs := by rw [← Int.sub_emod_right (s + l) (tot xs), Int.emod_eq_of_lt (by omega) (by omega)]
    rw [e]
    unfold dOf
    rw [if_pos (show s + l - tot xs + (tot xs - l) ≤ tot xs by omega), show s + l - tot xs + (tot xs - l) = s by omega]
    by_cases c2 : s + l ≤ tot xs
    · have : s + l = tot xs := by omega
      rw [if_pos c2, this, dup_all h (Int.le_refl _), Int.sub_self, dup_zero h]; omega
    · rw [if_neg c2]; omega
end

end FD

namespace FD
open PySem L2 PyProof.Rows FX
local macro_rules | `(tactic| bv_omega) => `(tactic| try (simp only [wp_ok, wp_some, wp_none, wp_ofIte, wp_ofMap, wp_ofBind, optK_some, optK_ite, get0, get1, get2, get3, get4, get5, get6, get7, get8, get9, getS, put0, put1, put2, put3, put4, put5, put6, put7, put8, put9, putS, w_var, varK_frz, varK_loc, varK_io, w_c, w_bin, w_bin2, bin3_some, deref_val, deref_own, deref_ref, seen_loc, seen_io, seen_frz, map_some, FX.bind_some, w_un, w_un1, un2_some, w_anil, w_acons, w_blt, w_blt1, blt2_some, derefs_nil, derefs_cons, w_met, w_met0, w_met1, met2_some, w_call, w_callK, w_lst, w_tup, w_slice, w_onone, w_osome, w_osome1, w_tst, w_tst1, w_tst1i, w_tstB, w_tstB1, w_not, chz_t, chz_f, chz_not, w_orD, w_andD, w_orV, w_andV, w_notV, w_eIf, w_seq, seqK_nx, seqK_rt, seqK_bk, seqK_ct, w_nx, w_bk, w_ct, w_bad, w_if, w_ret, retK_val, retK_own, retK_ref, retK2_loc, w_retN, w_set, setK_val, setK_own, w_setS, setS2_frz, setS2_any, setS2_loc, w_expr, layS_eq, layK_frz, layK_any, layK_loc, layKo_frz, layKo_any, layKo_loc, parK_some, w_par2, w_par2K, w_par3, w_par3K, w_tgt, tgtK_val, bName_eq, nameK_frz, nameK_any, nameK_loc, bTup_tup, bCons_eq, bNil_eq, w_aug, augK_frz, augK2_val, augK2_own, w_setIx, w_sixK0, w_sixK1, w_sixK2, ixsK_loc, ixsK_io, w_mut, w_mut0, w_mut1, mutK_app_loc, mutK_app_io, freezes_nil, freezes_val, freezes_own, freezes_ref, freeze_ref, frz1K_loc, freeze_val, freeze_own, w_for, turnK_nx, turnK_ct, turnK_bk, turnK_rt, w_rng, iterK_some, iterK_ite, w_frzI, w_seqI, w_comp, w_yes, outK_rt, outK_nx, outS_nil, outS_frz, outS_io, wipe_nil, wipe_cons, ix3_0, ix3_1, ix3_2, at3_0, at3_1, at3_2, at2_0, at2_1, at4_0, at4_1, at4_2, at4_3, set3_0, set3_1, set3_2, isN_int, isN_non, isNN_int, isNN_non, isi_int, isi_intB, isi_tup, isi_str, isi_lst, is_bl, isNot_bl, seqD_lst, seqD_tup, seqD_scr, w_fz, fzK_val, fzK_own, fzK_ref, eqD_int, neD_int, eqD_bl, neD_bl, eq_self, scountD_str, tupleD_lst, tupleD_tup, listD_lst, listD_tup, intD_bl, allInts_map, allBls_map, sliceD_lst, sliceD_tup, countD_lst, allD_lst, anyD_lst, sumD_one, maxD_one, minD_one, intsOf_lst, intsOf_scr, pick_nil, pick_cons, pickC_some, List.nil_append, List.cons_append, notInD_two, inD_two, addD_int, wp_addLst, wp_addTup, wp_addStr, wp_lenStr, wp_sliceStr, wp_ixStr, subD_int, mulD_int, fdivD_int, modD_int, powD_int, ltD_int, leD_int, gtD_int, geD_int, ixD_lst, ixD_tup, ixD_scr, negD_int, lenD_lst, lenD_tup, lenD_scr, absD_int, intD_int, iterK_rng1, iterK_rng2, enumD_lst, zipD_lst, zipD_tup, maxD_two, minD_two, augAddD_int, Bool.not_true, Bool.not_false, decide_true, decide_false, reduceCtorEq, true_and, and_true, not_false_eq_true, w_chain, w_chainK, w_wipe, wipeF_nx, wipeF_bk, wipeF_ct, wipeF_rt, w_pre, w_iwipe, w_emp, wp_listRng1, wp_listRng2, indexD_lst, revD_lst, wp_strI, wp_repr, wp_sorted, wp_sortedSet, zipL_maps, enumL_maps, seqD_str, len0, len1, len2, len3, len4, few0, few1, few2, few3, few4, few5, few6, turnK_nx, loop_nil, mutK_loc, mutK_io, appU1, extU1, popU0, popAtU1, optK_map, optK_bind, Nat.reduceEqDiff, w_mov, movK_frz, movK_loc, w_comp2, eqT0D_tup, revA_lst, revA_tup]))
local macro_rules | `(tactic| ac_nf) => `(tactic| repeat (refine ⟨by first | decide | omega | (simp; done) | (simp; omega), ?_⟩))
/-! ### beads one by one -/
def ex (xs : List Run) : List Bool := xs.flatMap fun r => List.replicate r.2.toNat r.1
theorem ex_nil : ex [] = [] := rfl
theorem ex_cons {r : Run} {xs : List Run} : ex (r :: xs) = List.replicate r.2.toNat r.1 ++ ex xs := rfl
theorem ex_app {xs ys : List Run} : ex (xs ++ ys) = ex xs ++ ex ys := by unfold ex; simp
theorem ex_len : ∀ {xs : List Run}, Pos xs → ((ex xs).length : Int) = tot xs
  | [], _ => rfl
  | r :: xs, h => by
    have := ex_len h.tail
    have h1 := h r (by simp)
    rw [ex_cons, tot_cons, List.length_append, List.length_replicate]
    omega
theorem dup_ex : ∀ {xs : List Run} {p : Nat}, Pos xs → dup xs p = (((ex xs).take p).countP id : Nat)
  | [], p, _ => by simp [dup, ex]
  | (c, n) :: xs, p, h => by
    have h1 := h (c, n) (by simp)
    simp only [] at h1
    rw [dup, ex_cons]
    simp only []
    by_cases hp : (p : Int) ≤ n
    · rw [dup_post h.tail (by omega), List.take_append_of_le_length (by simp; omega), List.take_replicate]
      have : clip p n = p := by unfold clip; omega
      rw [this, List.countP_replicate]
      cases c <;> simp <;> omega
    · have e : ((p : Int) - n) = ((p - n.toNat : Nat) : Int) := by omega
      rw [e, dup_ex h.tail, List.take_append, List.length_replicate, List.countP_append, List.take_of_length_le (l := List.replicate n.toNat c) (by simp; omega), List.countP_replicate]
      have : clip p n = n := by unfold clip; omega
      rw [this]
      cases c <;> simp <;> omega
theorem bdk_ex : ∀ {xs : List Run} {p : Nat}, Pos xs → (p : Int) < tot xs → (ex xs)[p]? = some (bdk xs p)
  | [], p, _, h => by rw [tot_nil] at h; omega
  | (c, n) :: xs, p, h, hp => by
    have h1 := h (c, n) (by simp)
    simp only [] at h1
    rw [tot_cons] at hp
    simp only [] at hp
    rw [ex_cons, bdk]
    simp only []
    by_cases c1 : (p : Int) < n
    · rw [if_pos c1, List.getElem?_append_left (by simp; omega), List.getElem?_replicate, if_pos (by omega)]
    · rw [if_neg c1, List.getElem?_append_right (by simp; omega), List.length_replicate]
      have e : ((p : Int) - n) = ((p - n.toNat : Nat) : Int) := by omega
      rw [e]
      exact bdk_ex h.tail (by omega)
theorem dtot_ex {xs : List Run} (h : Pos xs) : dtot xs = ((ex xs).countP id : Nat) := by
  have e := ex_len h
  rw [← dup_all (p := ((ex xs).length : Int)) h (by omega), dup_ex h, List.take_length]
/-! equal neighbours joined -/
def NN (xs : List Run) : Prop := ∀ r ∈ xs, 0 ≤ r.2
theorem Pos.nn {xs : List Run} (h : Pos xs) : NN xs := fun r hr => by have := h r hr; omega
theorem ex_addRun {xs : List Run} {r : Run} (h : NN xs) (hr : 0 ≤ r.2) : ex (addRun xs r) = ex xs ++ List.replicate r.2.toNat r.1 := by
  obtain ⟨c, n⟩ := r
  simp only [] at hr
  rcases List.eq_nil_or_concat xs with rfl | ⟨ys, ⟨a, m⟩, rfl⟩
  · unfold addRun
    split
    · simp [ex]
    · rename_i h0
      have : n.toNat = 0 := by simp only [] at h0; omega
      rw [this]; simp [ex]
  · rw [List.concat_eq_append] at h ⊢
    have hm := h (a, m) (by simp)
    simp only [] at hm
    rw [addRun_snoc, ex_app, ex_app, List.append_assoc]
    congr 1
    unfold addRun
    split
    · rename_i e
      simp only [] at e
      subst e
      have : (m + n).toNat = m.toNat + n.toNat := by omega
      simp [ex, this, List.replicate_append_replicate]
    · split
      · simp [ex]
      · rename_i h0
        have : n.toNat = 0 := by simp only [] at h0; omega
        rw [this]; simp [ex]
theorem alt_snoc : ∀ {xs : List Run} {a r : Run}, Alt (xs ++ [a]) → a.1 ≠ r.1 → Alt (xs ++ [a, r])
  | [], a, r, _, hne => ⟨hne, trivial⟩
  | [x], a, r, h, hne => ⟨h.1, hne, trivial⟩
  | x :: y :: xs, a, r, h, hne => ⟨h.1, alt_snoc (xs := y :: xs) h.2 hne⟩
theorem alt_last : ∀ {xs : List Run} {a b : Run}, Alt (xs ++ [a]) → a.1 = b.1 → Alt (xs ++ [b])
  | [], a, b, _, _ => trivial
  | [x], a, b, h, e => ⟨fun z => h.1 (z.trans e.symm), trivial⟩
  | x :: y :: xs, a, b, h, e => ⟨h.1, alt_last (xs := y :: xs) h.2 e⟩
theorem addRun_pa {xs : List Run} {r : Run} (h : Pos xs) (ha : Alt xs) (hr : 0 ≤ r.2) : Pos (addRun xs r) ∧ Alt (addRun xs r) := by
  obtain ⟨c, n⟩ := r
  simp only [] at hr
  rcases List.eq_nil_or_concat xs with rfl | ⟨ys, ⟨a, m⟩, rfl⟩
  · unfold addRun
    split
    · rename_i h0
      refine ⟨fun q hq => ?_, trivial⟩
      simp at hq; subst hq; simp only [] at h0 ⊢; omega
    · exact ⟨fun q hq => (by cases hq), trivial⟩
  · rw [List.concat_eq_append] at h ha ⊢
    have hm := h (a, m) (by simp)
    simp only [] at hm
    rw [addRun_snoc]
    unfold addRun
    split
    · rename_i e
      refine ⟨fun q hq => ?_, alt_last ha rfl⟩
      rcases List.mem_append.mp hq with e1 | e1
      · exact h q (by simp [e1])
      · simp at e1; subst e1; simp only []; omega
    · rename_i e
      split
      · rename_i h0
        simp only [] at h0 e
        refine ⟨fun q hq => ?_, alt_snoc ha e⟩
        rcases List.mem_append.mp hq with e1 | e1
        · exact h q (by simp [e1])
        · simp at e1
          rcases e1 with e1 | e1 <;> subst e1 <;> simp only [] <;> omega
      · exact ⟨h, ha⟩
theorem foldl_add : ∀ {ys st : List Run}, Pos st → Alt st → NN ys → Pos (ys.foldl addRun st) ∧ Alt (ys.foldl addRun st) ∧ ex (ys.foldl addRun st) = ex st ++ ex ys
  | [], st, h, ha, _ => ⟨h, ha, by simp [ex]⟩
  | r :: ys, st, h, ha, hn => by
    have hr := hn r (by simp)
    obtain ⟨h1, h2⟩ := addRun_pa (r := r) h ha hr
    obtain ⟨q1, q2, q3⟩ := foldl_add (ys := ys) h1 h2 fun x hx => hn x (by simp [hx])
    refine ⟨q1, q2, ?_⟩
    rw [List.foldl_cons, q3, ex_addRun h.nn hr, ex_cons, List.append_assoc]
theorem joinR_ok {ys : List Run} (h : NN ys) : Pos (joinR ys) ∧ Alt (joinR ys) ∧ ex (joinR ys) = ex ys := by
  obtain ⟨a, b, c⟩ := foldl_add (ys := ys) (st := []) (fun r hr => by cases hr) trivial h
  exact ⟨a, b, by rw [show joinR ys = ys.foldl addRun [] from rfl, c]; rfl⟩
theorem foldl_len : ∀ {ys st : List Run}, (ys.foldl addRun st).length ≤ st.length + ys.length
  | [], st => by simp
  | r :: ys, st => by
    have := foldl_len (ys := ys) (st := addRun st r)
    have := addRun_len st r
    simp only [List.foldl_cons, List.length_cons]; omega
theorem joinR_len {ys : List Run} : (joinR ys).length ≤ ys.length := by have := foldl_len (ys := ys) (st := []); simpa [joinR] using this
/-- the strand of beads -/
def packR (bs : List Bool) : List Run := joinR (bs.map fun b => (b, 1))
theorem ex_ones : ∀ {bs : List Bool}, ex (bs.map fun b => (b, 1)) = bs
  | [] => rfl
  | b :: bs => by rw [List.map_cons, ex_cons, ex_ones (bs := bs)]; rfl
theorem packR_ex {bs : List Bool} : ex (packR bs) = bs := by
  unfold packR
  rw [(joinR_ok fun r hr => by obtain ⟨b, _, rfl⟩ := List.mem_map.mp hr; exact (by decide : (0 : Int) ≤ 1)).2.2, ex_ones]
theorem packR_len {bs : List Bool} : (packR bs).length ≤ bs.length := by have := joinR_len (ys := bs.map fun b => ((b, 1) : Run)); simpa [packR] using this
theorem packR_good {bs : List Bool} (hne : bs ≠ []) (hl : bs.length ≤ 100000) : Good (packR bs) := by
  obtain ⟨a, b, c⟩ := joinR_ok (ys := bs.map fun b => ((b, 1) : Run)) fun r hr => by obtain ⟨b, _, rfl⟩ := List.mem_map.mp hr; exact (by decide : (0 : Int) ≤ 1)
  refine ⟨fun e => hne ?_, a, b, Nat.le_trans packR_len hl⟩
  have := packR_ex (bs := bs)
  rw [e] at this
  exact this.symm
theorem packR_tot {bs : List Bool} (hne : bs ≠ []) (hl : bs.length ≤ 100000) : tot (packR bs) = bs.length := by
  rw [← ex_len (packR_good hne hl).pos, packR_ex]
/-! an arc's dark beads, bead by bead -/
theorem countP_drop {bs : List Bool} {a b : Nat} (h : a ≤ b) : (bs.take b).countP id = (bs.take a).countP id + ((bs.drop a).take (b - a)).countP id := by
  have : bs.take b = bs.take a ++ (bs.drop a).take (b - a) := by
    rw [← List.take_add]; congr 1; omega
  rw [this, List.countP_append]
theorem dOf_ex {xs : List Run} {s l : Nat} (h : Pos xs) (h1 : (s : Int) < tot xs) (h2 : (l : Int) ≤ tot xs) : dOf xs s l = ((((ex xs ++ ex xs).drop s).take l).countP id : Nat) := by
  have e := ex_len h
  have d := dtot_ex h
  unfold dOf
  by_cases c : (s : Int) + l ≤ tot xs
  · rw [if_pos c, show (s : Int) + l = ((s + l : Nat) : Int) by omega, dup_ex h, dup_ex h]
    have := countP_drop (bs := ex xs) (a := s) (b := s + l) (by omega)
    rw [show s + l - s = l by omega] at this
    rw [List.drop_append_of_le_length (by omega), List.take_append_of_le_length (by simp; omega)]
    omega
  · rw [if_neg c, show (s : Int) + l - tot xs = ((s + l - (ex xs).length : Nat) : Int) by omega, dup_ex h, dup_ex h, d]
    have := countP_drop (bs := ex xs) (a := s) (b := (ex xs).length) (by omega)
    rw [List.take_length, List.take_of_length_le (l := (ex xs).drop s) (by simp)] at this
    rw [List.drop_append_of_le_length (by omega), List.take_append, List.take_of_length_le (l := (ex xs).drop s) (by simp; omega), List.countP_append, List.length_drop, show l - ((ex xs).length - s) = s + l - (ex xs).length by omega]
    omega

end FD

namespace FD
open PySem L2 PyProof.Rows FX
local macro_rules | `(tactic| bv_omega) => `(tactic| try (simp only [wp_ok, wp_some, wp_none, wp_ofIte, wp_ofMap, wp_ofBind, optK_some, optK_ite, get0, get1, get2, get3, get4, get5, get6, get7, get8, get9, getS, put0, put1, put2, put3, put4, put5, put6, put7, put8, put9, putS, w_var, varK_frz, varK_loc, varK_io, w_c, w_bin, w_bin2, bin3_some, deref_val, deref_own, deref_ref, seen_loc, seen_io, seen_frz, map_some, FX.bind_some, w_un, w_un1, un2_some, w_anil, w_acons, w_blt, w_blt1, blt2_some, derefs_nil, derefs_cons, w_met, w_met0, w_met1, met2_some, w_call, w_callK, w_lst, w_tup, w_slice, w_onone, w_osome, w_osome1, w_tst, w_tst1, w_tst1i, w_tstB, w_tstB1, w_not, chz_t, chz_f, chz_not, w_orD, w_andD, w_orV, w_andV, w_notV, w_eIf, w_seq, seqK_nx, seqK_rt, seqK_bk, seqK_ct, w_nx, w_bk, w_ct, w_bad, w_if, w_ret, retK_val, retK_own, retK_ref, retK2_loc, w_retN, w_set, setK_val, setK_own, w_setS, setS2_frz, setS2_any, setS2_loc, w_expr, layS_eq, layK_frz, layK_any, layK_loc, layKo_frz, layKo_any, layKo_loc, parK_some, w_par2, w_par2K, w_par3, w_par3K, w_tgt, tgtK_val, bName_eq, nameK_frz, nameK_any, nameK_loc, bTup_tup, bCons_eq, bNil_eq, w_aug, augK_frz, augK2_val, augK2_own, w_setIx, w_sixK0, w_sixK1, w_sixK2, ixsK_loc, ixsK_io, w_mut, w_mut0, w_mut1, mutK_app_loc, mutK_app_io, freezes_nil, freezes_val, freezes_own, freezes_ref, freeze_ref, frz1K_loc, freeze_val, freeze_own, w_for, turnK_nx, turnK_ct, turnK_bk, turnK_rt, w_rng, iterK_some, iterK_ite, w_frzI, w_seqI, w_comp, w_yes, outK_rt, outK_nx, outS_nil, outS_frz, outS_io, wipe_nil, wipe_cons, ix3_0, ix3_1, ix3_2, at3_0, at3_1, at3_2, at2_0, at2_1, at4_0, at4_1, at4_2, at4_3, set3_0, set3_1, set3_2, isN_int, isN_non, isNN_int, isNN_non, isi_int, isi_intB, isi_tup, isi_str, isi_lst, is_bl, isNot_bl, seqD_lst, seqD_tup, seqD_scr, w_fz, fzK_val, fzK_own, fzK_ref, eqD_int, neD_int, eqD_bl, neD_bl, eq_self, scountD_str, tupleD_lst, tupleD_tup, listD_lst, listD_tup, intD_bl, allInts_map, allBls_map, sliceD_lst, sliceD_tup, countD_lst, allD_lst, anyD_lst, sumD_one, maxD_one, minD_one, intsOf_lst, intsOf_scr, pick_nil, pick_cons, pickC_some, List.nil_append, List.cons_append, notInD_two, inD_two, addD_int, wp_addLst, wp_addTup, wp_addStr, wp_lenStr, wp_sliceStr, wp_ixStr, subD_int, mulD_int, fdivD_int, modD_int, powD_int, ltD_int, leD_int, gtD_int, geD_int, ixD_lst, ixD_tup, ixD_scr, negD_int, lenD_lst, lenD_tup, lenD_scr, absD_int, intD_int, iterK_rng1, iterK_rng2, enumD_lst, zipD_lst, zipD_tup, maxD_two, minD_two, augAddD_int, Bool.not_true, Bool.not_false, decide_true, decide_false, reduceCtorEq, true_and, and_true, not_false_eq_true, w_chain, w_chainK, w_wipe, wipeF_nx, wipeF_bk, wipeF_ct, wipeF_rt, w_pre, w_iwipe, w_emp, wp_listRng1, wp_listRng2, indexD_lst, revD_lst, wp_strI, wp_repr, wp_sorted, wp_sortedSet, zipL_maps, enumL_maps, seqD_str, len0, len1, len2, len3, len4, few0, few1, few2, few3, few4, few5, few6, turnK_nx, loop_nil, mutK_loc, mutK_io, appU1, extU1, popU0, popAtU1, optK_map, optK_bind, Nat.reduceEqDiff, w_mov, movK_frz, movK_loc, w_comp2, eqT0D_tup, revA_lst, revA_tup]))
local macro_rules | `(tactic| ac_nf) => `(tactic| repeat (refine ⟨by first | decide | omega | (simp; done) | (simp; omega), ?_⟩))
/-! ### the draws of the laws k01 to k05 and k39 to k51 -/
def Sd (n : Int) (ds : List Dt) : Prop := ∃ a b c : Int, ds = [.int a, .int b, .int c] ∧ 0 ≤ b ∧ b < 10 ^ 42 ∧ 0 ≤ c ∧ c ≤ n
theorem Sd.mono {n m : Int} {ds : List Dt} (h : Sd n ds) (l : n ≤ m) : Sd m ds := by
  obtain ⟨a, b, c, h1, h2, h3, h4, h5⟩ := h
  exact ⟨a, b, c, h1, h2, h3, h4, by omega⟩
theorem draw1_ok {n : Int} {ds : List Dt} {b : Int} (h : Sd n ds) (hn : n ≤ 1000000) (hb : 1 ≤ b) (hf : b ≤ 10 ^ 200) :
    Wp (F_law_draw_k01 [.io ds, .frz (.int b)]) fun q => ∃ r ds', q = (.val (.int r), [.io ds', .any]) ∧ 0 ≤ r ∧ r < b ∧ Sd (n + 1) ds' := by
  obtain ⟨s0, s1, s2, rfl, h1, h2, h3, h4⟩ := h
  refine w_fn rfl ?_
  unfold g_law_draw_k01
  simp only [List.replicate, List.cons_append, List.nil_append]
  bv_omega
  have hF : Fit b := fit_n (by omega) hf
  have hm : ∀ x : Int, 0 ≤ x % (10 ^ Int.toNat 41 + 37) ∧ x % (10 ^ Int.toNat 41 + 37) < 10 ^ 42 := fun x => ⟨Int.emod_nonneg _ (by decide), Int.lt_trans (Int.emod_lt_of_pos _ (by decide)) (by decide)⟩
  refine wp_chzD (fun hp => ?_) fun hp => ?_
  · bv_omega
    refine ⟨by omega, ⟨by omega, hF⟩, _, _, rfl, Int.emod_nonneg _ (by omega), Int.emod_lt_of_pos _ (by omega), _, _, _, rfl, h1, h2, h3, by omega⟩
  · bv_omega
    refine ⟨fits_n (by omega) (by omega) (by omega) (by omega), ⟨fit_n (by omega) (by omega), by decide, by decide⟩, ⟨fit_n (by omega) (by omega), by decide, by decide⟩, by decide, ?_⟩
    obtain ⟨m1, m2⟩ := hm ((s1 + 295075147 * (s2 + 1)) ^ Int.toNat 3)
    generalize (s1 + 295075147 * (s2 + 1)) ^ Int.toNat 3 % (10 ^ Int.toNat 41 + 37) = y at *
    refine ⟨fits_n (by omega) (by omega) (by omega) (by omega), ⟨fit_n (by omega) (by omega), by decide, by decide⟩, ⟨fit_n (by omega) (by omega), by decide, by decide⟩, by decide, ⟨by decide, fit_n (by omega) (by omega)⟩, by omega, _, _, rfl, Int.emod_nonneg _ (by omega), Int.emod_lt_of_pos _ (by omega), _, _, _, rfl, h1, h2, by omega, by omega⟩
theorem source1_ok {ns : List Int} {k : Nat} (hk : k ≤ 100) : Wp (F_law_source_k01 [.frz (.scr ns), .frz (.int k)]) fun q => ∃ ds, q = (.own ds, [.any, .any]) ∧ Sd 0 ds := by
  refine w_fn rfl ?_
  unfold g_law_source_k01
  simp only [List.replicate, List.cons_append, List.nil_append]
  bv_omega
  have hm : ∀ x : Int, 0 ≤ x % (10 ^ Int.toNat 40 + 121) ∧ x % (10 ^ Int.toNat 40 + 121) < 10 ^ 41 := fun x => ⟨Int.emod_nonneg _ (by decide), Int.lt_trans (Int.emod_lt_of_pos _ (by decide)) (by decide)⟩
  refine wp_chzD (fun hp => ?_) fun hp => ?_
  · bv_omega
    have hk : k < ns.length := by omega
    have e : L2.atI ns (k : Int) = some ns[k] := by
      unfold L2.atI L2.ixN
      rw [if_pos (by omega), if_pos hp]
      simp [hk]
    rw [e]
    bv_omega
    obtain ⟨m1, m2⟩ := hm ns[k]
    refine ⟨⟨fit_n (by decide) (by decide), by decide, by decide⟩, ⟨fit_n (by decide) (by decide), by decide, by decide⟩, by decide, fits_n (by decide) (by decide) (by omega) (by omega), _, rfl, _, _, _, rfl, by omega, by omega, by omega, by omega⟩
  · bv_omega
    obtain ⟨m1, m2⟩ := hm 0
    refine ⟨⟨fit_n (by decide) (by decide), by decide, by decide⟩, ⟨fit_n (by decide) (by decide), by decide, by decide⟩, by decide, fits_n (by decide) (by decide) (by omega) (by omega), _, rfl, _, _, _, rfl, by omega, by omega, by omega, by omega⟩
theorem dl2_at {v : Int} (h0 : 0 ≤ v) (h1 : v < 2) : ∃ c, L2.atI ("DL" : Str).cps.toList v = some c ∧ Dt.str ⟨#[c]⟩ = sD (decide (v = 0)) := by
  rcases (show v = 0 ∨ v = 1 by omega) with rfl | rfl
  · exact ⟨68, rfl, rfl⟩
  · exact ⟨76, rfl, rfl⟩
theorem pick2 {d0 d1 : Dt} {v : Int} (h0 : 0 ≤ v) (h1 : v < 2) : L2.atI [d0, d1] v = some (if v = 0 then d0 else d1) := by
  rcases (show v = 0 ∨ v = 1 by omega) with rfl | rfl <;> rfl
theorem pick4 {d0 d1 d2 d3 : Dt} {v : Int} (h0 : 0 ≤ v) (h1 : v < 4) : L2.atI [d0, d1, d2, d3] v = some (if v = 0 then d0 else if v = 1 then d1 else if v = 2 then d2 else d3) := by
  rcases (show v = 0 ∨ v = 1 ∨ v = 2 ∨ v = 3 by omega) with rfl | rfl | rfl | rfl <;> rfl
theorem alt_addL {xs : List Run} {r : Run} (h : Alt xs) (hl : ∀ a, xs.getLast? = some a → a.1 ≠ r.1) : Alt (xs ++ [r]) := by
  rcases List.eq_nil_or_concat xs with rfl | ⟨ys, a, rfl⟩
  · trivial
  · rw [List.concat_eq_append] at h ⊢
    rw [List.append_assoc]
    exact alt_snoc h (hl a (by simp))
theorem strand1_ok {s : List Dt} {m w k : Int} (hS : Sd k s) (hk : k ≤ 500000) (h1 : 1 ≤ m) (h2 : m ≤ 100) (w1 : 1 ≤ w) (w2 : w ≤ 10 ^ 90) : Wp (F_law_strand_k02 [.io s, .frz (.int m), .frz (.int w)]) fun q => ∃ (xs : List Run) (s' : List Dt), q = (.val (sT xs), [.io s', .any, .any]) ∧ Good xs ∧ (xs.length : Int) ≤ m ∧ (∀ r ∈ xs, r.2 ≤ 3 + w) ∧ Sd (k + 500) s' := by
  refine w_fn rfl ?_
  unfold g_law_strand_k02
  simp only [List.replicate, List.cons_append, List.nil_append]
  bv_omega
  refine wp_callD rfl rfl (Wp.imp (draw1_ok (b := 2) hS (by omega) (by decide) (by decide)) ?_)
  rintro _ ⟨a, s1, rfl, a0, a1, hS1⟩
  refine ⟨rfl, by first | exact .inl rfl | exact .inr rfl, rfl, ?_⟩
  simp only [putBack, back1]
  bv_omega
  refine wp_callD rfl rfl (Wp.imp (draw1_ok (b := m) hS1 (by omega) h1 (by omega)) ?_)
  rintro _ ⟨n0, s2, rfl, n1, n2, hS2⟩
  refine ⟨rfl, by first | exact .inl rfl | exact .inr rfl, rfl, ?_⟩
  simp only [putBack, back1]
  bv_omega
  refine wp_callD rfl rfl (Wp.imp (draw1_ok (b := 8) hS2 (by omega) (by decide) (by decide)) ?_)
  rintro _ ⟨e, s3, rfl, e1, e2, hS3⟩
  refine ⟨rfl, by first | exact .inl rfl | exact .inr rfl, rfl, ?_⟩
  simp only [putBack, back1]
  bv_omega
  obtain ⟨n, en, n3, n4⟩ : ∃ n, L2.atI [Dt.int (1 + n0), Dt.int m] (if decide (e = 0) = true then 1 else 0) = some (.int n) ∧ 1 ≤ n ∧ n ≤ m := by
    rw [pick2 (by split <;> omega) (by split <;> omega)]
    split
    · exact ⟨_, rfl, by omega, by omega⟩
    · exact ⟨_, rfl, by omega, by omega⟩
  rw [en]
  bv_omega
  refine ⟨by omega, ?_⟩
  refine wp_rangeT (fun st : List Dt × List Run => [.io st.1, .any, .frz (.int w), .frz (.int a), .loc (st.2.map rD), .any, .any])
    (fun i st => st.2.length = i ∧ Alt st.2 ∧ (∀ r ∈ st.2, 1 ≤ r.2 ∧ r.2 ≤ 3 + w) ∧ (∀ r, st.2.getLast? = some r → r.1 = decide ((a + i - 1) % 2 = 0)) ∧ Sd (k + 3 + 3 * i) st.1) (s3, []) ?_ (fun st hI => ?_) fun i st hi hI => ?_
  · refine ⟨rfl, trivial, ?_, ?_, ?_⟩
    · intro r h
      cases h
    · intro r h
      cases h
    · simpa [show k + 3 = k + 1 + 1 + 1 by omega] using hS3
  · obtain ⟨q1, q2, q3, q4, q5⟩ := hI
    have q6 : (st.2.length : Int) = n := by rw [q1]; omega
    bv_omega
    refine ⟨st.2, _, rfl, ⟨fun e => by rw [e] at q6; simp at q6; omega, fun r hr => (q3 r hr).1, q2, by omega⟩, by omega, fun r hr => (q3 r hr).2, q5.mono (by omega)⟩
  · obtain ⟨s4, xs⟩ := st
    obtain ⟨q1, q2, q3, q4, q5⟩ := hI
    simp only [] at q1 q2 q3 q4 q5
    bv_omega
    refine wp_callD rfl rfl (Wp.imp (draw1_ok (b := 3) q5 (by omega) (by decide) (by decide)) ?_)
    rintro _ ⟨b1, s5, rfl, c1, c2, hS5⟩
    refine ⟨rfl, by first | exact .inl rfl | exact .inr rfl, rfl, ?_⟩
    simp only [putBack, back1]
    bv_omega
    refine wp_callD rfl rfl (Wp.imp (draw1_ok (b := w) hS5 (by omega) w1 (by omega)) ?_)
    rintro _ ⟨b2, s6, rfl, c3, c4, hS6⟩
    refine ⟨rfl, by first | exact .inl rfl | exact .inr rfl, rfl, ?_⟩
    simp only [putBack, back1]
    bv_omega
    refine wp_callD rfl rfl (Wp.imp (draw1_ok (b := 4) hS6 (by omega) (by decide) (by decide)) ?_)
    rintro _ ⟨b3, s7, rfl, c5, c6, hS7⟩
    refine ⟨rfl, by first | exact .inl rfl | exact .inr rfl, rfl, ?_⟩
    simp only [putBack, back1]
    bv_omega
    obtain ⟨v, f1, f2, f3⟩ : ∃ v, L2.atI [Dt.int 1, Dt.int (1 + b1), Dt.int (1 + b2), Dt.int w] b3 = some (.int v) ∧ 1 ≤ v ∧ v ≤ 3 + w := by
      rw [pick4 c5 c6]
      split
      · exact ⟨_, rfl, by omega, by omega⟩
      · split
        · exact ⟨_, rfl, by omega, by omega⟩
        · split
          · exact ⟨_, rfl, by omega, by omega⟩
          · exact ⟨_, rfl, by omega, by omega⟩
    rw [f1]
    bv_omega
    obtain ⟨c, e4, e5⟩ := dl2_at (v := (a + (0 + (i : Int))) % 2) (by omega) (by omega)
    refine ⟨by decide, by decide, ?_⟩
    rw [e4]
    simp only [optK_some, e5]
    refine ⟨by simp; omega, (s7, xs ++ [(decide ((a + (0 + (i : Int))) % 2 = 0), v)]), by simp [rD], by simp; omega, alt_addL q2 fun r hr => ?_, fun r hr => ?_, fun r hr => ?_, ?_⟩
    · rw [q4 r hr]
      intro e
      have := decide_eq_decide.mp e
      omega
    · rcases List.mem_append.mp hr with z | z
      · exact q3 r z
      · simp at z
        subst z
        exact ⟨f2, f3⟩
    · simp at hr
      subst hr
      exact decide_eq_decide.mpr (by omega)
    · rw [show k + 3 + 3 * ((i + 1 : Nat) : Int) = k + 3 + 3 * (i : Int) + 1 + 1 + 1 by omega]
      exact hS7

end FD

namespace FD
open PySem L2 PyProof.Rows FX
local macro_rules | `(tactic| bv_omega) => `(tactic| try (simp only [wp_ok, wp_some, wp_none, wp_ofIte, wp_ofMap, wp_ofBind, optK_some, optK_ite, get0, get1, get2, get3, get4, get5, get6, get7, get8, get9, getS, put0, put1, put2, put3, put4, put5, put6, put7, put8, put9, putS, w_var, varK_frz, varK_loc, varK_io, w_c, w_bin, w_bin2, bin3_some, deref_val, deref_own, deref_ref, seen_loc, seen_io, seen_frz, map_some, FX.bind_some, w_un, w_un1, un2_some, w_anil, w_acons, w_blt, w_blt1, blt2_some, derefs_nil, derefs_cons, w_met, w_met0, w_met1, met2_some, w_call, w_callK, w_lst, w_tup, w_slice, w_onone, w_osome, w_osome1, w_tst, w_tst1, w_tst1i, w_tstB, w_tstB1, w_not, chz_t, chz_f, chz_not, w_orD, w_andD, w_orV, w_andV, w_notV, w_eIf, w_seq, seqK_nx, seqK_rt, seqK_bk, seqK_ct, w_nx, w_bk, w_ct, w_bad, w_if, w_ret, retK_val, retK_own, retK_ref, retK2_loc, w_retN, w_set, setK_val, setK_own, w_setS, setS2_frz, setS2_any, setS2_loc, w_expr, layS_eq, layK_frz, layK_any, layK_loc, layKo_frz, layKo_any, layKo_loc, parK_some, w_par2, w_par2K, w_par3, w_par3K, w_tgt, tgtK_val, bName_eq, nameK_frz, nameK_any, nameK_loc, bTup_tup, bCons_eq, bNil_eq, w_aug, augK_frz, augK2_val, augK2_own, w_setIx, w_sixK0, w_sixK1, w_sixK2, ixsK_loc, ixsK_io, w_mut, w_mut0, w_mut1, mutK_app_loc, mutK_app_io, freezes_nil, freezes_val, freezes_own, freezes_ref, freeze_ref, frz1K_loc, freeze_val, freeze_own, w_for, turnK_nx, turnK_ct, turnK_bk, turnK_rt, w_rng, iterK_some, iterK_ite, w_frzI, w_seqI, w_comp, w_yes, outK_rt, outK_nx, outS_nil, outS_frz, outS_io, wipe_nil, wipe_cons, ix3_0, ix3_1, ix3_2, at3_0, at3_1, at3_2, at2_0, at2_1, at4_0, at4_1, at4_2, at4_3, set3_0, set3_1, set3_2, isN_int, isN_non, isNN_int, isNN_non, isi_int, isi_intB, isi_tup, isi_str, isi_lst, is_bl, isNot_bl, seqD_lst, seqD_tup, seqD_scr, w_fz, fzK_val, fzK_own, fzK_ref, eqD_int, neD_int, eqD_bl, neD_bl, eq_self, scountD_str, tupleD_lst, tupleD_tup, listD_lst, listD_tup, intD_bl, allInts_map, allBls_map, sliceD_lst, sliceD_tup, countD_lst, allD_lst, anyD_lst, sumD_one, maxD_one, minD_one, intsOf_lst, intsOf_scr, pick_nil, pick_cons, pickC_some, List.nil_append, List.cons_append, notInD_two, inD_two, addD_int, wp_addLst, wp_addTup, wp_addStr, wp_lenStr, wp_sliceStr, wp_ixStr, subD_int, mulD_int, fdivD_int, modD_int, powD_int, ltD_int, leD_int, gtD_int, geD_int, ixD_lst, ixD_tup, ixD_scr, negD_int, lenD_lst, lenD_tup, lenD_scr, absD_int, intD_int, iterK_rng1, iterK_rng2, enumD_lst, zipD_lst, zipD_tup, maxD_two, minD_two, augAddD_int, Bool.not_true, Bool.not_false, decide_true, decide_false, reduceCtorEq, true_and, and_true, not_false_eq_true, w_chain, w_chainK, w_wipe, wipeF_nx, wipeF_bk, wipeF_ct, wipeF_rt, w_pre, w_iwipe, w_emp, wp_listRng1, wp_listRng2, indexD_lst, revD_lst, wp_strI, wp_repr, wp_sorted, wp_sortedSet, zipL_maps, enumL_maps, seqD_str, len0, len1, len2, len3, len4, few0, few1, few2, few3, few4, few5, few6, turnK_nx, loop_nil, mutK_loc, mutK_io, appU1, extU1, popU0, popAtU1, optK_map, optK_bind, Nat.reduceEqDiff, w_mov, movK_frz, movK_loc, w_comp2, eqT0D_tup, revA_lst, revA_tup]))
local macro_rules | `(tactic| ac_nf) => `(tactic| repeat (refine ⟨by first | decide | omega | (simp; done) | (simp; omega), ?_⟩))
/-! ### values of any kind -/
def isI (d : Dt) (a : Int) (hi : Option Int) : Bool := match d with
  | .int v => decide (a ≤ v) && (match hi with
    | none => true
    | some b => decide (v ≤ b))
  | _ => false
def hiD : Option Int → Dt
  | none => .non
  | some b => .int b
theorem isint_any {d : Dt} {a : Int} {hi : Option Int} : Wp (F_is_integer [.frz d, .frz (.int a), .frz (hiD hi)]) fun q => q = (.val (.bl (isI d a hi)), [.any, .any, .any]) := by
  refine w_fn rfl ?_
  unfold g_is_integer
  simp only [List.replicate, List.append_nil]
  bv_omega
  simp only [isi_intA]
  cases d with
  | int v =>
    simp only [Dt.is_int]
    bv_omega
    refine wp_chzD (fun hp => ?_) fun hp => ?_
    · bv_omega
      rw [show isI (.int v) a hi = false by unfold isI; simp; omega]
    · bv_omega
      cases hi with
      | none =>
        simp only [hiD]
        bv_omega
        rw [show isI (.int v) a none = true by unfold isI; simp; omega]
      | some b =>
        simp only [hiD]
        bv_omega
        rw [show isI (.int v) a (some b) = decide (v ≤ b) by unfold isI; simp; omega]
  | bl v =>
    simp only [Dt.is_int]
    bv_omega
    simp only [isi_boolA, Dt.is_bool]
    bv_omega
    rfl
  | non => simp only [Dt.is_int]; bv_omega; rfl
  | str v => simp only [Dt.is_int]; bv_omega; rfl
  | tup v => simp only [Dt.is_int]; bv_omega; rfl
  | lst v => simp only [Dt.is_int]; bv_omega; rfl
  | scr v => simp only [Dt.is_int]; bv_omega; rfl
  | emp => simp only [Dt.is_int]; bv_omega; rfl
/-- a bv_omega of a strand -/
def isR2 (n : Dt) : Dt → Bool
  | .str s => (("D" : Str) == s || ("L" : Str) == s) && isI n 1 none
  | _ => false
def isRl : List Dt → Bool
  | [a, b] => isR2 b a
  | _ => false
def isR : Dt → Bool
  | .tup ds => isRl ds
  | _ => false
theorem isrun_any {d : Dt} : Wp (F_is_run [.frz d]) fun q => q = (.val (.bl (isR d)), [.any]) := by
  refine w_fn rfl ?_
  unfold g_is_run
  simp only [List.replicate, List.append_nil]
  bv_omega
  simp only [isi_tupleA]
  cases d with
  | tup ds =>
    simp only [Dt.is_tuple]
    bv_omega
    have bad : ds.length ≠ 2 → isR (.tup ds) = false := fun h => by
      match ds, h with
      | [], _ => rfl
      | [a], _ => rfl
      | [a, b], h => exact absurd rfl h
      | a :: b :: c :: r, _ => rfl
    refine wp_chzD (fun hp => ?_) fun hp => ?_
    · obtain ⟨a, b, rfl⟩ : ∃ a b, ds = [a, b] := by
        match ds, hp with
        | [a, b], _ => exact ⟨a, b, rfl⟩
        | [], h => simp at h
        | [a], h => simp at h
        | a :: b :: c :: r, h => simp at h; omega
      bv_omega
      simp only [isi_strA]
      cases a with
      | str z =>
        simp only [Dt.is_str]
        bv_omega
        have e : inD (.str z) (.tup [.str "D", .str "L"]) = some (.val (.bl (("D" : Str) == z || ("L" : Str) == z))) := by
          unfold inD
          have : inX (.str z) (.tup [.str "D", .str "L"]) = some (inF (.str z) [.str "D", .str "L"]) := rfl
          rw [this]
          unfold inF eqF
          simp
        rw [e]
        bv_omega
        have e2 : isR (.tup [.str z, b]) = ((("D" : Str) == z || ("L" : Str) == z) && isI b 1 none) := rfl
        rw [e2]
        cases c : (("D" : Str) == z || ("L" : Str) == z)
        · bv_omega
          rfl
        · bv_omega
          refine wp_callD rfl rfl (Wp.imp (isint_any (d := b) (a := 1) (hi := none)) ?_)
          rintro _ rfl
          refine ⟨rfl, by first | exact .inl rfl | exact .inr rfl, rfl, ?_⟩
          simp only [putBack, back1]
          bv_omega
          rfl
      | non => simp only [Dt.is_str]; bv_omega; rfl
      | bl v => simp only [Dt.is_str]; bv_omega; rfl
      | int v => simp only [Dt.is_str]; bv_omega; rfl
      | tup v => simp only [Dt.is_str]; bv_omega; rfl
      | lst v => simp only [Dt.is_str]; bv_omega; rfl
      | scr v => simp only [Dt.is_str]; bv_omega; rfl
      | emp => simp only [Dt.is_str]; bv_omega; rfl
    · bv_omega
      rw [bad (by omega)]
  | non => simp only [Dt.is_tuple]; bv_omega; rfl
  | bl v => simp only [Dt.is_tuple]; bv_omega; rfl
  | int v => simp only [Dt.is_tuple]; bv_omega; rfl
  | str v => simp only [Dt.is_tuple]; bv_omega; rfl
  | lst v => simp only [Dt.is_tuple]; bv_omega; rfl
  | scr v => simp only [Dt.is_tuple]; bv_omega; rfl
  | emp => simp only [Dt.is_tuple]; bv_omega; rfl
/-- the bv_omega that a value is -/
def toRun : Dt → Run
  | .tup ds => (match ds with
    | [a, b] => ((match a with
      | .str s => ("D" : Str) == s
      | _ => false), (match b with
      | .int n => n
      | _ => 0))
    | _ => (false, 0))
  | _ => (false, 0)
theorem toRun_rD {r : Run} : toRun (rD r) = r := by
  obtain ⟨c, n⟩ := r
  cases c <;> rfl
theorem isR_rD {r : Run} : isR (rD r) = decide (1 ≤ r.2) := by
  obtain ⟨c, n⟩ := r
  show ((("D" : Str) == _ || ("L" : Str) == _) && (decide (1 ≤ n) && true)) = _
  cases c
  · rw [show ((("D" : Str) == (if false = true then ("D" : Str) else "L")) || (("L" : Str) == (if false = true then ("D" : Str) else "L"))) = true by decide]
    simp
  · rw [show ((("D" : Str) == (if true = true then ("D" : Str) else "L")) || (("L" : Str) == (if true = true then ("D" : Str) else "L"))) = true by decide]
    simp
theorem isR_of {d : Dt} (h : isR d = true) : d = rD (toRun d) ∧ 1 ≤ (toRun d).2 := by
  cases d with
  | tup ds =>
    match ds, h with
    | [], h => cases h
    | [a], h => cases h
    | a :: b :: c :: r, h => cases h
    | [a, b], h =>
      cases a with
      | str z =>
        have h : ((("D" : Str) == z || ("L" : Str) == z) && isI b 1 none) = true := h
        rw [Bool.and_eq_true, Bool.or_eq_true] at h
        obtain ⟨h1, h2⟩ := h
        cases b with
        | int n =>
          have h2 : (decide (1 ≤ n) && true) = true := h2
          simp at h2
          refine ⟨?_, h2⟩
          rcases h1 with h1 | h1
          · have := (beq_iff_eq (a := ("D" : Str))).mp h1
            subst this
            rfl
          · have := (beq_iff_eq (a := ("L" : Str))).mp h1
            subst this
            rfl
        | non => cases h2
        | bl v => cases h2
        | str v => cases h2
        | tup v => cases h2
        | lst v => cases h2
        | scr v => cases h2
        | emp => cases h2
      | non => cases h
      | bl v => cases h
      | int v => cases h
      | tup v => cases h
      | lst v => cases h
      | scr v => cases h
      | emp => cases h
  | non => cases h
  | bl v => cases h
  | int v => cases h
  | str v => cases h
  | lst v => cases h
  | scr v => cases h
  | emp => cases h
theorem allR_of : ∀ {ds : List Dt}, ds.all isR = true → ds = (ds.map toRun).map rD ∧ Pos (ds.map toRun)
  | [], _ => ⟨rfl, fun r h => by cases h⟩
  | d :: ds, h => by
    rw [List.all_cons, Bool.and_eq_true] at h
    obtain ⟨h1, h2⟩ := isR_of h.1
    obtain ⟨h3, h4⟩ := allR_of (ds := ds) h.2
    refine ⟨?_, fun r hr => ?_⟩
    · rw [List.map_cons, List.map_cons, ← h1, ← h3]
    · rcases List.mem_cons.mp hr with e | e
      · rw [e]; exact h2
      · exact h4 r e
def altB : List Run → Bool
  | a :: b :: r => (a.1 != b.1) && altB (b :: r)
  | _ => true
theorem altB_iff : ∀ {xs : List Run}, altB xs = true ↔ Alt xs
  | [] => ⟨fun _ => trivial, fun _ => rfl⟩
  | [a] => ⟨fun _ => trivial, fun _ => rfl⟩
  | a :: b :: r => by
    unfold altB Alt
    rw [Bool.and_eq_true, altB_iff (xs := b :: r)]
    simp
theorem altB_zip : ∀ {xs : List Run}, altB xs = (xs.zip xs.tail).all fun p => p.1.1 != p.2.1
  | [] => rfl
  | [a] => rfl
  | a :: b :: r => by
    have := altB_zip (xs := b :: r)
    unfold altB
    rw [this]
    simp
/-- a strand -/
def isS : Dt → Bool
  | .tup ds => !ds.isEmpty && (ds.all isR && altB (ds.map toRun))
  | _ => false
theorem isS_of {d : Dt} (h : isS d = true) : ∃ xs, d = sT xs ∧ xs ≠ [] ∧ Pos xs ∧ Alt xs := by
  cases d with
  | tup ds =>
    have h : (!ds.isEmpty && (ds.all isR && altB (ds.map toRun))) = true := h
    rw [Bool.and_eq_true, Bool.and_eq_true] at h
    obtain ⟨h1, h2, h3⟩ := h
    obtain ⟨e, hp⟩ := allR_of h2
    refine ⟨ds.map toRun, ?_, fun z => ?_, hp, altB_iff.mp h3⟩
    · unfold sT; rw [← e]
    · have : ds = [] := by simpa using z
      rw [this] at h1
      cases h1
  | non => cases h
  | bl v => cases h
  | int v => cases h
  | str v => cases h
  | lst v => cases h
  | scr v => cases h
  | emp => cases h
theorem isS_sT {xs : List Run} : isS (sT xs) = true ↔ xs ≠ [] ∧ Pos xs ∧ Alt xs := by
  have e : (xs.map rD).map toRun = xs := by rw [List.map_map]; exact (List.map_congr_left fun r _ => toRun_rD).trans (List.map_id _)
  show (!(xs.map rD).isEmpty && ((xs.map rD).all isR && altB ((xs.map rD).map toRun))) = true ↔ _
  rw [Bool.and_eq_true, Bool.and_eq_true, e, altB_iff, List.all_eq_true]
  constructor
  · rintro ⟨h1, h2, h3⟩
    refine ⟨fun z => ?_, fun r hr => ?_, h3⟩
    · rw [z] at h1; cases h1
    · have := h2 (rD r) (List.mem_map.mpr ⟨r, hr, rfl⟩)
      rw [isR_rD] at this
      exact of_decide_eq_true this
  · rintro ⟨h1, h2, h3⟩
    refine ⟨?_, fun d hd => ?_, h3⟩
    · cases xs with
      | nil => exact absurd rfl h1
      | cons x xs => rfl
    · obtain ⟨r, hr, rfl⟩ := List.mem_map.mp hd
      rw [isR_rD]
      exact decide_eq_true (h2 r hr)
/-- how many items a tuple has -/
def tlen : Dt → Nat
  | .tup ds => ds.length
  | _ => 0
theorem isstrand_any {d : Dt} (hz : tlen d ≤ 100000) : Wp (F_is_strand [.frz d]) fun q => q = (.val (.bl (isS d)), [.any]) := by
  refine w_fn rfl ?_
  unfold g_is_strand
  simp only [List.replicate, List.cons_append, List.nil_append]
  bv_omega
  simp only [isi_tupleA]
  cases d with
  | tup ds =>
    simp only [Dt.is_tuple]
    have hz : ds.length ≤ 100000 := hz
    have es : isS (.tup ds) = (!ds.isEmpty && (ds.all isR && altB (ds.map toRun))) := rfl
    rw [es]
    bv_omega
    cases c1 : ds.isEmpty
    · bv_omega
      refine ⟨by omega, ?_⟩
      rw [show compD (bName 3) cYes (eCall [false] F_is_run (aCons (eVar 3) aNil)) [3] ds = compD (bName 3) cYes (eCall [false] F_is_run (aCons (eVar 3) aNil)) [3] (ds.map id) by rw [List.map_id]]
      refine wp_compT id ds (fun d => .bl (isR d)) (fun d hd => ?_) ?_
      · simp only [id]
        bv_omega
        refine wp_callD rfl rfl (Wp.imp (isrun_any (d := d)) ?_)
        rintro _ rfl
        refine ⟨rfl, by first | exact .inl rfl | exact .inr rfl, rfl, ?_⟩
        simp only [putBack, back1]
        bv_omega
      rw [show (ds.map fun d => Dt.bl (isR d)) = (ds.map isR).map Dt.bl by rw [List.map_map]; rfl]
      bv_omega
      rw [show (ds.map isR).all id = ds.all isR by rw [List.all_map]; rfl]
      cases c2 : ds.all isR
      · bv_omega
        rfl
      · obtain ⟨e, hp⟩ := allR_of c2
        bv_omega
        rw [show Dt.tup ds = sT (ds.map toRun) by unfold sT; rw [← e]]
        generalize hx : ds.map toRun = xs at *
        have lx : xs.length = ds.length := by rw [← hx]; simp
        unfold sT
        bv_omega
        rw [e, cutL_tail]
        bv_omega
        refine ⟨by simp; omega, ?_⟩
        refine wp_compT _ _ (fun p : Run × Run => .bl (p.1.1 != p.2.1)) (fun p hp => ?_) ?_
        · bv_omega
          simp only [rD]
          bv_omega
          rw [ne_sD2]
          bv_omega
        rw [show ((xs.zip xs.tail).map fun p : Run × Run => Dt.bl (p.1.1 != p.2.1)) = ((xs.zip xs.tail).map fun p : Run × Run => (p.1.1 != p.2.1)).map Dt.bl by rw [List.map_map]; rfl]
        bv_omega
        rw [altB_zip, List.all_map]
        rfl
    · bv_omega
      rfl
  | non => simp only [Dt.is_tuple]; bv_omega; rfl
  | bl v => simp only [Dt.is_tuple]; bv_omega; rfl
  | int v => simp only [Dt.is_tuple]; bv_omega; rfl
  | str v => simp only [Dt.is_tuple]; bv_omega; rfl
  | lst v => simp only [Dt.is_tuple]; bv_omega; rfl
  | scr v => simp only [Dt.is_tuple]; bv_omega; rfl
  | emp => simp only [Dt.is_tuple]; bv_omega; rfl

end FD

namespace FD
open PySem L2 PyProof.Rows FX
local macro_rules | `(tactic| bv_omega) => `(tactic| try (simp only [wp_ok, wp_some, wp_none, wp_ofIte, wp_ofMap, wp_ofBind, optK_some, optK_ite, get0, get1, get2, get3, get4, get5, get6, get7, get8, get9, getS, put0, put1, put2, put3, put4, put5, put6, put7, put8, put9, putS, w_var, varK_frz, varK_loc, varK_io, w_c, w_bin, w_bin2, bin3_some, deref_val, deref_own, deref_ref, seen_loc, seen_io, seen_frz, map_some, FX.bind_some, w_un, w_un1, un2_some, w_anil, w_acons, w_blt, w_blt1, blt2_some, derefs_nil, derefs_cons, w_met, w_met0, w_met1, met2_some, w_call, w_callK, w_lst, w_tup, w_slice, w_onone, w_osome, w_osome1, w_tst, w_tst1, w_tst1i, w_tstB, w_tstB1, w_not, chz_t, chz_f, chz_not, w_orD, w_andD, w_orV, w_andV, w_notV, w_eIf, w_seq, seqK_nx, seqK_rt, seqK_bk, seqK_ct, w_nx, w_bk, w_ct, w_bad, w_if, w_ret, retK_val, retK_own, retK_ref, retK2_loc, w_retN, w_set, setK_val, setK_own, w_setS, setS2_frz, setS2_any, setS2_loc, w_expr, layS_eq, layK_frz, layK_any, layK_loc, layKo_frz, layKo_any, layKo_loc, parK_some, w_par2, w_par2K, w_par3, w_par3K, w_tgt, tgtK_val, bName_eq, nameK_frz, nameK_any, nameK_loc, bTup_tup, bCons_eq, bNil_eq, w_aug, augK_frz, augK2_val, augK2_own, w_setIx, w_sixK0, w_sixK1, w_sixK2, ixsK_loc, ixsK_io, w_mut, w_mut0, w_mut1, mutK_app_loc, mutK_app_io, freezes_nil, freezes_val, freezes_own, freezes_ref, freeze_ref, frz1K_loc, freeze_val, freeze_own, w_for, turnK_nx, turnK_ct, turnK_bk, turnK_rt, w_rng, iterK_some, iterK_ite, w_frzI, w_seqI, w_comp, w_yes, outK_rt, outK_nx, outS_nil, outS_frz, outS_io, wipe_nil, wipe_cons, ix3_0, ix3_1, ix3_2, at3_0, at3_1, at3_2, at2_0, at2_1, at4_0, at4_1, at4_2, at4_3, set3_0, set3_1, set3_2, isN_int, isN_non, isNN_int, isNN_non, isi_int, isi_intB, isi_tup, isi_str, isi_lst, is_bl, isNot_bl, seqD_lst, seqD_tup, seqD_scr, w_fz, fzK_val, fzK_own, fzK_ref, eqD_int, neD_int, eqD_bl, neD_bl, eq_self, scountD_str, tupleD_lst, tupleD_tup, listD_lst, listD_tup, intD_bl, allInts_map, allBls_map, sliceD_lst, sliceD_tup, countD_lst, allD_lst, anyD_lst, sumD_one, maxD_one, minD_one, intsOf_lst, intsOf_scr, pick_nil, pick_cons, pickC_some, List.nil_append, List.cons_append, notInD_two, inD_two, addD_int, wp_addLst, wp_addTup, wp_addStr, wp_lenStr, wp_sliceStr, wp_ixStr, subD_int, mulD_int, fdivD_int, modD_int, powD_int, ltD_int, leD_int, gtD_int, geD_int, ixD_lst, ixD_tup, ixD_scr, negD_int, lenD_lst, lenD_tup, lenD_scr, absD_int, intD_int, iterK_rng1, iterK_rng2, enumD_lst, zipD_lst, zipD_tup, maxD_two, minD_two, augAddD_int, Bool.not_true, Bool.not_false, decide_true, decide_false, reduceCtorEq, true_and, and_true, not_false_eq_true, w_chain, w_chainK, w_wipe, wipeF_nx, wipeF_bk, wipeF_ct, wipeF_rt, w_pre, w_iwipe, w_emp, wp_listRng1, wp_listRng2, indexD_lst, revD_lst, wp_strI, wp_repr, wp_sorted, wp_sortedSet, zipL_maps, enumL_maps, seqD_str, len0, len1, len2, len3, len4, few0, few1, few2, few3, few4, few5, few6, turnK_nx, loop_nil, mutK_loc, mutK_io, appU1, extU1, popU0, popAtU1, optK_map, optK_bind, Nat.reduceEqDiff, w_mov, movK_frz, movK_loc, w_comp2, eqT0D_tup, revA_lst, revA_tup]))
local macro_rules | `(tactic| ac_nf) => `(tactic| repeat (refine ⟨by first | decide | omega | (simp; done) | (simp; omega), ?_⟩))
/-! ### ranges -/
theorem isdark_ok {xs : List Run} {p : Int} : Wp (F_is_dark_at [.frz (sT xs), .frz (.int p)]) fun q => q = (.val (.bl (bdk xs p)), [.any, .any]) := by
  refine w_fn rfl ?_
  unfold g_is_dark_at
  simp only [List.replicate, List.cons_append, List.nil_append]
  rw [sT]
  bv_omega
  refine wp_loopT (fun st : Int => [.any, .frz (.int st), .any, .any]) rD xs (fun st ys => bdk ys st = bdk xs p) p rfl (fun st h => ?_) fun st r ys h => ?_
  · bv_omega
    rw [← h]; rfl
  · obtain ⟨c, n⟩ := r
    simp only [rD]
    bv_omega
    rw [bdk] at h
    refine wp_chzD (fun hp => ?_) fun hp => ?_
    · bv_omega
      rw [eq_sD]
      bv_omega
      rw [if_pos hp] at h
      rw [h]
    · bv_omega
      rw [if_neg hp] at h
      exact ⟨_, rfl, h⟩
theorem darkof_ok {xs : List Run} {s l : Int} (h : xs.length ≤ 1000000) : Wp (F_dark_of [.frz (sT xs), .frz (.int s), .frz (.int l)]) fun q => q = (.val (.int (dOf xs s l)), [.any, .any, .any]) := by
  refine w_fn rfl ?_
  unfold g_dark_of
  simp only [List.replicate, List.cons_append, List.nil_append]
  bv_omega
  refine wp_callD rfl rfl (Wp.imp (beadsin_ok h) ?_)
  rintro _ rfl
  refine ⟨rfl, by first | exact .inl rfl | exact .inr rfl, rfl, ?_⟩
  simp only [putBack, back1]
  bv_omega
  unfold dOf
  refine wp_chzD (fun hp => ?_) fun hp => ?_
  · bv_omega
    refine wp_callD rfl rfl (Wp.imp (dup_ok) ?_)
    rintro _ rfl
    refine ⟨rfl, by first | exact .inl rfl | exact .inr rfl, rfl, ?_⟩
    simp only [putBack, back1]
    bv_omega
    refine wp_callD rfl rfl (Wp.imp (dup_ok) ?_)
    rintro _ rfl
    refine ⟨rfl, by first | exact .inl rfl | exact .inr rfl, rfl, ?_⟩
    simp only [putBack, back1]
    bv_omega
    rw [if_pos hp]
  · bv_omega
    refine wp_callD rfl rfl (Wp.imp (darktot_ok h) ?_)
    rintro _ rfl
    refine ⟨rfl, by first | exact .inl rfl | exact .inr rfl, rfl, ?_⟩
    simp only [putBack, back1]
    bv_omega
    refine wp_callD rfl rfl (Wp.imp (dup_ok) ?_)
    rintro _ rfl
    refine ⟨rfl, by first | exact .inl rfl | exact .inr rfl, rfl, ?_⟩
    simp only [putBack, back1]
    bv_omega
    refine wp_callD rfl rfl (Wp.imp (dup_ok) ?_)
    rintro _ rfl
    refine ⟨rfl, by first | exact .inl rfl | exact .inr rfl, rfl, ?_⟩
    simp only [putBack, back1]
    bv_omega
    rw [if_neg hp]
/-! the stretches on which an arc's dark beads are linear -/
/-- how they change -/
def slp (xs : List Run) (f l : Int) : Int := ind (bdk xs ((f + l) % tot xs)) - ind (bdk xs f)
theorem slp_1 (xs : List Run) (f l : Int) : -1 ≤ slp xs f l ∧ slp xs f l ≤ 1 := by
  have a := ind_01 (bdk xs ((f + l) % tot xs))
  have b := ind_01 (bdk xs f)
  unfold slp; omega
def brk (xs : List Run) (l : Int) : List Int := srtU (bords 0 xs ++ (bords 0 xs).map fun b => (b - l) % tot xs)
theorem brk_mem {xs : List Run} {l b : Int} (h : Pos xs) (ht : 1 ≤ tot xs) (hb : b ∈ brk xs l) : 0 ≤ b ∧ b < tot xs := by
  unfold brk at hb
  rw [srtU_mem] at hb
  rcases List.mem_append.mp hb with e | e
  · have := bords_mem h e; omega
  · obtain ⟨c, _, rfl⟩ := List.mem_map.mp e
    exact ⟨Int.emod_nonneg _ (by omega), Int.emod_lt_of_pos _ (by omega)⟩
theorem brk_b {xs : List Run} {l b : Int} (hb : b ∈ bords 0 xs) : b ∈ brk xs l := by
  unfold brk; rw [srtU_mem]; exact List.mem_append_left _ hb
theorem brk_c {xs : List Run} {l b : Int} (hb : b ∈ bords 0 xs) : (b - l) % tot xs ∈ brk xs l := by
  unfold brk; rw [srtU_mem]; exact List.mem_append_right _ (List.mem_map.mpr ⟨b, hb, rfl⟩)
theorem brk_srt {xs : List Run} {l : Int} : (brk xs l).Pairwise (· < ·) := srtU_srt
theorem emod_one {a n : Int} (h0 : 0 < a % n) (hn : 0 < n) : (a - 1) % n = a % n - 1 := by
  have h1 := Int.emod_lt_of_pos a hn
  have e : a = n * (a / n) + a % n := (Int.mul_ediv_add_emod a n).symm
  conv => lhs; rw [e]
  rw [show n * (a / n) + a % n - 1 = (a % n - 1) + n * (a / n) by omega, Int.add_mul_emod_self_left, Int.emod_eq_of_lt (by omega) (by omega)]
theorem lin_same {xs : List Run} {l f a : Int} (h : Pos xs) (hf : 0 ≤ f) (ha : a ≤ tot xs) (no : ∀ s, f < s → s < a → s ∉ brk xs l) : ∀ k : Nat, f + k < a → bdk xs (f + k) = bdk xs f ∧ bdk xs ((f + k + l) % tot xs) = bdk xs ((f + l) % tot xs)
  | 0, _ => by simp
  | k + 1, hk => by
    obtain ⟨i1, i2⟩ := lin_same h hf ha no k (by omega)
    have nb := no (f + (k + 1 : Nat)) (by omega) (by omega)
    have e0 : f + ((k + 1 : Nat) : Int) - 1 = f + k := by omega
    have tp : 0 < tot xs := by omega
    refine ⟨?_, ?_⟩
    · rw [bdk_same (f := 0) h (by omega) (by omega) (fun hb => nb (brk_b (by simpa using hb))), e0, i1]
    · have hm : (f + ((k + 1 : Nat) : Int) + l - 1) = f + k + l := by omega
      have key : ∀ b ∈ bords 0 xs, (f + ((k + 1 : Nat) : Int) + l) % tot xs ≠ b := by
        intro b hb e
        refine nb ?_
        have := brk_c (l := l) hb
        rw [← e, Int.emod_sub_emod, show f + ((k + 1 : Nat) : Int) + l - l = f + ((k + 1 : Nat) : Int) by omega, Int.emod_eq_of_lt (by omega) (by omega)] at this
        exact this
      have hx : xs ≠ [] := by intro e; subst e; rw [tot_nil] at tp; omega
      have p0 : 0 < (f + ((k + 1 : Nat) : Int) + l) % tot xs := by
        have := Int.emod_nonneg (f + ((k + 1 : Nat) : Int) + l) (show tot xs ≠ 0 by omega)
        have := key 0 (bords_head hx)
        omega
      have p1 := Int.emod_lt_of_pos (f + ((k + 1 : Nat) : Int) + l) tp
      rw [bdk_same (f := 0) h p0 p1 (fun hb => key _ (by simpa using hb) rfl), ← emod_one p0 tp, hm, i2]
theorem lin_dOf {xs : List Run} {l f a : Int} (h : Pos xs) (hf : 0 ≤ f) (ha : a ≤ tot xs) (hl : 0 ≤ l) (hl2 : l ≤ tot xs) (no : ∀ s, f < s → s < a → s ∉ brk xs l) : ∀ k : Nat, f + k ≤ a → f + k < tot xs → dOf xs (f + k) l = dOf xs f l + slp xs f l * k
  | 0, _, _ => by simp
  | k + 1, h1, h2 => by
    have ih := lin_dOf h hf ha hl hl2 no k (by omega) (by omega)
    obtain ⟨i1, i2⟩ := lin_same h hf ha no k (by omega)
    rw [show f + ((k + 1 : Nat) : Int) = f + k + 1 by omega, dOf_step h (by omega) (by omega) hl hl2, ih, i1, i2]
    unfold slp
    rw [Int.natCast_add, Int.mul_add]
    omega
theorem lin_at {xs : List Run} {l f a s : Int} (h : Pos xs) (hf : 0 ≤ f) (ha : a ≤ tot xs) (hl : 0 ≤ l) (hl2 : l ≤ tot xs) (no : ∀ s, f < s → s < a → s ∉ brk xs l) (h1 : f ≤ s) (h2 : s ≤ a) (h3 : s < tot xs) : dOf xs s l = dOf xs f l + slp xs f l * (s - f) := by
  have := lin_dOf h hf ha hl hl2 no (s - f).toNat (by omega) (by omega)
  rw [show f + (((s - f).toNat : Nat) : Int) = s by omega, show (((s - f).toNat : Nat) : Int) = s - f by omega] at this
  exact this
/-- neighbours, the last one with the end -/
def prs : List Int → Int → List (Int × Int)
  | [], _ => []
  | [a], n => [(a, n)]
  | a :: b :: r, n => (a, b) :: prs (b :: r) n
theorem prs_zip : ∀ (l : List Int) (n : Int), l.zip (l.tail ++ [n]) = prs l n
  | [], _ => rfl
  | [a], n => rfl
  | a :: b :: r, n => by
    have := prs_zip (b :: r) n
    simp only [List.tail_cons] at this
    simp [prs, this]
theorem prs_len : ∀ (l : List Int) (n : Int), (prs l n).length = l.length
  | [], _ => rfl
  | [a], n => rfl
  | a :: b :: r, n => by simp [prs, prs_len (b :: r) n]
/-- the rest of the breaks -/
structure Suf (xs : List Run) (l : Int) (r : List Int) : Prop where
  srt : r.Pairwise (· < ·)
  sub : ∀ b ∈ r, b ∈ brk xs l
  all : ∀ a t, r = a :: t → ∀ b ∈ brk xs l, a ≤ b → b ∈ r
theorem Suf.tail {xs : List Run} {l a : Int} {r : List Int} (h : Suf xs l (a :: r)) : Suf xs l r := by
  obtain ⟨h1, h2⟩ := List.pairwise_cons.mp h.srt
  refine ⟨h2, fun b hb => h.sub b (by simp [hb]), fun c t e b hb hc => ?_⟩
  have hac := h1 c (by rw [e]; simp)
  rcases List.mem_cons.mp (h.all a r rfl b hb (by omega)) with e2 | e2
  · omega
  · exact e2
theorem Suf.no1 {xs : List Run} {l a b : Int} {r : List Int} (h : Suf xs l (a :: b :: r)) : ∀ s, a < s → s < b → s ∉ brk xs l := by
  intro s h1 h2 hs
  obtain ⟨_, p2⟩ := List.pairwise_cons.mp h.srt
  obtain ⟨p3, _⟩ := List.pairwise_cons.mp p2
  rcases List.mem_cons.mp (h.all a _ rfl s hs (by omega)) with e | e
  · omega
  · rcases List.mem_cons.mp e with e | e
    · omega
    · have := p3 s e; omega
theorem Suf.no2 {xs : List Run} {l a : Int} (h : Suf xs l [a]) (n : Int) : ∀ s, a < s → s < n → s ∉ brk xs l := by
  intro s h1 h2 hs
  rcases List.mem_cons.mp (h.all a _ rfl s hs (by omega)) with e | e
  · omega
  · cases e
theorem Suf.brk {xs : List Run} {l : Int} : Suf xs l (brk xs l) := by
  refine ⟨brk_srt, fun _ h => h, fun _ _ _ _ h _ => h⟩
/-- a stretch as the program tells it -/
def pcT (xs : List Run) (l : Int) (p : Int × Int) : Dt := .tup [.int p.1, .int (p.2 - 1), .int (dOf xs p.1 l), .int (slp xs p.1 l)]
def pcs (xs : List Run) (l : Int) : List (Int × Int) := prs (brk xs l) (tot xs)
theorem brk_len {xs : List Run} {l : Int} : (brk xs l).length ≤ 2 * xs.length := by
  unfold brk
  have go : ∀ (y : Int) (z : List Int), (insU y z).length ≤ z.length + 1 := by
    intro y z
    induction z with
    | nil => simp [insU]
    | cons w z ih =>
      unfold insU
      split
      · simp
      · split
        · simp
        · simp; omega
  have go2 : ∀ z : List Int, (srtU z).length ≤ z.length := by
    intro z
    induction z with
    | nil => simp [srtU]
    | cons w z ih =>
      unfold srtU
      have := go w (srtU z)
      simp; omega
  have := go2 (bords 0 xs ++ (bords 0 xs).map fun b => (b - l) % tot xs)
  simp [bords_len] at this
  omega
theorem int_ind {b : Bool} : (if b = true then (1 : Int) else 0) = ind b := rfl
theorem pieces_ok {xs : List Run} {l : Int} (h : Good xs) (hz : xs.length ≤ 1500) (hb : tot xs ≤ 10 ^ 150) (hl : 0 ≤ l) (hl2 : l ≤ tot xs) : Wp (F_pieces [.frz (sT xs), .frz (.int l)]) fun q => q = (.own ((pcs xs l).map (pcT xs l)), [.any, .any]) := by
  have hp := h.pos
  have tp := h.tp
  refine w_fn rfl ?_
  unfold g_pieces
  simp only [List.replicate, List.cons_append, List.nil_append]
  bv_omega
  refine wp_callD rfl rfl (Wp.imp (beadsin_ok h.ln) ?_)
  rintro _ rfl
  refine ⟨rfl, by first | exact .inl rfl | exact .inr rfl, rfl, ?_⟩
  simp only [putBack, back1]
  bv_omega
  refine wp_callD rfl rfl (Wp.imp (borders_ok h.ne h.ln) ?_)
  rintro _ rfl
  refine ⟨rfl, by first | exact .inl rfl | exact .inr rfl, rfl, ?_⟩
  simp only [putBack, back1]
  bv_omega
  refine ⟨by simp [bords_len]; omega, ?_⟩
  refine wp_compT Dt.int _ (fun b => .int ((b - l) % tot xs)) (fun b hb => ?_) ?_
  · bv_omega
    omega
  rw [show ((bords 0 xs).map fun b => Dt.int ((b - l) % tot xs)) = ((bords 0 xs).map fun b => (b - l) % tot xs).map Dt.int by simp [List.map_map, Function.comp_def]]
  bv_omega
  refine ⟨by simp [bords_len]; omega, ?_⟩
  rw [← List.map_append]
  bv_omega
  refine ⟨by simp [bords_len]; omega, ?_⟩
  rw [show srtU (bords 0 xs ++ (bords 0 xs).map fun b => (b - l) % tot xs) = brk xs l from rfl]
  refine wp_callD rfl rfl (Wp.imp (darkof_ok h.ln) ?_)
  rintro _ rfl
  refine ⟨rfl, by first | exact .inl rfl | exact .inr rfl, rfl, ?_⟩
  simp only [putBack, back1]
  bv_omega
  rw [cutL_tail]
  have bl := brk_len (xs := xs) (l := l)
  refine ⟨by simp; omega, ?_⟩
  rw [show [Dt.int (tot xs)] = [tot xs].map Dt.int from rfl, ← List.map_append]
  bv_omega
  rw [prs_zip]
  have pl := prs_len (brk xs l) (tot xs)
  refine wp_loopT (fun st : Int × List (Int × Int) => [.frz (sT xs), .frz (.int l), .frz (.int (tot xs)), .any, .any, .frz (.int st.1), .loc (st.2.map (pcT xs l)), .any, .any, .any, .any]) (fun p : Int × Int => .tup [.int p.1, .int p.2]) (prs (brk xs l) (tot xs))
    (fun st ys => ∃ r, ys = prs r (tot xs) ∧ Suf xs l r ∧ st.2 ++ ys = pcs xs l ∧ (∀ a t, r = a :: t → st.1 = dOf xs a l)) (dOf xs 0 l, []) ?_ (fun st hI => ?_) fun st p ys hI => ?_
  · refine ⟨brk xs l, rfl, .brk, rfl, fun a t e => ?_⟩
    have : a = 0 := by
      have h0 := brk_b (l := l) (bords_head (f := 0) h.ne)
      rw [e] at h0
      have ha := brk_mem hp tp (b := a) (l := l) (by rw [e]; simp)
      rcases List.mem_cons.mp h0 with z | z
      · exact z.symm
      · have := (List.pairwise_cons.mp (e ▸ brk_srt (xs := xs) (l := l))).1 0 z; omega
    rw [this]
  · obtain ⟨r, _, _, h1, _⟩ := hI
    bv_omega
    rw [List.append_nil] at h1
    rw [h1]
  · obtain ⟨r, e, hs, h1, h2⟩ := hI
    have sm : st.2.length ≤ 1000000 := by
      have := congrArg List.length h1
      simp [pcs, prs_len] at this
      omega
    cases r with
    | nil => simp [prs] at e
    | cons a r =>
      have ha := brk_mem hp tp (hs.sub a (by simp))
      have ev := h2 a r rfl
      have pick : ∃ b r', p = (a, b) ∧ ys = prs r' (tot xs) ∧ Suf xs l r' ∧ (∀ c t, r' = c :: t → c = b) ∧ a < b ∧ b ≤ tot xs ∧ ∀ s, a < s → s < b → s ∉ brk xs l := by
        rcases r with _ | ⟨b, r⟩
        · simp only [prs] at e
          cases e
          exact ⟨tot xs, [], rfl, rfl, hs.tail, fun c t z => (nomatch z), ha.2, Int.le_refl _, hs.no2 _⟩
        · simp only [prs] at e
          cases e
          have hbm := brk_mem hp tp (hs.tail.sub b (by simp))
          refine ⟨b, b :: r, rfl, rfl, hs.tail, fun c t z => by cases z; rfl, (List.pairwise_cons.mp hs.srt).1 b (by simp), by omega, hs.no1⟩
      obtain ⟨b, r', rfl, rfl, hs', hc, hab, hbn, no⟩ := pick
      bv_omega
      refine ⟨by omega, ?_⟩
      refine wp_callD rfl rfl (Wp.imp (isdark_ok) ?_)
      rintro _ rfl
      refine ⟨rfl, by first | exact .inl rfl | exact .inr rfl, rfl, ?_⟩
      simp only [putBack, back1]
      bv_omega
      simp only [int_ind]
      refine wp_callD rfl rfl (Wp.imp (isdark_ok) ?_)
      rintro _ rfl
      refine ⟨rfl, by first | exact .inl rfl | exact .inr rfl, rfl, ?_⟩
      simp only [putBack, back1]
      bv_omega
      simp only [int_ind]
      have sl := slp_1 xs a l
      refine ⟨by simpa using Nat.lt_of_le_of_lt sm (by decide), ?_⟩
      rw [show ind (bdk xs ((a + l) % tot xs)) - ind (bdk xs a) = slp xs a l from rfl]
      refine ⟨fits_n (by omega) (by omega) (by omega) (by omega), (st.1 + slp xs a l * (b - a), st.2 ++ [(a, b)]), ?_, r', rfl, hs', by rw [← h1]; simp, fun c t z => ?_⟩
      · simp [pcT, ev]
      · have := hc c t z
        subst this
        have hcm := brk_mem hp tp (hs'.sub c (by rw [z]; simp))
        rw [lin_at hp ha.1 hbn hl hl2 no (by omega) (by omega) hcm.2, ev]
/-! ### the least and the greatest -/
structure Rng (xs : List Run) (l lo hi : Int) : Prop where
  all : ∀ s, 0 ≤ s → s < tot xs → lo ≤ dOf xs s l ∧ dOf xs s l ≤ hi
  lo : ∃ s, 0 ≤ s ∧ s < tot xs ∧ dOf xs s l = lo
  hi : ∃ s, 0 ≤ s ∧ s < tot xs ∧ dOf xs s l = hi
theorem Rng.unique {xs : List Run} {l lo hi lo' hi' : Int} (h : Rng xs l lo hi) (h' : Rng xs l lo' hi') : lo = lo' ∧ hi = hi' := by
  obtain ⟨s, a1, a2, a3⟩ := h.lo
  obtain ⟨t, b1, b2, b3⟩ := h.hi
  obtain ⟨s', c1, c2, c3⟩ := h'.lo
  obtain ⟨t', d1, d2, d3⟩ := h'.hi
  have := h.all s' c1 c2
  have := h.all t' d1 d2
  have := h'.all s a1 a2
  have := h'.all t b1 b2
  omega
/-- the values at the ends of the stretches -/
def ends (xs : List Run) (l : Int) : List (Int × Int) → List Int
  | [] => []
  | p :: ps => dOf xs p.1 l :: (dOf xs p.1 l + slp xs p.1 l * (p.2 - 1 - p.1)) :: ends xs l ps
theorem ends_app (xs : List Run) (l : Int) : ∀ ps qs, ends xs l (ps ++ qs) = ends xs l ps ++ ends xs l qs
  | [], _ => rfl
  | p :: ps, qs => by simp [ends, ends_app xs l ps qs]
theorem ends_len (xs : List Run) (l : Int) : ∀ ps, (ends xs l ps).length = 2 * ps.length
  | [] => rfl
  | p :: ps => by simp [ends, ends_len xs l ps]; omega
/-- a stretch of the pieces -/
structure Pc (xs : List Run) (l : Int) (p : Int × Int) : Prop where
  a0 : 0 ≤ p.1
  ab : p.1 < p.2
  bn : p.2 ≤ tot xs
  no : ∀ s, p.1 < s → s < p.2 → s ∉ brk xs l
theorem prs_pc {xs : List Run} {l : Int} (hp : Pos xs) (tp : 1 ≤ tot xs) : ∀ {r : List Int}, Suf xs l r → ∀ p ∈ prs r (tot xs), Pc xs l p
  | [], _, p, h => by simp [prs] at h
  | [a], hs, p, h => by
    have ha := brk_mem hp tp (hs.sub a (by simp))
    simp [prs] at h
    subst h
    exact ⟨ha.1, ha.2, Int.le_refl _, hs.no2 _⟩
  | a :: b :: r, hs, p, h => by
    have ha := brk_mem hp tp (hs.sub a (by simp))
    have hb := brk_mem hp tp (hs.tail.sub b (by simp))
    simp only [prs, List.mem_cons] at h
    rcases h with rfl | h
    · exact ⟨ha.1, (List.pairwise_cons.mp hs.srt).1 b (by simp), Int.le_of_lt hb.2, hs.no1⟩
    · exact prs_pc hp tp hs.tail p h
theorem pcs_pc {xs : List Run} {l : Int} (hp : Pos xs) (tp : 1 ≤ tot xs) : ∀ p ∈ pcs xs l, Pc xs l p := prs_pc hp tp .brk
/-- each place lies in a stretch -/
theorem prs_in {xs : List Run} {l s n : Int} : ∀ {r : List Int} {a : Int} {t : List Int}, r = a :: t → a ≤ s → s < n → (∀ b ∈ r, b < n) → ∃ p ∈ prs r n, p.1 ≤ s ∧ s < p.2
  | [], _, _, e, _, _, _ => by cases e
  | [a], _, _, e, h1, h2, _ => by cases e; exact ⟨(a, n), by simp [prs], h1, h2⟩
  | a :: b :: r, _, _, e, h1, h2, h3 => by
    cases e
    by_cases c : s < b
    · exact ⟨(a, b), by simp [prs], h1, c⟩
    · obtain ⟨p, q1, q2⟩ := prs_in (xs := xs) (l := l) (r := b :: r) rfl (by omega) h2 (fun z hz => h3 z (by simp [hz]))
      exact ⟨p, by simp only [prs, List.mem_cons]; exact .inr q1, q2⟩
theorem brk_zero {xs : List Run} {l : Int} (hp : Pos xs) (hx : xs ≠ []) : ∃ t, brk xs l = 0 :: t := by
  have tp := tot_pos hp hx
  have h0 := brk_b (l := l) (bords_head (f := 0) hx)
  cases e : brk xs l with
  | nil => rw [e] at h0; cases h0
  | cons a t =>
    have ha := brk_mem hp tp (b := a) (l := l) (by rw [e]; simp)
    rw [e] at h0
    rcases List.mem_cons.mp h0 with z | z
    · exact ⟨t, by rw [z]⟩
    · have := (List.pairwise_cons.mp (e ▸ brk_srt (xs := xs) (l := l))).1 0 z; omega
theorem pcs_in {xs : List Run} {l s : Int} (hp : Pos xs) (hx : xs ≠ []) (h0 : 0 ≤ s) (h1 : s < tot xs) : ∃ p ∈ pcs xs l, p.1 ≤ s ∧ s < p.2 := by
  obtain ⟨t, e⟩ := brk_zero (l := l) hp hx
  exact prs_in (xs := xs) (l := l) e h0 h1 fun b hb => (brk_mem hp (tot_pos hp hx) hb).2
theorem mul_between {d k m v : Int} (h0 : 0 ≤ k) (h1 : k ≤ m) : (d * k ≤ 0 ∨ d * k ≤ d * m) ∧ (0 ≤ d * k ∨ d * m ≤ d * k) := by
  rcases Int.le_total 0 d with hd | hd
  · have := Int.mul_le_mul_of_nonneg_left h1 hd
    have := Int.mul_nonneg hd h0
    omega
  · have := Int.mul_le_mul_of_nonpos_left hd h1
    have := Int.mul_nonpos_of_nonpos_of_nonneg hd h0
    omega
theorem ends_mem {xs : List Run} {l v : Int} : ∀ {ps : List (Int × Int)}, v ∈ ends xs l ps ↔ ∃ p ∈ ps, v = dOf xs p.1 l ∨ v = dOf xs p.1 l + slp xs p.1 l * (p.2 - 1 - p.1)
  | [] => by simp [ends]
  | p :: ps => by
    simp only [ends, List.mem_cons, ends_mem (ps := ps)]
    constructor
    · rintro (h | h | ⟨q, h1, h2⟩)
      · exact ⟨p, .inl rfl, .inl h⟩
      · exact ⟨p, .inl rfl, .inr h⟩
      · exact ⟨q, .inr h1, h2⟩
    · rintro ⟨q, rfl | h1, h2⟩
      · rcases h2 with h2 | h2
        · exact .inl h2
        · exact .inr (.inl h2)
      · exact .inr (.inr ⟨q, h1, h2⟩)
theorem rng_of {xs : List Run} {l lo hi : Int} (h : Good xs) (hl : 0 ≤ l) (hl2 : l ≤ tot xs) (h1 : lo ∈ ends xs l (pcs xs l)) (h2 : ∀ v ∈ ends xs l (pcs xs l), lo ≤ v) (h3 : hi ∈ ends xs l (pcs xs l)) (h4 : ∀ v ∈ ends xs l (pcs xs l), v ≤ hi) : Rng xs l lo hi := by
  have hp := h.pos
  have tp := h.tp
  have at_ : ∀ v ∈ ends xs l (pcs xs l), ∃ s, 0 ≤ s ∧ s < tot xs ∧ dOf xs s l = v := by
    intro v hv
    obtain ⟨p, q1, q2⟩ := ends_mem.mp hv
    have P := pcs_pc hp tp p q1
    have := P.a0
    have := P.ab
    have := P.bn
    rcases q2 with rfl | rfl
    · exact ⟨p.1, by omega, by omega, rfl⟩
    · exact ⟨p.2 - 1, by omega, by omega, lin_at hp P.a0 P.bn hl hl2 P.no (by omega) (by omega) (by omega)⟩
  refine ⟨fun s h5 h6 => ?_, at_ _ h1, at_ _ h3⟩
  obtain ⟨p, q1, q2, q3⟩ := pcs_in (l := l) hp h.ne h5 h6
  have P := pcs_pc hp tp p q1
  rw [lin_at hp P.a0 P.bn hl hl2 P.no q2 (by omega) h6]
  have a1 := h2 _ (ends_mem.mpr ⟨p, q1, .inl rfl⟩)
  have a2 := h2 _ (ends_mem.mpr ⟨p, q1, .inr rfl⟩)
  have b1 := h4 _ (ends_mem.mpr ⟨p, q1, .inl rfl⟩)
  have b2 := h4 _ (ends_mem.mpr ⟨p, q1, .inr rfl⟩)
  have m := mul_between (d := slp xs p.1 l) (k := s - p.1) (m := p.2 - 1 - p.1) (v := 0) (by omega) (by omega)
  omega
theorem rangeat_ok {xs : List Run} {l : Int} (h : Good xs) (hz : xs.length ≤ 1500) (hb : tot xs ≤ 10 ^ 150) (hl : 0 ≤ l) (hl2 : l ≤ tot xs) : Wp (F_range_at [.frz (sT xs), .frz (.int l)]) fun q => ∃ lo hi, q = (.val (.tup [.int lo, .int hi]), [.any, .any]) ∧ Rng xs l lo hi := by
  refine w_fn rfl ?_
  unfold g_range_at
  simp only [List.replicate, List.cons_append, List.nil_append]
  bv_omega
  refine wp_callD rfl rfl (Wp.imp (pieces_ok h hz hb hl hl2) ?_)
  rintro _ rfl
  refine ⟨rfl, by first | exact .inl rfl | exact .inr rfl, rfl, ?_⟩
  simp only [putBack, back1]
  bv_omega
  have bl := brk_len (xs := xs) (l := l)
  have pl : (pcs xs l).length = (brk xs l).length := prs_len _ _
  refine wp_loopT (fun st : List (Int × Int) => [.any, .any, .loc ((ends xs l st).map Dt.int), .any, .any, .any, .any]) (pcT xs l) (pcs xs l) (fun st ys => st ++ ys = pcs xs l) [] rfl (fun st hI => ?_) fun st p ys hI => ?_
  · rw [List.append_nil] at hI
    subst hI
    obtain ⟨t, e⟩ := brk_zero (l := l) h.pos h.ne
    bv_omega
    have ne : ends xs l (pcs xs l) ≠ [] := by
      intro z
      have := congrArg List.length z
      rw [ends_len, pl, e] at this
      simp at this
    cases e1 : minL (ends xs l (pcs xs l)) with
    | none => cases e2 : ends xs l (pcs xs l) <;> rw [e2] at e1 ne <;> first | exact absurd rfl ne | cases e1
    | some lo =>
      cases e3 : maxL (ends xs l (pcs xs l)) with
      | none => cases e2 : ends xs l (pcs xs l) <;> rw [e2] at e3 ne <;> first | exact absurd rfl ne | cases e3
      | some hi =>
        bv_omega
        exact ⟨lo, hi, rfl, rng_of h hl hl2 (minL_ok e1).1 (minL_ok e1).2 (maxL_ok e3).1 (maxL_ok e3).2⟩
  · simp only [pcT]
    have P := pcs_pc h.pos h.tp p (by rw [← hI]; simp)
    have := P.a0
    have := P.ab
    have := P.bn
    have sl := slp_1 xs p.1 l
    have sm := congrArg List.length hI
    simp at sm
    bv_omega
    refine ⟨fits_n (by omega) (by omega) (by omega) (by omega), ?_⟩
    refine ⟨by simp [ends_len]; omega, st ++ [p], ?_, by simpa using hI⟩
    simp [ends_app, ends]
theorem checklength_ok {t l : Int} (h1 : 0 ≤ l) (h2 : l ≤ t) : Wp (F_check_length [.frz (.int t), .frz (.int l)]) fun q => q = (.val .non, [.any, .any]) := by
  refine w_fn rfl ?_
  unfold g_check_length
  simp only [List.replicate, List.append_nil]
  bv_omega
  refine wp_callD rfl rfl (Wp.imp (isintS_ok h1 h2) ?_)
  rintro _ rfl
  refine ⟨rfl, by first | exact .inl rfl | exact .inr rfl, rfl, ?_⟩
  simp only [putBack, back1]
  bv_omega
theorem darkrange_ok {xs : List Run} {l : Int} (h : Good xs) (hz : xs.length ≤ 1500) (hb : tot xs ≤ 10 ^ 150) (hl : 0 ≤ l) (hl2 : l ≤ tot xs) : Wp (F_dark_range [.frz (sT xs), .frz (.int l)]) fun q => ∃ lo hi, q = (.val (.tup [.int lo, .int hi]), [.any, .any]) ∧ Rng xs l lo hi := by
  refine w_fn rfl ?_
  unfold g_dark_range
  simp only [List.replicate, List.append_nil]
  bv_omega
  refine wp_callD rfl rfl (Wp.imp (check_ok h) ?_)
  rintro _ rfl
  refine ⟨rfl, by first | exact .inl rfl | exact .inr rfl, rfl, ?_⟩
  simp only [putBack, back1]
  bv_omega
  refine wp_callD rfl rfl (Wp.imp (beadsin_ok h.ln) ?_)
  rintro _ rfl
  refine ⟨rfl, by first | exact .inl rfl | exact .inr rfl, rfl, ?_⟩
  simp only [putBack, back1]
  bv_omega
  refine wp_callD rfl rfl (Wp.imp (checklength_ok hl hl2) ?_)
  rintro _ rfl
  refine ⟨rfl, by first | exact .inl rfl | exact .inr rfl, rfl, ?_⟩
  simp only [putBack, back1]
  bv_omega
  refine wp_callD rfl rfl (Wp.imp (rangeat_ok h hz hb hl hl2) ?_)
  rintro _ ⟨lo, hi, rfl, hr⟩
  refine ⟨rfl, by first | exact .inl rfl | exact .inr rfl, rfl, ?_⟩
  simp only [putBack, back1]
  bv_omega
  exact ⟨lo, hi, rfl, hr⟩
/-- the least length of an arc with so many dark beads at least -/
structure Least (xs : List Run) (d l : Int) : Prop where
  l0 : 0 ≤ l
  ln : l ≤ tot xs
  hit : ∃ s, 0 ≤ s ∧ s < tot xs ∧ d ≤ dOf xs s l
  no : ∀ m s, 0 ≤ m → m < l → 0 ≤ s → s < tot xs → dOf xs s m < d
theorem leastlength_ok {xs : List Run} {d : Int} (h : Good xs) (hz : xs.length ≤ 1500) (hb : tot xs ≤ 10 ^ 150) (hd : d ≤ dtot xs) : Wp (F_least_length [.frz (sT xs), .frz (.int d)]) fun q => ∃ l, q = (.val (.int l), [.any, .any]) ∧ Least xs d l := by
  have hp := h.pos
  have tp := h.tp
  refine w_fn rfl ?_
  unfold g_least_length
  simp only [List.replicate, List.cons_append, List.nil_append]
  bv_omega
  refine wp_callD rfl rfl (Wp.imp (beadsin_ok h.ln) ?_)
  rintro _ rfl
  refine ⟨rfl, by first | exact .inl rfl | exact .inr rfl, rfl, ?_⟩
  simp only [putBack, back1]
  bv_omega
  refine wp_whileT (fun st : Int × Int => [.frz (sT xs), .frz (.int d), .frz (.int st.1), .frz (.int st.2), .any])
    (fun st => 0 ≤ st.1 ∧ st.1 ≤ st.2 ∧ st.2 ≤ tot xs ∧ (∃ s, 0 ≤ s ∧ s < tot xs ∧ d ≤ dOf xs s st.2) ∧ ∀ m s, 0 ≤ m → m < st.1 → 0 ≤ s → s < tot xs → dOf xs s m < d)
    (fun st => if st.1 < st.2 then (st.2 - st.1).toNat.log2 + 1 else 0) (0, tot xs) ⟨by omega, by simp only []; omega, by simp, ⟨0, by omega, by omega, by rw [dOf_full hp (by omega) (by omega)]; exact hd⟩, fun m s h1 h2 => by simp only [] at h2; omega⟩ ?_ fun st hI => ?_
  · simp only []
    split
    · have h1 : (tot xs - 0).toNat.log2 < 500 := (Nat.log2_lt (by omega)).mpr (by
        have : (10 : Int) ^ 150 < ((2 ^ 500 : Nat) : Int) := by decide +kernel
        omega)
      unfold fuelN
      have : (501 : Nat) < 2 ^ 64 := by decide
      omega
    · decide
  · obtain ⟨a, b⟩ := st
    obtain ⟨h1, h2, h3, ⟨s0, g1, g2, g3⟩, h5⟩ := hI
    simp only [] at h1 h2 h3 g3 h5
    bv_omega
    by_cases c : a < b
    · refine .inr ⟨decide_eq_true c, ?_⟩
      refine ⟨⟨by omega, fit_n (by omega) (by omega)⟩, ?_⟩
      have m1 : a ≤ (a + b) / 2 := by omega
      have m2 : (a + b) / 2 < b := by omega
      refine wp_callD rfl rfl (Wp.imp (rangeat_ok h hz hb (show 0 ≤ (a + b) / 2 by omega) (by omega)) ?_)
      rintro _ ⟨lo, hi, rfl, hr⟩
      refine ⟨rfl, by first | exact .inl rfl | exact .inr rfl, rfl, ?_⟩
      simp only [putBack, back1]
      bv_omega
      have lg : ∀ k : Int, 0 < k → k ≤ (b - a) / 2 → k.toNat.log2 + 1 < (b - a).toNat.log2 + 1 := by
        intro k k0 k1
        have hk : k.toNat ≠ 0 := by omega
        have hba : (b - a).toNat ≠ 0 := by omega
        have e1 := (Nat.le_log2 hba (k := k.toNat.log2 + 1)).mpr (by
          have := Nat.log2_self_le hk
          rw [Nat.pow_succ]
          omega)
        omega
      refine wp_chzD (fun hp2 => ?_) fun hp2 => ?_
      · bv_omega
        refine ⟨(a, (a + b) / 2), rfl, ⟨h1, m1, by omega, ?_, h5⟩, ?_⟩
        · obtain ⟨s, q1, q2, q3⟩ := hr.hi
          exact ⟨s, q1, q2, by simp only []; omega⟩
        · simp only []
          rw [if_pos c]
          split
          · exact lg _ (by omega) (by omega)
          · omega
      · bv_omega
        refine ⟨((a + b) / 2 + 1, b), rfl, ⟨by simp only []; omega, by simp only []; omega, h3, ⟨s0, g1, g2, g3⟩, fun m s q1 q2 q3 q4 => ?_⟩, ?_⟩
        · simp only [] at q2
          have a1 := (dOf_mono (l := m) (m := (a + b) / 2) hp q3 q4 q1 (by omega) (by omega)).1
          have a2 := (hr.all s q3 q4).2
          omega
        · simp only []
          rw [if_pos c]
          split
          · exact lg _ (by omega) (by omega)
          · omega
    · refine .inl ⟨decide_eq_false c, ?_⟩
      have e : a = b := by omega
      subst e
      exact ⟨a, rfl, h1, h3, ⟨s0, g1, g2, g3⟩, h5⟩
/-- the least and the greatest length of an arc with so many dark beads -/
structure LenR (xs : List Run) (d l1 l2 : Int) : Prop where
  a : Least xs d l1
  b : Least xs (dtot xs - d) (tot xs - l2)
theorem lengthrange_ok {xs : List Run} {d : Int} (h : Good xs) (hz : xs.length ≤ 1500) (hb : tot xs ≤ 10 ^ 150) (hd0 : 0 ≤ d) (hd : d ≤ dtot xs) : Wp (F_length_range [.frz (sT xs), .frz (.int d)]) fun q => ∃ l1 l2, q = (.val (.tup [.int l1, .int l2]), [.any, .any]) ∧ LenR xs d l1 l2 := by
  refine w_fn rfl ?_
  unfold g_length_range
  simp only [List.replicate, List.cons_append, List.nil_append]
  bv_omega
  refine wp_callD rfl rfl (Wp.imp (check_ok h) ?_)
  rintro _ rfl
  refine ⟨rfl, by first | exact .inl rfl | exact .inr rfl, rfl, ?_⟩
  simp only [putBack, back1]
  bv_omega
  refine wp_callD rfl rfl (Wp.imp (darktot_ok h.ln) ?_)
  rintro _ rfl
  refine ⟨rfl, by first | exact .inl rfl | exact .inr rfl, rfl, ?_⟩
  simp only [putBack, back1]
  bv_omega
  refine wp_callD rfl rfl (Wp.imp (isintS_ok hd0 hd) ?_)
  rintro _ rfl
  refine ⟨rfl, by first | exact .inl rfl | exact .inr rfl, rfl, ?_⟩
  simp only [putBack, back1]
  bv_omega
  refine wp_callD rfl rfl (Wp.imp (leastlength_ok h hz hb hd) ?_)
  rintro _ ⟨l1, rfl, h1⟩
  refine ⟨rfl, by first | exact .inl rfl | exact .inr rfl, rfl, ?_⟩
  simp only [putBack, back1]
  bv_omega
  refine wp_callD rfl rfl (Wp.imp (beadsin_ok h.ln) ?_)
  rintro _ rfl
  refine ⟨rfl, by first | exact .inl rfl | exact .inr rfl, rfl, ?_⟩
  simp only [putBack, back1]
  bv_omega
  refine wp_callD rfl rfl (Wp.imp (leastlength_ok h hz hb (show dtot xs - d ≤ dtot xs by omega)) ?_)
  rintro _ ⟨l2, rfl, h2⟩
  refine ⟨rfl, by first | exact .inl rfl | exact .inr rfl, rfl, ?_⟩
  simp only [putBack, back1]
  bv_omega
  exact ⟨l1, tot xs - l2, rfl, h1, by rw [show tot xs - (tot xs - l2) = l2 by omega]; exact h2⟩

end FD

namespace FD
open PySem L2 PyProof.Rows FX
local macro_rules | `(tactic| bv_omega) => `(tactic| try (simp only [wp_ok, wp_some, wp_none, wp_ofIte, wp_ofMap, wp_ofBind, optK_some, optK_ite, get0, get1, get2, get3, get4, get5, get6, get7, get8, get9, getS, put0, put1, put2, put3, put4, put5, put6, put7, put8, put9, putS, w_var, varK_frz, varK_loc, varK_io, w_c, w_bin, w_bin2, bin3_some, deref_val, deref_own, deref_ref, seen_loc, seen_io, seen_frz, map_some, FX.bind_some, w_un, w_un1, un2_some, w_anil, w_acons, w_blt, w_blt1, blt2_some, derefs_nil, derefs_cons, w_met, w_met0, w_met1, met2_some, w_call, w_callK, w_lst, w_tup, w_slice, w_onone, w_osome, w_osome1, w_tst, w_tst1, w_tst1i, w_tstB, w_tstB1, w_not, chz_t, chz_f, chz_not, w_orD, w_andD, w_orV, w_andV, w_notV, w_eIf, w_seq, seqK_nx, seqK_rt, seqK_bk, seqK_ct, w_nx, w_bk, w_ct, w_bad, w_if, w_ret, retK_val, retK_own, retK_ref, retK2_loc, w_retN, w_set, setK_val, setK_own, w_setS, setS2_frz, setS2_any, setS2_loc, w_expr, layS_eq, layK_frz, layK_any, layK_loc, layKo_frz, layKo_any, layKo_loc, parK_some, w_par2, w_par2K, w_par3, w_par3K, w_tgt, tgtK_val, bName_eq, nameK_frz, nameK_any, nameK_loc, bTup_tup, bCons_eq, bNil_eq, w_aug, augK_frz, augK2_val, augK2_own, w_setIx, w_sixK0, w_sixK1, w_sixK2, ixsK_loc, ixsK_io, w_mut, w_mut0, w_mut1, mutK_app_loc, mutK_app_io, freezes_nil, freezes_val, freezes_own, freezes_ref, freeze_ref, frz1K_loc, freeze_val, freeze_own, w_for, turnK_nx, turnK_ct, turnK_bk, turnK_rt, w_rng, iterK_some, iterK_ite, w_frzI, w_seqI, w_comp, w_yes, outK_rt, outK_nx, outS_nil, outS_frz, outS_io, wipe_nil, wipe_cons, ix3_0, ix3_1, ix3_2, at3_0, at3_1, at3_2, at2_0, at2_1, at4_0, at4_1, at4_2, at4_3, set3_0, set3_1, set3_2, isN_int, isN_non, isNN_int, isNN_non, isi_int, isi_intB, isi_tup, isi_str, isi_lst, is_bl, isNot_bl, seqD_lst, seqD_tup, seqD_scr, w_fz, fzK_val, fzK_own, fzK_ref, eqD_int, neD_int, eqD_bl, neD_bl, eq_self, scountD_str, tupleD_lst, tupleD_tup, listD_lst, listD_tup, intD_bl, allInts_map, allBls_map, sliceD_lst, sliceD_tup, countD_lst, allD_lst, anyD_lst, sumD_one, maxD_one, minD_one, intsOf_lst, intsOf_scr, pick_nil, pick_cons, pickC_some, List.nil_append, List.cons_append, notInD_two, inD_two, addD_int, wp_addLst, wp_addTup, wp_addStr, wp_lenStr, wp_sliceStr, wp_ixStr, subD_int, mulD_int, fdivD_int, modD_int, powD_int, ltD_int, leD_int, gtD_int, geD_int, ixD_lst, ixD_tup, ixD_scr, negD_int, lenD_lst, lenD_tup, lenD_scr, absD_int, intD_int, iterK_rng1, iterK_rng2, enumD_lst, zipD_lst, zipD_tup, maxD_two, minD_two, augAddD_int, Bool.not_true, Bool.not_false, decide_true, decide_false, reduceCtorEq, true_and, and_true, not_false_eq_true, w_chain, w_chainK, w_wipe, wipeF_nx, wipeF_bk, wipeF_ct, wipeF_rt, w_pre, w_iwipe, w_emp, wp_listRng1, wp_listRng2, indexD_lst, revD_lst, wp_strI, wp_repr, wp_sorted, wp_sortedSet, zipL_maps, enumL_maps, seqD_str, len0, len1, len2, len3, len4, few0, few1, few2, few3, few4, few5, few6, turnK_nx, loop_nil, mutK_loc, mutK_io, appU1, extU1, popU0, popAtU1, optK_map, optK_bind, Nat.reduceEqDiff, w_mov, movK_frz, movK_loc, w_comp2, eqT0D_tup, revA_lst, revA_tup]))
local macro_rules | `(tactic| ac_nf) => `(tactic| repeat (refine ⟨by first | decide | omega | (simp; done) | (simp; omega), ?_⟩))
/-! ### what lies between -/
theorem ivt_up {f : Int → Int} {v : Int} : ∀ (k : Nat) (a : Int), (∀ j, a ≤ j → j < a + k → -1 ≤ f (j + 1) - f j ∧ f (j + 1) - f j ≤ 1) → (f a ≤ v ∧ v ≤ f (a + k) ∨ f (a + k) ≤ v ∧ v ≤ f a) → ∃ j, a ≤ j ∧ j ≤ a + k ∧ f j = v
  | 0, a, _, h => ⟨a, by omega, by omega, by rw [show a + ((0 : Nat) : Int) = a by omega] at h; omega⟩
  | k + 1, a, st, h => by
    by_cases c : f a = v
    · exact ⟨a, by omega, by omega, c⟩
    have s0 := st a (by omega) (by omega)
    obtain ⟨j, h1, h2, h3⟩ := ivt_up k (a + 1) (fun j q1 q2 => st j (by omega) (by omega)) (by
      rw [show a + 1 + (k : Int) = a + ((k + 1 : Nat) : Int) by omega]
      omega) (v := v) (f := f)
    exact ⟨j, by omega, by omega, h3⟩
theorem ivt2 {f : Int → Int} {n a b v : Int} (st : ∀ j, 0 ≤ j → j + 1 < n → -1 ≤ f (j + 1) - f j ∧ f (j + 1) - f j ≤ 1) (ha : 0 ≤ a) (ha2 : a < n) (hb : 0 ≤ b) (hb2 : b < n) (h1 : f a ≤ v) (h2 : v ≤ f b) : ∃ j, 0 ≤ j ∧ j < n ∧ f j = v := by
  by_cases c : a ≤ b
  · obtain ⟨j, q1, q2, q3⟩ := ivt_up (b - a).toNat a (fun j q1 q2 => st j (by omega) (by omega)) (f := f) (v := v) (by
      rw [show a + ((b - a).toNat : Int) = b by omega]
      exact .inl ⟨h1, h2⟩)
    exact ⟨j, by omega, by omega, q3⟩
  · obtain ⟨j, q1, q2, q3⟩ := ivt_up (a - b).toNat b (fun j q1 q2 => st j (by omega) (by omega)) (f := f) (v := v) (by
      rw [show b + ((a - b).toNat : Int) = a by omega]
      exact .inr ⟨h1, h2⟩)
    exact ⟨j, by omega, by omega, q3⟩
/-- a number that some arc of a length has -/
def Has (xs : List Run) (l v : Int) : Prop := ∃ s, 0 ≤ s ∧ s < tot xs ∧ dOf xs s l = v
theorem Rng.has {xs : List Run} {l lo hi v : Int} (h : Rng xs l lo hi) (hp : Pos xs) (hl : 0 ≤ l) (hl2 : l ≤ tot xs) : Has xs l v ↔ lo ≤ v ∧ v ≤ hi := by
  constructor
  · rintro ⟨s, a, b, rfl⟩
    exact h.all s a b
  · rintro ⟨h1, h2⟩
    obtain ⟨a, a1, a2, a3⟩ := h.lo
    obtain ⟨b, b1, b2, b3⟩ := h.hi
    obtain ⟨j, j1, j2, j3⟩ := ivt2 (f := fun s => dOf xs s l) (v := v) (n := tot xs) (fun j q1 q2 => by
      have := dOf_step hp q1 q2 hl hl2
      have := ind_01 (bdk xs ((j + l) % tot xs))
      have := ind_01 (bdk xs j)
      omega) a1 a2 b1 b2 (by omega) (by omega)
    exact ⟨j, j1, j2, j3⟩
/-- there are a least and a greatest number -/
theorem rng_ex {xs : List Run} {l : Int} (ht : 1 ≤ tot xs) : ∃ lo hi, Rng xs l lo hi := by
  have key : ∀ (f : Int → Int) (n : Nat), ∃ lo hi, (∀ s : Int, 0 ≤ s → s < (n + 1 : Nat) → lo ≤ f s ∧ f s ≤ hi) ∧ (∃ s : Int, 0 ≤ s ∧ s < (n + 1 : Nat) ∧ f s = lo) ∧ ∃ s : Int, 0 ≤ s ∧ s < (n + 1 : Nat) ∧ f s = hi := by
    intro f n
    induction n with
    | zero => exact ⟨f 0, f 0, fun s h1 h2 => by rw [show s = 0 by omega]; omega, ⟨0, by omega, by omega, rfl⟩, 0, by omega, by omega, rfl⟩
    | succ n ih =>
      obtain ⟨lo, hi, h1, ⟨s, a1, a2, a3⟩, t, b1, b2, b3⟩ := ih
      have hh : ∀ s : Int, 0 ≤ s → s < ((n + 1 + 1 : Nat) : Int) → s = ((n + 1 : Nat) : Int) ∨ lo ≤ f s ∧ f s ≤ hi := fun s q1 q2 => by
        by_cases c : s < ((n + 1 : Nat) : Int)
        · exact .inr (h1 s q1 c)
        · exact .inl (by omega)
      by_cases c1 : f ((n + 1 : Nat) : Int) < lo
      · have : lo ≤ hi := by have := h1 s a1 a2; omega
        exact ⟨f ((n + 1 : Nat) : Int), hi, fun s q1 q2 => by rcases hh s q1 q2 with e | e <;> first | (rw [e]; omega) | omega, ⟨_, by omega, by omega, rfl⟩, t, b1, by omega, b3⟩
      · by_cases c2 : hi < f ((n + 1 : Nat) : Int)
        · exact ⟨lo, f ((n + 1 : Nat) : Int), fun s q1 q2 => by rcases hh s q1 q2 with e | e <;> first | (rw [e]; omega) | omega, ⟨s, a1, by omega, a3⟩, _, by omega, by omega, rfl⟩
        · exact ⟨lo, hi, fun s q1 q2 => by rcases hh s q1 q2 with e | e <;> first | (rw [e]; omega) | omega, ⟨s, a1, by omega, a3⟩, t, b1, by omega, b3⟩
  obtain ⟨lo, hi, h1, h2, h3⟩ := key (fun s => dOf xs s l) (tot xs - 1).toNat
  rw [show (((tot xs - 1).toNat + 1 : Nat) : Int) = tot xs by omega] at h1 h2 h3
  exact ⟨lo, hi, h1, h2, h3⟩
theorem arc_back {xs : List Run} {s l : Int} (h : Pos xs) (h0 : 0 ≤ s) (h1 : s < tot xs) (h2 : 0 ≤ l) (h3 : l ≤ tot xs) : 0 ≤ (s + l) % tot xs ∧ (s + l) % tot xs < tot xs ∧ dOf xs ((s + l) % tot xs) (tot xs - l) = dtot xs - dOf xs s l :=
  ⟨Int.emod_nonneg _ (by omega), Int.emod_lt_of_pos _ (by omega), dOf_other h h0 h1 h2 h3⟩
theorem LenR.has {xs : List Run} {d l1 l2 m : Int} (h : LenR xs d l1 l2) (hp : Pos xs) (ht : 1 ≤ tot xs) (hm : 0 ≤ m) (hm2 : m ≤ tot xs) : Has xs m d ↔ l1 ≤ m ∧ m ≤ l2 := by
  obtain ⟨⟨a1, a2, ⟨s1, b1, b2, b3⟩, a3⟩, ⟨c1, c2, ⟨s2, d1, d2, d3⟩, c3⟩⟩ := h
  constructor
  · rintro ⟨s, q1, q2, q3⟩
    constructor
    · by_cases c : m < l1
      · have := a3 m s hm c q1 q2; omega
      · omega
    · by_cases c : l2 < m
      · have e := arc_back hp q1 q2 hm hm2
        have := c3 (tot xs - m) _ (by omega) (by omega) e.1 e.2.1
        omega
      · omega
  · rintro ⟨q1, q2⟩
    have e := arc_back hp d1 d2 (l := tot xs - l2) (by omega) (by omega)
    rw [show tot xs - (tot xs - l2) = l2 by omega] at e
    have m1 := dOf_mono hp b1 b2 a1 q1 hm2
    have m2 := dOf_mono hp e.1 e.2.1 hm q2 (show l2 ≤ tot xs by omega)
    obtain ⟨lo, hi, hr⟩ := rng_ex (xs := xs) (l := m) ht
    refine (hr.has hp hm hm2).mpr ?_
    have := hr.all s1 b1 b2
    have := hr.all _ e.1 e.2.1
    omega
theorem LenR.le {xs : List Run} {d l1 l2 : Int} (h : LenR xs d l1 l2) (hp : Pos xs) (ht : 1 ≤ tot xs) (hd : 0 ≤ d) : 0 ≤ l1 ∧ l1 ≤ l2 ∧ l2 ≤ tot xs := by
  have k : Has xs l1 d := by
    obtain ⟨⟨a1, a2, ⟨s1, b1, b2, b3⟩, a3⟩, _⟩ := h
    refine ⟨s1, b1, b2, ?_⟩
    by_cases c : l1 = 0
    · subst c
      rw [dOf_zero hp b1 b2] at b3 ⊢
      omega
    · have := a3 (l1 - 1) s1 (by omega) (by omega) b1 b2
      have := dOf_mono hp b1 b2 (show 0 ≤ l1 - 1 by omega) (show l1 - 1 ≤ l1 by omega) a2
      omega
  have := (h.has hp ht h.a.l0 h.a.ln).mp k
  have := h.b.l0
  have := h.a.l0
  omega
/-! what the bv_omega of the laws asks of lists of ints -/
theorem inD_ints {i : Int} {ns : List Int} : inD (.int i) (.lst (ns.map Dt.int)) = some (.val (.bl (decide (i ∈ ns)))) := by
  unfold inD
  rw [inX_ints]; rfl
theorem lays_two (i j : Int) : Lays 5 (.tup [.int i, .int j]) := by
  refine lays_tup fun d hd => ?_
  simp only [List.mem_cons, List.not_mem_nil, or_false] at hd
  rcases hd with rfl | rfl <;> exact lays_int
theorem lays_ints {ns : List Int} : Lays 5 (.lst (ns.map Dt.int)) := lays_lst fun d hd => by
  obtain ⟨i, _, rfl⟩ := List.mem_map.mp hd
  exact lays_int
theorem rngL_ints {lo : Int} {n : Nat} : rngL lo n = ((List.range n).map fun i : Nat => lo + (i : Int)).map Dt.int := by
  unfold rngL; rw [List.map_map]; rfl
theorem lays_rng {lo : Int} {n : Nat} : Lays 5 (.lst (rngL lo n)) := by rw [rngL_ints]; exact lays_ints
theorem rngL_fst {lo : Int} {n : Nat} (h : 1 ≤ n) : L2.atI (rngL lo n) 0 = some (.int lo) := by
  obtain ⟨m, rfl⟩ : ∃ m, n = m + 1 := ⟨n - 1, by omega⟩
  rw [rngL_ints, List.range_succ_eq_map]
  simp only [List.map_cons, L2.atI, L2.ixN]
  simp
theorem rngL_lst {lo : Int} {n : Nat} (h : 1 ≤ n) : L2.atI (rngL lo n) (-1) = some (.int (lo + n - 1)) := by
  obtain ⟨m, rfl⟩ : ∃ m, n = m + 1 := ⟨n - 1, by omega⟩
  rw [rngL_ints, List.range_succ, List.map_append, List.map_append, List.map_cons, List.map_cons, List.map_nil, List.map_nil, atLast]
  congr 2
  omega
theorem rngL_len {lo : Int} {n : Nat} : (rngL lo n).length = n := by unfold rngL; simp
theorem zix_range (n : Nat) : (List.range n).zipIdx = (List.range n).map fun i => (i, i) := by
  refine List.ext_getElem? fun i => ?_
  rw [List.getElem?_zipIdx, List.getElem?_map]
  by_cases h : i < n
  · simp [h]
  · simp [h]
theorem LenR.unique {xs : List Run} {d l1 l2 m1 m2 : Int} (h : LenR xs d l1 l2) (h' : LenR xs d m1 m2) : l1 = m1 ∧ l2 = m2 := by
  have key : ∀ {e a b : Int}, Least xs e a → Least xs e b → a = b := by
    intro e a b p q
    obtain ⟨s, s1, s2, s3⟩ := p.hit
    obtain ⟨t, t1, t2, t3⟩ := q.hit
    by_cases c : a < b
    · have := q.no a s p.l0 c s1 s2; omega
    · by_cases c2 : b < a
      · have := p.no b t q.l0 c2 t1 t2; omega
      · omega
  have := key h.a h'.a
  have := key h.b h'.b
  omega
theorem least_ex {xs : List Run} {d : Int} (hp : Pos xs) (ht : 1 ≤ tot xs) (hd : d ≤ dtot xs) : ∃ l, Least xs d l := by
  have key : ∀ k : Nat, (k : Int) ≤ tot xs → (∃ l, Least xs d l) ∨ ∀ m s : Int, 0 ≤ m → m < (k : Int) → 0 ≤ s → s < tot xs → dOf xs s m < d := by
    intro k
    induction k with
    | zero => intro _; exact .inr fun m s _ _ _ _ => by omega
    | succ k ih =>
      intro hk
      rcases ih (by omega) with e | e
      · exact .inl e
      · obtain ⟨lo, hi, hr⟩ := rng_ex (xs := xs) (l := k) ht
        by_cases c : d ≤ hi
        · obtain ⟨s, s1, s2, s3⟩ := hr.hi
          exact .inl ⟨k, by omega, by omega, ⟨s, s1, s2, by omega⟩, e⟩
        · refine .inr fun m s h1 h2 h3 h4 => ?_
          by_cases c2 : m < k
          · exact e m s h1 c2 h3 h4
          · have := hr.all s h3 h4
            rw [show m = k by omega]
            omega
  rcases key (tot xs).toNat (by omega) with e | e
  · exact e
  · exact ⟨tot xs, by omega, by omega, ⟨0, by omega, by omega, by rw [dOf_full hp (by omega) (by omega)]; exact hd⟩, fun m s h1 h2 h3 h4 => e m s h1 (by omega) h3 h4⟩
theorem lenr_ex {xs : List Run} {d : Int} (hp : Pos xs) (ht : 1 ≤ tot xs) (h0 : 0 ≤ d) (hd : d ≤ dtot xs) : ∃ l1 l2, LenR xs d l1 l2 := by
  obtain ⟨l, h⟩ := least_ex hp ht hd
  obtain ⟨m, h2⟩ := least_ex (d := dtot xs - d) hp ht (by omega)
  exact ⟨l, tot xs - m, h, by rw [show tot xs - (tot xs - m) = m by omega]; exact h2⟩
theorem idxF_ints : ∀ {ns : List Int} {v : Int} {j : Nat}, ns[j]? = some v → (∀ m z, m < j → ns[m]? = some z → z ≠ v) → idxF (.int v) (ns.map Dt.int) = some j
  | [], v, j, h1, _ => by cases h1
  | n :: ns, v, 0, h1, _ => by
    simp at h1
    subst h1
    unfold List.map idxF
    rw [if_pos (by show (n == n) = true; simp)]
  | n :: ns, v, j + 1, h1, h2 => by
    have h0 := h2 0 n (by omega) rfl
    unfold List.map idxF
    rw [if_neg (by show ¬ (n == v) = true; simpa using h0), idxF_ints (ns := ns) (j := j) h1 fun m z hm hz => h2 (m + 1) z (by omega) hz]
    rfl
theorem flt_ints {ns : List Int} : (ns.map Dt.int).all Dt.flt = true := List.all_eq_true.mpr fun d hd => by
  obtain ⟨i, _, rfl⟩ := List.mem_map.mp hd
  rfl
theorem maxL_of {ns : List Int} {v : Int} (h1 : v ∈ ns) (h2 : ∀ z ∈ ns, z ≤ v) : maxL ns = some v := by
  cases e : maxL ns with
  | none =>
    cases ns with
    | nil => cases h1
    | cons a r => cases e
  | some m =>
    obtain ⟨a, b⟩ := maxL_ok e
    have := h2 m a
    have := b v h1
    rw [show m = v by omega]
theorem minL_of {ns : List Int} {v : Int} (h1 : v ∈ ns) (h2 : ∀ z ∈ ns, v ≤ z) : minL ns = some v := by
  cases e : minL ns with
  | none =>
    cases ns with
    | nil => cases h1
    | cons a r => cases e
  | some m =>
    obtain ⟨a, b⟩ := minL_ok e
    have := h2 m a
    have := b v h1
    rw [show m = v by omega]
theorem eqD_strS {x : Str} : eqD (.str x) (.str x) = some (.val (.bl true)) := by unfold eqD; rw [eqX_str, beq_self_eq_true]; rfl
theorem neD_strS {x : Str} : neD (.str x) (.str x) = some (.val (.bl false)) := by unfold neD; rw [eqX_str, beq_self_eq_true]; rfl
theorem rk_bls {b : List Bool} {m : Nat} (h : b.length ≤ m) : Rk 5 m (.lst (b.map Dt.bl)) := rk_lst (n := 4) (w := 0) (fun d hd => by
  obtain ⟨x, _, rfl⟩ := List.mem_map.mp hd
  exact rk_bl) (by rw [List.length_map]; omega)
theorem rok_two {a b : Bool} : rok (.lst [.bl a, .bl b]) = true := rok_of (rk_bls (b := [a, b]) (m := 10) (by simp)) (by decide) (by decide)
theorem insU_len : ∀ {y : Int} {z : List Int}, (insU y z).length ≤ z.length + 1
  | y, [] => by simp [insU]
  | y, w :: z => by
    unfold insU
    split
    · simp
    · split
      · simp
      · have := insU_len (y := y) (z := z); simp; omega
theorem srtU_len : ∀ {z : List Int}, (srtU z).length ≤ z.length
  | [] => by simp [srtU]
  | w :: z => by
    unfold srtU
    have := insU_len (y := w) (z := srtU z)
    have := srtU_len (z := z)
    simp; omega
theorem atI_in {α : Type} {xs : List α} {i : Int} (h0 : 0 ≤ i) (h1 : i < xs.length) : ∃ x, L2.atI xs i = some x ∧ x ∈ xs := by
  unfold L2.atI L2.ixN
  rw [if_pos h0, if_pos h1]
  have : i.toNat < xs.length := by omega
  exact ⟨xs[i.toNat], by simp [this], List.getElem_mem _⟩

end FD

/-! ### the text of the law (printed by gen2.py) -/
namespace T_k03
open PySem L2 PyProof.Rows FX
theorem u64 {k : Nat} {A : Around} (r : RoomG k A) : A.units + 64 < cLine := by have := r.r.un; omega
def topS (i : Nat) : Stmt := PySem.Challenge.pw_fairarcs_k03_values_that_are_strands.main.body.getD i (.Pass ⟨0, 0, 0, 0⟩)
abbrev st__law_source : Stmt := topS 7
abbrev st__law_draw : Stmt := topS 8
abbrev st__law_strand : Stmt := topS 9
abbrev st__law_bent : Stmt := topS 12
abbrev st_is_integer : Stmt := topS 3
abbrev st_is_run : Stmt := topS 4
abbrev st_is_strand : Stmt := topS 5
abbrev st__law_is_strand : Stmt := topS 11
abbrev st__law_no_strands : Stmt := topS 10
abbrev st_law : Stmt := topS 13
abbrev N__law_source : List Str := ["script", "k", "cell"]
abbrev P__law_source : List Str := ["script", "k"]
theorem sc__law_source : FnScope N__law_source P__law_source (defScope st__law_source) := ⟨rfl, rfl, rfl, by decide +kernel, rfl, by decide +kernel, by decide +kernel⟩
abbrev N__law_draw : List Str := ["source", "bound", "found", "mixed"]
abbrev P__law_draw : List Str := ["source", "bound"]
theorem sc__law_draw : FnScope N__law_draw P__law_draw (defScope st__law_draw) := ⟨rfl, rfl, rfl, by decide +kernel, rfl, by decide +kernel, by decide +kernel⟩
abbrev N__law_strand : List Str := ["source", "most", "wide", "turn", "found", "part", "many"]
abbrev P__law_strand : List Str := ["source", "most", "wide"]
theorem sc__law_strand : FnScope N__law_strand P__law_strand (defScope st__law_strand) := ⟨rfl, rfl, rfl, by decide +kernel, rfl, by decide +kernel, by decide +kernel⟩
abbrev N__law_bent : List Str := ["source", "strand_here", "at", "way", "parts", "part", "odd"]
abbrev P__law_bent : List Str := ["source", "strand_here"]
theorem sc__law_bent : FnScope N__law_bent P__law_bent (defScope st__law_bent) := ⟨rfl, rfl, rfl, by decide +kernel, rfl, by decide +kernel, by decide +kernel⟩
abbrev N_is_integer : List Str := ["value", "low", "high"]
abbrev P_is_integer : List Str := ["value", "low", "high"]
theorem sc_is_integer : FnScope N_is_integer P_is_integer (defScope st_is_integer) := ⟨rfl, rfl, rfl, by decide +kernel, rfl, by decide +kernel, by decide +kernel⟩
abbrev N_is_run : List Str := ["value"]
abbrev P_is_run : List Str := ["value"]
theorem sc_is_run : FnScope N_is_run P_is_run (defScope st_is_run) := ⟨rfl, rfl, rfl, by decide +kernel, rfl, by decide +kernel, by decide +kernel⟩
abbrev N_is_strand : List Str := ["value", "one", "other", "run"]
abbrev P_is_strand : List Str := ["value"]
theorem sc_is_strand : FnScope N_is_strand P_is_strand (defScope st_is_strand) := ⟨rfl, rfl, rfl, by decide +kernel, rfl, by decide +kernel, by decide +kernel⟩
abbrev N__law_is_strand : List Str := ["thing", "last", "part"]
abbrev P__law_is_strand : List Str := ["thing"]
theorem sc__law_is_strand : FnScope N__law_is_strand P__law_is_strand (defScope st__law_is_strand) := ⟨rfl, rfl, rfl, by decide +kernel, rfl, by decide +kernel, by decide +kernel⟩
abbrev N__law_no_strands : List Str := ["strand_here", "found"]
abbrev P__law_no_strands : List Str := ["strand_here"]
theorem sc__law_no_strands : FnScope N__law_no_strands P__law_no_strands (defScope st__law_no_strands) := ⟨rfl, rfl, rfl, by decide +kernel, rfl, by decide +kernel, by decide +kernel⟩
abbrev N_law : List Str := ["script", "k", "source", "turn", "most", "wide", "strand_here", "thing", "kept", "great", "at"]
abbrev P_law : List Str := ["script"]
theorem sc_law : FnScope N_law P_law (defScope st_law) := ⟨rfl, rfl, rfl, by decide +kernel, rfl, by decide +kernel, by decide +kernel⟩
structure Facts (K : PySem.W.Frag) (mg : Str → Option Value) : Prop where
  d__law_source : ∃ f fd, Fun K "_law_source" "_law_source" st__law_source f fd ∧ mg "_law_source" = some (.ref f) ∧ Binds K fd P__law_source []
  d__law_draw : ∃ f fd, Fun K "_law_draw" "_law_draw" st__law_draw f fd ∧ mg "_law_draw" = some (.ref f) ∧ Binds K fd P__law_draw []
  d__law_strand : ∃ f fd, Fun K "_law_strand" "_law_strand" st__law_strand f fd ∧ mg "_law_strand" = some (.ref f) ∧ Binds K fd P__law_strand []
  d__law_bent : ∃ f fd, Fun K "_law_bent" "_law_bent" st__law_bent f fd ∧ mg "_law_bent" = some (.ref f) ∧ Binds K fd P__law_bent []
  d_is_integer : ∃ f fd, Fun K "is_integer" "is_integer" st_is_integer f fd ∧ mg "is_integer" = some (.ref f) ∧ Binds K fd P_is_integer []
  d_is_run : ∃ f fd, Fun K "is_run" "is_run" st_is_run f fd ∧ mg "is_run" = some (.ref f) ∧ Binds K fd P_is_run []
  d_is_strand : ∃ f fd, Fun K "is_strand" "is_strand" st_is_strand f fd ∧ mg "is_strand" = some (.ref f) ∧ Binds K fd P_is_strand []
  d__law_is_strand : ∃ f fd, Fun K "_law_is_strand" "_law_is_strand" st__law_is_strand f fd ∧ mg "_law_is_strand" = some (.ref f) ∧ Binds K fd P__law_is_strand []
  d__law_no_strands : ∃ f fd, Fun K "_law_no_strands" "_law_no_strands" st__law_no_strands f fd ∧ mg "_law_no_strands" = some (.ref f) ∧ Binds K fd P__law_no_strands []
  b_abs : mg "abs" = none
  b_all : mg "all" = none
  b_bool : mg "bool" = none
  b_int : mg "int" = none
  b_isinstance : mg "isinstance" = none
  b_len : mg "len" = none
  b_list : mg "list" = none
  b_max : mg "max" = none
  b_min : mg "min" = none
  b_range : mg "range" = none
  b_repr : mg "repr" = none
  b_str : mg "str" = none
  b_tuple : mg "tuple" = none
  b_zip : mg "zip" = none
  g_DARK : ∃ t, mg "DARK" = some (.str "D" t)
  g_LIGHT : ∃ t, mg "LIGHT" = some (.str "L" t)
theorem kw_is_strand_0 : KwAll "is_strand" st_is_strand P_is_strand 0 ["value"] [0] := fun _ _ _ _ _ _ us ws h1 h2 => match us, h1, ws, h2 with | [], _, [_], _ => rfl
section
variable {P : Program} {w : World} {K : PySem.W.Frag} {mg : Str → Option Value} {base : Heap}
theorem ok__law_source (G : Facts K mg) (k : Nat) : Fn P w K mg base "_law_source" st__law_source (k + 1) P__law_source FD.F_law_source_k01 := by
  obtain ⟨f, fd, F, hm, hb⟩ := G.d__law_source
  refine ⟨f, fd, F, hm, hb, ?_⟩
  refine fn_ok (extra := 1) (g := FD.g_law_source_k01) F sc__law_source rfl fun cdv A outer s H E hr => ?_
  have sc := sc__law_source
  have tk : Takes (cxOf (L2.CX P w) P w K mg base N__law_source "_law_source" (defScope st__law_source) f cdv A outer s H E) (wOut E) := takes_of rfl rfl rfl rfl
  have pas : PassesOwn (model P w) (cxOf (L2.CX P w) P w K mg base N__law_source "_law_source" (defScope st__law_source) f cdv A outer s H E).A (cxOf (L2.CX P w) P w K mg base N__law_source "_law_source" (defScope st__law_source) f cdv A outer s H E).env (cxOf (L2.CX P w) P w K mg base N__law_source "_law_source" (defScope st__law_source) f cdv A outer s H E).xe := passes_of rfl
  exact (ss_cons (s_set (i := 2) sc.nd (x_if (t_lt (x_var 1) (x_len G.b_len (a_cons (x_var 0) a_nil))) (x_ix (x_var 0) (x_var 1)) x_int))
    (ss_one (s_ret (x_lst (a_cons (x_max G.b_max (a_cons x_int (a_cons (x_sub (x_abs G.b_abs (a_cons (x_var 2) a_nil)) (x_pow x_int x_int)) a_nil))) (a_cons (x_add (x_mod (x_var 2) (x_add (x_pow x_int x_int) x_int)) (x_mul x_int (x_var 1))) (a_cons x_int a_nil)))))))
theorem ok__law_draw (G : Facts K mg) (k : Nat) : Fn P w K mg base "_law_draw" st__law_draw (k + 1) P__law_draw FD.F_law_draw_k01 := by
  obtain ⟨f, fd, F, hm, hb⟩ := G.d__law_draw
  refine ⟨f, fd, F, hm, hb, ?_⟩
  refine fn_ok (extra := 2) (g := FD.g_law_draw_k01) F sc__law_draw rfl fun cdv A outer s H E hr => ?_
  have sc := sc__law_draw
  have tk : Takes (cxOf (L2.CX P w) P w K mg base N__law_draw "_law_draw" (defScope st__law_draw) f cdv A outer s H E) (wOut E) := takes_of rfl rfl rfl rfl
  have pas : PassesOwn (model P w) (cxOf (L2.CX P w) P w K mg base N__law_draw "_law_draw" (defScope st__law_draw) f cdv A outer s H E).A (cxOf (L2.CX P w) P w K mg base N__law_draw "_law_draw" (defScope st__law_draw) f cdv A outer s H E).env (cxOf (L2.CX P w) P w K mg base N__law_draw "_law_draw" (defScope st__law_draw) f cdv A outer s H E).xe := passes_of rfl
  exact (ss_cons (s_if (t_gt (x_ix (x_var 0) x_int) x_int) (ss_cons (s_set (i := 2) sc.nd (x_mod (x_ix (x_var 0) x_int) (x_var 1)))
    (ss_cons (s_setIx (x_var 0) x_int (x_fdiv (x_ix (x_var 0) x_int) (x_var 1)))
    (ss_one (s_ret (x_var 2))))) ss_nil)
    (ss_cons (s_setIx (x_var 0) x_int (x_add (x_ix (x_var 0) x_int) x_int))
    (ss_cons (s_set (i := 3) sc.nd (x_mod (x_pow (x_add (x_ix (x_var 0) x_int) (x_mul x_int (x_ix (x_var 0) x_int))) x_int) (x_add (x_pow x_int x_int) x_int)))
    (ss_cons (s_set (i := 3) sc.nd (x_mod (x_pow (x_add (x_var 3) (x_mul x_int (x_ix (x_var 0) x_int))) x_int) (x_add (x_pow x_int x_int) x_int)))
    (ss_one (s_ret (x_mod (x_fdiv (x_var 3) x_int) (x_var 1))))))))
theorem ok__law_strand (G : Facts K mg) (k : Nat) : Fn P w K mg base "_law_strand" st__law_strand (k + 2) P__law_strand FD.F_law_strand_k02 := by
  obtain ⟨f, fd, F, hm, hb⟩ := G.d__law_strand
  refine ⟨f, fd, F, hm, hb, ?_⟩
  have c__law_draw : Fn P w K mg base "_law_draw" st__law_draw (k + 1) P__law_draw FD.F_law_draw_k01 := ok__law_draw G (k + 0)
  refine fn_ok (extra := 4) (g := FD.g_law_strand_k02) F sc__law_strand rfl fun cdv A outer s H E hr => ?_
  have sc := sc__law_strand
  have tk : Takes (cxOf (L2.CX P w) P w K mg base N__law_strand "_law_strand" (defScope st__law_strand) f cdv A outer s H E) (wOut E) := takes_of rfl rfl rfl rfl
  have pas : PassesOwn (model P w) (cxOf (L2.CX P w) P w K mg base N__law_strand "_law_strand" (defScope st__law_strand) f cdv A outer s H E).A (cxOf (L2.CX P w) P w K mg base N__law_strand "_law_strand" (defScope st__law_strand) f cdv A outer s H E).env (cxOf (L2.CX P w) P w K mg base N__law_strand "_law_strand" (defScope st__law_strand) f cdv A outer s H E).xe := passes_of rfl
  exact (ss_cons (s_par2 (i := 3) (j := 4) sc.nd (a_cons (x_call [true, false] c__law_draw hr tk (a_cons (x_var 0) (a_cons x_int a_nil))) (a_cons (x_lst a_nil) a_nil)))
    (ss_cons (s_for pas (i_wipe [1, 5, 6] (i_rng1 G.b_range (a_cons (x_ix (x_lst (a_cons (x_add x_int (x_call [true, false] c__law_draw hr tk (a_cons (x_var 0) (a_cons (x_var 1) a_nil)))) (a_cons (x_var 1) a_nil))) (x_toint G.b_int (a_cons (x_eq (u64 hr) (x_call [true, false] c__law_draw hr tk (a_cons (x_var 0) (a_cons x_int a_nil))) x_int) a_nil))) a_nil))) (g_name (i := 5) sc.nd) (ss_wipe [1, 5, 6] (ss_cons (s_set (i := 6) sc.nd (x_ix (x_lst (a_cons x_int (a_cons (x_add x_int (x_call [true, false] c__law_draw hr tk (a_cons (x_var 0) (a_cons x_int a_nil)))) (a_cons (x_add x_int (x_call [true, false] c__law_draw hr tk (a_cons (x_var 0) (a_cons (x_var 2) a_nil)))) (a_cons (x_var 2) a_nil))))) (x_call [true, false] c__law_draw hr tk (a_cons (x_var 0) (a_cons x_int a_nil)))))
    (ss_one (s_expr (x_append (x_var 4) (a_cons (x_tup (a_cons (x_ix x_str (x_mod (x_add (x_var 3) (x_var 5)) x_int)) (a_cons (x_var 6) a_nil))) a_nil)))))))
    (ss_one (s_ret (x_totuple G.b_tuple (a_cons (x_var 4) a_nil))))))
theorem ok__law_bent (G : Facts K mg) (k : Nat) : Fn P w K mg base "_law_bent" st__law_bent (k + 2) P__law_bent FD.F_law_bent_k03 := by
  obtain ⟨f, fd, F, hm, hb⟩ := G.d__law_bent
  refine ⟨f, fd, F, hm, hb, ?_⟩
  have c__law_draw : Fn P w K mg base "_law_draw" st__law_draw (k + 1) P__law_draw FD.F_law_draw_k01 := ok__law_draw G (k + 0)
  refine fn_ok (extra := 5) (g := FD.g_law_bent_k03) F sc__law_bent rfl fun cdv A outer s H E hr => ?_
  have sc := sc__law_bent
  have tk : Takes (cxOf (L2.CX P w) P w K mg base N__law_bent "_law_bent" (defScope st__law_bent) f cdv A outer s H E) (wOut E) := takes_of rfl rfl rfl rfl
  have pas : PassesOwn (model P w) (cxOf (L2.CX P w) P w K mg base N__law_bent "_law_bent" (defScope st__law_bent) f cdv A outer s H E).A (cxOf (L2.CX P w) P w K mg base N__law_bent "_law_bent" (defScope st__law_bent) f cdv A outer s H E).env (cxOf (L2.CX P w) P w K mg base N__law_bent "_law_bent" (defScope st__law_bent) f cdv A outer s H E).xe := passes_of rfl
  exact (ss_cons (s_par2 (i := 2) (j := 3) sc.nd (a_cons (x_call [true, false] c__law_draw hr tk (a_cons (x_var 0) (a_cons (x_len G.b_len (a_cons (x_var 1) a_nil)) a_nil))) (a_cons (x_call [true, false] c__law_draw hr tk (a_cons (x_var 0) (a_cons x_int a_nil))) a_nil)))
    (ss_cons (s_par2 (i := 4) (j := 5) sc.nd (a_cons (x_tolist G.b_list (a_cons (x_var 1) a_nil)) (a_cons (x_ix (x_var 1) (x_var 2)) a_nil)))
    (ss_cons (s_set (i := 6) sc.nd (x_lst (a_cons x_non (a_cons x_int (a_cons (x_neg x_int) (a_cons x_bl (a_cons x_bl (a_cons x_str (a_cons x_str (a_cons x_str (a_cons x_str (a_cons x_str (a_cons (x_sub (x_pow x_int x_int) x_int) (a_cons x_int (a_cons x_str (a_cons x_str (a_cons (x_lst (a_cons x_int a_nil)) (a_cons x_emp (a_cons (x_tup (a_cons x_int a_nil)) a_nil)))))))))))))))))))
    (ss_cons (s_if (t_eq (u64 hr) (x_var 3) x_int) (ss_one (s_ret (x_totuple G.b_tuple (a_cons (x_add (x_slice (x_var 4) o_none (o_some (x_var 2))) (x_slice (x_var 4) (o_some (x_add (x_var 2) x_int)) o_none)) a_nil)))) ss_nil)
    (ss_cons (s_if (t_eq (u64 hr) (x_var 3) x_int) (ss_one (s_ret (x_totuple G.b_tuple (a_cons (x_add (x_add (x_slice (x_var 4) o_none (o_some (x_var 2))) (x_lst (a_cons (x_var 5) a_nil))) (x_slice (x_var 4) (o_some (x_var 2)) o_none)) a_nil)))) ss_nil)
    (ss_cons (s_if (t_eq (u64 hr) (x_var 3) x_int) (ss_one (s_ret (x_totuple G.b_tuple (a_cons (x_add (x_add (x_slice (x_var 4) o_none (o_some (x_var 2))) (x_lst (a_cons (x_tolist G.b_list (a_cons (x_var 5) a_nil)) a_nil))) (x_slice (x_var 4) (o_some (x_add (x_var 2) x_int)) o_none)) a_nil)))) ss_nil)
    (ss_cons (s_if (t_eq (u64 hr) (x_var 3) x_int) (ss_one (s_ret (x_var 4))) ss_nil)
    (ss_cons (s_if (t_eq (u64 hr) (x_var 3) x_int) (ss_one (s_ret (x_totuple G.b_tuple (a_cons (x_add (x_add (x_slice (x_var 4) o_none (o_some (x_var 2))) (x_lst (a_cons (x_tup (a_cons (x_ix (x_var 5) x_int) (a_cons (x_ix (x_var 6) (x_call [true, false] c__law_draw hr tk (a_cons (x_var 0) (a_cons x_int a_nil)))) a_nil))) a_nil))) (x_slice (x_var 4) (o_some (x_add (x_var 2) x_int)) o_none)) a_nil)))) ss_nil)
    (ss_cons (s_if (t_eq (u64 hr) (x_var 3) x_int) (ss_one (s_ret (x_totuple G.b_tuple (a_cons (x_add (x_add (x_slice (x_var 4) o_none (o_some (x_var 2))) (x_lst (a_cons (x_tup (a_cons (x_ix (x_var 6) (x_call [true, false] c__law_draw hr tk (a_cons (x_var 0) (a_cons x_int a_nil)))) (a_cons (x_ix (x_var 5) x_int) a_nil))) a_nil))) (x_slice (x_var 4) (o_some (x_add (x_var 2) x_int)) o_none)) a_nil)))) ss_nil)
    (ss_cons (s_if (t_eq (u64 hr) (x_var 3) x_int) (ss_one (s_ret (x_totuple G.b_tuple (a_cons (x_add (x_add (x_slice (x_var 4) o_none (o_some (x_var 2))) (x_lst (a_cons (x_ix (x_var 6) (x_call [true, false] c__law_draw hr tk (a_cons (x_var 0) (a_cons x_int a_nil)))) a_nil))) (x_slice (x_var 4) (o_some (x_add (x_var 2) x_int)) o_none)) a_nil)))) ss_nil)
    (ss_cons (s_if (t_eq (u64 hr) (x_var 3) x_int) (ss_one (s_ret (x_totuple G.b_tuple (a_cons (x_add (x_add (x_slice (x_var 4) o_none (o_some (x_var 2))) (x_lst (a_cons (x_revA (x_var 5)) a_nil))) (x_slice (x_var 4) (o_some (x_add (x_var 2) x_int)) o_none)) a_nil)))) ss_nil)
    (ss_one (s_ret (x_totuple G.b_tuple (a_cons (x_add (x_add (x_slice (x_var 4) o_none (o_some (x_var 2))) (x_lst (a_cons (x_add (x_var 5) (x_tup (a_cons x_int a_nil))) a_nil))) (x_slice (x_var 4) (o_some (x_add (x_var 2) x_int)) o_none)) a_nil)))))))))))))))
theorem ok_is_integer (G : Facts K mg) (k : Nat) : Fn P w K mg base "is_integer" st_is_integer (k + 1) P_is_integer FD.F_is_integer := by
  obtain ⟨f, fd, F, hm, hb⟩ := G.d_is_integer
  refine ⟨f, fd, F, hm, hb, ?_⟩
  refine fn_ok (extra := 0) (g := FD.g_is_integer) F sc_is_integer rfl fun cdv A outer s H E hr => ?_
  have sc := sc_is_integer
  have tk : Takes (cxOf (L2.CX P w) P w K mg base N_is_integer "is_integer" (defScope st_is_integer) f cdv A outer s H E) (wOut E) := takes_of rfl rfl rfl rfl
  have pas : PassesOwn (model P w) (cxOf (L2.CX P w) P w K mg base N_is_integer "is_integer" (defScope st_is_integer) f cdv A outer s H E).A (cxOf (L2.CX P w) P w K mg base N_is_integer "is_integer" (defScope st_is_integer) f cdv A outer s H E).env (cxOf (L2.CX P w) P w K mg base N_is_integer "is_integer" (defScope st_is_integer) f cdv A outer s H E).xe := passes_of rfl
  exact (ss_cons (s_if (t_w (w_or (t_not (t_val (x_isi G.b_isinstance G.b_int PyProof.Rows.boot_int (x_var 0)))) (w_or (t_val (x_isi G.b_isinstance G.b_bool rfl (x_var 0))) (w_or1 (t_lt (x_var 0) (x_var 1)))))) (ss_one (s_ret x_bl)) ss_nil)
    (ss_one (s_ret (x_or (x_is (x_var 2) x_non) (x_one (x_le (x_var 0) (x_var 2)))))))
theorem ok_is_run (G : Facts K mg) (k : Nat) : Fn P w K mg base "is_run" st_is_run (k + 2) P_is_run FD.F_is_run := by
  obtain ⟨f, fd, F, hm, hb⟩ := G.d_is_run
  refine ⟨f, fd, F, hm, hb, ?_⟩
  obtain ⟨t_DARK, h_DARK⟩ := G.g_DARK
  obtain ⟨t_LIGHT, h_LIGHT⟩ := G.g_LIGHT
  have c_is_integer : Fn P w K mg base "is_integer" st_is_integer (k + 1) P_is_integer FD.F_is_integer := ok_is_integer G (k + 0)
  refine fn_ok (extra := 0) (g := FD.g_is_run) F sc_is_run rfl fun cdv A outer s H E hr => ?_
  have sc := sc_is_run
  have tk : Takes (cxOf (L2.CX P w) P w K mg base N_is_run "is_run" (defScope st_is_run) f cdv A outer s H E) (wOut E) := takes_of rfl rfl rfl rfl
  have pas : PassesOwn (model P w) (cxOf (L2.CX P w) P w K mg base N_is_run "is_run" (defScope st_is_run) f cdv A outer s H E).A (cxOf (L2.CX P w) P w K mg base N_is_run "is_run" (defScope st_is_run) f cdv A outer s H E).env (cxOf (L2.CX P w) P w K mg base N_is_run "is_run" (defScope st_is_run) f cdv A outer s H E).xe := passes_of rfl
  exact (ss_cons (s_if (t_w (w_or (t_not (t_val (x_isi G.b_isinstance G.b_tuple PyProof.Rows.boot_tuple (x_var 0)))) (w_or (t_ne (u64 hr) (x_len G.b_len (a_cons (x_var 0) a_nil)) x_int) (w_or1 (t_not (t_val (x_isi G.b_isinstance G.b_str rfl (x_ix (x_var 0) x_int)))))))) (ss_one (s_ret x_bl)) ss_nil)
    (ss_one (s_ret (x_and (x_in (u65 hr) (x_ix (x_var 0) x_int) (x_tup (a_cons (x_glob (v := .str "D") (d := .str "D") h_DARK rfl ⟨_, rfl⟩) (a_cons (x_glob (v := .str "L") (d := .str "L") h_LIGHT rfl ⟨_, rfl⟩) a_nil)))) (x_one (x_call [false, false, false] c_is_integer hr tk (a_cons (x_ix (x_var 0) x_int) (a_cons x_int (a_cons x_non a_nil)))))))))
theorem ok_is_strand (G : Facts K mg) (k : Nat) : Fn P w K mg base "is_strand" st_is_strand (k + 3) P_is_strand FD.F_is_strand := by
  obtain ⟨f, fd, F, hm, hb⟩ := G.d_is_strand
  refine ⟨f, fd, F, hm, hb, ?_⟩
  have c_is_run : Fn P w K mg base "is_run" st_is_run (k + 2) P_is_run FD.F_is_run := ok_is_run G (k + 0)
  refine fn_ok (extra := 3) (g := FD.g_is_strand) F sc_is_strand rfl fun cdv A outer s H E hr => ?_
  have sc := sc_is_strand
  have tk : Takes (cxOf (L2.CX P w) P w K mg base N_is_strand "is_strand" (defScope st_is_strand) f cdv A outer s H E) (wOut E) := takes_of rfl rfl rfl rfl
  have pas : PassesOwn (model P w) (cxOf (L2.CX P w) P w K mg base N_is_strand "is_strand" (defScope st_is_strand) f cdv A outer s H E).A (cxOf (L2.CX P w) P w K mg base N_is_strand "is_strand" (defScope st_is_strand) f cdv A outer s H E).env (cxOf (L2.CX P w) P w K mg base N_is_strand "is_strand" (defScope st_is_strand) f cdv A outer s H E).xe := passes_of rfl
  exact (ss_cons (s_if (t_w (w_or (t_not (t_val (x_isi G.b_isinstance G.b_tuple PyProof.Rows.boot_tuple (x_var 0)))) (w_or (t_eqT0 (u64 hr) (x_var 0) (x_tup a_nil)) (w_or1 (t_not (t_val (x_all G.b_all (a_cons (x_comp (own := [("run", 3)]) sc.nd (i_seq (x_var 0)) (by exact blkOk_by (N := N_is_strand) (sc := defScope st_is_strand) (own := [("run", 3)]) (by decide +kernel)) ⟨fun _ _ _ _ _ => (g_name (i := 3) sc.nd), fun _ _ _ _ _ => c_yes, fun _ _ _ _ _ => (x_call [false] c_is_run hr takes0 (a_cons (x_var 3) a_nil))⟩) a_nil)))))))) (ss_one (s_ret x_bl)) ss_nil)
    (ss_one (s_ret (x_all G.b_all (a_cons (x_comp (own := [("one", 1), ("other", 2)]) (g1 := (gTup K 2 (gCons (gName 1) (gCons (gName 2) gNil)))) sc.nd (i_zip G.b_zip (a_cons (x_var 0) (a_cons (x_slice (x_var 0) (o_some x_int) o_none) a_nil))) (by exact blkOk_by (N := N_is_strand) (sc := defScope st_is_strand) (own := [("one", 1), ("other", 2)]) (by decide +kernel)) ⟨fun _ _ _ _ _ => (XG.castL (g_tup (gs_cons (g_name (i := 1) sc.nd) (gs_cons (g_name (i := 2) sc.nd) gs_nil)))), fun _ _ _ _ _ => c_yes, fun _ _ _ _ _ => (x_ne (u64 hr) (x_ix (x_var 1) x_int) (x_ix (x_var 2) x_int))⟩) a_nil)))))
theorem ok__law_is_strand (G : Facts K mg) (k : Nat) : Fn P w K mg base "_law_is_strand" st__law_is_strand (k + 1) P__law_is_strand FD.F_law_is_strand_k03 := by
  obtain ⟨f, fd, F, hm, hb⟩ := G.d__law_is_strand
  refine ⟨f, fd, F, hm, hb, ?_⟩
  refine fn_ok (extra := 2) (g := FD.g_law_is_strand_k03) F sc__law_is_strand rfl fun cdv A outer s H E hr => ?_
  have sc := sc__law_is_strand
  have tk : Takes (cxOf (L2.CX P w) P w K mg base N__law_is_strand "_law_is_strand" (defScope st__law_is_strand) f cdv A outer s H E) (wOut E) := takes_of rfl rfl rfl rfl
  have pas : PassesOwn (model P w) (cxOf (L2.CX P w) P w K mg base N__law_is_strand "_law_is_strand" (defScope st__law_is_strand) f cdv A outer s H E).A (cxOf (L2.CX P w) P w K mg base N__law_is_strand "_law_is_strand" (defScope st__law_is_strand) f cdv A outer s H E).env (cxOf (L2.CX P w) P w K mg base N__law_is_strand "_law_is_strand" (defScope st__law_is_strand) f cdv A outer s H E).xe := passes_of rfl
  exact (ss_cons (s_if (t_w (w_or (t_not (t_val (x_isi G.b_isinstance G.b_tuple PyProof.Rows.boot_tuple (x_var 0)))) (w_or1 (t_eq (u64 hr) (x_len G.b_len (a_cons (x_var 0) a_nil)) x_int)))) (ss_one (s_ret x_bl)) ss_nil)
    (ss_cons (s_set (i := 1) sc.nd x_str)
    (ss_cons (s_for pas (i_wipe [0, 2] (i_seq (x_var 0))) (g_name (i := 2) sc.nd) (ss_wipe [0, 2] (ss_cons (s_if (t_w (w_or (t_not (t_val (x_isi G.b_isinstance G.b_tuple PyProof.Rows.boot_tuple (x_var 2)))) (w_or (t_ne (u64 hr) (x_len G.b_len (a_cons (x_var 2) a_nil)) x_int) (w_or1 (t_not (t_val (x_isi G.b_isinstance G.b_str rfl (x_ix (x_var 2) x_int)))))))) (ss_one (s_ret x_bl)) ss_nil)
    (ss_cons (s_if (t_w (w_or (t_notIn (u65 hr) (x_ix (x_var 2) x_int) (x_lst (a_cons x_str (a_cons x_str a_nil)))) (w_or1 (t_eq (u64 hr) (x_ix (x_var 2) x_int) (x_var 1))))) (ss_one (s_ret x_bl)) ss_nil)
    (ss_cons (s_if (t_w (w_or (t_not (t_val (x_isi G.b_isinstance G.b_int PyProof.Rows.boot_int (x_ix (x_var 2) x_int)))) (w_or (t_val (x_isi G.b_isinstance G.b_bool rfl (x_ix (x_var 2) x_int))) (w_or1 (t_lt (x_ix (x_var 2) x_int) x_int))))) (ss_one (s_ret x_bl)) ss_nil)
    (ss_one (s_set (i := 1) sc.nd (x_ix (x_var 2) x_int))))))))
    (ss_one (s_ret x_bl)))))
theorem ok__law_no_strands (G : Facts K mg) (k : Nat) : Fn P w K mg base "_law_no_strands" st__law_no_strands (k + 1) P__law_no_strands FD.F_law_no_strands_k03 := by
  obtain ⟨f, fd, F, hm, hb⟩ := G.d__law_no_strands
  refine ⟨f, fd, F, hm, hb, ?_⟩
  refine fn_ok (extra := 1) (g := FD.g_law_no_strands_k03) F sc__law_no_strands rfl fun cdv A outer s H E hr => ?_
  have sc := sc__law_no_strands
  have tk : Takes (cxOf (L2.CX P w) P w K mg base N__law_no_strands "_law_no_strands" (defScope st__law_no_strands) f cdv A outer s H E) (wOut E) := takes_of rfl rfl rfl rfl
  have pas : PassesOwn (model P w) (cxOf (L2.CX P w) P w K mg base N__law_no_strands "_law_no_strands" (defScope st__law_no_strands) f cdv A outer s H E).A (cxOf (L2.CX P w) P w K mg base N__law_no_strands "_law_no_strands" (defScope st__law_no_strands) f cdv A outer s H E).env (cxOf (L2.CX P w) P w K mg base N__law_no_strands "_law_no_strands" (defScope st__law_no_strands) f cdv A outer s H E).xe := passes_of rfl
  exact (ss_cons (s_set (i := 1) sc.nd (x_lst (a_cons x_non (a_cons x_int (a_cons x_bl (a_cons x_str (a_cons x_str (a_cons (x_tup a_nil) (a_cons (x_lst a_nil) (a_cons x_emp (a_cons (x_tolist G.b_list (a_cons (x_var 0) a_nil)) (a_cons (x_tup (a_cons x_str (a_cons x_int a_nil))) (a_cons (x_tup (a_cons (x_tup (a_cons x_str a_nil)) a_nil)) (a_cons (x_tup (a_cons (x_tup (a_cons x_str (a_cons x_int (a_cons x_int a_nil)))) a_nil)) (a_cons (x_tup (a_cons (x_lst (a_cons x_str (a_cons x_int a_nil))) a_nil)) a_nil)))))))))))))))
    (ss_cons (s_set (i := 1) sc.nd (x_add (x_var 1) (x_lst (a_cons (x_tup (a_cons (x_tup (a_cons x_str (a_cons x_int a_nil))) a_nil)) (a_cons (x_tup (a_cons (x_tup (a_cons x_str (a_cons (x_neg x_int) a_nil))) a_nil)) (a_cons (x_tup (a_cons (x_tup (a_cons x_str (a_cons x_bl a_nil))) a_nil)) (a_cons (x_tup (a_cons (x_tup (a_cons x_str (a_cons x_str a_nil))) a_nil)) (a_cons (x_tup (a_cons (x_tup (a_cons x_str (a_cons x_int a_nil))) a_nil)) (a_cons (x_tup (a_cons (x_tup (a_cons x_int (a_cons x_str a_nil))) a_nil)) (a_cons (x_tup (a_cons (x_tup (a_cons x_str (a_cons x_int a_nil))) a_nil)) a_nil))))))))))
    (ss_cons (s_set (i := 1) sc.nd (x_add (x_var 1) (x_lst (a_cons (x_tup (a_cons (x_tup (a_cons x_str (a_cons x_int a_nil))) a_nil)) (a_cons (x_tup (a_cons (x_tup (a_cons x_str (a_cons x_int a_nil))) (a_cons (x_tup (a_cons x_str (a_cons x_int a_nil))) a_nil))) (a_cons (x_tup (a_cons (x_tup (a_cons x_str (a_cons x_non a_nil))) a_nil)) (a_cons (x_tup (a_cons (x_tup (a_cons x_non (a_cons x_int a_nil))) a_nil)) (a_cons (x_tup (a_cons x_str a_nil)) (a_cons (x_tup (a_cons (x_tup (a_cons x_str (a_cons x_int a_nil))) a_nil)) a_nil)))))))))
    (ss_cons (s_set (i := 1) sc.nd (x_add (x_var 1) (x_lst (a_cons (x_add (x_var 0) (x_slice (x_var 0) (o_some (x_neg x_int)) o_none)) (a_cons (x_add (x_var 0) (x_tup (a_cons x_non a_nil))) (a_cons (x_tup (a_cons (x_tup (a_cons (x_lst (a_cons x_str a_nil)) (a_cons x_int a_nil))) a_nil)) (a_cons (x_tup (a_cons (x_tup (a_cons x_str (a_cons (x_lst (a_cons x_int a_nil)) a_nil))) a_nil)) a_nil)))))))
    (ss_cons (s_expr (x_append (x_var 1) (a_cons (x_tup (a_cons (x_tup (a_cons x_str (a_cons (x_tup (a_cons x_int a_nil)) a_nil))) a_nil)) a_nil)))
    (ss_cons (s_set (i := 1) sc.nd (x_add (x_var 1) (x_lst (a_cons (x_add (x_slice (x_var 0) o_none (o_some (x_neg x_int))) (x_tup (a_cons (x_tup (a_cons (x_ix (x_ix (x_var 0) (x_neg x_int)) x_int) (a_cons x_int a_nil))) a_nil))) (a_cons (x_add (x_slice (x_var 0) o_none (o_some (x_neg x_int))) (x_tup (a_cons (x_lst (a_cons (x_ix (x_ix (x_var 0) (x_neg x_int)) x_int) (a_cons x_int a_nil))) a_nil))) a_nil)))))
    (ss_one (s_ret (x_add (x_var 1) (x_lst (a_cons (x_add (x_var 0) (x_tup (a_cons (x_tup (a_cons x_str (a_cons x_int a_nil))) (a_cons (x_tup (a_cons x_str (a_cons x_int a_nil))) a_nil)))) (a_cons (x_add (x_tup (a_cons (x_tup (a_cons x_str (a_cons x_bl a_nil))) a_nil)) (x_var 0)) a_nil))))))))))))
theorem ok_law (G : Facts K mg) {f : Addr} {fd : FuncData} (F : Fun K "law" "law" st_law f fd) : FnG P w K mg base 4 f fd P_law (spD K mg 1 FD.F_law_k03) := by
  have c__law_source : Fn P w K mg base "_law_source" st__law_source 3 P__law_source FD.F_law_source_k01 := ok__law_source G 2
  have c__law_draw : Fn P w K mg base "_law_draw" st__law_draw 3 P__law_draw FD.F_law_draw_k01 := ok__law_draw G 2
  have c__law_strand : Fn P w K mg base "_law_strand" st__law_strand 3 P__law_strand FD.F_law_strand_k02 := ok__law_strand G 1
  have c__law_bent : Fn P w K mg base "_law_bent" st__law_bent 3 P__law_bent FD.F_law_bent_k03 := ok__law_bent G 1
  have c_is_strand : Fn P w K mg base "is_strand" st_is_strand 3 P_is_strand FD.F_is_strand := ok_is_strand G 0
  have c__law_is_strand : Fn P w K mg base "_law_is_strand" st__law_is_strand 3 P__law_is_strand FD.F_law_is_strand_k03 := ok__law_is_strand G 2
  have c__law_no_strands : Fn P w K mg base "_law_no_strands" st__law_no_strands 3 P__law_no_strands FD.F_law_no_strands_k03 := ok__law_no_strands G 2
  refine fn_ok (extra := 10) (g := FD.g_law_k03) F sc_law rfl fun cdv A outer s H E hr => ?_
  have sc := sc_law
  have tk : Takes (cxOf (L2.CX P w) P w K mg base N_law "law" (defScope st_law) f cdv A outer s H E) (wOut E) := takes_of rfl rfl rfl rfl
  have pas : PassesOwn (model P w) (cxOf (L2.CX P w) P w K mg base N_law "law" (defScope st_law) f cdv A outer s H E).A (cxOf (L2.CX P w) P w K mg base N_law "law" (defScope st_law) f cdv A outer s H E).env (cxOf (L2.CX P w) P w K mg base N_law "law" (defScope st_law) f cdv A outer s H E).xe := passes_of rfl
  exact (ss_cons (s_for pas (i_wipe [1, 2, 3, 4, 5, 7, 8, 9, 10] (i_rng1 G.b_range (a_cons (x_max G.b_max (a_cons x_int (a_cons (x_min G.b_min (a_cons x_int (a_cons (x_len G.b_len (a_cons (x_var 0) a_nil)) a_nil))) a_nil))) a_nil))) (g_name (i := 1) sc.nd) (ss_wipe [1, 2, 3, 4, 5, 7, 8, 9, 10] (ss_cons (s_set (i := 2) sc.nd (x_call [false, false] c__law_source hr tk (a_cons (x_var 0) (a_cons (x_var 1) a_nil))))
    (ss_cons (s_for pas (i_wipe [1, 3, 4, 5, 7, 8, 9, 10] (i_rng1 G.b_range (a_cons x_int a_nil))) (g_name (i := 3) sc.nd) (ss_wipe [1, 3, 4, 5, 7, 8, 9, 10] (ss_cons (s_par2 (i := 4) (j := 5) sc.nd (a_cons (x_ix (x_lst (a_cons x_int (a_cons x_int a_nil))) (x_call [true, false] c__law_draw hr tk (a_cons (x_var 2) (a_cons x_int a_nil)))) (a_cons (x_ix (x_lst (a_cons x_int (a_cons (x_sub (x_pow x_int x_int) x_int) a_nil))) (x_call [true, false] c__law_draw hr tk (a_cons (x_var 2) (a_cons x_int a_nil)))) a_nil)))
    (ss_cons (s_set (i := 6) sc.nd (x_call [true, false, false] c__law_strand hr tk (a_cons (x_var 2) (a_cons (x_var 4) (a_cons (x_var 5) a_nil)))))
    (ss_one (s_for pas (i_wipe [1, 3, 4, 5, 7, 8, 9, 10] (i_seq (x_lst (a_cons (x_var 6) (a_cons (x_call [true, false] c__law_bent hr tk (a_cons (x_var 2) (a_cons (x_var 6) a_nil))) (a_cons (x_call [true, false] c__law_bent hr tk (a_cons (x_var 2) (a_cons (x_var 6) a_nil))) a_nil)))))) (g_name (i := 7) sc.nd) (ss_wipe [1, 3, 4, 5, 7, 8, 9, 10] (ss_cons (s_set (i := 8) sc.nd (x_repr hr G.b_repr (a_cons (x_var 7) a_nil)))
    (ss_cons (s_if (t_ne (u64 hr) (x_repr hr G.b_repr (a_cons (x_lst (a_cons (x_call [false] c_is_strand hr tk (a_cons (x_var 7) a_nil)) (a_cons (x_callK0 [false] c_is_strand hr tk (k_cons (x_var 7) k_nil) kw_is_strand_0) a_nil))) a_nil)) (x_repr hr G.b_repr (a_cons (x_mul (x_lst (a_cons (x_call [false] c__law_is_strand hr tk (a_cons (x_var 7) a_nil)) a_nil)) x_int) a_nil))) (ss_one (s_ret x_bl)) ss_nil)
    (ss_one (s_if (t_ne (u64 hr) (x_repr hr G.b_repr (a_cons (x_var 7) a_nil)) (x_var 8)) (ss_one (s_ret x_bl)) ss_nil)))))))))))
    (ss_cons (s_for pas (i_wipe [1, 3, 4, 5, 7, 8, 9, 10] (i_seq (x_call [false] c__law_no_strands hr tk (a_cons (x_var 6) a_nil)))) (g_name (i := 7) sc.nd) (ss_wipe [1, 3, 4, 5, 7, 8, 9, 10] (ss_one (s_if (t_isNot (x_call [false] c_is_strand hr tk (a_cons (x_var 7) a_nil)) x_bl) (ss_one (s_ret x_bl)) ss_nil))))
    (ss_cons (s_set (i := 9) sc.nd (x_mul (x_tup (a_cons (x_tup (a_cons x_str (a_cons x_int a_nil))) (a_cons (x_tup (a_cons x_str (a_cons x_int a_nil))) a_nil))) x_int))
    (ss_cons (s_set (i := 10) sc.nd (x_call [true, false] c__law_draw hr tk (a_cons (x_var 2) (a_cons x_int a_nil))))
    (ss_one (s_if (t_w (w_or (t_isNot (x_call [false] c_is_strand hr tk (a_cons (x_var 9) a_nil)) x_bl) (w_or1 (t_ne (u64 hr) (x_call [false] c_is_strand hr tk (a_cons (x_add (x_slice (x_var 9) o_none (o_some (x_var 10))) (x_slice (x_var 9) (o_some (x_add (x_var 10) x_int)) o_none)) a_nil)) (x_eq (u64 hr) (x_var 10) x_int))))) (ss_one (s_ret x_bl)) ss_nil)))))))))
    (ss_one (s_ret x_bl)))
end
section
variable {K : PySem.W.Frag} {h : Heap} {mg : Str → Option Value} {base : Heap}
theorem mk__law_source (X : K.In h) (G : h.Ns mainGlobals mg) {f : Addr} {od an : Option Addr} {sl : Array (Option Value)} {oc kV dc pm cd ct : Value} (a : PySem.W.nsIn K mainGlobals "_law_source" = some (some (.ref f)))
    (l : K.lookup f = some ⟨oc, od, .func (PySem.W.fnOf "_law_source" "_law_source" (defArgs st__law_source) (defBody st__law_source) (defScope st__law_source) .none kV dc pm an cd ct), sl⟩) (c : PySem.W.codeIn K cd "_law_source" = true) (k : PySem.W.keepIn K (.ref f) = true) :
    ∃ f fd, Fun K "_law_source" "_law_source" st__law_source f fd ∧ mg "_law_source" = some (.ref f) ∧ Binds K fd P__law_source [] :=
  ⟨_, _, fun_mk (st := st__law_source) l c k, PySem.W.mg_of X G a, (fun_mk (st := st__law_source) l c k).binds (ps := P__law_source) fun _ _ _ _ _ _ us hl => match us, hl with | [_, _], _ => rfl⟩
theorem mk__law_draw (X : K.In h) (G : h.Ns mainGlobals mg) {f : Addr} {od an : Option Addr} {sl : Array (Option Value)} {oc kV dc pm cd ct : Value} (a : PySem.W.nsIn K mainGlobals "_law_draw" = some (some (.ref f)))
    (l : K.lookup f = some ⟨oc, od, .func (PySem.W.fnOf "_law_draw" "_law_draw" (defArgs st__law_draw) (defBody st__law_draw) (defScope st__law_draw) .none kV dc pm an cd ct), sl⟩) (c : PySem.W.codeIn K cd "_law_draw" = true) (k : PySem.W.keepIn K (.ref f) = true) :
    ∃ f fd, Fun K "_law_draw" "_law_draw" st__law_draw f fd ∧ mg "_law_draw" = some (.ref f) ∧ Binds K fd P__law_draw [] :=
  ⟨_, _, fun_mk (st := st__law_draw) l c k, PySem.W.mg_of X G a, (fun_mk (st := st__law_draw) l c k).binds (ps := P__law_draw) fun _ _ _ _ _ _ us hl => match us, hl with | [_, _], _ => rfl⟩
theorem mk__law_strand (X : K.In h) (G : h.Ns mainGlobals mg) {f : Addr} {od an : Option Addr} {sl : Array (Option Value)} {oc kV dc pm cd ct : Value} (a : PySem.W.nsIn K mainGlobals "_law_strand" = some (some (.ref f)))
    (l : K.lookup f = some ⟨oc, od, .func (PySem.W.fnOf "_law_strand" "_law_strand" (defArgs st__law_strand) (defBody st__law_strand) (defScope st__law_strand) .none kV dc pm an cd ct), sl⟩) (c : PySem.W.codeIn K cd "_law_strand" = true) (k : PySem.W.keepIn K (.ref f) = true) :
    ∃ f fd, Fun K "_law_strand" "_law_strand" st__law_strand f fd ∧ mg "_law_strand" = some (.ref f) ∧ Binds K fd P__law_strand [] :=
  ⟨_, _, fun_mk (st := st__law_strand) l c k, PySem.W.mg_of X G a, (fun_mk (st := st__law_strand) l c k).binds (ps := P__law_strand) fun _ _ _ _ _ _ us hl => match us, hl with | [_, _, _], _ => rfl⟩
theorem mk__law_bent (X : K.In h) (G : h.Ns mainGlobals mg) {f : Addr} {od an : Option Addr} {sl : Array (Option Value)} {oc kV dc pm cd ct : Value} (a : PySem.W.nsIn K mainGlobals "_law_bent" = some (some (.ref f)))
    (l : K.lookup f = some ⟨oc, od, .func (PySem.W.fnOf "_law_bent" "_law_bent" (defArgs st__law_bent) (defBody st__law_bent) (defScope st__law_bent) .none kV dc pm an cd ct), sl⟩) (c : PySem.W.codeIn K cd "_law_bent" = true) (k : PySem.W.keepIn K (.ref f) = true) :
    ∃ f fd, Fun K "_law_bent" "_law_bent" st__law_bent f fd ∧ mg "_law_bent" = some (.ref f) ∧ Binds K fd P__law_bent [] :=
  ⟨_, _, fun_mk (st := st__law_bent) l c k, PySem.W.mg_of X G a, (fun_mk (st := st__law_bent) l c k).binds (ps := P__law_bent) fun _ _ _ _ _ _ us hl => match us, hl with | [_, _], _ => rfl⟩
theorem mk_is_integer (X : K.In h) (G : h.Ns mainGlobals mg) {f : Addr} {od an : Option Addr} {sl : Array (Option Value)} {oc kV dc pm cd ct : Value} (a : PySem.W.nsIn K mainGlobals "is_integer" = some (some (.ref f)))
    (l : K.lookup f = some ⟨oc, od, .func (PySem.W.fnOf "is_integer" "is_integer" (defArgs st_is_integer) (defBody st_is_integer) (defScope st_is_integer) .none kV dc pm an cd ct), sl⟩) (c : PySem.W.codeIn K cd "is_integer" = true) (k : PySem.W.keepIn K (.ref f) = true) :
    ∃ f fd, Fun K "is_integer" "is_integer" st_is_integer f fd ∧ mg "is_integer" = some (.ref f) ∧ Binds K fd P_is_integer [] :=
  ⟨_, _, fun_mk (st := st_is_integer) l c k, PySem.W.mg_of X G a, (fun_mk (st := st_is_integer) l c k).binds (ps := P_is_integer) fun _ _ _ _ _ _ us hl => match us, hl with | [_, _, _], _ => rfl⟩
theorem mk_is_run (X : K.In h) (G : h.Ns mainGlobals mg) {f : Addr} {od an : Option Addr} {sl : Array (Option Value)} {oc kV dc pm cd ct : Value} (a : PySem.W.nsIn K mainGlobals "is_run" = some (some (.ref f)))
    (l : K.lookup f = some ⟨oc, od, .func (PySem.W.fnOf "is_run" "is_run" (defArgs st_is_run) (defBody st_is_run) (defScope st_is_run) .none kV dc pm an cd ct), sl⟩) (c : PySem.W.codeIn K cd "is_run" = true) (k : PySem.W.keepIn K (.ref f) = true) :
    ∃ f fd, Fun K "is_run" "is_run" st_is_run f fd ∧ mg "is_run" = some (.ref f) ∧ Binds K fd P_is_run [] :=
  ⟨_, _, fun_mk (st := st_is_run) l c k, PySem.W.mg_of X G a, (fun_mk (st := st_is_run) l c k).binds (ps := P_is_run) fun _ _ _ _ _ _ us hl => match us, hl with | [_], _ => rfl⟩
theorem mk_is_strand (X : K.In h) (G : h.Ns mainGlobals mg) {f : Addr} {od an : Option Addr} {sl : Array (Option Value)} {oc kV dc pm cd ct : Value} (a : PySem.W.nsIn K mainGlobals "is_strand" = some (some (.ref f)))
    (l : K.lookup f = some ⟨oc, od, .func (PySem.W.fnOf "is_strand" "is_strand" (defArgs st_is_strand) (defBody st_is_strand) (defScope st_is_strand) .none kV dc pm an cd ct), sl⟩) (c : PySem.W.codeIn K cd "is_strand" = true) (k : PySem.W.keepIn K (.ref f) = true) :
    ∃ f fd, Fun K "is_strand" "is_strand" st_is_strand f fd ∧ mg "is_strand" = some (.ref f) ∧ Binds K fd P_is_strand [] :=
  ⟨_, _, fun_mk (st := st_is_strand) l c k, PySem.W.mg_of X G a, (fun_mk (st := st_is_strand) l c k).binds (ps := P_is_strand) fun _ _ _ _ _ _ us hl => match us, hl with | [_], _ => rfl⟩
theorem mk__law_is_strand (X : K.In h) (G : h.Ns mainGlobals mg) {f : Addr} {od an : Option Addr} {sl : Array (Option Value)} {oc kV dc pm cd ct : Value} (a : PySem.W.nsIn K mainGlobals "_law_is_strand" = some (some (.ref f)))
    (l : K.lookup f = some ⟨oc, od, .func (PySem.W.fnOf "_law_is_strand" "_law_is_strand" (defArgs st__law_is_strand) (defBody st__law_is_strand) (defScope st__law_is_strand) .none kV dc pm an cd ct), sl⟩) (c : PySem.W.codeIn K cd "_law_is_strand" = true) (k : PySem.W.keepIn K (.ref f) = true) :
    ∃ f fd, Fun K "_law_is_strand" "_law_is_strand" st__law_is_strand f fd ∧ mg "_law_is_strand" = some (.ref f) ∧ Binds K fd P__law_is_strand [] :=
  ⟨_, _, fun_mk (st := st__law_is_strand) l c k, PySem.W.mg_of X G a, (fun_mk (st := st__law_is_strand) l c k).binds (ps := P__law_is_strand) fun _ _ _ _ _ _ us hl => match us, hl with | [_], _ => rfl⟩
theorem mk__law_no_strands (X : K.In h) (G : h.Ns mainGlobals mg) {f : Addr} {od an : Option Addr} {sl : Array (Option Value)} {oc kV dc pm cd ct : Value} (a : PySem.W.nsIn K mainGlobals "_law_no_strands" = some (some (.ref f)))
    (l : K.lookup f = some ⟨oc, od, .func (PySem.W.fnOf "_law_no_strands" "_law_no_strands" (defArgs st__law_no_strands) (defBody st__law_no_strands) (defScope st__law_no_strands) .none kV dc pm an cd ct), sl⟩) (c : PySem.W.codeIn K cd "_law_no_strands" = true) (k : PySem.W.keepIn K (.ref f) = true) :
    ∃ f fd, Fun K "_law_no_strands" "_law_no_strands" st__law_no_strands f fd ∧ mg "_law_no_strands" = some (.ref f) ∧ Binds K fd P__law_no_strands [] :=
  ⟨_, _, fun_mk (st := st__law_no_strands) l c k, PySem.W.mg_of X G a, (fun_mk (st := st__law_no_strands) l c k).binds (ps := P__law_no_strands) fun _ _ _ _ _ _ us hl => match us, hl with | [_], _ => rfl⟩
end
end T_k03

namespace FD
open PySem L2 PyProof.Rows FX
local macro_rules | `(tactic| bv_omega) => `(tactic| try (simp only [wp_ok, wp_some, wp_none, wp_ofIte, wp_ofMap, wp_ofBind, optK_some, optK_ite, get0, get1, get2, get3, get4, get5, get6, get7, get8, get9, getS, put0, put1, put2, put3, put4, put5, put6, put7, put8, put9, putS, w_var, varK_frz, varK_loc, varK_io, w_c, w_bin, w_bin2, bin3_some, deref_val, deref_own, deref_ref, seen_loc, seen_io, seen_frz, map_some, FX.bind_some, w_un, w_un1, un2_some, w_anil, w_acons, w_blt, w_blt1, blt2_some, derefs_nil, derefs_cons, w_met, w_met0, w_met1, met2_some, w_call, w_callK, w_lst, w_tup, w_slice, w_onone, w_osome, w_osome1, w_tst, w_tst1, w_tst1i, w_tstB, w_tstB1, w_not, chz_t, chz_f, chz_not, w_orD, w_andD, w_orV, w_andV, w_notV, w_eIf, w_seq, seqK_nx, seqK_rt, seqK_bk, seqK_ct, w_nx, w_bk, w_ct, w_bad, w_if, w_ret, retK_val, retK_own, retK_ref, retK2_loc, w_retN, w_set, setK_val, setK_own, w_setS, setS2_frz, setS2_any, setS2_loc, w_expr, layS_eq, layK_frz, layK_any, layK_loc, layKo_frz, layKo_any, layKo_loc, parK_some, w_par2, w_par2K, w_par3, w_par3K, w_tgt, tgtK_val, bName_eq, nameK_frz, nameK_any, nameK_loc, bTup_tup, bCons_eq, bNil_eq, w_aug, augK_frz, augK2_val, augK2_own, w_setIx, w_sixK0, w_sixK1, w_sixK2, ixsK_loc, ixsK_io, w_mut, w_mut0, w_mut1, mutK_app_loc, mutK_app_io, freezes_nil, freezes_val, freezes_own, freezes_ref, freeze_ref, frz1K_loc, freeze_val, freeze_own, w_for, turnK_nx, turnK_ct, turnK_bk, turnK_rt, w_rng, iterK_some, iterK_ite, w_frzI, w_seqI, w_comp, w_yes, outK_rt, outK_nx, outS_nil, outS_frz, outS_io, wipe_nil, wipe_cons, ix3_0, ix3_1, ix3_2, at3_0, at3_1, at3_2, at2_0, at2_1, at4_0, at4_1, at4_2, at4_3, set3_0, set3_1, set3_2, isN_int, isN_non, isNN_int, isNN_non, isi_int, isi_intB, isi_tup, isi_str, isi_lst, is_bl, isNot_bl, seqD_lst, seqD_tup, seqD_scr, w_fz, fzK_val, fzK_own, fzK_ref, eqD_int, neD_int, eqD_bl, neD_bl, eq_self, scountD_str, tupleD_lst, tupleD_tup, listD_lst, listD_tup, intD_bl, allInts_map, allBls_map, sliceD_lst, sliceD_tup, countD_lst, allD_lst, anyD_lst, sumD_one, maxD_one, minD_one, intsOf_lst, intsOf_scr, pick_nil, pick_cons, pickC_some, List.nil_append, List.cons_append, notInD_two, inD_two, addD_int, wp_addLst, wp_addTup, wp_addStr, wp_lenStr, wp_sliceStr, wp_ixStr, subD_int, mulD_int, fdivD_int, modD_int, powD_int, ltD_int, leD_int, gtD_int, geD_int, ixD_lst, ixD_tup, ixD_scr, negD_int, lenD_lst, lenD_tup, lenD_scr, absD_int, intD_int, iterK_rng1, iterK_rng2, enumD_lst, zipD_lst, zipD_tup, maxD_two, minD_two, augAddD_int, Bool.not_true, Bool.not_false, decide_true, decide_false, reduceCtorEq, true_and, and_true, not_false_eq_true, w_chain, w_chainK, w_wipe, wipeF_nx, wipeF_bk, wipeF_ct, wipeF_rt, w_pre, w_iwipe, w_emp, wp_listRng1, wp_listRng2, indexD_lst, revD_lst, wp_strI, wp_repr, wp_sorted, wp_sortedSet, zipL_maps, enumL_maps, seqD_str, len0, len1, len2, len3, len4, few0, few1, few2, few3, few4, few5, few6, turnK_nx, loop_nil, mutK_loc, mutK_io, appU1, extU1, popU0, popAtU1, optK_map, optK_bind, Nat.reduceEqDiff, w_mov, movK_frz, movK_loc, w_comp2, eqT0D_tup, revA_lst, revA_tup]))
local macro_rules | `(tactic| ac_nf) => `(tactic| repeat (refine ⟨by first | decide | omega | (simp; done) | (simp; omega), ?_⟩))
/-! ### the law's own judgement -/
def goS (last : Option Bool) : List Dt → Bool
  | [] => true
  | d :: r => isR d && ((match last with
    | none => true
    | some b => (toRun d).1 != b) && goS (some (toRun d).1) r)
theorem goS_some : ∀ {ds : List Dt} {b : Bool}, goS (some b) ds = (ds.all isR && (altB (ds.map toRun) && (match ds with
    | [] => true
    | d :: _ => (toRun d).1 != b)))
  | [], b => rfl
  | [d], b => by
    show (isR d && (((toRun d).1 != b) && true)) = ((isR d && true) && (true && ((toRun d).1 != b)))
    cases isR d <;> cases ((toRun d).1 != b) <;> rfl
  | d :: e :: r, b => by
    have ih := goS_some (ds := e :: r) (b := (toRun d).1)
    show (isR d && (((toRun d).1 != b) && goS (some (toRun d).1) (e :: r))) = ((isR d && (e :: r).all isR) && ((((toRun d).1 != (toRun e).1) && altB ((e :: r).map toRun)) && ((toRun d).1 != b)))
    rw [ih]
    show (isR d && (((toRun d).1 != b) && ((e :: r).all isR && (altB ((e :: r).map toRun) && ((toRun e).1 != (toRun d).1))))) = _
    rw [show ((toRun e).1 != (toRun d).1) = ((toRun d).1 != (toRun e).1) from bne_comm]
    cases isR d <;> cases ((toRun d).1 != b) <;> cases ((toRun d).1 != (toRun e).1) <;> cases ((e :: r).all isR) <;> cases altB ((e :: r).map toRun) <;> rfl
theorem goS_none {ds : List Dt} : goS none ds = (ds.all isR && altB (ds.map toRun)) := by
  cases ds with
  | nil => rfl
  | cons d r =>
    show (isR d && (true && goS (some (toRun d).1) r)) = _
    rw [goS_some]
    cases r with
    | nil => cases h : isR d <;> simp [h, altB]
    | cons e r =>
      show (isR d && (true && ((e :: r).all isR && (altB ((e :: r).map toRun) && ((toRun e).1 != (toRun d).1))))) = ((isR d && (e :: r).all isR) && (((toRun d).1 != (toRun e).1) && altB ((e :: r).map toRun)))
      rw [show ((toRun e).1 != (toRun d).1) = ((toRun d).1 != (toRun e).1) from bne_comm]
      cases isR d <;> cases ((toRun d).1 != (toRun e).1) <;> cases ((e :: r).all isR) <;> cases altB ((e :: r).map toRun) <;> rfl
def nq : Option Bool → Run → Bool
  | none, _ => true
  | some b, r => r.1 != b
theorem goS_rD {o : Option Bool} {r : Run} {ys : List Dt} (h : isR (rD r) = true) : goS o (rD r :: ys) = (nq o r && goS (some r.1) ys) := by
  have e := toRun_rD (r := r)
  cases o with
  | none =>
    show (isR (rD r) && (true && goS (some (toRun (rD r)).1) ys)) = _
    rw [h, e]; rfl
  | some b =>
    show (isR (rD r) && (((toRun (rD r)).1 != b) && goS (some (toRun (rD r)).1) ys)) = _
    rw [h, e]; rfl
def lastS : Option Bool → Dt
  | none => .str ""
  | some b => sD b
theorem eq_last {r : Run} {o : Option Bool} : eqD (sD r.1) (lastS o) = some (.val (.bl (!nq o r))) := by
  obtain ⟨c, n⟩ := r
  cases o with
  | none => cases c <;> rfl
  | some b => cases c <;> cases b <;> rfl
theorem notin_str {z : Str} : notInD (.str z) (.lst [.str "D", .str "L"]) = some (.val (.bl (!(("D" : Str) == z || ("L" : Str) == z)))) := by
  unfold notInD
  have : inX (.str z) (.lst [.str "D", .str "L"]) = some (inF (.str z) [.str "D", .str "L"]) := rfl
  rw [this]
  unfold inF eqF
  simp
theorem lawstrand_any {d : Dt} : Wp (F_law_is_strand_k03 [.frz d]) fun q => q = (.val (.bl (isS d)), [.any]) := by
  refine w_fn rfl ?_
  unfold g_law_is_strand_k03
  simp only [List.replicate, List.cons_append, List.nil_append]
  bv_omega
  simp only [isi_tupleA]
  cases d with
  | tup ds =>
    simp only [Dt.is_tuple]
    have es : isS (.tup ds) = (!ds.isEmpty && (ds.all isR && altB (ds.map toRun))) := rfl
    rw [es, ← goS_none]
    bv_omega
    refine wp_chzD (fun hp => ?_) fun hp => ?_
    · have : ds = [] := List.length_eq_zero_iff.mp (by omega)
      subst this
      bv_omega
      rfl
    · have ne : ds.isEmpty = false := by
        cases ds with
        | nil => exact absurd rfl hp
        | cons d ds => rfl
      rw [ne, show (!false && goS none ds) = goS none ds from rfl]
      bv_omega
      rw [show loopD (bName 2) = fun s (l : List Dt) ρ => loopD (bName 2) s (l.map id) ρ by funext s l ρ; rw [List.map_id]]
      refine wp_loopT (fun st : Option Bool => [.any, .frz (lastS st), .any]) id ds (fun st ys => goS st ys = goS none ds) none rfl (fun st hI => ?_) fun st d ys hI => ?_
      · bv_omega
        rw [← hI]
        rfl
      · simp only [id]
        cases hR : isR d
        · have hf : goS none ds = false := by
            rw [← hI]
            show (isR d && _) = false
            rw [hR]; rfl
          rw [hf]
          bv_omega
          simp only [isi_tupleA]
          cases d with
          | tup es =>
            simp only [Dt.is_tuple]
            bv_omega
            refine wp_chzD (fun hp2 => ?_) fun hp2 => ?_
            · obtain ⟨a, b, rfl⟩ : ∃ a b, es = [a, b] := by
                match es, hp2 with
                | [a, b], _ => exact ⟨a, b, rfl⟩
                | [], h => simp at h
                | [a], h => simp at h
                | a :: b :: c :: r, h => simp at h; omega
              bv_omega
              simp only [isi_strA]
              cases a with
              | str z =>
                simp only [Dt.is_str]
                bv_omega
                rw [notin_str]
                bv_omega
                have e2 : isR (.tup [.str z, b]) = ((("D" : Str) == z || ("L" : Str) == z) && isI b 1 none) := rfl
                rw [e2] at hR
                cases hc : (("D" : Str) == z || ("L" : Str) == z)
                · bv_omega
                · obtain ⟨c, ez⟩ : ∃ c, Dt.str z = sD c := by
                    rw [Bool.or_eq_true] at hc
                    rcases hc with h1 | h1
                    · have := (beq_iff_eq (a := ("D" : Str))).mp h1
                      subst this
                      exact ⟨true, rfl⟩
                    · have := (beq_iff_eq (a := ("L" : Str))).mp h1
                      subst this
                      exact ⟨false, rfl⟩
                  bv_omega
                  rw [ez, show sD c = sD ((c, 0) : Run).1 from rfl, eq_last]
                  rw [hc, Bool.true_and] at hR
                  cases hcb : nq st (c, 0)
                  · bv_omega
                  · bv_omega
                    simp only [isi_intA]
                    cases b with
                    | int v =>
                      simp only [Dt.is_int]
                      bv_omega
                      have hv : v < 1 := by
                        have : (decide (1 ≤ v) && true) = false := hR
                        simp at this
                        omega
                      rw [decide_eq_true hv]
                      bv_omega
                    | bl v => simp only [Dt.is_int]; bv_omega; simp only [isi_boolA, Dt.is_bool]; bv_omega
                    | non => simp only [Dt.is_int]; bv_omega
                    | str v => simp only [Dt.is_int]; bv_omega
                    | tup v => simp only [Dt.is_int]; bv_omega
                    | lst v => simp only [Dt.is_int]; bv_omega
                    | scr v => simp only [Dt.is_int]; bv_omega
                    | emp => simp only [Dt.is_int]; bv_omega
              | non => simp only [Dt.is_str]; bv_omega
              | bl v => simp only [Dt.is_str]; bv_omega
              | int v => simp only [Dt.is_str]; bv_omega
              | tup v => simp only [Dt.is_str]; bv_omega
              | lst v => simp only [Dt.is_str]; bv_omega
              | scr v => simp only [Dt.is_str]; bv_omega
              | emp => simp only [Dt.is_str]; bv_omega
            · bv_omega
          | non => simp only [Dt.is_tuple]; bv_omega
          | bl v => simp only [Dt.is_tuple]; bv_omega
          | int v => simp only [Dt.is_tuple]; bv_omega
          | str v => simp only [Dt.is_tuple]; bv_omega
          | lst v => simp only [Dt.is_tuple]; bv_omega
          | scr v => simp only [Dt.is_tuple]; bv_omega
          | emp => simp only [Dt.is_tuple]; bv_omega
        · obtain ⟨e, hn⟩ := isR_of hR
          generalize hr : toRun d = r at *
          subst e
          rw [goS_rD hR] at hI
          simp only [rD]
          bv_omega
          rw [decide_eq_true (by rfl : (([sD r.1, Dt.int r.2] : List Dt).length : Int) = 2)]
          bv_omega
          rw [show isiD "str" (sD r.1) = some (.val (.bl true)) from isi_str]
          bv_omega
          rw [show notInD (sD r.1) (.lst [.str "D", .str "L"]) = some (.val (.bl false)) by cases r.1 <;> rfl]
          bv_omega
          rw [eq_last]
          cases hq : nq st r
          · rw [hq] at hI
            bv_omega
            rw [← hI]
            rfl
          · rw [hq] at hI
            bv_omega
            rw [decide_eq_false (show ¬ r.2 < 1 by omega)]
            bv_omega
            exact ⟨some r.1, rfl, by rw [← hI]; rfl⟩
  | non => simp only [Dt.is_tuple]; bv_omega; rfl
  | bl v => simp only [Dt.is_tuple]; bv_omega; rfl
  | int v => simp only [Dt.is_tuple]; bv_omega; rfl
  | str v => simp only [Dt.is_tuple]; bv_omega; rfl
  | lst v => simp only [Dt.is_tuple]; bv_omega; rfl
  | scr v => simp only [Dt.is_tuple]; bv_omega; rfl
  | emp => simp only [Dt.is_tuple]; bv_omega; rfl
/-! ### values with one change -/
theorem cutL_mem {ds : List Dt} {d : Dt} {a b : Option Int} (h : d ∈ cutL ds a b) : d ∈ ds := by
  unfold cutL at h
  exact List.mem_of_mem_drop (List.mem_of_mem_take h)
theorem cutL_len {ds : List Dt} {a b : Option Int} : (cutL ds a b).length ≤ ds.length := by
  unfold cutL
  rw [List.length_take, List.length_drop]
  omega
theorem bent_end {ds : List Dt} (h1 : ∀ d ∈ ds, Rk 6 300 d) (h2 : ds.length ≤ 60) : (Dt.tup ds).isRef = true ∧ Rk 8 20000 (.tup ds) ∧ tlen (.tup ds) ≤ 100 :=
  ⟨rfl, rk_tup (n := 7) (w := 300) (fun d hd => by
    have := h1 d hd
    exact ⟨this.s, this.l, this.b, by have := this.p; omega⟩) (by omega), by show ds.length ≤ 100; omega⟩
theorem rk_sD {n w : Nat} {b : Bool} (h : 1 ≤ w) : Rk n w (sD b) := by
  cases b
  · exact rk_str (x := "L") (by decide) h
  · exact rk_str (x := "D") (by decide) h
theorem rk_rD {r : Run} (h1 : 1 ≤ r.2) (h2 : r.2 ≤ 10 ^ 90) : Rk 6 300 (rD r) := rk_tup (n := 5) (w := 1) (fun d hd => by
  simp only [List.mem_cons, List.not_mem_nil, or_false] at hd
  rcases hd with rfl | rfl
  · exact rk_sD (by decide)
  · exact rk_int (by
      have : r.2.natAbs ≤ 10 ^ 90 := by omega
      exact Nat.lt_of_le_of_lt this (by decide +kernel))) (by simp)
theorem bmem {ds : List Dt} {a b c e : Option Int} {x : Dt} (h : ∀ d ∈ ds, Rk 6 300 d) (hx : Rk 6 300 x) : ∀ d ∈ cutL ds a b ++ [x] ++ cutL ds c e, Rk 6 300 d := fun d hd => by
  rcases List.mem_append.mp hd with q | q
  · rcases List.mem_append.mp q with q | q
    · exact h d (cutL_mem q)
    · simp at q; subst q; exact hx
  · exact h d (cutL_mem q)
theorem blen {ds : List Dt} {a b c e : Option Int} {x : Dt} (h : ds.length ≤ 24) : (cutL ds a b).length + [x].length ≤ 16777216 ∧ (cutL ds a b ++ [x]).length + (cutL ds c e).length ≤ 16777216 ∧ (cutL ds a b ++ [x] ++ cutL ds c e).length ≤ 60 := by
  have := cutL_len (ds := ds) (a := a) (b := b)
  have := cutL_len (ds := ds) (a := c) (b := e)
  simp only [List.length_append, List.length_cons, List.length_nil]
  omega
theorem bodd {v : Int} (h0 : 0 ≤ v) (h1 : v < 17) : ∃ d, L2.atI [Dt.non, Dt.int 0, Dt.int (-1), Dt.bl true, Dt.bl false, Dt.str "1", Dt.str "d", Dt.str "", Dt.str "X", Dt.str "LD", Dt.int (10 ^ Int.toNat 32 - 1), Dt.int 1, Dt.str "D", Dt.str "L", Dt.lst [Dt.int 1], Dt.emp, Dt.tup [Dt.int 1]] v = some d ∧ Rk 5 100 d := by
  obtain ⟨d, e1, e2⟩ := atI_in (xs := [Dt.non, Dt.int 0, Dt.int (-1), Dt.bl true, Dt.bl false, Dt.str "1", Dt.str "d", Dt.str "", Dt.str "X", Dt.str "LD", Dt.int (10 ^ Int.toNat 32 - 1), Dt.int 1, Dt.str "D", Dt.str "L", Dt.lst [Dt.int 1], Dt.emp, Dt.tup [Dt.int 1]]) (i := v) h0 (by simpa using h1)
  refine ⟨d, e1, ?_⟩
  have i1 : ∀ d ∈ [Dt.int 1], Rk 4 1 d := fun d hd => by simp at hd; subst hd; exact rk_int (by decide)
  simp only [List.mem_cons, List.not_mem_nil, or_false] at e2
  rcases e2 with rfl | rfl | rfl | rfl | rfl | rfl | rfl | rfl | rfl | rfl | rfl | rfl | rfl | rfl | rfl | rfl | rfl
  · exact rk_non
  · exact rk_int (by decide)
  · exact rk_int (by decide)
  · exact rk_bl
  · exact rk_bl
  · exact rk_str (by decide) (by decide)
  · exact rk_str (by decide) (by decide)
  · exact rk_str (by decide) (by decide)
  · exact rk_str (by decide) (by decide)
  · exact rk_str (by decide) (by decide)
  · exact rk_int (by decide +kernel)
  · exact rk_int (by decide)
  · exact rk_str (by decide) (by decide)
  · exact rk_str (by decide) (by decide)
  · exact rk_lst i1 (by decide)
  · exact rk_emp
  · exact rk_tup i1 (by decide)
theorem bent_ok {s : List Dt} {k : Int} {xs : List Run} (hS : Sd k s) (hk : k ≤ 500000) (h : Good xs) (hz : xs.length ≤ 24) (hw : ∀ r ∈ xs, r.2 ≤ 10 ^ 90) :
    Wp (F_law_bent_k03 [.io s, .frz (sT xs)]) fun q => ∃ d s', (q.1 = .val d ∨ ∃ ds, q.1 = .own ds ∧ d = .lst ds) ∧ q.2 = [.io s', .any] ∧ (d.isRef = true ∧ Rk 8 20000 d ∧ tlen d ≤ 100) ∧ Sd (k + 3) s' := by
  have tp : 1 ≤ xs.length := by
    rcases Nat.eq_zero_or_pos xs.length with e | e
    · exact absurd (List.length_eq_zero_iff.mp e) h.ne
    · exact e
  refine w_fn rfl ?_
  unfold g_law_bent_k03 sT
  simp only [List.replicate, List.cons_append, List.nil_append]
  bv_omega
  refine wp_callD rfl rfl (Wp.imp (draw1_ok (b := ((xs.map rD).length : Nat)) hS (by omega) (by simp; omega) (by simp; omega)) ?_)
  rintro _ ⟨at_, s1, rfl, a0, a1, hS1⟩
  refine ⟨rfl, by first | exact .inl rfl | exact .inr rfl, rfl, ?_⟩
  simp only [putBack, back1]
  bv_omega
  refine wp_callD rfl rfl (Wp.imp (draw1_ok (b := 9) hS1 (by omega) (by decide) (by decide)) ?_)
  rintro _ ⟨way, s2, rfl, b0, b1, hS2⟩
  refine ⟨rfl, by first | exact .inl rfl | exact .inr rfl, rfl, ?_⟩
  simp only [putBack, back1]
  bv_omega
  rw [List.length_map] at a1
  obtain ⟨r, e1, rm⟩ := atI_in (xs := xs) a0 a1
  rw [atI_maps, e1]
  bv_omega
  have rk : ∀ d ∈ xs.map rD, Rk 6 300 d := fun d hd => by
    obtain ⟨q, hq, rfl⟩ := List.mem_map.mp hd
    exact rk_rD (h.pos q hq) (hw q hq)
  refine ⟨⟨fit_n (by decide) (by decide), by decide, by decide⟩, by decide, ?_⟩
  have lx : (xs.map rD).length ≤ 24 := by simpa using hz
  have rp : ∀ d ∈ [sD r.1, Dt.int r.2], Rk 5 100 d := fun d hd => by
    simp only [List.mem_cons, List.not_mem_nil, or_false] at hd
    rcases hd with rfl | rfl
    · exact rk_sD (by decide)
    · exact rk_int (by
        have := h.pos r rm
        have := hw r rm
        have : r.2.natAbs ≤ 10 ^ 90 := by omega
        exact Nat.lt_of_le_of_lt this (by decide +kernel))
  have two : ∀ {a b : Dt}, Rk 5 100 a → Rk 5 100 b → Rk 6 300 (.tup [a, b]) := fun {a b} ha hb => rk_tup (n := 5) (w := 100) (fun d hd => by
    simp only [List.mem_cons, List.not_mem_nil, or_false] at hd
    rcases hd with rfl | rfl
    · exact ha
    · exact hb) (by simp)
  have rr : rD r = .tup [sD r.1, .int r.2] := rfl
  refine wp_chzD (fun c0 => ?_) fun c0 => ?_
  · bv_omega
    have := cutL_len (ds := xs.map rD) (a := none) (b := some at_)
    have := cutL_len (ds := xs.map rD) (a := some (at_ + 1)) (b := none)
    refine ⟨by omega, _, s2, .inl rfl, rfl, bent_end (fun d hd => ?_) (by rw [List.length_append]; omega), hS2.mono (by omega)⟩
    rcases List.mem_append.mp hd with q | q
    · exact rk d (cutL_mem q)
    · exact rk d (cutL_mem q)
  bv_omega
  refine wp_chzD (fun c1 => ?_) fun c1 => ?_
  · bv_omega
    obtain ⟨q1, q2, q3⟩ := blen (a := none) (b := some at_) (c := some at_) (e := none) (x := rD r) lx
    exact ⟨q1, q2, _, s2, .inl rfl, rfl, bent_end (bmem rk (rk_rD (h.pos r rm) (hw r rm))) q3, hS2.mono (by omega)⟩
  bv_omega
  refine wp_chzD (fun c2 => ?_) fun c2 => ?_
  · bv_omega
    rw [rr]
    bv_omega
    obtain ⟨q1, q2, q3⟩ := blen (a := none) (b := some at_) (c := some (at_ + 1)) (e := none) (x := .lst [sD r.1, .int r.2]) lx
    exact ⟨q1, q2, _, s2, .inl rfl, rfl, bent_end (bmem rk (rk_lst (n := 5) (w := 100) rp (by simp))) q3, hS2.mono (by omega)⟩
  bv_omega
  refine wp_chzD (fun c3 => ?_) fun c3 => ?_
  · bv_omega
    exact ⟨.lst (xs.map rD), s2, .inr ⟨_, rfl, rfl⟩, rfl, ⟨rfl, rk_lst (n := 7) (w := 300) (fun d hd => by
      have := rk d hd
      exact ⟨this.s, this.l, this.b, by have := this.p; omega⟩) (by omega), by show 0 ≤ 100; omega⟩, hS2.mono (by omega)⟩
  bv_omega
  refine wp_chzD (fun c4 => ?_) fun c4 => ?_
  · bv_omega
    rw [rr]
    bv_omega
    refine wp_callD rfl rfl (Wp.imp (draw1_ok (b := 17) hS2 (by omega) (by decide) (by decide)) ?_)
    rintro _ ⟨v, s3, rfl, v0, v1, hS3⟩
    refine ⟨rfl, by first | exact .inl rfl | exact .inr rfl, rfl, ?_⟩
    simp only [putBack, back1]
    bv_omega
    obtain ⟨o, eo, ro⟩ := bodd v0 v1
    rw [eo]
    bv_omega
    obtain ⟨q1, q2, q3⟩ := blen (a := none) (b := some at_) (c := some (at_ + 1)) (e := none) (x := .tup [sD r.1, o]) lx
    exact ⟨q1, q2, _, s3, .inl rfl, rfl, bent_end (bmem rk (two (rp _ (by simp)) ro)) q3, hS3.mono (by omega)⟩
  bv_omega
  refine wp_chzD (fun c5 => ?_) fun c5 => ?_
  · bv_omega
    rw [rr]
    bv_omega
    refine wp_callD rfl rfl (Wp.imp (draw1_ok (b := 17) hS2 (by omega) (by decide) (by decide)) ?_)
    rintro _ ⟨v, s3, rfl, v0, v1, hS3⟩
    refine ⟨rfl, by first | exact .inl rfl | exact .inr rfl, rfl, ?_⟩
    simp only [putBack, back1]
    bv_omega
    obtain ⟨o, eo, ro⟩ := bodd v0 v1
    rw [eo]
    bv_omega
    obtain ⟨q1, q2, q3⟩ := blen (a := none) (b := some at_) (c := some (at_ + 1)) (e := none) (x := .tup [o, .int r.2]) lx
    exact ⟨q1, q2, _, s3, .inl rfl, rfl, bent_end (bmem rk (two ro (rp _ (by simp)))) q3, hS3.mono (by omega)⟩
  bv_omega
  refine wp_chzD (fun c6 => ?_) fun c6 => ?_
  · bv_omega
    refine wp_callD rfl rfl (Wp.imp (draw1_ok (b := 17) hS2 (by omega) (by decide) (by decide)) ?_)
    rintro _ ⟨v, s3, rfl, v0, v1, hS3⟩
    refine ⟨rfl, by first | exact .inl rfl | exact .inr rfl, rfl, ?_⟩
    simp only [putBack, back1]
    bv_omega
    obtain ⟨o, eo, ro⟩ := bodd v0 v1
    rw [eo]
    bv_omega
    obtain ⟨q1, q2, q3⟩ := blen (a := none) (b := some at_) (c := some (at_ + 1)) (e := none) (x := o) lx
    exact ⟨q1, q2, _, s3, .inl rfl, rfl, bent_end (bmem rk ⟨ro.s, ro.l, by have := ro.b; omega, by have := ro.p; omega⟩) q3, hS3.mono (by omega)⟩
  bv_omega
  refine wp_chzD (fun c7 => ?_) fun c7 => ?_
  · bv_omega
    rw [rr]
    bv_omega
    rw [show ([sD r.1, Dt.int r.2] : List Dt).reverse = [.int r.2, sD r.1] from rfl]
    obtain ⟨q1, q2, q3⟩ := blen (a := none) (b := some at_) (c := some (at_ + 1)) (e := none) (x := .tup [.int r.2, sD r.1]) lx
    exact ⟨q1, q2, _, s2, .inl rfl, rfl, bent_end (bmem rk (two (rp _ (by simp)) (rp _ (by simp)))) q3, hS2.mono (by omega)⟩
  bv_omega
  rw [rr]
  bv_omega
  obtain ⟨q1, q2, q3⟩ := blen (a := none) (b := some at_) (c := some (at_ + 1)) (e := none) (x := .tup [sD r.1, .int r.2, .int 1]) lx
  refine ⟨by simp, q1, q2, _, s2, .inl rfl, rfl, bent_end (bmem rk (rk_tup (n := 5) (w := 98) (fun d hd => ?_) (by simp))) q3, hS2.mono (by omega)⟩
  simp only [List.mem_cons, List.not_mem_nil, or_false] at hd
  rcases hd with rfl | rfl | rfl
  · exact rk_sD (by decide)
  · have t := rp (.int r.2) (by simp)
    exact ⟨t.s, t.l, by have := t.b; unfold toP PyData.bulk at this ⊢; omega, t.p⟩
  · exact rk_int (by decide)
/-! ### the menu -/
theorem last_run {xs : List Run} (h : xs ≠ []) : ∃ r ys, xs = ys ++ [r] := by
  rcases List.eq_nil_or_concat xs with e | ⟨ys, a, e⟩
  · exact absurd e h
  · exact ⟨a, ys, by rw [e, List.concat_eq_append]⟩
theorem not_isS {ds : List Dt} {d : Dt} (h1 : d ∈ ds) (h2 : isR d = false) : isS (.tup ds) = false := by
  show (!ds.isEmpty && (ds.all isR && altB (ds.map toRun))) = false
  have : ds.all isR = false := by
    cases e : ds.all isR
    · rfl
    · rw [List.all_eq_true] at e
      rw [e d h1] at h2
      cases h2
  rw [this]
  cases ds.isEmpty <;> rfl
theorem not_alt {xs : List Run} (h : ¬ Alt xs) : isS (sT xs) = false := by
  cases e : isS (sT xs)
  · rfl
  · exact absurd (isS_sT.mp e).2.2 h
theorem alt_no : ∀ {ys : List Run} {a b : Run} {zs : List Run}, a.1 = b.1 → ¬ Alt (ys ++ a :: b :: zs)
  | [], a, b, zs, e, h => h.1 e
  | [y], a, b, zs, e, h => alt_no (ys := []) e h.2
  | y :: z :: ys, a, b, zs, e, h => alt_no (ys := z :: ys) e h.2
theorem cutL_end {α : Type} (f : α → Dt) (ys : List α) (r : α) : cutL ((ys ++ [r]).map f) (some (-1)) none = [f r] := by
  rw [cutL_maps]
  rw [HT.sIx_none]
  have : HT.sIx (ys ++ [r]).length 0 (some (-1)) = ((-1 : Int) + ((ys ++ [r]).length : Int)).toNat := rfl
  rw [this, show ((-1 : Int) + ((ys ++ [r]).length : Int)).toNat = ys.length by simp; omega]
  simp
theorem menu_ok {xs : List Run} (h : Good xs) (hz : xs.length ≤ 24) : Wp (F_law_no_strands_k03 [.frz (sT xs)]) fun q => ∃ ds, q = (.own ds, [.any]) ∧ ∀ d ∈ ds, isS d = false ∧ tlen d ≤ 100 := by
  obtain ⟨r, ys, rfl⟩ := last_run h.ne
  have rr2 : rD r = .tup [sD r.1, .int r.2] := rfl
  have hy : ys.length ≤ 23 := by simp at hz; omega
  refine w_fn rfl ?_
  unfold g_law_no_strands_k03 sT
  simp only [List.replicate, List.cons_append, List.nil_append]
  bv_omega
  rw [cutL_end, cutL_init]
  simp only [List.dropLast_concat]
  ac_nf
  bv_omega
  rw [show L2.atI ((ys ++ [r]).map rD) (-1) = some (rD r) by rw [List.map_append]; exact atLast]
  rw [rr2]
  bv_omega
  ac_nf
  rw [show L2.atI ((ys ++ [r]).map rD) (-1) = some (.tup [sD r.1, .int r.2]) by rw [List.map_append]; exact atLast]
  bv_omega
  rw [cutL_init]
  simp only [List.dropLast_concat]
  ac_nf
  bv_omega
  ac_nf
  have tl : ∀ {l m : List Dt}, l.length ≤ 24 → m.length ≤ 3 → tlen (.tup (l ++ m)) ≤ 100 := fun {l m} a b => by
    show (l ++ m).length ≤ 100
    rw [List.length_append]; omega
  have l1 : ((ys ++ [r]).map rD).length ≤ 24 := by simp; omega
  have l2 : (ys.map rD).length ≤ 24 := by simp; omega
  have a1 : isS (.tup ((ys ++ [r]).map rD ++ [.tup [sD r.1, .int r.2]])) = false := by
    have : Dt.tup ((ys ++ [r]).map rD ++ [.tup [sD r.1, .int r.2]]) = sT (ys ++ r :: r :: []) := by unfold sT; simp [rD]
    rw [this]
    exact not_alt (alt_no rfl)
  have a5 : isS (.tup ((ys ++ [r]).map rD ++ [.tup [.str "D", .int 1], .tup [.str "D", .int 1]])) = false := by
    have : Dt.tup ((ys ++ [r]).map rD ++ [.tup [.str "D", .int 1], .tup [.str "D", .int 1]]) = sT ((ys ++ [r]) ++ (true, 1) :: (true, 1) :: []) := by unfold sT; simp [rD, sD]
    rw [this]
    exact not_alt (alt_no rfl)
  have a3 : isR (.tup [sD r.1, .int 0]) = false := by
    have := isR_rD (r := (r.1, 0))
    exact this
  refine ⟨_, rfl, ?_⟩
  repeat' (first | refine List.forall_mem_cons.mpr ⟨?_, ?_⟩ | exact List.forall_mem_nil _)
  all_goals first
    | exact ⟨by decide, by decide⟩
    | exact ⟨rfl, Nat.zero_le _⟩
    | exact ⟨a1, tl l1 (by simp)⟩
    | exact ⟨not_isS (List.mem_append_right _ (List.mem_singleton.mpr rfl)) rfl, tl l1 (by simp)⟩
    | exact ⟨not_isS (List.mem_append_right _ (List.mem_singleton.mpr rfl)) a3, tl l2 (by simp)⟩
    | exact ⟨not_isS (List.mem_append_right _ (List.mem_singleton.mpr rfl)) rfl, tl l2 (by simp)⟩
    | exact ⟨a5, tl l1 (by simp)⟩
    | exact ⟨not_isS List.mem_cons_self (by decide), by have := l1; show ((ys ++ [r]).map rD).length + 1 ≤ 100; omega⟩
/-! ### the long strand -/
theorem alt_par : ∀ {l : List Run} {p : Nat}, (∀ i r, l[i]? = some r → r.1 = decide ((i + p) % 2 = 0)) → Alt l
  | [], _, _ => trivial
  | [a], _, _ => trivial
  | a :: b :: r, p, h => by
    have h0 := h 0 a rfl
    have h1 := h 1 b rfl
    refine ⟨fun e => ?_, alt_par (l := b :: r) (p := p + 1) fun i q hq => ?_⟩
    · rw [h0, h1] at e
      have := decide_eq_decide.mp e
      omega
    · rw [h (i + 1) q hq, show i + (p + 1) = i + 1 + p by omega]
def gr : Nat → List Run
  | 0 => []
  | n + 1 => (true, 1) :: (false, 2) :: gr n
theorem gr_flat : ∀ n : Nat, (List.replicate n [((true, 1) : Run), (false, 2)]).flatten = gr n
  | 0 => rfl
  | n + 1 => by rw [List.replicate_succ, List.flatten_cons, gr_flat n]; rfl
theorem gr_len : ∀ n : Nat, (gr n).length = 2 * n
  | 0 => rfl
  | n + 1 => by show (gr n).length + 2 = _; rw [gr_len n]; omega
theorem gr_par : ∀ (n i : Nat) (r : Run), (gr n)[i]? = some r → r.1 = decide (i % 2 = 0) ∧ 1 ≤ r.2
  | 0, i, r, h => by simp [gr] at h
  | n + 1, 0, r, h => by cases h; exact ⟨rfl, by decide⟩
  | n + 1, 1, r, h => by cases h; exact ⟨rfl, by decide⟩
  | n + 1, i + 2, r, h => by
    have := gr_par n i r h
    rw [show (i + 2) % 2 = i % 2 by omega]
    exact this
theorem gr_pos {n : Nat} : Pos (gr n) := fun r hr => by
  obtain ⟨i, hi⟩ := List.mem_iff_getElem?.mp hr
  exact (gr_par n i r hi).2
theorem gr_S {n : Nat} (h : 1 ≤ n) : isS (sT (gr n)) = true := isS_sT.mpr ⟨fun e => by have := gr_len n; rw [e] at this; simp at this; omega, gr_pos, alt_par (p := 0) fun i r hr => (gr_par n i r hr).1⟩
theorem gr_cut {n a : Nat} (h : 1 ≤ n) (ha : a + 1 < 2 * n) : isS (sT ((gr n).take a ++ (gr n).drop (a + 1))) = decide (a = 0) := by
  have ln := gr_len n
  by_cases c : a = 0
  · subst c
    rw [decide_eq_true rfl]
    refine isS_sT.mpr ⟨fun e => ?_, fun r hr => ?_, alt_par (p := 1) fun i r hr => ?_⟩
    · have := congrArg List.length e
      simp at this
      omega
    · simp only [List.take_zero, List.nil_append] at hr
      exact gr_pos r (List.mem_of_mem_drop hr)
    · simp only [List.take_zero, List.nil_append, List.getElem?_drop] at hr
      rw [(gr_par n _ r hr).1, show 0 + 1 + i = i + 1 by omega]
  · rw [decide_eq_false c]
    refine not_alt ?_
    obtain ⟨b, rfl⟩ : ∃ b, a = b + 1 := ⟨a - 1, by omega⟩
    have h1 : (gr n).take (b + 1) = (gr n).take b ++ [(gr n)[b]] := by rw [List.take_succ, List.getElem?_eq_getElem (by omega)]; rfl
    have h2 : (gr n).drop (b + 1 + 1) = (gr n)[b + 2] :: (gr n).drop (b + 3) := List.drop_eq_getElem_cons (by omega)
    rw [h1, h2, List.append_assoc, List.singleton_append]
    refine alt_no ?_
    rw [(gr_par n b _ (List.getElem?_eq_getElem (by omega))).1, (gr_par n (b + 2) _ (List.getElem?_eq_getElem (by omega))).1]
    exact decide_eq_decide.mpr (by omega)
theorem rk_sT {xs : List Run} (h : Good xs) (hz : xs.length ≤ 24) (hw : ∀ r ∈ xs, r.2 ≤ 10 ^ 90) : Rk 8 20000 (sT xs) := (bent_end (ds := xs.map rD) (fun d hd => by
  obtain ⟨q, hq, rfl⟩ := List.mem_map.mp hd
  exact rk_rD (h.pos q hq) (hw q hq)) (by rw [List.length_map]; omega)).2.1
abbrev Th (d : Dt) : Prop := d.isRef = true ∧ Rk 8 20000 d ∧ tlen d ≤ 100
theorem wp_things {b : Dt → Sl → Option Sl} {s : Sl → O (Fl × Sl)} {ρ : Sl} {P : Fl × Sl → Prop} {d1 d2 d3 : Dt} (h1 : Th d1) (h2 : Th d2) (h3 : Th d3) (hP : P (.nx, ρ))
    (hstep : ∀ d, Th d → optK (b d ρ) fun ρ1 => Wp (s ρ1) (turnK (fun ρ2 => ρ2 = ρ) P)) : Wp (loopD b s [d1, d2, d3] ρ) P := by
  have := wp_sameT (b := b) (s := s) (ρ := ρ) (P := P) id [d1, d2, d3] hP fun d hd => by
    simp only [List.mem_cons, List.not_mem_nil, or_false] at hd
    rcases hd with rfl | rfl | rfl
    · exact hstep _ h1
    · exact hstep _ h2
    · exact hstep _ h3
  simpa using this
def sl6 : Option (List Run) → Slot
  | none => .any
  | some xs => .frz (sT xs)
def Ok6 (xs : List Run) : Prop := Good xs ∧ xs.length ≤ 24 ∧ ∀ r ∈ xs, r.2 ≤ 10 ^ 90
theorem k03_ok (ns : List Int) (hl : ns.length ≤ 63) : Wp (F_law_k03 [.frz (.scr ns)]) fun q => q.1 = .val (.bl true) := by
  refine w_fn rfl ?_
  unfold g_law_k03
  simp only [List.replicate, List.cons_append, List.nil_append]
  bv_omega
  refine ⟨by omega, ?_⟩
  refine wp_rangeT (fun o : Option (List Run) => [.frz (.scr ns), .any, .any, .any, .any, .any, sl6 o, .any, .any, .any, .any]) (fun _ o => ∀ xs, o = some xs → Ok6 xs) none (fun xs h => by cases h) (fun o _ => ?_) fun i o0 hi ho => ?_
  · bv_omega
  bv_omega
  rw [show (0 : Int) + (i : Int) = (i : Int) by omega]
  refine wp_callD rfl rfl (Wp.imp (source1_ok (ns := ns) (k := i) (by omega)) ?_)
  rintro _ ⟨s0, rfl, hS0⟩
  refine ⟨rfl, by first | exact .inl rfl | exact .inr rfl, rfl, ?_⟩
  simp only [putBack, back1]
  bv_omega
  refine ⟨by omega, ?_⟩
  refine wp_rangeT (fun st : List Dt × Option (List Run) => [.frz (.scr ns), .any, .loc st.1, .any, .any, .any, sl6 st.2, .any, .any, .any, .any])
    (fun j st => (1 ≤ j → st.2.isSome = true) ∧ (∀ xs, st.2 = some xs → Ok6 xs) ∧ Sd (600 * j) st.1) (s0, o0) ?_ (fun st hI => ?_) fun j st hj hI => ?_
  · exact ⟨fun h => by omega, ho, by simpa using hS0⟩
  · obtain ⟨s1, o⟩ := st
    obtain ⟨h1, h2, h3⟩ := hI
    obtain ⟨xs, rfl⟩ : ∃ xs, o = some xs := Option.isSome_iff_exists.mp (h1 (by decide))
    obtain ⟨G, gz, gw⟩ := h2 xs rfl
    simp only [sl6]
    bv_omega
    refine wp_callD rfl rfl (Wp.imp (menu_ok (xs := xs) G gz) ?_)
    rintro _ ⟨ds, rfl, hds⟩
    refine ⟨rfl, by first | exact .inl rfl | exact .inr rfl, rfl, ?_⟩
    simp only [putBack, back1]
    bv_omega
    rw [show loopD (bName 7) = fun s (l : List Dt) ρ => loopD (bName 7) s (l.map id) ρ by funext s l ρ; rw [List.map_id]]
    refine wp_sameT id ds ?_ fun d hd => ?_
    · bv_omega
      rw [show mulD (.tup [.tup [.str "D", .int 1], .tup [.str "L", .int 2]]) (.int 750) = some (.val (sT (gr 750))) by
        have e : Dt.tup [.tup [.str "D", .int 1], .tup [.str "L", .int 2]] = .tup ([((true, 1) : Run), (false, 2)].map rD) := rfl
        rw [e, mulD_tup, if_pos ⟨by simp, by decide, by decide, by simp⟩, repL_maps, show (750 : Int).toNat = 750 from rfl, gr_flat]
        rfl]
      bv_omega
      refine wp_callD rfl rfl (Wp.imp (draw1_ok (b := 1499) h3 (by omega) (by decide) (by decide)) ?_)
      rintro _ ⟨v, s2, rfl, v0, v1, hS2⟩
      refine ⟨rfl, by first | exact .inl rfl | exact .inr rfl, rfl, ?_⟩
      simp only [putBack, back1]
      bv_omega
      have tg : tlen (sT (gr 750)) ≤ 100000 := by show ((gr 750).map rD).length ≤ 100000; rw [List.length_map, gr_len]; omega
      refine wp_callD rfl rfl (Wp.imp (isstrand_any (d := sT (gr 750)) tg) ?_)
      rintro _ rfl
      refine ⟨rfl, by first | exact .inl rfl | exact .inr rfl, rfl, ?_⟩
      simp only [putBack, back1]
      bv_omega
      rw [gr_S (by decide)]
      rw [decide_eq_true (rfl : true = true), show (Slot.frz (sT (gr 750))) = .frz (.tup ((gr 750).map rD)) from rfl]
      bv_omega
      obtain ⟨a, rfl⟩ : ∃ a : Nat, v = (a : Int) := ⟨v.toNat, by omega⟩
      have lg := gr_len 750
      have e1 : cutL ((gr 750).map rD) none (some (a : Int)) = ((gr 750).take a).map rD := by
        rw [cutL_maps, HT.sIx_none, HT.sIx_nat, List.drop_zero, Nat.sub_zero, show min a (gr 750).length = a by omega]
      have e2 : cutL ((gr 750).map rD) (some ((a : Int) + 1)) none = ((gr 750).drop (a + 1)).map rD := by
        rw [cutL_maps, HT.sIx_none, show (a : Int) + 1 = ((a + 1 : Nat) : Int) by omega, HT.sIx_nat, show min (a + 1) (gr 750).length = a + 1 by omega, List.take_of_length_le (by simp)]
      rw [e1, e2, ← List.map_append]
      refine ⟨by simp only [List.length_map, List.length_take, List.length_drop]; omega, ?_⟩
      refine wp_callD rfl rfl (Wp.imp (isstrand_any (d := sT ((gr 750).take a ++ (gr 750).drop (a + 1))) (by show (List.map rD _).length ≤ 100000; simp only [List.length_map, List.length_append, List.length_take, List.length_drop]; omega)) ?_)
      rintro _ rfl
      refine ⟨rfl, by first | exact .inl rfl | exact .inr rfl, rfl, ?_⟩
      simp only [putBack, back1]
      bv_omega
      rw [gr_cut (by decide) (by omega)]
      bv_omega
      rw [show decide (decide (a = 0) = decide ((a : Int) = 0)) = true from decide_eq_true (decide_eq_decide.mpr (by omega))]
      bv_omega
      exact ⟨some xs, rfl, fun ys e => by cases e; exact ⟨G, gz, gw⟩⟩
    · simp only [id]
      bv_omega
      refine wp_callD rfl rfl (Wp.imp (isstrand_any (d := d) (by have := (hds d hd).2; omega)) ?_)
      rintro _ rfl
      refine ⟨rfl, by first | exact .inl rfl | exact .inr rfl, rfl, ?_⟩
      simp only [putBack, back1]
      bv_omega
      rw [(hds d hd).1]
      bv_omega
  · obtain ⟨s1, o⟩ := st
    obtain ⟨h1, h2, h3⟩ := hI
    simp only [] at h1 h2 h3
    cases o
    all_goals
      simp only [sl6]
      bv_omega
      refine wp_callD rfl rfl (Wp.imp (draw1_ok (b := 2) h3 (by omega) (by decide) (by decide)) ?_)
      rintro _ ⟨v1, s2, rfl, a1, b1, hS2⟩
      refine ⟨rfl, by first | exact .inl rfl | exact .inr rfl, rfl, ?_⟩
      simp only [putBack, back1]
      bv_omega
      obtain ⟨m, e1, m1, m2⟩ : ∃ m, L2.atI [Dt.int 24, Dt.int 3] v1 = some (.int m) ∧ 1 ≤ m ∧ m ≤ 24 := by
        rw [pick2 a1 b1]
        split
        · exact ⟨_, rfl, by decide, by decide⟩
        · exact ⟨_, rfl, by decide, by decide⟩
      rw [e1]
      bv_omega
      refine ⟨⟨fit_n (by decide) (by decide), by decide, by decide⟩, ?_⟩
      refine wp_callD rfl rfl (Wp.imp (draw1_ok (b := 2) hS2 (by omega) (by decide) (by decide)) ?_)
      rintro _ ⟨v2, s3, rfl, a2, b2, hS3⟩
      refine ⟨rfl, by first | exact .inl rfl | exact .inr rfl, rfl, ?_⟩
      simp only [putBack, back1]
      bv_omega
      obtain ⟨w, e2, w1, w2⟩ : ∃ w, L2.atI [Dt.int 4, Dt.int (10 ^ Int.toNat 32 - 1)] v2 = some (.int w) ∧ 1 ≤ w ∧ w ≤ 10 ^ 40 := by
        rw [pick2 a2 b2]
        split
        · exact ⟨_, rfl, by decide, by decide⟩
        · exact ⟨_, rfl, by decide, by decide +kernel⟩
      rw [e2]
      bv_omega
      refine wp_callD rfl rfl (Wp.imp (strand1_ok (m := m) (w := w) hS3 (by omega) m1 (by omega) w1 (by omega)) ?_)
      rintro _ ⟨xs, s4, rfl, G, gz, gw, hS4⟩
      refine ⟨rfl, by first | exact .inl rfl | exact .inr rfl, rfl, ?_⟩
      simp only [putBack, back1]
      bv_omega
      have gw' : ∀ r ∈ xs, r.2 ≤ 10 ^ 90 := fun r hr => by have := gw r hr; omega
      refine wp_callD rfl rfl (Wp.imp (bent_ok hS4 (by omega) G (by omega) gw') ?_)
      rintro ⟨q1, q2⟩ ⟨d1, s5, hq1, hq2, hd1, hS5⟩
      obtain rfl : q2 = [.io s5, .any] := hq2
      have hq1 : q1 = .val d1 ∨ ∃ ds, q1 = .own ds ∧ d1 = .lst ds := hq1
      rcases hq1 with rfl | ⟨ds1, rfl, rfl⟩
      all_goals
        refine ⟨rfl, by first | exact .inl rfl | exact .inr rfl, rfl, ?_⟩
        simp only [putBack, back1]
        bv_omega
        refine wp_callD rfl rfl (Wp.imp (bent_ok hS5 (by omega) G (by omega) gw') ?_)
        rintro ⟨q1, q2⟩ ⟨d2, s6, hq1, hq2, hd2, hS6⟩
        obtain rfl : q2 = [.io s6, .any] := hq2
        have hq1 : q1 = .val d2 ∨ ∃ ds, q1 = .own ds ∧ d2 = .lst ds := hq1
        rcases hq1 with rfl | ⟨ds2, rfl, rfl⟩
        all_goals
          refine ⟨rfl, by first | exact .inl rfl | exact .inr rfl, rfl, ?_⟩
          simp only [putBack, back1]
          bv_omega
          refine wp_things ⟨rfl, rk_sT G (by omega) gw', by show (xs.map rD).length ≤ 100; rw [List.length_map]; omega⟩ hd1 hd2 ?_ fun d hd => ?_
          · bv_omega
            refine ⟨(s6, some xs), rfl, fun _ => rfl, fun ys e => by cases e; exact ⟨G, by omega, gw'⟩, hS6.mono (by omega)⟩
          · bv_omega
            refine ⟨⟨hd.1, rok_of hd.2.1 (by decide) (by decide)⟩, ?_⟩
            refine wp_callD rfl rfl (Wp.imp (isstrand_any (d := d) (by have := hd.2.2; omega)) ?_)
            rintro _ rfl
            refine ⟨rfl, by first | exact .inl rfl | exact .inr rfl, rfl, ?_⟩
            simp only [putBack, back1]
            bv_omega
            refine wp_callD rfl rfl (Wp.imp (isstrand_any (d := d) (by have := hd.2.2; omega)) ?_)
            rintro _ rfl
            refine ⟨rfl, by first | exact .inl rfl | exact .inr rfl, rfl, ?_⟩
            simp only [putBack, back1]
            bv_omega
            refine ⟨⟨rfl, rok_two⟩, ?_⟩
            refine wp_callD rfl rfl (Wp.imp (lawstrand_any (d := d)) ?_)
            rintro _ rfl
            refine ⟨rfl, by first | exact .inl rfl | exact .inr rfl, rfl, ?_⟩
            simp only [putBack, back1]
            bv_omega
            rw [show mulD (.lst [.bl (isS d)]) (.int 2) = some (.own [.bl (isS d), .bl (isS d)]) from rfl]
            bv_omega
            refine ⟨⟨rfl, rok_two⟩, ?_⟩
            rw [neD_strS]
            bv_omega
            refine ⟨⟨hd.1, rok_of hd.2.1 (by decide) (by decide)⟩, ?_⟩
            rw [neD_strS]
            bv_omega

end FD

namespace T_k03
open PySem L2 PyProof.Rows FX
theorem law_true (ns : List Int) (hl : ns.length ≤ 63) (hb : ∀ z ∈ ns, Builtin.Int.intBits z ≤ 1048576) : ∃ ss, FD.F_law_k03 [.frz (.scr ns)] = .ok (.val (.bl true), ss) := by
  obtain ⟨⟨r, ss⟩, e, e2⟩ := FD.k03_ok ns hl
  cases e2
  exact ⟨ss, e⟩
end T_k03
namespace T_k03
open PySem L2 PyProof.Rows FX
def spLaw (K : PySem.W.Frag) : Sp := fun vs H Q _ => ∃ (a : Addr) (ns : List Int), vs = [.ref a] ∧ SqL K H a (ns.map V.int) ∧ ns.length ≤ 63 ∧ (∀ z ∈ ns, Builtin.Int.intBits z ≤ 1048576) ∧ ∀ H', Q (.bl true) H'
theorem law_sp {K : PySem.W.Frag} {H : Hp} {a : Addr} {ns : List Int} (hl : ns.length ≤ 63) (hb : ∀ z ∈ ns, Builtin.Int.intBits z ≤ 1048576) (hS : SqL K H a (ns.map V.int)) : spLaw K [.ref a] H (fun v _ => v = .bl true) fun _ _ _ => False := ⟨a, ns, rfl, hS, hl, hb, fun _ => rfl⟩
theorem all_mk {l : PySem.W.OpenLaw} {w : World} {K : PySem.W.Frag} {h : Heap} {mg : Str → Option Value} {fa : Addr} (X : K.In h) (G : h.Ns mainGlobals mg) (hfa : mg "law" = some (.ref fa))
    {f__law_source : Addr} {od__law_source an__law_source : Option Addr} {sl__law_source : Array (Option Value)} {oc__law_source kV__law_source dc__law_source pm__law_source cd__law_source ct__law_source : Value} (a__law_source : PySem.W.nsIn K mainGlobals "_law_source" = some (some (.ref f__law_source)))
    (l__law_source : K.lookup f__law_source = some ⟨oc__law_source, od__law_source, .func (PySem.W.fnOf "_law_source" "_law_source" (defArgs st__law_source) (defBody st__law_source) (defScope st__law_source) .none kV__law_source dc__law_source pm__law_source an__law_source cd__law_source ct__law_source), sl__law_source⟩) (c__law_source : PySem.W.codeIn K cd__law_source "_law_source" = true) (k__law_source : PySem.W.keepIn K (.ref f__law_source) = true)
    {f__law_draw : Addr} {od__law_draw an__law_draw : Option Addr} {sl__law_draw : Array (Option Value)} {oc__law_draw kV__law_draw dc__law_draw pm__law_draw cd__law_draw ct__law_draw : Value} (a__law_draw : PySem.W.nsIn K mainGlobals "_law_draw" = some (some (.ref f__law_draw)))
    (l__law_draw : K.lookup f__law_draw = some ⟨oc__law_draw, od__law_draw, .func (PySem.W.fnOf "_law_draw" "_law_draw" (defArgs st__law_draw) (defBody st__law_draw) (defScope st__law_draw) .none kV__law_draw dc__law_draw pm__law_draw an__law_draw cd__law_draw ct__law_draw), sl__law_draw⟩) (c__law_draw : PySem.W.codeIn K cd__law_draw "_law_draw" = true) (k__law_draw : PySem.W.keepIn K (.ref f__law_draw) = true)
    {f__law_strand : Addr} {od__law_strand an__law_strand : Option Addr} {sl__law_strand : Array (Option Value)} {oc__law_strand kV__law_strand dc__law_strand pm__law_strand cd__law_strand ct__law_strand : Value} (a__law_strand : PySem.W.nsIn K mainGlobals "_law_strand" = some (some (.ref f__law_strand)))
    (l__law_strand : K.lookup f__law_strand = some ⟨oc__law_strand, od__law_strand, .func (PySem.W.fnOf "_law_strand" "_law_strand" (defArgs st__law_strand) (defBody st__law_strand) (defScope st__law_strand) .none kV__law_strand dc__law_strand pm__law_strand an__law_strand cd__law_strand ct__law_strand), sl__law_strand⟩) (c__law_strand : PySem.W.codeIn K cd__law_strand "_law_strand" = true) (k__law_strand : PySem.W.keepIn K (.ref f__law_strand) = true)
    {f__law_bent : Addr} {od__law_bent an__law_bent : Option Addr} {sl__law_bent : Array (Option Value)} {oc__law_bent kV__law_bent dc__law_bent pm__law_bent cd__law_bent ct__law_bent : Value} (a__law_bent : PySem.W.nsIn K mainGlobals "_law_bent" = some (some (.ref f__law_bent)))
    (l__law_bent : K.lookup f__law_bent = some ⟨oc__law_bent, od__law_bent, .func (PySem.W.fnOf "_law_bent" "_law_bent" (defArgs st__law_bent) (defBody st__law_bent) (defScope st__law_bent) .none kV__law_bent dc__law_bent pm__law_bent an__law_bent cd__law_bent ct__law_bent), sl__law_bent⟩) (c__law_bent : PySem.W.codeIn K cd__law_bent "_law_bent" = true) (k__law_bent : PySem.W.keepIn K (.ref f__law_bent) = true)
    {f_is_integer : Addr} {od_is_integer an_is_integer : Option Addr} {sl_is_integer : Array (Option Value)} {oc_is_integer kV_is_integer dc_is_integer pm_is_integer cd_is_integer ct_is_integer : Value} (a_is_integer : PySem.W.nsIn K mainGlobals "is_integer" = some (some (.ref f_is_integer)))
    (l_is_integer : K.lookup f_is_integer = some ⟨oc_is_integer, od_is_integer, .func (PySem.W.fnOf "is_integer" "is_integer" (defArgs st_is_integer) (defBody st_is_integer) (defScope st_is_integer) .none kV_is_integer dc_is_integer pm_is_integer an_is_integer cd_is_integer ct_is_integer), sl_is_integer⟩) (c_is_integer : PySem.W.codeIn K cd_is_integer "is_integer" = true) (k_is_integer : PySem.W.keepIn K (.ref f_is_integer) = true)
    {f_is_run : Addr} {od_is_run an_is_run : Option Addr} {sl_is_run : Array (Option Value)} {oc_is_run kV_is_run dc_is_run pm_is_run cd_is_run ct_is_run : Value} (a_is_run : PySem.W.nsIn K mainGlobals "is_run" = some (some (.ref f_is_run)))
    (l_is_run : K.lookup f_is_run = some ⟨oc_is_run, od_is_run, .func (PySem.W.fnOf "is_run" "is_run" (defArgs st_is_run) (defBody st_is_run) (defScope st_is_run) .none kV_is_run dc_is_run pm_is_run an_is_run cd_is_run ct_is_run), sl_is_run⟩) (c_is_run : PySem.W.codeIn K cd_is_run "is_run" = true) (k_is_run : PySem.W.keepIn K (.ref f_is_run) = true)
    {f_is_strand : Addr} {od_is_strand an_is_strand : Option Addr} {sl_is_strand : Array (Option Value)} {oc_is_strand kV_is_strand dc_is_strand pm_is_strand cd_is_strand ct_is_strand : Value} (a_is_strand : PySem.W.nsIn K mainGlobals "is_strand" = some (some (.ref f_is_strand)))
    (l_is_strand : K.lookup f_is_strand = some ⟨oc_is_strand, od_is_strand, .func (PySem.W.fnOf "is_strand" "is_strand" (defArgs st_is_strand) (defBody st_is_strand) (defScope st_is_strand) .none kV_is_strand dc_is_strand pm_is_strand an_is_strand cd_is_strand ct_is_strand), sl_is_strand⟩) (c_is_strand : PySem.W.codeIn K cd_is_strand "is_strand" = true) (k_is_strand : PySem.W.keepIn K (.ref f_is_strand) = true)
    {f__law_is_strand : Addr} {od__law_is_strand an__law_is_strand : Option Addr} {sl__law_is_strand : Array (Option Value)} {oc__law_is_strand kV__law_is_strand dc__law_is_strand pm__law_is_strand cd__law_is_strand ct__law_is_strand : Value} (a__law_is_strand : PySem.W.nsIn K mainGlobals "_law_is_strand" = some (some (.ref f__law_is_strand)))
    (l__law_is_strand : K.lookup f__law_is_strand = some ⟨oc__law_is_strand, od__law_is_strand, .func (PySem.W.fnOf "_law_is_strand" "_law_is_strand" (defArgs st__law_is_strand) (defBody st__law_is_strand) (defScope st__law_is_strand) .none kV__law_is_strand dc__law_is_strand pm__law_is_strand an__law_is_strand cd__law_is_strand ct__law_is_strand), sl__law_is_strand⟩) (c__law_is_strand : PySem.W.codeIn K cd__law_is_strand "_law_is_strand" = true) (k__law_is_strand : PySem.W.keepIn K (.ref f__law_is_strand) = true)
    {f__law_no_strands : Addr} {od__law_no_strands an__law_no_strands : Option Addr} {sl__law_no_strands : Array (Option Value)} {oc__law_no_strands kV__law_no_strands dc__law_no_strands pm__law_no_strands cd__law_no_strands ct__law_no_strands : Value} (a__law_no_strands : PySem.W.nsIn K mainGlobals "_law_no_strands" = some (some (.ref f__law_no_strands)))
    (l__law_no_strands : K.lookup f__law_no_strands = some ⟨oc__law_no_strands, od__law_no_strands, .func (PySem.W.fnOf "_law_no_strands" "_law_no_strands" (defArgs st__law_no_strands) (defBody st__law_no_strands) (defScope st__law_no_strands) .none kV__law_no_strands dc__law_no_strands pm__law_no_strands an__law_no_strands cd__law_no_strands ct__law_no_strands), sl__law_no_strands⟩) (c__law_no_strands : PySem.W.codeIn K cd__law_no_strands "_law_no_strands" = true) (k__law_no_strands : PySem.W.keepIn K (.ref f__law_no_strands) = true)
    (z_abs : PySem.W.nsIn K mainGlobals "abs" = some none)
    (z_all : PySem.W.nsIn K mainGlobals "all" = some none)
    (z_bool : PySem.W.nsIn K mainGlobals "bool" = some none)
    (z_int : PySem.W.nsIn K mainGlobals "int" = some none)
    (z_isinstance : PySem.W.nsIn K mainGlobals "isinstance" = some none)
    (z_len : PySem.W.nsIn K mainGlobals "len" = some none)
    (z_list : PySem.W.nsIn K mainGlobals "list" = some none)
    (z_max : PySem.W.nsIn K mainGlobals "max" = some none)
    (z_min : PySem.W.nsIn K mainGlobals "min" = some none)
    (z_range : PySem.W.nsIn K mainGlobals "range" = some none)
    (z_repr : PySem.W.nsIn K mainGlobals "repr" = some none)
    (z_str : PySem.W.nsIn K mainGlobals "str" = some none)
    (z_tuple : PySem.W.nsIn K mainGlobals "tuple" = some none)
    (z_zip : PySem.W.nsIn K mainGlobals "zip" = some none)
    {t_DARK : Tok} (q_DARK : PySem.W.nsIn K mainGlobals "DARK" = some (some (.str "D" t_DARK)))
    {t_LIGHT : Tok} (q_LIGHT : PySem.W.nsIn K mainGlobals "LIGHT" = some (some (.str "L" t_LIGHT)))
    {f_law : Addr} {od_law an_law : Option Addr} {sl_law : Array (Option Value)} {oc_law kV_law dc_law pm_law cd_law ct_law : Value} (a_law : PySem.W.nsIn K mainGlobals "law" = some (some (.ref f_law)))
    (l_law : K.lookup f_law = some ⟨oc_law, od_law, .func (PySem.W.fnOf "law" "law" (defArgs st_law) (defBody st_law) (defScope st_law) .none kV_law dc_law pm_law an_law cd_law ct_law), sl_law⟩) (c_law : PySem.W.codeIn K cd_law "law" = true) (k_law : PySem.W.keepIn K (.ref f_law) = true)
    : ∃ fd : FuncData, (∀ (s : Shared) (v : Value), BindsTo s fd ⟨[v], []⟩ [("script", v)]) ∧ ∀ base : Heap, K.In base → base.Ns mainGlobals mg → FnG l.prog w K mg base 4 fa fd ["script"] (spLaw K) := by
  have e := hfa.symm.trans (PySem.W.mg_of X G a_law)
  cases e
  have GG : Facts K mg := ⟨mk__law_source X G a__law_source l__law_source c__law_source k__law_source, mk__law_draw X G a__law_draw l__law_draw c__law_draw k__law_draw, mk__law_strand X G a__law_strand l__law_strand c__law_strand k__law_strand, mk__law_bent X G a__law_bent l__law_bent c__law_bent k__law_bent, mk_is_integer X G a_is_integer l_is_integer c_is_integer k_is_integer, mk_is_run X G a_is_run l_is_run c_is_run k_is_run, mk_is_strand X G a_is_strand l_is_strand c_is_strand k_is_strand, mk__law_is_strand X G a__law_is_strand l__law_is_strand c__law_is_strand k__law_is_strand, mk__law_no_strands X G a__law_no_strands l__law_no_strands c__law_no_strands k__law_no_strands, PySem.W.mg_none_of X G z_abs, PySem.W.mg_none_of X G z_all, PySem.W.mg_none_of X G z_bool, PySem.W.mg_none_of X G z_int, PySem.W.mg_none_of X G z_isinstance, PySem.W.mg_none_of X G z_len, PySem.W.mg_none_of X G z_list, PySem.W.mg_none_of X G z_max, PySem.W.mg_none_of X G z_min, PySem.W.mg_none_of X G z_range, PySem.W.mg_none_of X G z_repr, PySem.W.mg_none_of X G z_str, PySem.W.mg_none_of X G z_tuple, PySem.W.mg_none_of X G z_zip, ⟨_, PySem.W.mg_of X G q_DARK⟩, ⟨_, PySem.W.mg_of X G q_LIGHT⟩⟩
  exact ⟨PySem.W.fnOf "law" "law" (defArgs st_law) (defBody st_law) (defScope st_law) .none kV_law dc_law pm_law an_law cd_law ct_law, fun s v => .of_eq rfl, fun base _ _ => (ok_law GG (fun_mk (st := st_law) l_law c_law k_law)).as fun vs H Q E h => by obtain ⟨a, ns, rfl, hS, hl, hbt, q⟩ := h; exact law_spD (law_true ns hl hbt) hS q⟩
end T_k03
open PySem PySem.W PyProof.Rows
set_option maxHeartbeats 0 in
theorem PySem.Challenge.cw_fairarcs_k03_values_that_are_strands_holds : PySem.Challenge.rw_fairarcs_k03_values_that_are_strands.Holds := by
  w_on; o_law; k_head; (case hw => w_witness2)
  k_fill
  refine FX.row_of (l := PySem.Challenge.rw_fairarcs_k03_values_that_are_strands) (n := 63) (k := 4) (x := "script") (sp := fun w => T_k03.spLaw _) rfl (by decide) rfl ⟨rfl, by decide, by decide⟩ (fun w h Y => PySem.W.kIn_of Y) ?F (fun _ H a ns hl hb hS => T_k03.law_sp hl hb hS)
  case F =>
    intro w mg fa h KX G hmg
    refine' T_k03.all_mk KX G hmg ?a__law_source ?l__law_source ?c__law_source ?k__law_source ?a__law_draw ?l__law_draw ?c__law_draw ?k__law_draw ?a__law_strand ?l__law_strand ?c__law_strand ?k__law_strand ?a__law_bent ?l__law_bent ?c__law_bent ?k__law_bent ?a_is_integer ?l_is_integer ?c_is_integer ?k_is_integer ?a_is_run ?l_is_run ?c_is_run ?k_is_run ?a_is_strand ?l_is_strand ?c_is_strand ?k_is_strand ?a__law_is_strand ?l__law_is_strand ?c__law_is_strand ?k__law_is_strand ?a__law_no_strands ?l__law_no_strands ?c__law_no_strands ?k__law_no_strands ?z_abs ?z_all ?z_bool ?z_int ?z_isinstance ?z_len ?z_list ?z_max ?z_min ?z_range ?z_repr ?z_str ?z_tuple ?z_zip ?q_DARK ?q_LIGHT ?a_law ?l_law ?c_law ?k_law
    (case a__law_source => k_is)
    (case l__law_source => k_is)
    (case c__law_source => k_is)
    (case k__law_source => k_is)
    (case a__law_draw => k_is)
    (case l__law_draw => k_is)
    (case c__law_draw => k_is)
    (case k__law_draw => k_is)
    (case a__law_strand => k_is)
    (case l__law_strand => k_is)
    (case c__law_strand => k_is)
    (case k__law_strand => k_is)
    (case a__law_bent => k_is)
    (case l__law_bent => k_is)
    (case c__law_bent => k_is)
    (case k__law_bent => k_is)
    (case a_is_integer => k_is)
    (case l_is_integer => k_is)
    (case c_is_integer => k_is)
    (case k_is_integer => k_is)
    (case a_is_run => k_is)
    (case l_is_run => k_is)
    (case c_is_run => k_is)
    (case k_is_run => k_is)
    (case a_is_strand => k_is)
    (case l_is_strand => k_is)
    (case c_is_strand => k_is)
    (case k_is_strand => k_is)
    (case a__law_is_strand => k_is)
    (case l__law_is_strand => k_is)
    (case c__law_is_strand => k_is)
    (case k__law_is_strand => k_is)
    (case a__law_no_strands => k_is)
    (case l__law_no_strands => k_is)
    (case c__law_no_strands => k_is)
    (case k__law_no_strands => k_is)
    (case z_abs => k_is)
    (case z_all => k_is)
    (case z_bool => k_is)
    (case z_int => k_is)
    (case z_isinstance => k_is)
    (case z_len => k_is)
    (case z_list => k_is)
    (case z_max => k_is)
    (case z_min => k_is)
    (case z_range => k_is)
    (case z_repr => k_is)
    (case z_str => k_is)
    (case z_tuple => k_is)
    (case z_zip => k_is)
    (case q_DARK => k_is)
    (case q_LIGHT => k_is)
    (case a_law => k_is)
    (case l_law => k_is)
    (case c_law => k_is)
    (case k_law => k_is)

