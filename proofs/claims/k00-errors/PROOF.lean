import PyProof.Rows.All
import Wide.All
import OpenK.AllK
import Wide.FinOn
import HandS.ForMost
import HandS.Flow
import HandS.ExcInit
import HandS.IsInst
import HandS.Wide
import HandS.Head2
import HandS.HeadHook2
import HandS.ExcValue
import HandS.Walk
import KE.KExcIs
import KE.KStateDown
import HandS.Head0
import HandS.Head1
import HandS.HeadEnd
import HandS.More
import HandS.Words
import HandS.WordsExc
import HandS.Defaults
import HandS.Ends
import PySem.Challenge.RW_alleyes_k00_errors_keep_their_fields
set_option Elab.async false
set_option linter.all false
set_option maxRecDepth 100000
set_option maxHeartbeats 4000000
/-! PV, part a: data as trees, what stands for them in the abstract heap, the state of a frame. -/
namespace PV
open PySem L2
open PySem.W (Frag)

/-- data: shared values, never changed any more -/
inductive D where
  | non | bl (b : Bool) | int (i : Int) | str (s : Str) | ty (n : String) | cls (x : Str)
  | lst (xs : List D) | tup (xs : List D) | dct (kvs : List (Key × D))
  | obj (C : Str) (fs : List (Str × D)) | err (C : Str) (fs : List (Str × D))
/-- what one name alone holds and may change -/
inductive Cell where
  | lst (xs : List D) | dct (kvs : List (Key × D)) | ins (C : Str) (fs : List (Str × D)) | exo (C : Str) (fs : List (Str × D))
inductive R where
  | val (d : D) | own (c : Cell)
inductive Slot where
  | val (d : D) | own (c : Cell)
abbrev Sta := List (Option Slot)
def Cell.d : Cell → D
  | .lst xs => .lst xs
  | .dct kvs => .dct kvs
  | .ins C fs => .obj C fs
  | .exo C fs => .err C fs
def R.d : R → D
  | .val d => d
  | .own c => c.d
def Slot.d : Slot → D
  | .val d => d
  | .own c => c.d

abbrev Ex (H H' : Hp) : Prop := ∀ a o, H a = some o → H' a = some o
theorem Ex.refl (H : Hp) : Ex H H := fun _ _ h => h
theorem Ex.trans {H H1 H2 : Hp} (a : Ex H H1) (b : Ex H1 H2) : Ex H H2 := fun x o h => b x o (a x o h)
theorem Ex.new {H : Hp} {p : Addr} {o : HO} (h : H p = none) : Ex H (upd H p o) := fun a u e => by
  rw [upd_ne (ne_of_none e h)]
  exact e
theorem Ex.none {H H' : Hp} {p : Addr} (e : Ex H H') (h : H' p = none) : H p = none := by
  cases h1 : H p with
  | none => rfl
  | some o =>
    rw [e p o h1] at h
    cases h
theorem Ex.rd {H H' : Hp} {a : Addr} {u : HO} (e : Ex H H') (h : Rd H a u) : Rd H' a u := by
  rcases h with h | ⟨o, h⟩
  · exact Or.inl (e a _ h)
  · exact Or.inr ⟨o, e a _ h⟩
theorem Ex.sqL {K : Frag} {H H' : Hp} {a : Addr} {xs : List V} (e : Ex H H') (h : SqL K H a xs) : SqL K H' a xs := by
  rcases h with h | h
  · exact Or.inl (e.rd h)
  · exact Or.inr h
theorem Ex.sqT {K : Frag} {H H' : Hp} {a : Addr} {xs : List V} (e : Ex H H') (h : SqT K H a xs) : SqT K H' a xs := by
  rcases h with h | h
  · exact Or.inl (e.rd h)
  · exact Or.inr h

mutual
/-- v stands for the datum d, by what F holds for good -/
inductive At (K : Frag) (G : Str → Addr) (F : Hp) : V → D → Prop where
  | non : At K G F .non .non
  | bl (b : Bool) : At K G F (.bl b) (.bl b)
  | int (i : Int) : At K G F (.int i) (.int i)
  | str (s : Str) : At K G F (.str s) (.str s)
  | ty (n : String) : At K G F (.ty n) (.ty n)
  | cls (x : Str) : At K G F (.ref (G x)) (.cls x)
  | lst {a : Addr} {xs : List V} {ds : List D} (h : Rd F a (.lst xs)) (t : AtL K G F xs ds) : At K G F (.ref a) (.lst ds)
  | tup {a : Addr} {xs : List V} {ds : List D} (h : SqT K F a xs) (t : AtL K G F xs ds) : At K G F (.ref a) (.tup ds)
  | dct {a : Addr} {xs : List (Key × V)} {ds : List (Key × D)} (h : F a = some (.dK xs)) (t : AtM K G F xs ds) : At K G F (.ref a) (.dct ds)
  | obj {a dx : Addr} {C : Str} {xs : List (Str × V)} {ds : List (Str × D)} (h : F a = some (.ins (G C) dx xs)) (t : AtF K G F xs ds) : At K G F (.ref a) (.obj C ds)
  | err {a d : Addr} {C : Str} {xs : List (Str × V)} {ds : List (Str × D)} (h : F a = some (exo a (G C) (some d))) (h2 : F d = some (exd d xs)) (t : AtF K G F xs ds) : At K G F (.ref a) (.err C ds)
  | err0 {a : Addr} {C : Str} (h : F a = some (exo a (G C) none)) : At K G F (.ref a) (.err C [])
inductive AtL (K : Frag) (G : Str → Addr) (F : Hp) : List V → List D → Prop where
  | nil : AtL K G F [] []
  | cons {v : V} {d : D} {vs : List V} {ds : List D} (h : At K G F v d) (t : AtL K G F vs ds) : AtL K G F (v :: vs) (d :: ds)
inductive AtF (K : Frag) (G : Str → Addr) (F : Hp) : List (Str × V) → List (Str × D) → Prop where
  | nil : AtF K G F [] []
  | cons {f : Str} {v : V} {d : D} {vs : List (Str × V)} {ds : List (Str × D)} (h : At K G F v d) (t : AtF K G F vs ds) : AtF K G F ((f, v) :: vs) ((f, d) :: ds)
inductive AtM (K : Frag) (G : Str → Addr) (F : Hp) : List (Key × V) → List (Key × D) → Prop where
  | nil : AtM K G F [] []
  | cons {f : Key} {v : V} {d : D} {vs : List (Key × V)} {ds : List (Key × D)} (h : At K G F v d) (t : AtM K G F vs ds) : AtM K G F ((f, v) :: vs) ((f, d) :: ds)
end
section
variable {K : Frag} {G : Str → Addr} {F F' : Hp}
mutual
theorem At.mono : ∀ {v : V} {d : D}, At K G F v d → Ex F F' → At K G F' v d
  | _, _, .non, _ => .non
  | _, _, .bl b, _ => .bl b
  | _, _, .int i, _ => .int i
  | _, _, .str s, _ => .str s
  | _, _, .ty n, _ => .ty n
  | _, _, .cls x, _ => .cls x
  | _, _, .lst h t, e => .lst (e.rd h) (AtL.mono t e)
  | _, _, .tup h t, e => .tup (e.sqT h) (AtL.mono t e)
  | _, _, .dct h t, e => .dct (e _ _ h) (AtM.mono t e)
  | _, _, .obj h t, e => .obj (e _ _ h) (AtF.mono t e)
  | _, _, .err h h2 t, e => .err (e _ _ h) (e _ _ h2) (AtF.mono t e)
  | _, _, .err0 h, e => .err0 (e _ _ h)
theorem AtL.mono : ∀ {v : List V} {d : List D}, AtL K G F v d → Ex F F' → AtL K G F' v d
  | _, _, .nil, _ => .nil
  | _, _, .cons h t, e => .cons (At.mono h e) (AtL.mono t e)
theorem AtF.mono : ∀ {v : List (Str × V)} {d : List (Str × D)}, AtF K G F v d → Ex F F' → AtF K G F' v d
  | _, _, .nil, _ => .nil
  | _, _, .cons h t, e => .cons (At.mono h e) (AtF.mono t e)
theorem AtM.mono : ∀ {v : List (Key × V)} {d : List (Key × D)}, AtM K G F v d → Ex F F' → AtM K G F' v d
  | _, _, .nil, _ => .nil
  | _, _, .cons h t, e => .cons (At.mono h e) (AtM.mono t e)
end
theorem AtL.length : ∀ {v : List V} {d : List D}, AtL K G F v d → v.length = d.length
  | _, _, .nil => rfl
  | _, _, .cons _ t => congrArg (· + 1) t.length
theorem AtL.get : ∀ {vs : List V} {ds : List D} {i : Nat} {v : V}, AtL K G F vs ds → vs[i]? = some v → ∃ d, ds[i]? = some d ∧ At K G F v d
  | _, _, _, _, .nil, e => by simp at e
  | _, _, 0, _, .cons h _, e => by simp at e; subst e; exact ⟨_, rfl, h⟩
  | _, _, i + 1, v, .cons _ t, e => by
    obtain ⟨u, h1, h2⟩ := AtL.get (i := i) (v := v) t (by simpa using e)
    exact ⟨u, by simpa using h1, h2⟩
theorem AtL.getD : ∀ {vs : List V} {ds : List D} {i : Nat} {d : D}, AtL K G F vs ds → ds[i]? = some d → ∃ v, vs[i]? = some v ∧ At K G F v d
  | _, _, _, _, .nil, e => by simp at e
  | _, _, 0, _, .cons h _, e => by simp at e; subst e; exact ⟨_, rfl, h⟩
  | _, _, i + 1, v, .cons _ t, e => by
    obtain ⟨u, h1, h2⟩ := AtL.getD (i := i) (d := v) t (by simpa using e)
    exact ⟨u, by simpa using h1, h2⟩
theorem AtL.append : ∀ {vs us : List V} {ds es : List D}, AtL K G F vs ds → AtL K G F us es → AtL K G F (vs ++ us) (ds ++ es)
  | _, _, _, _, .nil, h => h
  | _, _, _, _, .cons h t, h' => .cons h (AtL.append t h')
theorem AtL.take : ∀ {vs : List V} {ds : List D} (n : Nat), AtL K G F vs ds → AtL K G F (vs.take n) (ds.take n)
  | _, _, 0, _ => .nil
  | _, _, _ + 1, .nil => .nil
  | _, _, n + 1, .cons h t => .cons h (t.take n)
theorem AtL.drop : ∀ {vs : List V} {ds : List D} (n : Nat), AtL K G F vs ds → AtL K G F (vs.drop n) (ds.drop n)
  | _, _, 0, h => h
  | _, _, _ + 1, .nil => .nil
  | _, _, n + 1, .cons h t => t.drop n
theorem AtL.set {v : V} {d : D} (r : At K G F v d) : ∀ {vs : List V} {ds : List D} (i : Nat), AtL K G F vs ds → AtL K G F (vs.set i v) (ds.set i d)
  | _, _, _, .nil => .nil
  | _, _, 0, .cons _ t => .cons r t
  | _, _, i + 1, .cons h t => .cons h (t.set r i)
theorem AtL.one {v : V} {d : D} (h : At K G F v d) : AtL K G F [v] [d] := .cons h .nil
theorem AtF.lookup (f : Str) : ∀ {vs : List (Str × V)} {ds : List (Str × D)} {d : D}, AtF K G F vs ds → ds.lookup f = some d → ∃ v, vs.lookup f = some v ∧ At K G F v d
  | _, _, _, .nil, e => by simp at e
  | _, _, d, .cons (f := g) (v := v) (d := d') h t, e => by
    by_cases q : f = g
    · subst q
      simp [List.lookup] at e
      subst e
      exact ⟨v, by simp [List.lookup], h⟩
    · have q' : (f == g) = false := by simpa using q
      simp [List.lookup, q'] at e
      obtain ⟨u, h1, h2⟩ := AtF.lookup f t e
      exact ⟨u, by simp [List.lookup, q', h1], h2⟩
theorem AtF.length : ∀ {v : List (Str × V)} {d : List (Str × D)}, AtF K G F v d → v.length = d.length
  | _, _, .nil => rfl
  | _, _, .cons _ t => congrArg (· + 1) t.length
end

/-- what a cell at a holds -/
def CellAt (K : Frag) (G : Str → Addr) (F H : Hp) (a : Addr) : Cell → Prop
  | .lst ds => ∃ xs, H a = some (.lst xs) ∧ AtL K G F xs ds
  | .dct ds => ∃ xs, H a = some (.dK xs) ∧ AtM K G F xs ds
  | .ins C ds => ∃ dx xs, H a = some (.ins (G C) dx xs) ∧ AtF K G F xs ds
  | .exo C [] => H a = some (exo a (G C) none)
  | .exo C (d :: ds) => ∃ dx xs, H a = some (exo a (G C) (some dx)) ∧ H dx = some (exd dx xs) ∧ F dx = none ∧ AtF K G F xs (d :: ds)
def SlotAt (K : Frag) (G : Str → Addr) (H0 : Hp) (io : List (Nat × Addr)) (F H : Hp) (v : V) : Slot → Prop
  | .val d => At K G F v d
  | .own c => ∃ a, v = .ref a ∧ F a = none ∧ (H0 a = none ∨ ∃ i, (i, a) ∈ io) ∧ CellAt K G F H a c
def R.slot : R → Slot
  | .val d => .val d
  | .own c => .own c
/-- the frame's state: the slots, the heap F that stands for good, H all that is tracked; H0 the heap at the entry, io the cells that were handed in -/
structure Rel (K : Frag) (G : Str → Addr) (H0 F0 : Hp) (io : List (Nat × Addr)) (st : Sta) (σ : L2.St) (F H : Hp) : Prop where
  ext : Ex F H
  gf : ∀ a o, F a = some o → (∃ u, F0 a = some u) ∨ H0 a = none ∨ ∃ i, (i, a) ∈ io
  fr : ∀ a o, H0 a = some o → (∀ i, (i, a) ∉ io) → H a = some o
  ioH : ∀ (i : Nat) (a : Addr), (i, a) ∈ io → (∃ o, H0 a = some o) ∧ (∃ o, H a = some o) ∧ σ[i]? = some (some (V.ref a))
  len : st.length = σ.length
  sl : ∀ (i : Nat) (s : Slot), st[i]? = some (some s) → ∃ v, σ[i]? = some (some v) ∧ SlotAt K G H0 io F H v s
  sep : ∀ (i j : Nat) (ci cj : Cell), i ≠ j → st[i]? = some (some (Slot.own ci)) → st[j]? = some (some (Slot.own cj)) → σ[i]? ≠ σ[j]?
  one : ∀ (i : Nat) (C : Str) (fs : List (Str × D)), st[i]? = some (some (Slot.own (.exo C fs))) → i = 0
/-- a result -/
def RAt (K : Frag) (G : Str → Addr) (H0 : Hp) (st : Sta) (σ : L2.St) (F H : Hp) (v : V) : R → Prop
  | .val d => At K G F v d
  | .own c => ∃ a, v = .ref a ∧ F a = none ∧ H0 a = none ∧ CellAt K G F H a c ∧ ∀ (i : Nat) (c' : Cell), st[i]? = some (some (Slot.own c')) → σ[i]? ≠ some (some (V.ref a))
end PV


set_option Elab.async false
set_option linter.all false
set_option maxRecDepth 100000
set_option maxHeartbeats 4000000
namespace PV
open PySem L2
open PySem.W (Frag)
section
variable {K : Frag} {G : Str → Addr} {H0 F0 F F' H H' : Hp} {io : List (Nat × Addr)} {st : Sta} {σ : L2.St} {a p : Addr} {c : Cell} {o : HO} {v : V} {s : Slot} {d : D}

def Cell.plain : Cell → Bool
  | .exo _ _ => false
  | _ => true
/-- cells stay where H stays at what they are made of, F grows -/
theorem CellAt.keep (x : CellAt K G F H a c) (e : Ex F F') (k : ∀ b o, F b = none → H b = some o → H' b = some o) (hF : F a = none) (hF' : ∀ b, H b ≠ none → F b = none → F' b = none) : CellAt K G F' H' a c := by
  match c, x with
  | .lst ds, ⟨xs, h, t⟩ => exact ⟨xs, k _ _ hF h, t.mono e⟩
  | .dct ds, ⟨xs, h, t⟩ => exact ⟨xs, k _ _ hF h, t.mono e⟩
  | .ins C ds, ⟨dx, xs, h, t⟩ => exact ⟨dx, xs, k _ _ hF h, t.mono e⟩
  | .exo C [], h => exact k _ _ hF h
  | .exo C (d :: ds), ⟨dx, xs, h, h2, h3, t⟩ => exact ⟨dx, xs, k _ _ hF h, k _ _ h3 h2, hF' _ (by rw [h2]; exact fun z => nomatch z) h3, t.mono e⟩
theorem CellAt.at (x : CellAt K G F H a c) : ∃ o, H a = some o := by
  match c, x with
  | .lst ds, ⟨xs, h, t⟩ => exact ⟨_, h⟩
  | .dct ds, ⟨xs, h, t⟩ => exact ⟨_, h⟩
  | .ins C ds, ⟨dx, xs, h, t⟩ => exact ⟨_, h⟩
  | .exo C [], h => exact ⟨_, h⟩
  | .exo C (d :: ds), ⟨dx, xs, h, h2, h3, t⟩ => exact ⟨_, h⟩
/-- a plain cell leans on its one object alone -/
theorem CellAt.keepP (x : CellAt K G F H a c) (hp : c.plain = true) (e : Ex F F') (k : ∀ o, H a = some o → H' a = some o) : CellAt K G F' H' a c := by
  match c, x, hp with
  | .lst ds, ⟨xs, h, t⟩, _ => exact ⟨xs, k _ h, t.mono e⟩
  | .dct ds, ⟨xs, h, t⟩, _ => exact ⟨xs, k _ h, t.mono e⟩
  | .ins C ds, ⟨dx, xs, h, t⟩, _ => exact ⟨dx, xs, k _ h, t.mono e⟩
theorem CellAt.freeze (x : CellAt K G F H a c) (hp : c.plain = true) (hF : F a = none) (e : Ex F H) : ∃ o, H a = some o ∧ Ex F (upd F a o) ∧ Ex (upd F a o) H ∧ At K G (upd F a o) (.ref a) c.d := by
  have ex : ∀ o, H a = some o → Ex (upd F a o) H := fun o h b u q => by
    by_cases hb : b = a
    · subst hb
      rw [upd_same] at q
      cases q
      exact h
    · rw [upd_ne hb] at q
      exact e b u q
  match c, x, hp with
  | .lst ds, ⟨xs, h, t⟩, _ => exact ⟨_, h, Ex.new hF, ex _ h, .lst (Rd.of upd_same) (t.mono (Ex.new hF))⟩
  | .dct ds, ⟨xs, h, t⟩, _ => exact ⟨_, h, Ex.new hF, ex _ h, .dct upd_same (t.mono (Ex.new hF))⟩
  | .ins C ds, ⟨dx, xs, h, t⟩, _ => exact ⟨_, h, Ex.new hF, ex _ h, .obj upd_same (t.mono (Ex.new hF))⟩

theorem SlotAt.keep (x : SlotAt K G H0 io F H v s) (e : Ex F F') (k : ∀ b o, F b = none → H b = some o → H' b = some o) (hF' : ∀ b, H b ≠ none → F b = none → F' b = none) : SlotAt K G H0 io F' H' v s := by
  match s, x with
  | .val d, h => exact At.mono h e
  | .own c, ⟨a, hv, hF, h0, hc⟩ =>
    obtain ⟨o, ho⟩ := hc.at
    exact ⟨a, hv, hF' a (by rw [ho]; exact fun z => nomatch z) hF, h0, hc.keep e k hF hF'⟩
/-- a new object that no name holds as yet -/
theorem Rel.new (r : Rel K G H0 F0 io st σ F H) (hp : H p = none) : Rel K G H0 F0 io st σ F (upd H p o) where
  ext := r.ext.trans (Ex.new hp)
  gf := r.gf
  fr := fun a u h n => Ex.new hp _ _ (r.fr a u h n)
  ioH := fun i a h => by
    obtain ⟨h1, ⟨u, h2⟩, h3⟩ := r.ioH i a h
    exact ⟨h1, ⟨u, Ex.new hp _ _ h2⟩, h3⟩
  len := r.len
  sl := fun i s h => by
    obtain ⟨v, h1, h2⟩ := r.sl i s h
    exact ⟨v, h1, h2.keep (Ex.refl F) (fun b u _ q => Ex.new hp _ _ q) fun b _ q => q⟩
  sep := r.sep
  one := r.one
theorem Rel.fresh0 (r : Rel K G H0 F0 io st σ F H) (hp : H p = none) : H0 p = none := by
  cases e : H0 p with
  | none => rfl
  | some u =>
    by_cases n : ∀ i, (i, p) ∉ io
    · rw [r.fr p u e n] at hp
      cases hp
    · have n2 : ∃ i, (i, p) ∈ io := Classical.byContradiction fun z => n fun i hi => z ⟨i, hi⟩
      obtain ⟨i, hi⟩ := n2
      obtain ⟨_, ⟨w, hw⟩, _⟩ := r.ioH i p hi
      rw [hw] at hp
      cases hp
/-- .. which stands for good -/
theorem Rel.newF (r : Rel K G H0 F0 io st σ F H) (hp : H p = none) : Rel K G H0 F0 io st σ (upd F p o) (upd H p o) where
  ext := fun a u h => by
    by_cases ha : a = p
    · subst ha
      rw [upd_same] at h ⊢
      exact h
    · rw [upd_ne ha] at h ⊢
      exact r.ext a u h
  gf := fun a u h => by
    by_cases ha : a = p
    · subst ha
      exact .inr (.inl (r.fresh0 hp))
    · rw [upd_ne ha] at h
      exact r.gf a u h
  fr := fun a u h n => Ex.new hp _ _ (r.fr a u h n)
  ioH := fun i a h => by
    obtain ⟨h1, ⟨u, h2⟩, h3⟩ := r.ioH i a h
    exact ⟨h1, ⟨u, Ex.new hp _ _ h2⟩, h3⟩
  len := r.len
  sl := fun i s h => by
    obtain ⟨v, h1, h2⟩ := r.sl i s h
    exact ⟨v, h1, h2.keep (Ex.new (r.ext.none hp)) (fun b u _ q => Ex.new hp _ _ q) fun b nb q => by
      rw [upd_ne (fun z => nb (by rw [z, hp]))]
      exact q⟩
  sep := r.sep
  one := r.one
/-- no name holds a new object -/
theorem Rel.notheld (r : Rel K G H0 F0 io st σ F H) (hp : H p = none) (i : Nat) (c' : Cell) (h : st[i]? = some (some (Slot.own c'))) : σ[i]? ≠ some (some (V.ref p)) := fun z => by
  obtain ⟨v, h1, a, hv, hF, h0, hc⟩ := r.sl i _ h
  rw [z] at h1
  cases h1
  cases hv
  obtain ⟨o, ho⟩ := hc.at
  rw [ho] at hp
  cases hp
theorem Rel.notheld' (r : Rel K G H0 F0 io st σ F H) (hp : H p = none) (i : Nat) (c' : Cell) (h : st[i]? = some (some (Slot.own c'))) : σ[i]? ≠ some (some (V.ref p)) := r.notheld hp i c' h
/-- F grows within H at objects that no name owns -/
theorem Rel.grow (r : Rel K G H0 F0 io st σ F H) (e : Ex F F') (e' : Ex F' H) (gf : ∀ a o, F' a = some o → (∃ u, F0 a = some u) ∨ H0 a = none ∨ ∃ i, (i, a) ∈ io) (n : ∀ (i : Nat) (c : Cell) (b : Addr), st[i]? = some (some (Slot.own c)) → σ[i]? = some (some (V.ref b)) → F' b = none)
    (nx : ∀ (C : Str) (f : Str × D) (fs : List (Str × D)) (b dx : Addr), st[0]? = some (some (Slot.own (.exo C (f :: fs)))) → H b = some (exo b (G C) (some dx)) → (∃ xs, H dx = some (exd dx xs)) → F dx = none → F' dx = none) : Rel K G H0 F0 io st σ F' H where
  ext := e'
  gf := gf
  fr := r.fr
  ioH := r.ioH
  len := r.len
  sl := fun i s h => by
    obtain ⟨v, h1, h2⟩ := r.sl i s h
    refine ⟨v, h1, ?_⟩
    match s, h2 with
    | .val d, h2 => exact At.mono h2 e
    | .own c, ⟨a, hv, hF, h0, hc⟩ =>
      subst hv
      refine ⟨a, rfl, n i c a h h1, h0, ?_⟩
      match c, hc, h with
      | .lst ds, ⟨xs, q, t⟩, _ => exact ⟨xs, q, t.mono e⟩
      | .dct ds, ⟨xs, q, t⟩, _ => exact ⟨xs, q, t.mono e⟩
      | .ins C ds, ⟨dx, xs, q, t⟩, _ => exact ⟨dx, xs, q, t.mono e⟩
      | .exo C [], q, _ => exact q
      | .exo C (f :: fs), ⟨dx, xs, q, q2, q3, t⟩, h =>
        have hi := r.one i _ _ h
        subst hi
        exact ⟨dx, xs, q, q2, nx C f fs a dx h q ⟨xs, q2⟩ q3, t.mono e⟩
  sep := r.sep
  one := r.one
/-- what is held by no name stands for good from now on -/
theorem Rel.freezeTmp (r : Rel K G H0 F0 io st σ F H) (x : CellAt K G F H a c) (hp : c.plain = true) (hF : F a = none) (h0 : H0 a = none ∨ ∃ i, (i, a) ∈ io) (nh : ∀ (i : Nat) (c' : Cell), st[i]? = some (some (Slot.own c')) → σ[i]? ≠ some (some (V.ref a))) :
    ∃ F', Ex F F' ∧ Rel K G H0 F0 io st σ F' H ∧ At K G F' (.ref a) c.d := by
  obtain ⟨o, ho, e1, e2, t⟩ := x.freeze hp hF r.ext
  refine ⟨_, e1, r.grow e1 e2 (fun b u h => ?_) (fun i c' b h h' => ?_) (fun C f fs b dx h q q2 q3 => ?_), t⟩
  · by_cases hb : b = a
    · subst hb
      exact h0.elim (fun z => .inr (.inl z)) fun z => .inr (.inr z)
    · rw [upd_ne hb] at h
      exact r.gf b u h
  · obtain ⟨v, h1, a', hv, hF', _, hc⟩ := r.sl i _ h
    rw [h'] at h1
    cases h1
    cases hv
    rw [upd_ne (fun z => nh i c' h (by rw [h', z]))]
    exact hF'
  · obtain ⟨xs, q2⟩ := q2
    have hne : dx ≠ a := fun z => by
      subst z
      match c, x, hp with
      | .lst ds, ⟨xs, h, t⟩, _ => rw [q2] at h; exact absurd (Option.some.inj h) (fun z => by cases (show HO.ext _ = HO.lst _ from z))
      | .dct ds, ⟨xs, h, t⟩, _ => rw [q2] at h; exact absurd (Option.some.inj h) (fun z => by cases (show HO.ext _ = HO.dK _ from z))
      | .ins C ds, ⟨dx, xs, h, t⟩, _ => rw [q2] at h; exact absurd (Option.some.inj h) (fun z => by cases (show HO.ext _ = HO.ins _ _ _ from z))
    rw [upd_ne hne]
    exact q3
/-- a slot's value is told anew -/
theorem Rel.slot (r : Rel K G H0 F0 io st σ F H) {i : Nat} {v : V} {d : D} (hv : σ[i]? = some (some v)) (h : At K G F v d) : Rel K G H0 F0 io (st.set i (some (.val d))) σ F H where
  ext := r.ext
  gf := r.gf
  fr := r.fr
  ioH := r.ioH
  len := by rw [List.length_set]; exact r.len
  sl := fun j s hj => by
    by_cases e : j = i
    · subst e
      have hl : j < st.length := by rw [r.len]; exact (List.getElem?_eq_some_iff.mp hv).1
      rw [List.getElem?_set_self hl] at hj
      cases hj
      exact ⟨v, hv, h⟩
    · rw [List.getElem?_set_ne (Ne.symm e)] at hj
      exact r.sl j s hj
  sep := fun j k cj ck hne hj hk => by
    have nj : ∀ (j : Nat) (cj : Cell), (st.set i (some (Slot.val d)))[j]? = some (some (Slot.own cj)) → st[j]? = some (some (Slot.own cj)) := fun j cj hj => by
      by_cases e : j = i
      · subst e
        by_cases hl : j < st.length
        · rw [List.getElem?_set_self hl] at hj
          cases hj
        · rw [List.getElem?_eq_none (by rw [List.length_set]; omega)] at hj
          cases hj
      · rw [List.getElem?_set_ne (Ne.symm e)] at hj
        exact hj
    exact r.sep j k cj ck hne (nj j cj hj) (nj k ck hk)
  one := fun j C fs hj => by
    by_cases e : j = i
    · subst e
      by_cases hl : j < st.length
      · rw [List.getElem?_set_self hl] at hj
        cases hj
      · rw [List.getElem?_eq_none (by rw [List.length_set]; omega)] at hj
        cases hj
    · rw [List.getElem?_set_ne (Ne.symm e)] at hj
      exact r.one j C fs hj
/-- a name's own cell is shared from now on -/
theorem Rel.freezeSlot (r : Rel K G H0 F0 io st σ F H) {i : Nat} (hs : st[i]? = some (some (Slot.own c))) (hp : c.plain = true) :
    ∃ F' a, Ex F F' ∧ σ[i]? = some (some (V.ref a)) ∧ Rel K G H0 F0 io (st.set i (some (.val c.d))) σ F' H ∧ At K G F' (.ref a) c.d := by
  obtain ⟨v, hv, a, ev, hF, h0, hc⟩ := r.sl i _ hs
  subst ev
  obtain ⟨o, ho, e1, e2, t⟩ := hc.freeze hp hF r.ext
  have r2 : Rel K G H0 F0 io (st.set i none) σ F H := {
    ext := r.ext
    gf := r.gf
    fr := r.fr
    ioH := r.ioH
    len := by rw [List.length_set]; exact r.len
    sl := fun j s hj => by
      by_cases e : j = i
      · subst e
        have hl : j < st.length := (List.getElem?_eq_some_iff.mp hs).1
        rw [List.getElem?_set_self hl] at hj
        cases hj
      · rw [List.getElem?_set_ne (Ne.symm e)] at hj
        exact r.sl j s hj
    sep := fun j k cj ck hne hj hk => by
      have nj : ∀ (j : Nat) (cj : Cell), (st.set i none)[j]? = some (some (Slot.own cj)) → st[j]? = some (some (Slot.own cj)) := fun j cj hj => by
        by_cases e : j = i
        · subst e
          by_cases hl : j < st.length
          · rw [List.getElem?_set_self hl] at hj
            cases hj
          · rw [List.getElem?_eq_none (by rw [List.length_set]; omega)] at hj
            cases hj
        · rw [List.getElem?_set_ne (Ne.symm e)] at hj
          exact hj
      exact r.sep j k cj ck hne (nj j cj hj) (nj k ck hk)
    one := fun j C fs hj => by
      by_cases e : j = i
      · subst e
        by_cases hl : j < st.length
        · rw [List.getElem?_set_self hl] at hj
          cases hj
        · rw [List.getElem?_eq_none (by rw [List.length_set]; omega)] at hj
          cases hj
      · rw [List.getElem?_set_ne (Ne.symm e)] at hj
        exact r.one j C fs hj }
  have nh : ∀ (j : Nat) (c' : Cell), (st.set i none)[j]? = some (some (Slot.own c')) → σ[j]? ≠ some (some (V.ref a)) := fun j c' hj => by
    by_cases e : j = i
    · subst e
      have hl : j < st.length := (List.getElem?_eq_some_iff.mp hs).1
      rw [List.getElem?_set_self hl] at hj
      cases hj
    · rw [List.getElem?_set_ne (Ne.symm e)] at hj
      have := r.sep j i c' c e hj hs
      rw [hv] at this
      exact this
  obtain ⟨F', e', r', t'⟩ := r2.freezeTmp hc hp hF h0 nh
  refine ⟨F', a, e', hv, ?_, t'⟩
  have := r'.slot hv t'
  rw [List.set_set] at this
  exact this
end
end PV


set_option Elab.async false
set_option linter.all false
set_option maxRecDepth 100000
set_option maxHeartbeats 4000000
namespace PV
open PySem L2
open PySem.W (Frag)

inductive Out where
  | nx (st : Sta) | rt (r : R) (st : Sta) | bk (st : Sta) | ct (st : Sta)

section
variable {X : Cx}
theorem pe_weak {e : Expr} {t t' : TE} (h : PE X e t) (w : ∀ σ H Q, t' σ H Q → t σ H Q) : PE X e t' := ⟨fun pins s σ H Q I q => h.run pins s σ H Q I (w σ H Q q)⟩
theorem pt_weak {e : Expr} {t t' : TT} (h : PT X e t) (w : ∀ σ H Q, t' σ H Q → t σ H Q) : PT X e t' := ⟨fun pins s σ H Q I q => h.run pins s σ H Q I (w σ H Q q)⟩
theorem pa_weak {e : List Expr} {t t' : TA} (h : PA X e t) (w : ∀ σ H Q, t' σ H Q → t σ H Q) : PA X e t' := ⟨fun pos pins s σ H Q I q => h.run pos pins s σ H Q I (w σ H Q q)⟩
theorem ps_weak {e : Stmt} {t t' : TS} (h : PS X e t) (w : ∀ D σ H, t' D σ H → t D σ H) : PS X e t' := ⟨fun pins s σ H Q I q => h.run pins s σ H Q I (w Q σ H q)⟩
theorem pss_weak {e : List Stmt} {t t' : TS} (h : PSs X e t) (w : ∀ D σ H, t' D σ H → t D σ H) : PSs X e t' := ⟨fun pins s σ H Q I q => h.run pins s σ H Q I (w Q σ H q)⟩
end
/-- what is fixed within a frame: G the classes' and defs' places, io what was handed in -/
structure Env0 where
  G : Str → Addr
  H0 : Hp
  F0 : Hp
  io : List (Nat × Addr)
section
variable (X : Cx) (Z : Env0)
abbrev RelX (st : Sta) (σ : L2.St) (F H : Hp) : Prop := Rel X.K Z.G Z.H0 Z.F0 Z.io st σ F H
abbrev RAtX (st : Sta) (σ : L2.St) (F H : Hp) (v : V) (r : R) : Prop := RAt X.K Z.G Z.H0 st σ F H v r
abbrev AtX (F : Hp) (v : V) (d : D) : Prop := At X.K Z.G F v d
abbrev AtLX (F : Hp) (v : List V) (d : List D) : Prop := AtL X.K Z.G F v d
/-- in st, e gives r and leaves st' -/
def CE (st st' : Sta) (r : R) : TE := fun σ H Q => ∃ F, RelX X Z st σ F H ∧ ∀ v F' H', Ex F F' → RelX X Z st' σ F' H' → RAtX X Z st' σ F' H' v r → Q v H'
def CT (st st' : Sta) (b : Bool) : TT := fun σ H Q => ∃ F, RelX X Z st σ F H ∧ ∀ F' H', Ex F F' → RelX X Z st' σ F' H' → Q b H'
def CA (st st' : Sta) (ds : List D) : TA := fun σ H Q => ∃ F, RelX X Z st σ F H ∧ ∀ vs F' H', Ex F F' → RelX X Z st' σ F' H' → AtLX X Z F' vs ds → Q vs H'
def CS (st : Sta) (o : Out) : TS := fun D σ H => ∃ F, RelX X Z st σ F H ∧ match o with
  | .nx st' => ∀ σ' F' H', Ex F F' → RelX X Z st' σ' F' H' → D.nx σ' H'
  | .rt r st' => ∀ v σ' F' H', Ex F F' → RelX X Z st' σ' F' H' → RAtX X Z st' σ' F' H' v r → D.rt v H'
  | .bk st' => ∀ σ' F' H', Ex F F' → RelX X Z st' σ' F' H' → D.bk σ' H'
  | .ct st' => ∀ σ' F' H', Ex F F' → RelX X Z st' σ' F' H' → D.ct σ' H'
def SE (e : Expr) (st st' : Sta) (r : R) : Prop := PE X e (CE X Z st st' r)
def ST (e : Expr) (st st' : Sta) (b : Bool) : Prop := PT X e (CT X Z st st' b)
def SA (es : List Expr) (st st' : Sta) (ds : List D) : Prop := PA X es (CA X Z st st' ds)
def SS (s : Stmt) (st : Sta) (o : Out) : Prop := PS X s (CS X Z st o)
def SSs (s : List Stmt) (st : Sta) (o : Out) : Prop := PSs X s (CS X Z st o)
end
section
variable {X : Cx} {Z : Env0} {st st1 st2 st3 : Sta} {e e1 e2 : Expr} {es : List Expr} {r : R} {d x y z : D} {s : Stmt} {ss : List Stmt} {o : Out} {pos : Pos}
/-! one derivation for all ways -/
def anyE (X : Cx) (Z : Env0) (e : Expr) : TE := fun σ H Q => ∃ st st' r, SE X Z e st st' r ∧ CE X Z st st' r σ H Q
theorem pe_any : PE X e (anyE X Z e) := ⟨fun pins s σ H Q I ⟨_, _, _, h, q⟩ => h.run pins s σ H Q I q⟩
def anyT (X : Cx) (Z : Env0) (e : Expr) : TT := fun σ H Q => ∃ st st' b, ST X Z e st st' b ∧ CT X Z st st' b σ H Q
theorem pt_any : PT X e (anyT X Z e) := ⟨fun pins s σ H Q I ⟨_, _, _, h, q⟩ => h.run pins s σ H Q I q⟩
def anyA (X : Cx) (Z : Env0) (e : List Expr) : TA := fun σ H Q => ∃ st st' r, SA X Z e st st' r ∧ CA X Z st st' r σ H Q
theorem pa_any : PA X es (anyA X Z es) := ⟨fun pos pins s σ H Q I ⟨_, _, _, h, q⟩ => h.run pos pins s σ H Q I q⟩
def anyS (X : Cx) (Z : Env0) (s : Stmt) : TS := fun D σ H => ∃ st o, SS X Z s st o ∧ CS X Z st o D σ H
theorem ps_any : PS X s (anyS X Z s) := ⟨fun pins s σ H Q I ⟨_, _, h, q⟩ => h.run pins s σ H Q I q⟩
def anySs (X : Cx) (Z : Env0) (s : List Stmt) : TS := fun D σ H => ∃ st o, SSs X Z s st o ∧ CS X Z st o D σ H
theorem pss_any : PSs X ss (anySs X Z ss) := ⟨fun pins s σ H Q I ⟨_, _, h, q⟩ => h.run pins s σ H Q I q⟩
theorem anyE.of (h : SE X Z e st st1 r) {σ : L2.St} {F H : Hp} {Q : VK} (hr : RelX X Z st σ F H) (k : ∀ v F' H', Ex F F' → RelX X Z st1 σ F' H' → RAtX X Z st1 σ F' H' v r → Q v H') : anyE X Z e σ H Q := ⟨st, st1, r, h, F, hr, k⟩
theorem anyE.dat (h : SE X Z e st st1 (.val d)) {σ : L2.St} {F H : Hp} {Q : VK} (hr : RelX X Z st σ F H) (k : ∀ v F' H', Ex F F' → RelX X Z st1 σ F' H' → AtX X Z F' v d → Q v H') : anyE X Z e σ H Q := ⟨st, st1, _, h, F, hr, k⟩
theorem anyT.of {b : Bool} (h : ST X Z e st st1 b) {σ : L2.St} {F H : Hp} {Q : Bool → Hp → Prop} (hr : RelX X Z st σ F H) (k : ∀ F' H', Ex F F' → RelX X Z st1 σ F' H' → Q b H') : anyT X Z e σ H Q := ⟨st, st1, b, h, F, hr, k⟩
theorem anyA.of {ds : List D} (h : SA X Z es st st1 ds) {σ : L2.St} {F H : Hp} {Q : List V → Hp → Prop} (hr : RelX X Z st σ F H) (k : ∀ vs F' H', Ex F F' → RelX X Z st1 σ F' H' → AtLX X Z F' vs ds → Q vs H') : anyA X Z es σ H Q := ⟨st, st1, ds, h, F, hr, k⟩
/-! results -/
def Rfz : R → Bool
  | .val _ => true
  | .own c => c.plain
/-- a result that nobody is to change is shared -/
theorem SE.val (h : SE X Z e st st1 r) (hp : Rfz r = true) : SE X Z e st st1 (.val r.d) := by
  refine pe_weak h fun σ H Q ⟨F, hr, k⟩ => ⟨F, hr, fun v F' H' ex hr' hv => ?_⟩
  match r, hv, hp with
  | .val d, hv, _ => exact k v F' H' ex hr' hv
  | .own c, ⟨a, ev, hF, h0, hc, nh⟩, hp =>
    subst ev
    obtain ⟨F2, ex2, hr2, ht⟩ := hr'.freezeTmp hc hp hF (.inl h0) nh
    exact k _ F2 H' (ex.trans ex2) hr2 ht
/-! ### statements in a row -/
theorem sss_nil : SSs X Z [] st (.nx st) := pss_weak pss_nil fun D σ H ⟨F, hr, k⟩ => k σ F H (Ex.refl F) hr
theorem CS.seq {D : Ends} {σ : L2.St} {H : Hp} {t : TS} (h : CS X Z st o D σ H) {K2 : L2.St → Hp → Prop} (hs : ∀ F, RelX X Z st σ F H → ∀ σ' F' H', Ex F F' → RelX X Z st1 σ' F' H' →
    (∀ F2, Ex F' F2 → Ex F F2) → K2 σ' H') : CS X Z st (.nx st1) { D with nx := K2 } σ H := by
  obtain ⟨F, hr, k⟩ := h
  exact ⟨F, hr, fun σ' F' H' ex hr' => hs F hr σ' F' H' ex hr' fun F2 e2 => ex.trans e2⟩
theorem sss_cons (h1 : SS X Z s st (.nx st1)) (h2 : SSs X Z ss st1 o) : SSs X Z (s :: ss) st o := by
  refine pss_weak (pss_cons h1 h2) fun D σ H ⟨F, hr, k⟩ => ⟨F, hr, fun σ' F' H' ex hr' => ⟨F', hr', ?_⟩⟩
  match o, k with
  | .nx st', k => exact fun σ2 F2 H2 e2 hr2 => k σ2 F2 H2 (ex.trans e2) hr2
  | .rt r st', k => exact fun v σ2 F2 H2 e2 hr2 hv => k v σ2 F2 H2 (ex.trans e2) hr2 hv
  | .bk st', k => exact fun σ2 F2 H2 e2 hr2 => k σ2 F2 H2 (ex.trans e2) hr2
  | .ct st', k => exact fun σ2 F2 H2 e2 hr2 => k σ2 F2 H2 (ex.trans e2) hr2
def Out.isNx : Out → Bool
  | .nx _ => true
  | _ => false
theorem sss_out (h1 : SS X Z s st o) (ho : o.isNx = false) : SSs X Z (s :: ss) st o := by
  refine pss_weak (pss_cons h1 pss_never) fun D σ H ⟨F, hr, k⟩ => ⟨F, hr, ?_⟩
  match o, k, ho with
  | .rt r st', k, _ => exact k
  | .bk st', k, _ => exact k
  | .ct st', k, _ => exact k
/-! ### tests -/
theorem st_val {b : Bool} (h : SE X Z e st st1 (.val (.bl b))) (he : ∀ whole, isTrue e X.env whole = (do let v ← whole; standAt e.pos; holding [v] (truthy v))) : ST X Z e st st1 b :=
  pt_weak (pt_val h he) fun σ H Q ⟨F, hr, k⟩ => ⟨F, hr, fun v F' H' ex hr' hv => by
    cases (show At X.K Z.G F' v (.bl b) from hv)
    exact ⟨b, rfl, k F' H' ex hr'⟩⟩
theorem st_not {b : Bool} {p : Pos} (h : ST X Z e st st1 b) : ST X Z (.UnaryOp .Not e p) st st1 (!b) :=
  pt_weak (pt_not h) fun σ H Q ⟨F, hr, k⟩ => ⟨F, hr, fun F' H' ex hr' => k F' H' ex hr'⟩
/-! ### if -/
theorem ss_ifT {a b : List Stmt} (hc : ST X Z e st st1 true) (h : SSs X Z a st1 o) : SS X Z (.If e a b pos) st o := by
  refine ps_weak (ps_if hc h pss_never) fun D σ H ⟨F, hr, k⟩ => ⟨F, hr, fun F' H' ex hr' => ?_⟩
  refine (if_pos rfl).mpr ⟨F', hr', ?_⟩
  match o, k with
  | .nx st', k => exact fun σ2 F2 H2 e2 hr2 => k σ2 F2 H2 (ex.trans e2) hr2
  | .rt r st', k => exact fun v σ2 F2 H2 e2 hr2 hv => k v σ2 F2 H2 (ex.trans e2) hr2 hv
  | .bk st', k => exact fun σ2 F2 H2 e2 hr2 => k σ2 F2 H2 (ex.trans e2) hr2
  | .ct st', k => exact fun σ2 F2 H2 e2 hr2 => k σ2 F2 H2 (ex.trans e2) hr2
theorem ss_ifF {a b : List Stmt} (hc : ST X Z e st st1 false) (h : SSs X Z b st1 o) : SS X Z (.If e a b pos) st o := by
  refine ps_weak (ps_if hc pss_never h) fun D σ H ⟨F, hr, k⟩ => ⟨F, hr, fun F' H' ex hr' => ?_⟩
  refine (if_neg Bool.false_ne_true).mpr ⟨F', hr', ?_⟩
  match o, k with
  | .nx st', k => exact fun σ2 F2 H2 e2 hr2 => k σ2 F2 H2 (ex.trans e2) hr2
  | .rt r st', k => exact fun v σ2 F2 H2 e2 hr2 hv => k v σ2 F2 H2 (ex.trans e2) hr2 hv
  | .bk st', k => exact fun σ2 F2 H2 e2 hr2 => k σ2 F2 H2 (ex.trans e2) hr2
  | .ct st', k => exact fun σ2 F2 H2 e2 hr2 => k σ2 F2 H2 (ex.trans e2) hr2
/-! ### return, expression statements, assignments to names -/
theorem ss_ret (h : SE X Z e st st1 r) : SS X Z (.Return (some e) pos) st (.rt r st1) :=
  ps_weak (ps_ret h) fun D σ H ⟨F, hr, k⟩ => ⟨F, hr, fun v F' H' ex hr' hv => k v σ F' H' ex hr' hv⟩
theorem ss_retN : SS X Z (.Return none pos) st (.rt (.val .non) st) :=
  ps_weak ps_retN fun D σ H ⟨F, hr, k⟩ => k .non σ F H (Ex.refl F) hr .non
theorem ss_pass : SS X Z (.Pass pos) st (.nx st) := ps_weak ps_pass fun D σ H ⟨F, hr, k⟩ => k σ F H (Ex.refl F) hr
theorem ss_brk : SS X Z (.Break pos) st (.bk st) := ps_weak ps_break fun D σ H ⟨F, hr, k⟩ => k σ F H (Ex.refl F) hr
theorem ss_cont : SS X Z (.Continue pos) st (.ct st) := ps_weak ps_continue fun D σ H ⟨F, hr, k⟩ => k σ F H (Ex.refl F) hr
theorem ss_expr (h : SE X Z e st st1 r) (hs : swapsWith e none pos.line X.env = pure false) : SS X Z (.Expr e pos) st (.nx st1) :=
  ps_weak (ps_expr h hs) fun D σ H ⟨F, hr, k⟩ => ⟨F, hr, fun v F' H' ex hr' hv => k σ F' H' ex hr'⟩
/-- a value goes into a slot that was not handed in -/
theorem Rel.put {K : Frag} {G : Str → Addr} {H0 F0 F H : Hp} {io : List (Nat × Addr)} {st : Sta} {σ : L2.St} {v : V} {r : R} {i : Nat} (h : Rel K G H0 F0 io st σ F H) (hv : RAt K G H0 st σ F H v r) (hp : Rfz r = true) (hi : ∀ a, (i, a) ∉ io) (hl : i < st.length) :
    Rel K G H0 F0 io (st.set i (some r.slot)) (σ.set i (some v)) F H where
  ext := h.ext
  gf := h.gf
  fr := h.fr
  ioH := fun j a q => by
    obtain ⟨h1, h2, h3⟩ := h.ioH j a q
    refine ⟨h1, h2, ?_⟩
    have hne : i ≠ j := fun z => hi a (z ▸ q)
    rw [List.getElem?_set_ne hne]
    exact h3
  len := by rw [List.length_set, List.length_set]; exact h.len
  sl := fun j s hj => by
    by_cases e : j = i
    · subst e
      rw [List.getElem?_set_self hl] at hj
      cases hj
      refine ⟨v, List.getElem?_set_self (by rw [← h.len]; exact hl), ?_⟩
      match r, hv with
      | .val d, hv => exact hv
      | .own c, ⟨a, ev, hF, h0, hc, nh⟩ => exact ⟨a, ev, hF, .inl h0, hc⟩
    · rw [List.getElem?_set_ne (Ne.symm e)] at hj
      obtain ⟨u, h1, h2⟩ := h.sl j s hj
      exact ⟨u, by rw [List.getElem?_set_ne (Ne.symm e)]; exact h1, h2⟩
  sep := by
    have nj : ∀ (j : Nat) (cj : Cell), (st.set i (some r.slot))[j]? = some (some (Slot.own cj)) → (j = i ∧ r = .own cj) ∨ (j ≠ i ∧ st[j]? = some (some (Slot.own cj))) := fun j cj hj => by
      by_cases e : j = i
      · subst e
        rw [List.getElem?_set_self hl] at hj
        refine .inl ⟨rfl, ?_⟩
        cases r with
        | val d => cases hj
        | own c => cases hj; rfl
      · rw [List.getElem?_set_ne (Ne.symm e)] at hj
        exact .inr ⟨e, hj⟩
    have hs : ∀ j, j = i → (σ.set i (some v))[j]? = some (some v) := fun j e => by
      subst e
      exact List.getElem?_set_self (by rw [← h.len]; exact hl)
    have hn : ∀ j, j ≠ i → (σ.set i (some v))[j]? = σ[j]? := fun j e => List.getElem?_set_ne (Ne.symm e)
    intro j k cj ck hne hj hk
    rcases nj j cj hj with ⟨e1, q1⟩ | ⟨e1, q1⟩ <;> rcases nj k ck hk with ⟨e2, q2⟩ | ⟨e2, q2⟩
    · exact absurd (e1.trans e2.symm) hne
    · subst q1
      obtain ⟨a, ev, hF, h0, hc, nh⟩ := hv
      rw [hs j e1, hn k e2, ev]
      exact fun z => nh k ck q2 z.symm
    · subst q2
      obtain ⟨a, ev, hF, h0, hc, nh⟩ := hv
      rw [hs k e2, hn j e1, ev]
      exact nh j cj q1
    · rw [hn j e1, hn k e2]
      exact h.sep j k cj ck hne q1 q2
  one := fun j C fs hj => by
    by_cases e : j = i
    · subst e
      rw [List.getElem?_set_self hl] at hj
      cases r with
      | val d => cases hj
      | own c =>
        cases hj
        cases hp
    · rw [List.getElem?_set_ne (Ne.symm e)] at hj
      exact h.one j C fs hj
theorem ss_set {i : Nat} {x : Str} {pos' : Pos} (hN : X.N.Nodup) (hi : X.N[i]? = some x) (hx : Loc X.env.scope x) (hfn : X.fn x = true) (h : SE X Z e st st1 r) (hp : Rfz r = true) (hio : ∀ a, (i, a) ∉ Z.io) (hl : i < st1.length)
    (hs : swapsWith e (some (.Name x pos')) pos.line X.env = pure false) : SS X Z (.Assign [.Name x pos'] e pos) st (.nx (st1.set i (some r.slot))) :=
  ps_weak (ps_set hN hi hx h hs (.inl hfn)) fun D σ H ⟨F, hr, k⟩ => ⟨F, hr, fun v F' H' ex hr' hv => k _ F' H' ex (hr'.put hv hp hio hl)⟩
end
end PV


set_option Elab.async false
set_option linter.all false
set_option maxRecDepth 100000
set_option maxHeartbeats 4000000
namespace PV
open PySem L2
open PySem.W (Frag)
section
variable {X : Cx} {Z : Env0} {st st1 st2 st3 : Sta} {e e1 e2 : Expr} {es : List Expr} {r : R} {d x y z : D} {s : Stmt} {ss : List Stmt} {o : Out} {pos : Pos} {σ : L2.St} {F F' H H' : Hp} {v u : V}
/-! ### inversions -/
theorem At.int_inv {K : Frag} {G : Str → Addr} {i : Int} (h : At K G F v (.int i)) : v = .int i := by cases h; rfl
theorem At.str_inv {K : Frag} {G : Str → Addr} {i : Str} (h : At K G F v (.str i)) : v = .str i := by cases h; rfl
theorem At.bl_inv {K : Frag} {G : Str → Addr} {i : Bool} (h : At K G F v (.bl i)) : v = .bl i := by cases h; rfl
theorem At.non_inv {K : Frag} {G : Str → Addr} (h : At K G F v .non) : v = .non := by cases h; rfl
theorem At.ty_inv {K : Frag} {G : Str → Addr} {n : String} (h : At K G F v (.ty n)) : v = .ty n := by cases h; rfl
theorem At.cls_inv {K : Frag} {G : Str → Addr} {n : Str} (h : At K G F v (.cls n)) : v = .ref (G n) := by cases h; rfl
theorem At.lst_inv {K : Frag} {G : Str → Addr} {ds : List D} (h : At K G F v (.lst ds)) : ∃ a xs, v = .ref a ∧ Rd F a (.lst xs) ∧ AtL K G F xs ds := by
  cases h with
  | lst h t => exact ⟨_, _, rfl, h, t⟩
theorem At.tup_inv {K : Frag} {G : Str → Addr} {ds : List D} (h : At K G F v (.tup ds)) : ∃ a xs, v = .ref a ∧ SqT K F a xs ∧ AtL K G F xs ds := by
  cases h with
  | tup h t => exact ⟨_, _, rfl, h, t⟩
/-! ### constants and names -/
theorem se_int {i j} : SE X Z (.Constant (.int i) j pos) st st (.val (.int i)) := pe_weak pe_int fun σ H Q ⟨F, hr, k⟩ => k _ F H (Ex.refl F) hr (.int i)
theorem se_str {i j} : SE X Z (.Constant (.str i) j pos) st st (.val (.str i)) := pe_weak pe_str fun σ H Q ⟨F, hr, k⟩ => k _ F H (Ex.refl F) hr (.str i)
theorem se_bl {i j} : SE X Z (.Constant (.bool i) j pos) st st (.val (.bl i)) := pe_weak pe_bl fun σ H Q ⟨F, hr, k⟩ => k _ F H (Ex.refl F) hr (.bl i)
theorem se_non {j} : SE X Z (.Constant .none j pos) st st (.val .non) := pe_weak pe_non fun σ H Q ⟨F, hr, k⟩ => k _ F H (Ex.refl F) hr .non
theorem se_var {i : Nat} {n : Str} (hN : X.N[i]? = some n) (hv : Vis X.env.scope n) (hs : st[i]? = some (some (Slot.val d))) (hd : (n == ("__debug__" : Str)) = false) (hcd : (n == ("__classdict__" : Str)) = false) :
    SE X Z (.Name n pos) st st (.val d) :=
  pe_weak (pe_var hN hv hd hcd) fun σ H Q ⟨F, hr, k⟩ => by
    obtain ⟨v, h1, h2⟩ := hr.sl i _ hs
    exact ⟨v, h1, k v F H (Ex.refl F) hr h2⟩
theorem se_varO {i : Nat} {n : Str} {c : Cell} (hN : X.N[i]? = some n) (hv : Vis X.env.scope n) (hs : st[i]? = some (some (Slot.own c))) (hp : c.plain = true) (hd : (n == ("__debug__" : Str)) = false) (hcd : (n == ("__classdict__" : Str)) = false) :
    SE X Z (.Name n pos) st (st.set i (some (.val c.d))) (.val c.d) :=
  pe_weak (pe_var hN hv hd hcd) fun σ H Q ⟨F, hr, k⟩ => by
    obtain ⟨F', a, ex, hv, hr', ht⟩ := hr.freezeSlot hs hp
    exact ⟨_, hv, k _ F' H ex hr' ht⟩
theorem se_cls {n : Str} (hg : Gl X n) (hm : X.mg n = some (.ref (Z.G n))) (hd : (n == ("__debug__" : Str)) = false) : SE X Z (.Name n pos) st st (.val (.cls n)) :=
  pe_weak (pe_glob (v := .ref (Z.G n)) hg hm rfl hd) fun σ H Q ⟨F, hr, k⟩ => k _ F H (Ex.refl F) hr (.cls n)
theorem se_ty {n : Str} {T : String} (hg : Gl X n) (hm : X.mg n = none) (hv : bootBuiltins n = some (.type T)) (hn : n ≠ "__name__") (hd : (n == ("__debug__" : Str)) = false) : SE X Z (.Name n pos) st st (.val (.ty T)) :=
  pe_weak (pe_bltn (v := .ty T) hg hm hv rfl hn hd) fun σ H Q ⟨F, hr, k⟩ => k _ F H (Ex.refl F) hr (.ty T)
/-! ### two operands -/
/-- f of x and y gives r -/
def OpOk (X : Cx) (Z : Env0) (f : Value → Value → Sem Value) (x y : D) (r : R) : Prop := ∃ rr, OpR X f rr ∧ ∀ st σ F H v u, RelX X Z st σ F H → AtX X Z F v x → AtX X Z F u y →
  ∀ Q : VK, (∀ w F' H', Ex F F' → RelX X Z st σ F' H' → RAtX X Z st σ F' H' w r → Q w H') → rr v u H Q
theorem OpOk.pure {f : Value → Value → Sem Value} {rr : R2} (h : OpR X f rr) (k : ∀ F H v u, Ex F H → AtX X Z F v x → AtX X Z F u y → ∃ w, AtX X Z F w z ∧ ∀ Q : VK, Q w H → rr v u H Q) : OpOk X Z f x y (.val z) :=
  ⟨rr, h, fun st σ F H v u hr hx hy Q q => by
    obtain ⟨w, hw, hk⟩ := k F H v u hr.ext hx hy
    exact hk Q (q w F H (Ex.refl F) hr hw)⟩
theorem ce_bin {ta tb : TE} {rr : R2} {Q : VK} (q : CE X Z st st2 r σ H Q)
    (ha : ∀ F H Q, RelX X Z st σ F H → (∀ v F' H', Ex F F' → RelX X Z st1 σ F' H' → AtX X Z F' v x → Q v H') → ta σ H Q)
    (hb : ∀ F H Q, RelX X Z st1 σ F H → (∀ v F' H', Ex F F' → RelX X Z st2 σ F' H' → AtX X Z F' v y → Q v H') → tb σ H Q)
    (k : ∀ st σ F H v u, RelX X Z st σ F H → AtX X Z F v x → AtX X Z F u y → ∀ Q : VK, (∀ w F' H', Ex F F' → RelX X Z st σ F' H' → RAtX X Z st σ F' H' w r → Q w H') → rr v u H Q) : tOp rr ta tb σ H Q := by
  obtain ⟨F, hr, q⟩ := q
  refine ha F H _ hr fun v F1 H1 e1 r1 hv => hb F1 H1 _ r1 fun u F2 H2 e2 r2 hu => ?_
  exact k st2 σ F2 H2 v u r2 (At.mono hv e2) hu Q fun w F3 H3 e3 r3 hw => q w F3 H3 ((e1.trans e2).trans e3) r3 hw
theorem se_bin {op : Operator} (h1 : SE X Z e1 st st1 (.val x)) (h2 : SE X Z e2 st1 st2 (.val y)) (ho : OpOk X Z (binaryOp op) x y r) : SE X Z (.BinOp e1 op e2 pos) st st2 r := by
  obtain ⟨rr, hR, k⟩ := ho
  exact pe_weak (pe_op hR h1 h2) fun σ H Q q => ce_bin q (fun F H Q hr k => ⟨F, hr, k⟩) (fun F H Q hr k => ⟨F, hr, k⟩) k
theorem se_cmp {op : CmpOp} (h1 : SE X Z e1 st st1 (.val x)) (h2 : SE X Z e2 st1 st2 (.val y)) (ho : OpOk X Z (compareOp op) x y r) (hm : behindInMarks op e2 = false) : SE X Z (.Compare e1 [op] [e2] pos) st st2 r := by
  obtain ⟨rr, hR, k⟩ := ho
  exact pe_weak (pe_cmpR hR h1 h2 hm) fun σ H Q q => ce_bin q (fun F H Q hr k => ⟨F, hr, k⟩) (fun F H Q hr k => ⟨F, hr, k⟩) k
theorem st_cmp {op : CmpOp} {b : Bool} (h1 : SE X Z e1 st st1 (.val x)) (h2 : SE X Z e2 st1 st2 (.val y)) (ho : OpOk X Z (compareOp op) x y (.val (.bl b))) (hm : behindInMarks op e2 = false) : ST X Z (.Compare e1 [op] [e2] pos) st st2 b := by
  obtain ⟨rr, hR, k⟩ := ho
  refine pt_weak (pt_cmpR hR h1 h2 hm) fun σ H Q ⟨F, hr, q⟩ => ?_
  exact ce_bin (Q := fun x H' => ∃ k, x = .bl k ∧ Q k H') (r := .val (.bl b)) (st := st) (st2 := st2) ⟨F, hr, fun v F' H' ex hr' hv => by
    cases (show At X.K Z.G F' v (.bl b) from hv)
    exact ⟨b, rfl, q F' H' ex hr'⟩⟩ (fun F H Q hr k => ⟨F, hr, k⟩) (fun F H Q hr k => ⟨F, hr, k⟩) k
/-! the operators -/
theorem op_int {f : Value → Value → Sem Value} {C : Int → Int → Prop} {g : Int → Int → V} {i j : Int} (h : OpR X f (rI C g)) (hc : C i j) (hz : ∀ K G F, At K G F (g i j) z) : OpOk X Z f (.int i) (.int j) (.val z) :=
  OpOk.pure h fun F H v u _ hx hy => by
    obtain rfl := At.int_inv hx
    obtain rfl := At.int_inv hy
    exact ⟨_, hz _ _ _, fun Q q => ⟨i, j, rfl, rfl, hc, q⟩⟩
theorem op_int0 {f : Value → Value → Sem Value} {g : Int → Int → V} {i j : Int} (h : OpR X f (rI0 g)) (hz : ∀ K G F, At K G F (g i j) z) : OpOk X Z f (.int i) (.int j) (.val z) :=
  OpOk.pure h fun F H v u _ hx hy => by
    obtain rfl := At.int_inv hx
    obtain rfl := At.int_inv hy
    exact ⟨_, hz _ _ _, fun Q q => ⟨i, j, rfl, rfl, q⟩⟩
/-- // by any divisor but 0, below 2 ^ 9000 in size -/
def CDivG (_ j : Int) : Prop := j ≠ 0 ∧ j.natAbs.log2 < 9000
theorem op_fdivG : OpR X (binaryOp .FloorDiv) (rI CDivG fun i j => .int (i.fdiv j)) := opI fun i j _ _ _ _ _ hc q => PyProof.Rows.floordiv_int hc.1 q (.inl (PyProof.noPylong_of_log2 hc.2))
theorem oo_add {i j : Int} : OpOk X Z (binaryOp .Add) (.int i) (.int j) (.val (.int (i + j))) := op_int0 op_add fun _ _ _ => .int _
theorem oo_sub {i j : Int} : OpOk X Z (binaryOp .Sub) (.int i) (.int j) (.val (.int (i - j))) := op_int0 op_sub fun _ _ _ => .int _
theorem oo_mul {i j : Int} (h : CMulW i j) : OpOk X Z (binaryOp .Mult) (.int i) (.int j) (.val (.int (i * j))) := op_int op_mulW h fun _ _ _ => .int _
theorem oo_fdiv {i j : Int} (h : CDivG i j) : OpOk X Z (binaryOp .FloorDiv) (.int i) (.int j) (.val (.int (i.fdiv j))) := op_int op_fdivG h fun _ _ _ => .int _
theorem oo_mod {i j : Int} (h : j ≠ 0) : OpOk X Z (binaryOp .Mod) (.int i) (.int j) (.val (.int (i.fmod j))) := op_int op_modN h fun _ _ _ => .int _
theorem oo_pow {i j : Int} (h : CPow i j) : OpOk X Z (binaryOp .Pow) (.int i) (.int j) (.val (.int (i ^ j.toNat))) := op_int op_pow h fun _ _ _ => .int _
theorem oo_adds {i j : Str} (h : i.length + j.length ≤ sizeLine) : OpOk X Z (binaryOp .Add) (.str i) (.str j) (.val (.str (i ++ j))) :=
  OpOk.pure op_add_str fun F H v u _ hx hy => by
    obtain rfl := At.str_inv hx
    obtain rfl := At.str_inv hy
    exact ⟨_, .str _, fun Q q => ⟨i, j, rfl, rfl, h, q⟩⟩
theorem oo_lt {i j : Int} : OpOk X Z (compareOp .Lt) (.int i) (.int j) (.val (.bl (decide (i < j)))) := op_int0 op_lt fun _ _ _ => .bl _
theorem oo_le {i j : Int} : OpOk X Z (compareOp .LtE) (.int i) (.int j) (.val (.bl (decide (i ≤ j)))) := op_int0 op_le fun _ _ _ => .bl _
theorem oo_gt {i j : Int} : OpOk X Z (compareOp .Gt) (.int i) (.int j) (.val (.bl (decide (j < i)))) := op_int0 op_gt fun _ _ _ => .bl _
theorem oo_ge {i j : Int} : OpOk X Z (compareOp .GtE) (.int i) (.int j) (.val (.bl (decide (j ≤ i)))) := op_int0 op_ge fun _ _ _ => .bl _
/-! == of data -/
def keyPy : Key → PyData
  | .inl i => .int i
  | .inr s => .str s
mutual
def D.py : D → PyData
  | .non => .none
  | .bl b => .bool b
  | .int i => .int i
  | .str s => .str s
  | .lst xs => .list (D.pyL xs)
  | .tup xs => .tuple (D.pyL xs)
  | .dct kvs => .dict (D.pyM kvs)
  | _ => .none
def D.pyL : List D → List PyData
  | [] => []
  | d :: ds => d.py :: D.pyL ds
def D.pyM : List (Key × D) → List (PyData × PyData)
  | [] => []
  | (k, d) :: ds => (keyPy k, d.py) :: D.pyM ds
end
mutual
/-- data without dicts and objects -/
def D.isPy : D → Bool
  | .non | .bl _ | .int _ | .str _ => true
  | .lst xs => D.isPyL xs
  | .tup xs => D.isPyL xs
  | _ => false
def D.isPyL : List D → Bool
  | [] => true
  | d :: ds => d.isPy && D.isPyL ds
end
mutual
theorem At.dp {K : Frag} {G : Str → Addr} (ex : Ex F H) : ∀ {v : V} {d : D}, At K G F v d → d.isPy = true → Dp K H v d.py
  | _, _, .non, _ => .non
  | _, _, .bl b, _ => .bl b
  | _, _, .int i, _ => .int i
  | _, _, .str s, _ => .str s
  | _, _, .lst h t, e => .lst (.inl (ex.rd h)) (AtL.dp ex t e)
  | _, _, .tup h t, e => .tup (ex.sqT h) (AtL.dp ex t e)
theorem AtL.dp {K : Frag} {G : Str → Addr} (ex : Ex F H) : ∀ {vs : List V} {ds : List D}, AtL K G F vs ds → D.isPyL ds = true → DpAll K H vs (D.pyL ds)
  | _, _, .nil, _ => .nil
  | _, _, .cons h t, e => .cons (At.dp ex h (Bool.and_eq_true_iff.mp e).1) (AtL.dp ex t (Bool.and_eq_true_iff.mp e).2)
end
def D.eqOk (d : D) : Bool := d.isPy && SeqAt.shaped d.py
theorem oo_eqD (hu : X.A.units + 64 < cLine) (h1 : x.eqOk = true) (h2 : y.eqOk = true) : OpOk X Z (compareOp .Eq) x y (.val (.bl (PyData.eqv x.py y.py))) :=
  OpOk.pure (op_eqD hu) fun F H v u ex hx hy => by
    obtain ⟨a1, a2⟩ := Bool.and_eq_true_iff.mp h1
    obtain ⟨b1, b2⟩ := Bool.and_eq_true_iff.mp h2
    exact ⟨_, .bl _, fun Q q => ⟨_, _, At.dp ex hx a1, At.dp ex hy b1, a2, b2, q⟩⟩
theorem oo_neD (hu : X.A.units + 64 < cLine) (h1 : x.eqOk = true) (h2 : y.eqOk = true) : OpOk X Z (compareOp .NotEq) x y (.val (.bl (!PyData.eqv x.py y.py))) :=
  OpOk.pure (op_neD hu) fun F H v u ex hx hy => by
    obtain ⟨a1, a2⟩ := Bool.and_eq_true_iff.mp h1
    obtain ⟨b1, b2⟩ := Bool.and_eq_true_iff.mp h2
    exact ⟨_, .bl _, fun Q q => ⟨_, _, At.dp ex hx a1, At.dp ex hy b1, a2, b2, q⟩⟩
end
end PV


set_option Elab.async false
set_option linter.all false
set_option maxRecDepth 100000
set_option maxHeartbeats 4000000
namespace PV
open PySem L2
open PySem.W (Frag)
section
variable {X : Cx} {Z : Env0} {st st1 st2 st3 : Sta} {e e1 e2 : Expr} {es : List Expr} {r : R} {d x y z : D} {s : Stmt} {ss : List Stmt} {o : Out} {pos p : Pos} {σ : L2.St} {F F' H H' : Hp} {v u : V} {b : Bool}
/-! ### syntax -/
def plainT : Expr → Bool
  | .UnaryOp .Not _ _ => false
  | .BoolOp _ _ _ => false
  | .IfExp _ _ _ _ => false
  | .Compare _ _ _ _ => false
  | _ => true
theorem isTrue_of_plain (h : plainT e = true) : ∀ whole, isTrue e X.env whole = (do let v ← whole; standAt e.pos; holding [v] (truthy v)) := by
  intro whole
  cases e with
  | UnaryOp op a p =>
    cases op with
    | Not => cases h
    | _ => rfl
  | BoolOp _ _ _ => cases h
  | IfExp _ _ _ _ => cases h
  | Compare _ _ _ _ => cases h
  | _ => rfl
def isStar : Expr → Bool
  | .Starred _ _ => true
  | _ => false
theorem starEach_cons (h : isStar e = false) : starEach (e :: es) X.env = (false, eval e X.env) :: starEach es X.env := by
  cases e with
  | Starred _ _ => cases h
  | _ => rfl
theorem noStar_any : ∀ {es : List Expr}, es.any isStar = false → (backTo pos (starEach es X.env)).any (·.1) = false
  | [], _ => rfl
  | e :: es, h => by
    rw [List.any_cons, Bool.or_eq_false_iff] at h
    rw [starEach_cons h.1]
    have ih := noStar_any (es := es) h.2
    unfold backTo at ih ⊢
    rw [List.map_cons, List.any_cons, ih]
    rfl
def attrPlain : Expr → Bool
  | .Call (.Name _ _) [] [] _ => false
  | _ => true
theorem attrBase_of {f : Str} (h : attrPlain e = true) : attributeBase e f X.env (eval e X.env) = eval e X.env := by
  unfold attributeBase
  split
  · cases h
  · rfl
/-! ### truth -/
def D.tru : D → Option (Bool × List Prop)
  | .non => some (false, [])
  | .bl b => some (b, [])
  | .int i => some (i != 0, [])
  | .str s => some ((s.length : Int) != 0, [s.length ≤ sizeLine])
  | .lst xs => some (!xs.isEmpty, [])
  | .tup xs => some (!xs.isEmpty, [])
  | .dct xs => some (!xs.isEmpty, [])
  | _ => none
def allP : List Prop → Prop
  | [] => True
  | q :: qs => q ∧ allP qs
theorem allP_append : ∀ {a b : List Prop}, allP (a ++ b) ↔ allP a ∧ allP b
  | [], b => ⟨fun h => ⟨trivial, h⟩, fun h => h.2⟩
  | q :: a, b => by
    have := allP_append (a := a) (b := b)
    constructor
    · intro h
      exact ⟨⟨h.1, (this.mp h.2).1⟩, (this.mp h.2).2⟩
    · intro h
      exact ⟨h.1.1, this.mpr ⟨h.1.2, h.2⟩⟩
theorem AtL.isEmpty {K : Frag} {G : Str → Addr} {vs : List V} {ds : List D} (h : AtL K G F vs ds) : vs.isEmpty = ds.isEmpty := by cases h <;> rfl
theorem AtM.isEmpty {K : Frag} {G : Str → Addr} {vs : List (Key × V)} {ds : List (Key × D)} (h : AtM K G F vs ds) : vs.isEmpty = ds.isEmpty := by cases h <;> rfl
theorem At.tru {K : Frag} {G : Str → Addr} {cs : List Prop} (h : At K G F v d) (ex : Ex F H) (ht : d.tru = some (b, cs)) (hc : allP cs) : TruV K v H b := by
  cases h with
  | non => cases ht; rfl
  | bl b => cases ht; rfl
  | int i => cases ht; rfl
  | str i => cases ht; exact ⟨hc.1, rfl⟩
  | ty => cases ht
  | cls => cases ht
  | lst h t => cases ht; exact .inl ⟨_, .inl (ex.rd h), by rw [t.isEmpty]⟩
  | tup h t => cases ht; exact .inr (.inl ⟨_, ex.sqT h, by rw [t.isEmpty]⟩)
  | dct h t => cases ht; exact .inr (.inr ⟨_, ex _ _ h, by rw [t.isEmpty]⟩)
  | obj => cases ht
  | err => cases ht
  | err0 => cases ht
theorem st_truth {cs : List Prop} (h : SE X Z e st st1 (.val d)) (hp : plainT e = true) (ht : d.tru = some (b, cs)) (hc : allP cs) : ST X Z e st st1 b :=
  pt_weak (pt_truth h (isTrue_of_plain hp)) fun σ H Q ⟨F, hr, k⟩ => ⟨F, hr, fun v F' H' ex hr' hv => ⟨b, At.tru hv hr'.ext ht hc, k F' H' ex hr'⟩⟩
/-! ### and, or, not, if else -/
theorem CT.then {Q : Bool → Hp → Prop} {F1 : Hp} (e1 : Ex F F1) (k : ∀ F' H', Ex F F' → RelX X Z st2 σ F' H' → Q b H') : ∀ F' H', Ex F1 F' → RelX X Z st2 σ F' H' → Q b H' := fun F' H' e2 hr => k F' H' (e1.trans e2) hr
theorem stw_one (op : BoolOp) (h : ST X Z e st st1 b) : PW X (.BoolOp op [e] p) (CT X Z st st1 b) := by
  cases op with
  | And => exact pw_and1 h
  | Or => exact pw_or1 h
theorem pw_weak {t t' : TT} (h : PW X e t) (w : ∀ σ H Q, t' σ H Q → t σ H Q) : PW X e t' := ⟨fun wh pins s σ H Q I q => h.run wh pins s σ H Q I (w σ H Q q)⟩
theorem pw_any : PW X e (fun σ H Q => ∃ t : TT, PW X e t ∧ t σ H Q) := ⟨fun wh pins s σ H Q I ⟨t, h, q⟩ => h.run wh pins s σ H Q I q⟩
theorem stw_andT (h : ST X Z e st st1 true) (h2 : PW X (.BoolOp .And (e1 :: es) p) (CT X Z st1 st2 b)) : PW X (.BoolOp .And (e :: e1 :: es) p) (CT X Z st st2 b) :=
  pw_weak (pw_and h h2) fun σ H Q ⟨F, hr, k⟩ => ⟨F, hr, fun F' H' ex hr' => (if_pos rfl).mpr ⟨F', hr', CT.then ex k⟩⟩
theorem stw_andF (h : ST X Z e st st1 false) : PW X (.BoolOp .And (e :: e1 :: es) p) (CT X Z st st1 false) :=
  pw_weak (pw_and h pw_any) fun σ H Q ⟨F, hr, k⟩ => ⟨F, hr, fun F' H' ex hr' => (if_neg Bool.false_ne_true).mpr (k F' H' ex hr')⟩
theorem stw_orF (h : ST X Z e st st1 false) (h2 : PW X (.BoolOp .Or (e1 :: es) p) (CT X Z st1 st2 b)) : PW X (.BoolOp .Or (e :: e1 :: es) p) (CT X Z st st2 b) :=
  pw_weak (pw_or h h2) fun σ H Q ⟨F, hr, k⟩ => ⟨F, hr, fun F' H' ex hr' => (if_neg Bool.false_ne_true).mpr ⟨F', hr', CT.then ex k⟩⟩
theorem stw_orT (h : ST X Z e st st1 true) : PW X (.BoolOp .Or (e :: e1 :: es) p) (CT X Z st st1 true) :=
  pw_weak (pw_or h pw_any) fun σ H Q ⟨F, hr, k⟩ => ⟨F, hr, fun F' H' ex hr' => (if_pos rfl).mpr (k F' H' ex hr')⟩
theorem se_one {op : BoolOp} (h : SE X Z e st st1 r) : SE X Z (.BoolOp op [e] p) st st1 r := pe_one h
theorem se_andT {cs : List Prop} (h : SE X Z e st st1 (.val d)) (ht : d.tru = some (true, cs)) (hc : allP cs) (h2 : SE X Z (.BoolOp .And (e1 :: es) p) st1 st2 r) : SE X Z (.BoolOp .And (e :: e1 :: es) p) st st2 r :=
  pe_weak (pe_andT h h2) fun σ H Q ⟨F, hr, k⟩ => ⟨F, hr, fun v F' H' ex hr' hv => ⟨true, At.tru hv hr'.ext ht hc, (if_pos rfl).mpr ⟨F', hr', fun v2 F2 H2 e2 hr2 hv2 => k v2 F2 H2 (ex.trans e2) hr2 hv2⟩⟩⟩
theorem se_andF {cs : List Prop} (h : SE X Z e st st1 (.val d)) (ht : d.tru = some (false, cs)) (hc : allP cs) : SE X Z (.BoolOp .And (e :: e1 :: es) p) st st1 (.val d) :=
  pe_weak (pe_andT h (pe_any (Z := Z))) fun σ H Q ⟨F, hr, k⟩ => ⟨F, hr, fun v F' H' ex hr' hv => ⟨false, At.tru hv hr'.ext ht hc, (if_neg Bool.false_ne_true).mpr (k v F' H' ex hr' hv)⟩⟩
theorem se_orF {cs : List Prop} (h : SE X Z e st st1 (.val d)) (ht : d.tru = some (false, cs)) (hc : allP cs) (h2 : SE X Z (.BoolOp .Or (e1 :: es) p) st1 st2 r) : SE X Z (.BoolOp .Or (e :: e1 :: es) p) st st2 r :=
  pe_weak (pe_orT h h2) fun σ H Q ⟨F, hr, k⟩ => ⟨F, hr, fun v F' H' ex hr' hv => ⟨false, At.tru hv hr'.ext ht hc, (if_neg Bool.false_ne_true).mpr ⟨F', hr', fun v2 F2 H2 e2 hr2 hv2 => k v2 F2 H2 (ex.trans e2) hr2 hv2⟩⟩⟩
theorem se_orT {cs : List Prop} (h : SE X Z e st st1 (.val d)) (ht : d.tru = some (true, cs)) (hc : allP cs) : SE X Z (.BoolOp .Or (e :: e1 :: es) p) st st1 (.val d) :=
  pe_weak (pe_orT h (pe_any (Z := Z))) fun σ H Q ⟨F, hr, k⟩ => ⟨F, hr, fun v F' H' ex hr' hv => ⟨true, At.tru hv hr'.ext ht hc, (if_pos rfl).mpr (k v F' H' ex hr' hv)⟩⟩
theorem se_not {cs : List Prop} (h : SE X Z e st st1 (.val d)) (ht : d.tru = some (b, cs)) (hc : allP cs) : SE X Z (.UnaryOp .Not e p) st st1 (.val (.bl (!b))) :=
  pe_weak (pe_notT h) fun σ H Q ⟨F, hr, k⟩ => ⟨F, hr, fun v F' H' ex hr' hv => ⟨b, At.tru hv hr'.ext ht hc, k _ F' H' ex hr' (.bl _)⟩⟩
theorem se_neg {i : Int} (h : SE X Z e st st1 (.val (.int i))) : SE X Z (.UnaryOp .USub e p) st st1 (.val (.int (-i))) :=
  pe_weak (pe_un un_neg h) fun σ H Q ⟨F, hr, k⟩ => ⟨F, hr, fun v F' H' ex hr' hv => by
    obtain rfl := At.int_inv hv
    exact ⟨i, rfl, k _ F' H' ex hr' (.int _)⟩⟩
theorem se_ifT (hc : ST X Z e st st1 true) (h : SE X Z e1 st1 st2 r) : SE X Z (.IfExp e e1 e2 p) st st2 r :=
  pe_weak (pe_ifExp hc h (pe_any (Z := Z))) fun σ H Q ⟨F, hr, k⟩ => ⟨F, hr, fun F' H' ex hr' => (if_pos rfl).mpr ⟨F', hr', fun v2 F2 H2 e2 hr2 hv2 => k v2 F2 H2 (ex.trans e2) hr2 hv2⟩⟩
theorem se_ifF (hc : ST X Z e st st1 false) (h : SE X Z e2 st1 st2 r) : SE X Z (.IfExp e e1 e2 p) st st2 r :=
  pe_weak (pe_ifExp hc (pe_any (Z := Z)) h) fun σ H Q ⟨F, hr, k⟩ => ⟨F, hr, fun F' H' ex hr' => (if_neg Bool.false_ne_true).mpr ⟨F', hr', fun v2 F2 H2 e2 hr2 hv2 => k v2 F2 H2 (ex.trans e2) hr2 hv2⟩⟩
/-! ### arguments -/
/-- an argument: a value, or the cell of the i-th slot as it stands -/
inductive ArgR where
  | val (d : D) | rf (i : Nat)
inductive ArgsAt (K : Frag) (G : Str → Addr) (F : Hp) (σ : L2.St) : List V → List ArgR → Prop where
  | nil : ArgsAt K G F σ [] []
  | val {v : V} {d : D} {vs : List V} {as : List ArgR} (h : At K G F v d) (t : ArgsAt K G F σ vs as) : ArgsAt K G F σ (v :: vs) (.val d :: as)
  | rf {v : V} {i : Nat} {vs : List V} {as : List ArgR} (h : σ[i]? = some (some v)) (t : ArgsAt K G F σ vs as) : ArgsAt K G F σ (v :: vs) (.rf i :: as)
theorem ArgsAt.mono {K : Frag} {G : Str → Addr} {vs : List V} {as : List ArgR} (h : ArgsAt K G F σ vs as) (ex : Ex F F') : ArgsAt K G F' σ vs as := by
  induction h with
  | nil => exact .nil
  | val h t ih => exact .val (h.mono ex) ih
  | rf h t ih => exact .rf h ih
def CA' (X : Cx) (Z : Env0) (st st' : Sta) (as : List ArgR) : TA := fun σ H Q => ∃ F, RelX X Z st σ F H ∧ ∀ vs F' H', Ex F F' → RelX X Z st' σ F' H' → ArgsAt X.K Z.G F' σ vs as → Q vs H'
def SA' (X : Cx) (Z : Env0) (es : List Expr) (st st' : Sta) (as : List ArgR) : Prop := PA X es (CA' X Z st st' as)
theorem sa'_nil : SA' X Z [] st st [] := pa_weak pa_nil fun σ H Q ⟨F, hr, k⟩ => k [] F H (Ex.refl F) hr .nil
theorem sa'_val {as : List ArgR} (h : SE X Z e st st1 (.val d)) (t : SA' X Z es st1 st2 as) (hs : isStar e = false) : SA' X Z (e :: es) st st2 (.val d :: as) :=
  pa_weak (pa_cons h t (starEach_cons hs)) fun σ H Q ⟨F, hr, k⟩ => ⟨F, hr, fun v F' H' ex hr' hv => ⟨F', hr', fun vs F2 H2 e2 hr2 hvs => k _ F2 H2 (ex.trans e2) hr2 (.val (At.mono hv e2) hvs)⟩⟩
theorem sa'_rf {as : List ArgR} {i : Nat} {n : Str} {c : Cell} (hN : X.N[i]? = some n) (hv : Vis X.env.scope n) (hs : st[i]? = some (some (Slot.own c))) (hd : (n == ("__debug__" : Str)) = false) (hcd : (n == ("__classdict__" : Str)) = false)
    (t : SA' X Z es st st2 as) : SA' X Z (.Name n p :: es) st st2 (.rf i :: as) :=
  pa_weak (pa_cons (pe_var hN hv hd hcd) t rfl) fun σ H Q ⟨F, hr, k⟩ => by
    obtain ⟨v, h1, h2⟩ := hr.sl i _ hs
    exact ⟨v, h1, F, hr, fun vs F2 H2 e2 hr2 hvs => k _ F2 H2 e2 hr2 (.rf h1 hvs)⟩
theorem sa_nil : SA X Z [] st st [] := pa_weak pa_nil fun σ H Q ⟨F, hr, k⟩ => k [] F H (Ex.refl F) hr .nil
theorem sa_cons {ds : List D} (h : SE X Z e st st1 (.val d)) (t : SA X Z es st1 st2 ds) (hs : isStar e = false) : SA X Z (e :: es) st st2 (d :: ds) :=
  pa_weak (pa_cons h t (starEach_cons hs)) fun σ H Q ⟨F, hr, k⟩ => ⟨F, hr, fun v F' H' ex hr' hv => ⟨F', hr', fun vs F2 H2 e2 hr2 hvs => k _ F2 H2 (ex.trans e2) hr2 (.cons (At.mono hv e2) hvs)⟩⟩
/-! ### displays -/
theorem fresh_own {c : Cell} {a : Addr} {o : HO} {K : Frag} {G : Str → Addr} {H0 F0 : Hp} {io : List (Nat × Addr)} (hr : Rel K G H0 F0 io st σ F H) (ha : H a = none) (hc : CellAt K G F (upd H a o) a c) : Rel K G H0 F0 io st σ F (upd H a o) ∧ RAt K G H0 st σ F (upd H a o) (.ref a) (.own c) :=
  ⟨hr.new ha, a, rfl, hr.ext.none ha, hr.fresh0 ha, hc, fun i c' h => hr.notheld ha i c' h⟩
theorem se_lst {ds : List D} (h : SA X Z es st st1 ds) (hl : ds.length ≤ sizeLine) : SE X Z (.List es pos) st st1 (.own (.lst ds)) :=
  pe_weak (pe_lst h) fun σ H Q ⟨F, hr, k⟩ => ⟨F, hr, fun vs F' H' ex hr' hv => ⟨by rw [AtL.length hv]; exact hl, fun a ha => by
    obtain ⟨q1, q2⟩ := fresh_own (c := .lst ds) (o := .lst vs) hr' ha ⟨vs, upd_same, hv⟩
    exact k _ F' _ ex q1 q2⟩⟩
theorem se_tup {ds : List D} {c : _} (h : SA X Z es st st1 ds) (hl : ds.length ≤ sizeLine) : SE X Z (.Tuple es c pos) st st1 (.val (.tup ds)) :=
  pe_weak (pe_tup h) fun σ H Q ⟨F, hr, k⟩ => ⟨F, hr, fun vs F' H' ex hr' hv => ⟨by rw [AtL.length hv]; exact hl, fun a ha => by
    have nF := hr'.ext.none ha
    exact k _ (upd F' a (.tup vs)) _ (ex.trans (Ex.new nF)) (hr'.newF ha) (.tup (SqT.of upd_same) (AtL.mono hv (Ex.new nF)))⟩⟩
/-- a new list from shared ones -/
theorem OpOk.list {f : Value → Value → Sem Value} {rr : R2} {ds : List D} (h : OpR X f rr) (k : ∀ F H v u, Ex F H → AtX X Z F v x → AtX X Z F u y → ∃ xs, AtLX X Z F xs ds ∧ ∀ Q : VK, (∀ a, H a = none → Q (.ref a) (upd H a (.lst xs))) → rr v u H Q) : OpOk X Z f x y (.own (.lst ds)) :=
  ⟨rr, h, fun st σ F H v u hr hx hy Q q => by
    obtain ⟨xs, hxs, hk⟩ := k F H v u hr.ext hx hy
    refine hk Q fun a ha => ?_
    obtain ⟨q1, q2⟩ := fresh_own (c := .lst ds) (o := .lst xs) hr ha ⟨xs, upd_same, hxs⟩
    exact q _ F _ (Ex.refl F) q1 q2⟩
end
/-! list + list -/
section
variable {X : Cx} {Z : Env0}
def rCatR : R2 := fun x y H Q => ∃ l b xs zs, x = .ref l ∧ y = .ref b ∧ Rd H l (.lst xs) ∧ Rd H b (.lst zs) ∧ xs.length + zs.length ≤ sizeLine ∧ ∀ p, H p = none → Q (.ref p) (upd H p (.lst (xs ++ zs)))
theorem op_catR : OpR X (binaryOp .Add) rCatR := by
  intro pins s σ H x y v u Q I rx ry h
  obtain ⟨l, b, xs, zs, rfl, rfl, hH, hB, hz, q⟩ := h
  cases rx
  cases ry
  obtain ⟨z, its, n, r, e⟩ := (show ObjOk X.prog X.w H s.heap l (.lst xs) from hH.ok I.hok)
  obtain ⟨z2, its2, n2, r2, e2⟩ := (show ObjOk X.prog X.w H s.heap b (.lst zs) from hB.ok I.hok)
  have l1 := r.length
  have l2 := r2.length
  refine PySem.P.add_list e e2 ?_ (by rw [List.size_toArray, List.size_toArray]; omega)
  have ea : its.toArray ++ its2.toArray = (its ++ its2).toArray := by simp
  rw [ea]
  exact ⟨.ref _, _, I.lnew (t' := s.toks) (r.append r2) (by rw [List.length_append]; omega), rfl, q _ I.fresh⟩
theorem oo_cat {xs ys : List D} (h : xs.length + ys.length ≤ sizeLine) : OpOk X Z (binaryOp .Add) (.lst xs) (.lst ys) (.own (.lst (xs ++ ys))) :=
  OpOk.list op_catR fun F H v u ex hx hy => by
    obtain ⟨a, us, rfl, h1, t1⟩ := At.lst_inv hx
    obtain ⟨b, ws, rfl, h2, t2⟩ := At.lst_inv hy
    exact ⟨us ++ ws, t1.append t2, fun Q q => ⟨a, b, us, ws, rfl, rfl, ex.rd h1, ex.rd h2, by rw [t1.length, t2.length]; exact h, q⟩⟩
end
end PV


set_option Elab.async false
set_option linter.all false
set_option maxRecDepth 100000
set_option maxHeartbeats 4000000
namespace PV
open PySem L2
open PySem.W (Frag)
section
variable {K : Frag} {G : Str → Addr} {H0 F0 F F' H H' : Hp} {io : List (Nat × Addr)} {st : Sta} {σ : L2.St} {a p : Addr} {c : Cell} {o : HO} {v : V} {s : Slot} {d : D}
/-- a list that the i-th name owns is changed -/
theorem Rel.setLst (r : Rel K G H0 F0 io st σ F H) {i : Nat} {ds es : List D} {xs : List V} (hs : st[i]? = some (some (Slot.own (.lst ds)))) (hv : σ[i]? = some (some (V.ref a))) (t : AtL K G F xs es) :
    Rel K G H0 F0 io (st.set i (some (.own (.lst es)))) σ F (upd H a (.lst xs)) := by
  obtain ⟨v0, hv0, a0, ev, hF, h0, hc⟩ := r.sl i _ hs
  rw [hv] at hv0
  cases hv0
  cases ev
  obtain ⟨ys, hH, t0⟩ := hc
  have hli : i < st.length := (List.getElem?_eq_some_iff.mp hs).1
  have own : ∀ (j : Nat) (c' : Cell), (st.set i (some (Slot.own (.lst es))))[j]? = some (some (Slot.own c')) → (j = i ∧ c' = .lst es) ∨ (j ≠ i ∧ st[j]? = some (some (Slot.own c'))) := fun j c' hj => by
    by_cases e : j = i
    · subst e
      rw [List.getElem?_set_self hli] at hj
      cases hj
      exact .inl ⟨rfl, rfl⟩
    · rw [List.getElem?_set_ne (Ne.symm e)] at hj
      exact .inr ⟨e, hj⟩
  refine ⟨fun b u h => ?_, r.gf, fun b u h n => ?_, fun j b hj => ?_, by rw [List.length_set]; exact r.len, fun j s hj => ?_, fun j k cj ck hne hj hk => ?_, fun j C fs hj => ?_⟩
  · rw [upd_ne (fun z => by subst z; rw [hF] at h; cases h)]
    exact r.ext b u h
  · have hb : b ≠ a := fun z => by
      subst z
      rcases h0 with h0 | ⟨k, hk⟩
      · rw [h0] at h
        cases h
      · exact n k hk
    rw [upd_ne hb]
    exact r.fr b u h n
  · obtain ⟨h1, ⟨u, h2⟩, h3⟩ := r.ioH j b hj
    refine ⟨h1, ?_, h3⟩
    by_cases hb : b = a
    · exact ⟨_, by rw [hb, upd_same]⟩
    · exact ⟨u, by rw [upd_ne hb]; exact h2⟩
  · by_cases e : j = i
    · subst e
      rw [List.getElem?_set_self hli] at hj
      cases hj
      exact ⟨_, hv, a, rfl, hF, h0, xs, upd_same, t⟩
    · rw [List.getElem?_set_ne (Ne.symm e)] at hj
      obtain ⟨v, h1, h2⟩ := r.sl j s hj
      refine ⟨v, h1, ?_⟩
      match s, h2, hj with
      | .val d, h2, _ => exact h2
      | .own c, ⟨b, hv', hF', h0', hc⟩, hj =>
        subst hv'
        have hb : b ≠ a := fun z => by
          subst z
          exact r.sep j i c _ e hj hs (by rw [h1, hv])
        refine ⟨b, rfl, hF', h0', ?_⟩
        match c, hc with
        | .lst ds, ⟨xs, q, t⟩ => exact ⟨xs, by rw [upd_ne hb]; exact q, t⟩
        | .dct ds, ⟨xs, q, t⟩ => exact ⟨xs, by rw [upd_ne hb]; exact q, t⟩
        | .ins C ds, ⟨dx, xs, q, t⟩ => exact ⟨dx, xs, by rw [upd_ne hb]; exact q, t⟩
        | .exo C [], q => exact (upd_ne hb).trans q
        | .exo C (f :: fs), ⟨dx, xs, q, q2, q3, t⟩ =>
          refine ⟨dx, xs, by rw [upd_ne hb]; exact q, ?_, q3, t⟩
          have hd : dx ≠ a := fun z => by
            subst z
            rw [hH] at q2
            exact absurd (Option.some.inj q2) (fun z => by cases (show HO.lst _ = HO.ext _ from z))
          rw [upd_ne hd]
          exact q2
  · rcases own j cj hj with ⟨e1, q1⟩ | ⟨e1, q1⟩ <;> rcases own k ck hk with ⟨e2, q2⟩ | ⟨e2, q2⟩
    · exact absurd (e1.trans e2.symm) hne
    · subst e1
      exact r.sep j k _ ck hne hs q2
    · subst e2
      exact r.sep j k cj _ hne q1 hs
    · exact r.sep j k cj ck hne q1 q2
  · rcases own j _ hj with ⟨e1, q1⟩ | ⟨e1, q1⟩
    · cases q1
    · exact r.one j C fs q1
end
section
variable {X : Cx} {Z : Env0} {st st1 st2 st3 : Sta} {e e1 e2 : Expr} {es : List Expr} {r : R} {d x y z : D} {s : Stmt} {ss : List Stmt} {o : Out} {pos p p' : Pos} {σ : L2.St} {F F' H H' : Hp} {v u : V} {b : Bool} {f : Str}
/-! ### attributes -/
/-- what is told of an error's class -/
structure ErrC (K : Frag) (C : Addr) : Prop where
  ox : OexC K C
  ga : PySem.W.findIn K (.ref C) "__getattribute__" = some (some (.builtin "BaseException.__getattribute__"))
  gg : PySem.W.findIn K (.ref C) "__getattr__" = some none
  hdC : PySem.W.hasDictIn K C = true
theorem at_err_inv {K : Frag} {G : Str → Addr} {C : Str} {ds : List (Str × D)} (h : At K G F v (.err C ds)) (hn : ds ≠ []) : ∃ a d xs, v = .ref a ∧ F a = some (exo a (G C) (some d)) ∧ F d = some (exd d xs) ∧ AtF K G F xs ds := by
  cases h with
  | err h h2 t => exact ⟨_, _, _, rfl, h, h2, t⟩
  | err0 => exact absurd rfl hn
/-- e.f of a made error -/
def tErrF (K : Frag) (f : Str) (te : TE) : TE := fun σ H Q => te σ H fun x H1 => ∃ a C dx xs v, x = .ref a ∧ H1 a = some (exo a C (some dx)) ∧ H1 dx = some (exd dx xs) ∧ ErrC K C ∧ PySem.W.findIn K (.ref C) f = some none ∧ xs.lookup f = some v ∧ Q v H1
theorem pe_errF {te : TE} (he : PE X e te) (hb : attributeBase e f X.env (eval e X.env) = eval e X.env) : PE X (.Attribute e f pos) (tErrF X.K f te) := by
  refine ⟨fun pins s σ H Q I h => ?_⟩
  refine attr_of hb (thn (he.run pins s σ H _ I h) fun u s1 hh => ?_)
  obtain ⟨x, H1, I1, rx, a, C, dx, xs, v, ex, ea, ed, T, hno, hl, q⟩ := hh
  subst ex
  obtain rfl : u = Value.ref a := rx
  obtain ⟨t1, ho⟩ := exo_at I1.hok ea
  obtain ⟨mA, hns, rel⟩ := exd_at I1.hok ed
  obtain ⟨od, hod, hlk⟩ := lookIn_ns hns
  obtain ⟨w, hw, rw⟩ := RelO.some_of (v := v) (o := mA f) (by rw [← hl]; exact rel f)
  have J : PySem.W.InstAt s1.heap a ({ cls := .ref C, dict := some dx, data := .fields #[.ref t1, .none, .none, .none, .bool false, .none] } : Obj) C (some od) := ⟨ho, rfl, rfl, hod⟩
  exact HandSPX.exc_get I1.kIn J T.ga T.gg T.ox.exC (PySem.W.findObj_own T.hdC hno rfl (by rw [hlk, hw])) (handed_of rw) ⟨v, H1, I1.tok _, rw, q⟩
theorem se_errF {C : Str} {ds : List (Str × D)} (h : SE X Z e st st1 (.val (.err C ds))) (hb : attrPlain e = true) (T : ErrC X.K (Z.G C)) (hno : PySem.W.findIn X.K (.ref (Z.G C)) f = some none) (hl : ds.lookup f = some d) : SE X Z (.Attribute e f pos) st st1 (.val d) :=
  pe_weak (pe_errF h (attrBase_of hb)) fun σ H Q ⟨F, hr, k⟩ => ⟨F, hr, fun v F' H' ex hr' hv => by
    obtain ⟨a, dx, xs, rfl, h1, h2, t⟩ := at_err_inv hv (fun z => by rw [z] at hl; simp at hl)
    obtain ⟨w, hw, ht⟩ := t.lookup f hl
    exact ⟨a, _, dx, xs, w, rfl, hr'.ext _ _ h1, hr'.ext _ _ h2, T, hno, hw, k w F' H' ex hr' ht⟩⟩
/-- e.f of an instance -/
theorem se_objF {C : Str} {ds : List (Str × D)} (h : SE X Z e st st1 (.val (.obj C ds))) (hb : attrPlain e = true) (c : Cls X.K (Z.G C)) (n : NoAttr X.K (Z.G C) f) (hl : ds.lookup f = some d) : SE X Z (.Attribute e f pos) st st1 (.val d) :=
  pe_weak (pe_fld h (attrBase_of hb)) fun σ H Q ⟨F, hr, k⟩ => ⟨F, hr, fun v F' H' ex hr' hv => by
    cases (show At X.K Z.G F' v (.obj C ds) from hv) with
    | obj h1 t =>
      obtain ⟨w, hw, ht⟩ := t.lookup f hl
      exact ⟨_, _, _, _, w, rfl, hr'.ext _ _ h1, c, n, hw, k w F' H' ex hr' ht⟩⟩
/-! ### subscripts -/
theorem plainIx {o i : Value} {b : Expr} (h : (match b with | .Slice _ _ _ _ => false | _ => true) = true) : subscripted b false o i = operate [o, i] (getItem o i) := by
  cases b with
  | Slice _ _ _ _ => cases h
  | _ => rfl
def noSlice : Expr → Bool
  | .Slice _ _ _ _ => false
  | _ => true
theorem plainIx' {b : Expr} (h : noSlice b = true) : PlainIx b := by
  intro o i
  cases b with
  | Slice _ _ _ _ => cases h
  | _ => rfl
theorem AtL.atI {K : Frag} {G : Str → Addr} {vs : List V} {ds : List D} {i : Int} (h : AtL K G F vs ds) (e : atI ds i = some d) : ∃ v, L2.atI vs i = some v ∧ At K G F v d := by
  unfold L2.atI at e ⊢
  rw [h.length]
  cases q : ixN ds.length i with
  | none => rw [q] at e; cases e
  | some j =>
    rw [q] at e
    exact h.getD e
theorem se_ixL {ds : List D} {i : Int} (h : SE X Z e st st1 (.val (.lst ds))) (h2 : SE X Z e2 st1 st2 (.val (.int i))) (hs : noSlice e2 = true) (hi : atI ds i = some d) : SE X Z (.Subscript e e2 pos) st st2 (.val d) :=
  pe_weak (pe_ix ix_list h h2 (plainIx' hs)) fun σ H Q q => ce_bin q (fun F H Q hr k => ⟨F, hr, k⟩) (fun F H Q hr k => ⟨F, hr, k⟩) fun st σ F H v u hr hx hy Q k => by
    obtain ⟨a, xs, rfl, hxs, t⟩ := At.lst_inv hx
    obtain rfl := At.int_inv hy
    obtain ⟨w, hw, ht⟩ := t.atI hi
    exact ⟨a, xs, i, w, rfl, rfl, .inl (hr.ext.rd hxs), hw, k w F H (Ex.refl F) hr ht⟩
theorem se_ixT {ds : List D} {i : Int} (h : SE X Z e st st1 (.val (.tup ds))) (h2 : SE X Z e2 st1 st2 (.val (.int i))) (hs : noSlice e2 = true) (hi : atI ds i = some d) : SE X Z (.Subscript e e2 pos) st st2 (.val d) :=
  pe_weak (pe_ix ix_tup h h2 (plainIx' hs)) fun σ H Q q => ce_bin q (fun F H Q hr k => ⟨F, hr, k⟩) (fun F H Q hr k => ⟨F, hr, k⟩) fun st σ F H v u hr hx hy Q k => by
    obtain ⟨a, xs, rfl, hxs, t⟩ := At.tup_inv hx
    obtain rfl := At.int_inv hy
    obtain ⟨w, hw, ht⟩ := t.atI hi
    exact ⟨a, xs, i, w, rfl, rfl, hr.ext.sqT hxs, hw, k w F H (Ex.refl F) hr ht⟩
theorem se_ixS {x : Str} {i : Int} {c : Nat} (h : SE X Z e st st1 (.val (.str x))) (h2 : SE X Z e2 st1 st2 (.val (.int i))) (hs : noSlice e2 = true) (hl : x.length ≤ sizeLine) (hi : atI x.cps.toList i = some c) : SE X Z (.Subscript e e2 pos) st st2 (.val (.str ⟨#[c]⟩)) :=
  pe_weak (pe_ix ix_str h h2 (plainIx' hs)) fun σ H Q q => ce_bin q (fun F H Q hr k => ⟨F, hr, k⟩) (fun F H Q hr k => ⟨F, hr, k⟩) fun st σ F H v u hr hx hy Q k => by
    obtain rfl := At.str_inv hx
    obtain rfl := At.int_inv hy
    exact ⟨x, i, c, rfl, rfl, hl, hi, k _ F H (Ex.refl F) hr (.str _)⟩
/-- an item of a list that the i-th name owns -/
theorem se_ixO {ds : List D} {i : Nat} {n : Str} {j : Int} (hN : X.N[i]? = some n) (hv : Vis X.env.scope n) (hs0 : ∃ c, st[i]? = some (some (Slot.own c))) (hd : (n == ("__debug__" : Str)) = false) (hcd : (n == ("__classdict__" : Str)) = false)
    (h2 : SE X Z e2 st st1 (.val (.int j))) (hs1 : st1[i]? = some (some (Slot.own (.lst ds)))) (hs : noSlice e2 = true) (hi : atI ds j = some d) : SE X Z (.Subscript (.Name n p) e2 pos) st st1 (.val d) :=
  pe_weak (pe_ix ix_list (pe_var hN hv hd hcd) h2 (plainIx' hs)) fun σ H Q ⟨F, hr, k⟩ => by
    obtain ⟨c, hs0⟩ := hs0
    obtain ⟨v, h1, _⟩ := hr.sl i _ hs0
    refine ⟨v, h1, F, hr, fun u F1 H1 e1 r1 hu => ?_⟩
    obtain ⟨v', h1', a, ev, hF, h0, xs, hH, t⟩ := r1.sl i _ hs1
    rw [h1] at h1'
    cases h1'
    subst ev
    obtain rfl := At.int_inv hu
    obtain ⟨w, hw, ht⟩ := t.atI hi
    exact ⟨a, xs, j, w, rfl, rfl, SqL.of hH, hw, k w F1 H1 e1 r1 ht⟩
theorem assignSub {a b : Expr} {q : Pos} (h : noSlice b = true) : ∀ v, assign (.Subscript a b q) X.env v = (do
      let ov ← holding [v] (eval a X.env)
      let iv ← holding [v, ov] (eval b X.env)
      standAt q
      holding [v, ov, iv] (setItem ov iv v)
      release [v, ov, iv] []) := by
  intro v
  cases b with
  | Slice _ _ _ _ => cases h
  | _ => rfl
/-- xs[j] = e, xs the i-th name's own list -/
theorem ss_setIx {ds : List D} {i j : Nat} {n : Str} {k : Int} (hN : X.N[i]? = some n) (hv : Vis X.env.scope n) (hd : (n == ("__debug__" : Str)) = false) (hcd : (n == ("__classdict__" : Str)) = false)
    (h1 : SE X Z e st st1 (.val d)) (hs1 : ∃ c, st1[i]? = some (some (Slot.own c))) (h2 : SE X Z e2 st1 st2 (.val (.int k))) (hs2 : st2[i]? = some (some (Slot.own (.lst ds)))) (hk : ixN ds.length k = some j) (hns : noSlice e2 = true)
    (hs : swapsWithSole [.Subscript (.Name n p) e2 p'] e pos.line X.env = pure false) (hw : swappedStores [.Subscript (.Name n p) e2 p'] e X.env = pure none) :
    SS X Z (.Assign [.Subscript (.Name n p) e2 p'] e pos) st (.nx (st2.set i (some (.own (.lst (ds.set j d)))))) :=
  ps_weak (ps_asg h1 (pg_sub (pe_var hN hv hd hcd) h2 set_list (assignSub hns)) hs hw) fun D σ H ⟨F, hr, kk⟩ => by
    refine ⟨F, hr, fun v F1 H1 e1 r1 hv1 => ?_⟩
    obtain ⟨c, hs1⟩ := hs1
    obtain ⟨w, hw1, _⟩ := r1.sl i _ hs1
    refine ⟨w, hw1, F1, r1, fun u F2 H2 e2 r2 hu => ?_⟩
    obtain ⟨v', h1', a, ev, hF, h0, xs, hH, t⟩ := r2.sl i _ hs2
    rw [hw1] at h1'
    cases h1'
    subst ev
    obtain rfl := At.int_inv hu
    refine ⟨a, xs, k, j, rfl, rfl, hH, by rw [t.length]; exact hk, ?_⟩
    exact kk σ F2 _ (e1.trans e2) (r2.setLst hs2 hw1 (t.set (At.mono hv1 e2) j))
/-- xs.append(e) -/
theorem ss_append {ds : List D} {i : Nat} {n : Str} {pa pc : Pos} (hN : X.N[i]? = some n) (hv : Vis X.env.scope n) (hd : (n == ("__debug__" : Str)) = false) (hcd : (n == ("__classdict__" : Str)) = false) (hst : isStar e = false)
    (hs0 : ∃ c, st[i]? = some (some (Slot.own (.lst c)))) (h1 : SE X Z e st st1 (.val d)) (hs1 : st1[i]? = some (some (Slot.own (.lst ds)))) (hl : ds.length < sizeLine) (pp : PE X (.Call (.Attribute (.Name n p) "append" pa) [e] [] pc) (tBM X.K "list" rAppend (tVar i) (tCons (CE X Z st st1 (.val d)) tNil))) :
    SS X Z (.Expr (.Call (.Attribute (.Name n p) "append" pa) [e] [] pc) pos) st (.nx (st1.set i (some (.own (.lst (ds ++ [d])))))) :=
  ps_weak (ps_expr pp rfl) fun D σ H ⟨F, hr, kk⟩ => by
    obtain ⟨c, hs0⟩ := hs0
    obtain ⟨v, hv0, a0, ev0, _, _, xs0, hH0, _⟩ := hr.sl i _ hs0
    subst ev0
    refine ⟨_, hv0, Or.inl ⟨rfl, _, SqL.of hH0⟩, F, hr, fun u F1 H1 e1 r1 hu => ?_⟩
    obtain ⟨v', h1', a, ev, hF, h0, xs, hH, t⟩ := r1.sl i _ hs1
    rw [hv0] at h1'
    cases h1'
    cases ev
    exact ⟨a0, xs, u, rfl, rfl, hH, by rw [t.length]; exact hl, kk σ F1 _ e1 (r1.setLst hs1 hv0 (t.append (.one hu)))⟩
end
end PV


set_option Elab.async false
set_option linter.all false
set_option maxRecDepth 100000
set_option maxHeartbeats 4000000
namespace PV
open PySem L2
open PySem.W (Frag)
section
variable {X : Cx} {Z : Env0} {st st1 st2 st3 : Sta} {e e1 e2 : Expr} {es : List Expr} {r : R} {d x y z : D} {s : Stmt} {ss : List Stmt} {o : Out} {pos p p' : Pos} {σ : L2.St} {F F' H H' : Hp} {v u : V} {b : Bool} {f : Str} {n : Str}
/-! ### calls of built-ins -/
def CallOk (X : Cx) (Z : Env0) (f : Value) (ds : List D) (r : R) : Prop := ∃ rr, CallR X f rr ∧ ∀ st σ F H vs, RelX X Z st σ F H → AtLX X Z F vs ds →
  ∀ Q : VK, (∀ w F' H', Ex F F' → RelX X Z st σ F' H' → RAtX X Z st σ F' H' w r → Q w H') → rr vs H Q
theorem SA.toCA {ds : List D} (h : SA X Z es st st1 ds) {rr : List V → Hp → VK → Prop} (k : ∀ st σ F H vs, RelX X Z st σ F H → AtLX X Z F vs ds → ∀ Q : VK, (∀ w F' H', Ex F F' → RelX X Z st σ F' H' → RAtX X Z st σ F' H' w r → Q w H') → rr vs H Q) :
    ∀ σ H Q, CE X Z st st1 r σ H Q → tCB rr (CA X Z st st1 ds) σ H Q := fun σ H Q ⟨F, hr, q⟩ => ⟨F, hr, fun vs F' H' ex hr' hvs => k st1 σ F' H' vs hr' hvs Q fun w F2 H2 e2 r2 hw => q w F2 H2 (ex.trans e2) r2 hw⟩
theorem se_callB {ds : List D} {id : String} (hc : CallOk X Z (.builtin id) ds r) (hg : Gl X n) (hm : X.mg n = none) (hv : bootBuiltins n = some (.builtin id)) (ha : SA X Z (e :: es) st st1 ds) (hn : n ≠ "__name__") (hdb : (n == ("__debug__" : Str)) = false)
    (hs : (e :: es).any isStar = false) : SE X Z (.Call (.Name n p) (e :: es) [] pos) st st1 r := by
  obtain ⟨rr, hR, k⟩ := hc
  rw [List.any_cons, Bool.or_eq_false_iff] at hs
  exact pe_weak (pe_callB hR hg hm hv ha hn hdb (starEach_cons hs.1) (noStar_any hs.2)) (SA.toCA ha k)
theorem se_callTy {ds : List D} {T : String} (hc : CallOk X Z (.type T) ds r) (hg : Gl X n) (hm : X.mg n = none) (hv : bootBuiltins n = some (.type T)) (ha : SA X Z (e :: es) st st1 ds) (hn : n ≠ "__name__") (hdb : (n == ("__debug__" : Str)) = false)
    (hs : (e :: es).any isStar = false) : SE X Z (.Call (.Name n p) (e :: es) [] pos) st st1 r := by
  obtain ⟨rr, hR, k⟩ := hc
  rw [List.any_cons, Bool.or_eq_false_iff] at hs
  exact pe_weak (pe_callTy hR hg hm hv ha hn hdb (starEach_cons hs.1) (noStar_any hs.2)) (SA.toCA ha k)
theorem CallOk.pure {f : Value} {rr : List V → Hp → VK → Prop} {ds : List D} (h : CallR X f rr) (k : ∀ F H vs, Ex F H → AtLX X Z F vs ds → ∃ w, AtX X Z F w z ∧ ∀ Q : VK, Q w H → rr vs H Q) : CallOk X Z f ds (.val z) :=
  ⟨rr, h, fun st σ F H vs hr hx Q q => by
    obtain ⟨w, hw, hk⟩ := k F H vs hr.ext hx
    exact hk Q (q w F H (Ex.refl F) hr hw)⟩
theorem AtL.inv1 {K : Frag} {G : Str → Addr} {vs : List V} (h : AtL K G F vs [x]) : ∃ v, vs = [v] ∧ At K G F v x := by
  cases h with
  | cons h t => cases t; exact ⟨_, rfl, h⟩
theorem AtL.inv2 {K : Frag} {G : Str → Addr} {vs : List V} (h : AtL K G F vs [x, y]) : ∃ v u, vs = [v, u] ∧ At K G F v x ∧ At K G F u y := by
  cases h with
  | cons h t => cases t with
    | cons h2 t => cases t; exact ⟨_, _, rfl, h, h2⟩
/-- len of a list, a tuple, a text -/
def D.len : D → Option Int
  | .lst xs => some xs.length
  | .tup xs => some xs.length
  | _ => none
theorem co_len {i : Int} (h : x.len = some i) : CallOk X Z (.builtin "len") [x] (.val (.int i)) :=
  CallOk.pure call_len_seq fun F H vs ex hx => by
    obtain ⟨v, rfl, hv⟩ := hx.inv1
    refine ⟨.int i, .int i, fun Q q => ?_⟩
    cases hv with
    | lst h1 t => cases h; exact ⟨_, _, rfl, .inl (.inl (ex.rd h1)), by rw [t.length]; exact q⟩
    | tup h1 t => cases h; exact ⟨_, _, rfl, .inr (ex.sqT h1), by rw [t.length]; exact q⟩
    | _ => cases h
theorem co_lenS {i : Str} (h : i.length ≤ sizeLine) : CallOk X Z (.builtin "len") [.str i] (.val (.int i.length)) :=
  CallOk.pure call_len_str fun F H vs ex hx => by
    obtain ⟨v, rfl, hv⟩ := hx.inv1
    obtain rfl := At.str_inv hv
    exact ⟨_, .int _, fun Q q => ⟨i, rfl, h, q⟩⟩
theorem co_abs {i : Int} : CallOk X Z (.builtin "abs") [.int i] (.val (.int (if i < 0 then -i else i))) :=
  CallOk.pure call_abs fun F H vs ex hx => by
    obtain ⟨v, rfl, hv⟩ := hx.inv1
    obtain rfl := At.int_inv hv
    exact ⟨_, .int _, fun Q q => ⟨i, rfl, q⟩⟩
theorem co_int {i : Int} : CallOk X Z (.type "int") [.int i] (.val (.int i)) :=
  CallOk.pure call_int1 fun F H vs ex hx => by
    obtain ⟨v, rfl, hv⟩ := hx.inv1
    obtain rfl := At.int_inv hv
    exact ⟨_, .int _, fun Q q => .inl ⟨i, rfl, q⟩⟩
theorem co_intB {i : Bool} : CallOk X Z (.type "int") [.bl i] (.val (.int (if i then 1 else 0))) :=
  CallOk.pure call_int1 fun F H vs ex hx => by
    obtain ⟨v, rfl, hv⟩ := hx.inv1
    obtain rfl := At.bl_inv hv
    exact ⟨_, .int _, fun Q q => .inr ⟨i, rfl, q⟩⟩
theorem co_boolI {i : Int} : CallOk X Z (.type "bool") [.int i] (.val (.bl (i != 0))) :=
  CallOk.pure call_bool1 fun F H vs ex hx => by
    obtain ⟨v, rfl, hv⟩ := hx.inv1
    obtain rfl := At.int_inv hv
    exact ⟨_, .bl _, fun Q q => .inl ⟨i, rfl, q⟩⟩
theorem co_boolB {i : Bool} : CallOk X Z (.type "bool") [.bl i] (.val (.bl i)) :=
  CallOk.pure call_bool1 fun F H vs ex hx => by
    obtain ⟨v, rfl, hv⟩ := hx.inv1
    obtain rfl := At.bl_inv hv
    exact ⟨_, .bl _, fun Q q => .inr ⟨i, rfl, q⟩⟩
theorem co_strI {i : Int} (h : i.natAbs.log2 < 1920) : CallOk X Z (.type "str") [.int i] (.val (.str (toString i))) :=
  CallOk.pure call_str_int fun F H vs ex hx => by
    obtain ⟨v, rfl, hv⟩ := hx.inv1
    obtain rfl := At.int_inv hv
    exact ⟨_, .str _, fun Q q => ⟨i, rfl, h, q⟩⟩
/-! ### calls of defs by their contracts -/
/-- what a def does: from its arguments (shared values, cells handed in) to its result and the cells behind -/
abbrev Ct := List Slot → R → List Slot → Prop
inductive SlotsAt (K : Frag) (G : Str → Addr) (F H : Hp) : List V → List Slot → Prop where
  | nil : SlotsAt K G F H [] []
  | val {v : V} {d : D} {vs : List V} {as : List Slot} (h : At K G F v d) (t : SlotsAt K G F H vs as) : SlotsAt K G F H (v :: vs) (.val d :: as)
  | own {a : Addr} {c : Cell} {vs : List V} {as : List Slot} (hF : F a = none) (h : CellAt K G F H a c) (t : SlotsAt K G F H vs as) : SlotsAt K G F H (.ref a :: vs) (.own c :: as)
/-- the cells that are handed in, by the parameters' numbers from k on -/
def ioOf : Nat → List V → List Slot → List (Nat × Addr)
  | k, .ref a :: vs, .own _ :: as => (k, a) :: ioOf (k + 1) vs as
  | k, _ :: vs, _ :: as => ioOf (k + 1) vs as
  | _, _, _ => []
def SpOf (K : Frag) (G : Str → Addr) (ct : Ct) : Sp := fun vs H Q _ => ∃ F as r outs, Ex F H ∧ SlotsAt K G F H vs as ∧ ((ioOf 0 vs as).map (·.2)).Nodup ∧ ct as r outs ∧
  ∀ v F' H', Ex F F' → Ex F' H' → (∀ a o, F' a = some o → (∃ u, F a = some u) ∨ H a = none) → (∀ a o, H a = some o → (∀ i, (i, a) ∉ ioOf 0 vs as) → H' a = some o) →
    (∀ i a, (i, a) ∈ ioOf 0 vs as → F' a = none ∧ ∃ c, outs[i]? = some (Slot.own c) ∧ CellAt K G F' H' a c) → RAt K G H [] [] F' H' v r → Q v H'
/-- the slots that the arguments stand for -/
def argSlots (st : Sta) : List ArgR → Option (List Slot)
  | [] => some []
  | .val d :: as => (argSlots st as).map (Slot.val d :: ·)
  | .rf i :: as => match st[i]? with
    | some (some (.own c)) => (argSlots st as).map (Slot.own c :: ·)
    | _ => none
def rfs : List ArgR → List Nat
  | [] => []
  | .val _ :: as => rfs as
  | .rf i :: as => i :: rfs as
/-- the cells behind the call go back into the slots -/
def putOuts : Sta → Nat → List ArgR → List Slot → Sta
  | st, _, [], _ => st
  | st, k, .val _ :: as, outs => putOuts st (k + 1) as outs
  | st, k, .rf i :: as, outs => match outs[k]? with
    | some (.own c) => putOuts (st.set i (some (.own c))) (k + 1) as outs
    | _ => putOuts st (k + 1) as outs
theorem putOuts_len : ∀ (st : Sta) (k : Nat) (as : List ArgR) (outs : List Slot), (putOuts st k as outs).length = st.length
  | _, _, [], _ => rfl
  | st, k, .val _ :: as, outs => putOuts_len st (k + 1) as outs
  | st, k, .rf i :: as, outs => by
    unfold putOuts
    split
    · rw [putOuts_len, List.length_set]
    · exact putOuts_len st (k + 1) as outs
theorem putOuts_other {i : Nat} : ∀ (st : Sta) (k : Nat) (as : List ArgR) (outs : List Slot), i ∉ rfs as → (putOuts st k as outs)[i]? = st[i]?
  | _, _, [], _, _ => rfl
  | st, k, .val _ :: as, outs, h => putOuts_other st (k + 1) as outs h
  | st, k, .rf j :: as, outs, h => by
    have h1 : i ≠ j := fun z => h (by rw [z]; exact List.mem_cons_self)
    have h2 : i ∉ rfs as := fun z => h (List.mem_cons_of_mem _ z)
    unfold putOuts
    split
    · rw [putOuts_other _ (k + 1) as outs h2, List.getElem?_set_ne (Ne.symm h1)]
    · exact putOuts_other st (k + 1) as outs h2
theorem putOuts_at {i j : Nat} {c : Cell} : ∀ (st : Sta) (k : Nat) (as : List ArgR) (outs : List Slot), (rfs as).Nodup → as[j]? = some (ArgR.rf i) → outs[k + j]? = some (Slot.own c) → i < st.length → (putOuts st k as outs)[i]? = some (some (Slot.own c))
  | _, _, [], _, _, h, _, _ => by simp at h
  | st, k, .val _ :: as, outs, nd, h, ho, hl => by
    cases j with
    | zero => simp at h
    | succ j => exact putOuts_at st (k + 1) as outs nd (by simpa using h) (by rw [← ho]; congr 1; omega) hl
  | st, k, .rf m :: as, outs, nd, h, ho, hl => by
    obtain ⟨nm, nd⟩ := List.nodup_cons.mp (show (m :: rfs as).Nodup from nd)
    cases j with
    | zero =>
      have hm : m = i := by simpa using h
      subst hm
      unfold putOuts
      rw [show outs[k]? = some (Slot.own c) from ho]
      show (putOuts (st.set m (some (Slot.own c))) (k + 1) as outs)[m]? = _
      rw [putOuts_other _ (k + 1) as outs nm]
      exact List.getElem?_set_self hl
    | succ j =>
      have h' : as[j]? = some (ArgR.rf i) := by simpa using h
      have ho' : outs[k + 1 + j]? = some (Slot.own c) := by rw [← ho]; congr 1; omega
      unfold putOuts
      split
      · exact putOuts_at _ (k + 1) as outs nd h' ho' (by rw [List.length_set]; exact hl)
      · exact putOuts_at st (k + 1) as outs nd h' ho' hl
theorem rfs_mem {i : Nat} : ∀ {as : List ArgR}, i ∈ rfs as → ∃ j : Nat, as[j]? = some (ArgR.rf i)
  | .val _ :: as, h => by
    obtain ⟨j, q⟩ := rfs_mem (as := as) h
    exact ⟨j + 1, by simpa using q⟩
  | .rf m :: as, h => by
    rcases List.mem_cons.mp h with e | h
    · exact ⟨0, by simp [e]⟩
    · obtain ⟨j, q⟩ := rfs_mem (as := as) h
      exact ⟨j + 1, by simpa using q⟩
theorem mem_rfs {i j : Nat} : ∀ {as : List ArgR}, as[j]? = some (ArgR.rf i) → i ∈ rfs as
  | [], h => by simp at h
  | .val _ :: as, h => by
    cases j with
    | zero => simp at h
    | succ j => exact mem_rfs (as := as) (by simpa using h)
  | .rf m :: as, h => by
    cases j with
    | zero =>
      have e : m = i := by simpa using h
      exact List.mem_cons.mpr (.inl e.symm)
    | succ j => exact List.mem_cons_of_mem _ (mem_rfs (as := as) (by simpa using h))
section
variable {K : Frag} {G : Str → Addr} {H0 F0 : Hp} {io : List (Nat × Addr)}
/-- a call has turned the cells at T, laid new things, and left all else -/
theorem Rel.after (r : Rel K G H0 F0 io st σ F H) (T : Addr → Prop) {st' : Sta} (e : Ex F F') (e' : Ex F' H') (gf : ∀ a o, F' a = some o → (∃ u, F a = some u) ∨ H a = none) (keep : ∀ a o, H a = some o → ¬ T a → H' a = some o) (hl : st'.length = st.length)
    (hT : ∀ a, T a → ∃ (i : Nat) (c : Cell), c.plain = true ∧ st[i]? = some (some (Slot.own c)) ∧ σ[i]? = some (some (V.ref a)))
    (hold : ∀ i : Nat, (st'[i]? = st[i]? ∧ ∀ (c : Cell) (a : Addr), st[i]? = some (some (Slot.own c)) → σ[i]? = some (some (V.ref a)) → ¬ T a) ∨ ∃ (c0 c : Cell) (a : Addr), st[i]? = some (some (Slot.own c0)) ∧ st'[i]? = some (some (Slot.own c)) ∧ c.plain = true ∧ σ[i]? = some (some (V.ref a)) ∧ F' a = none ∧ CellAt K G F' H' a c) :
    Rel K G H0 F0 io st' σ F' H' := by
  have own : ∀ (j : Nat) (c' : Cell), st'[j]? = some (some (Slot.own c')) → ∃ c0, st[j]? = some (some (Slot.own c0)) := fun j c' hj => by
    rcases hold j with ⟨h1, _⟩ | ⟨c0, c, a, h1, _⟩
    · rw [h1] at hj
      exact ⟨_, hj⟩
    · exact ⟨_, h1⟩
  refine ⟨e', fun a o h => ?_, fun a o h n => ?_, fun i a h => ?_, hl.trans r.len, fun i s h => ?_, fun i j ci cj hne hi hj => ?_, fun i C fs h => ?_⟩
  · rcases gf a o h with ⟨u, hu⟩ | hn
    · exact r.gf a u hu
    · exact .inr (.inl (r.fresh0 hn))
  · refine keep a o (r.fr a o h n) fun z => ?_
    obtain ⟨i, c, _, h1, h2⟩ := hT a z
    obtain ⟨v, h3, a', ev, _, h0, _⟩ := r.sl i _ h1
    rw [h2] at h3
    cases h3
    cases ev
    rcases h0 with h0 | ⟨k, hk⟩
    · rw [h0] at h
      cases h
    · exact n k hk
  · obtain ⟨h1, ⟨u, h2⟩, h3⟩ := r.ioH i a h
    refine ⟨h1, ?_, h3⟩
    by_cases z : T a
    · obtain ⟨j, c, _, q1, q2⟩ := hT a z
      rcases hold j with ⟨_, q⟩ | ⟨c0, c', a', _, _, _, q3, _, hc⟩
      · exact absurd z (q c a q1 q2)
      · rw [q2] at q3
        cases q3
        exact hc.at
    · exact ⟨u, keep a u h2 z⟩
  · rcases hold i with ⟨h1, q⟩ | ⟨c0, c, a, h1, h2, hp, h3, hF, hc⟩
    · rw [h1] at h
      obtain ⟨v, g1, g2⟩ := r.sl i s h
      refine ⟨v, g1, ?_⟩
      match s, g2, h with
      | .val d, g2, _ => exact At.mono g2 e
      | .own c, ⟨a, ev, hF, h0, hc⟩, h =>
        subst ev
        have nT := q c a h g1
        have nF : ∀ b, F b = none → (∃ o, H b = some o) → F' b = none := fun b hb ⟨o, ho⟩ => by
          cases z : F' b with
          | none => rfl
          | some w =>
            rcases gf b w z with ⟨u, hu⟩ | hn
            · rw [hb] at hu
              cases hu
            · rw [hn] at ho
              cases ho
        refine ⟨a, rfl, nF a hF hc.at, h0, ?_⟩
        match c, hc with
        | .lst ds, ⟨xs, q, t⟩ => exact ⟨xs, keep _ _ q nT, t.mono e⟩
        | .dct ds, ⟨xs, q, t⟩ => exact ⟨xs, keep _ _ q nT, t.mono e⟩
        | .ins C ds, ⟨dx, xs, q, t⟩ => exact ⟨dx, xs, keep _ _ q nT, t.mono e⟩
        | .exo C [], q => exact keep _ _ q nT
        | .exo C (f :: fs), ⟨dx, xs, q, q2, q3, t⟩ =>
          refine ⟨dx, xs, keep _ _ q nT, keep _ _ q2 fun z => ?_, nF dx q3 ⟨_, q2⟩, t.mono e⟩
          obtain ⟨j, c', hp, w1, w2⟩ := hT dx z
          obtain ⟨v', w3, a', ev, _, _, hc'⟩ := r.sl j _ w1
          rw [w2] at w3
          cases w3
          cases ev
          match c', hc', hp with
          | .lst ds, ⟨xs, h, t⟩, _ => rw [q2] at h; exact absurd (Option.some.inj h) (fun z => by cases (show HO.ext _ = HO.lst _ from z))
          | .dct ds, ⟨xs, h, t⟩, _ => rw [q2] at h; exact absurd (Option.some.inj h) (fun z => by cases (show HO.ext _ = HO.dK _ from z))
          | .ins C ds, ⟨dx, xs, h, t⟩, _ => rw [q2] at h; exact absurd (Option.some.inj h) (fun z => by cases (show HO.ext _ = HO.ins _ _ _ from z))
    · rw [h2] at h
      cases h
      obtain ⟨v', w3, a', ev, _, h0, _⟩ := r.sl i _ h1
      rw [h3] at w3
      cases w3
      cases ev
      exact ⟨_, h3, _, rfl, hF, h0, hc⟩
  · obtain ⟨c1, h1⟩ := own i ci hi
    obtain ⟨c2, h2⟩ := own j cj hj
    exact r.sep i j c1 c2 hne h1 h2
  · rcases hold i with ⟨h1, q⟩ | ⟨c0, c, a, h1, h2, hp, h3, hF, hc⟩
    · rw [h1] at h
      exact r.one i C fs h
    · rw [h2] at h
      cases h
      cases hp
theorem args_slots (r : Rel K G H0 F0 io st σ F H) {vs : List V} {as : List ArgR} (h : ArgsAt K G F σ vs as) : ∀ {sl : List Slot}, argSlots st as = some sl → SlotsAt K G F H vs sl := by
  induction h with
  | nil =>
    intro sl e
    cases e
    exact .nil
  | val h t ih =>
    intro sl e
    unfold argSlots at e
    obtain ⟨sl', e1, e2⟩ := Option.map_eq_some_iff.mp e
    subst e2
    exact .val h (ih e1)
  | @rf v i vs as h t ih =>
    intro sl e
    unfold argSlots at e
    split at e
    · rename_i c hc
      obtain ⟨sl', e1, e2⟩ := Option.map_eq_some_iff.mp e
      subst e2
      obtain ⟨w, h1, a, ev, hF, h0, hcell⟩ := r.sl i _ hc
      rw [h] at h1
      cases h1
      subst ev
      exact .own hF hcell (ih e1)
    · cases e
/-- what was handed in: the slots' own cells -/
theorem io_mem (r : Rel K G H0 F0 io st σ F H) {vs : List V} {as : List ArgR} (h : ArgsAt K G F σ vs as) : ∀ {sl : List Slot} {k i : Nat} {a : Addr}, argSlots st as = some sl → (i, a) ∈ ioOf k vs sl → ∃ (j m : Nat) (c : Cell), i = k + j ∧ as[j]? = some (ArgR.rf m) ∧ st[m]? = some (some (Slot.own c)) ∧ sl[j]? = some (Slot.own c) ∧ σ[m]? = some (some (V.ref a)) := by
  induction h with
  | nil =>
    intro sl k i a e hm
    cases e
    cases hm
  | @val v d vs as h t ih =>
    intro sl k i a e hm
    unfold argSlots at e
    obtain ⟨sl', e1, e2⟩ := Option.map_eq_some_iff.mp e
    subst e2
    have hm' : (i, a) ∈ ioOf (k + 1) vs sl' := by
      cases v <;> exact hm
    obtain ⟨j, m, c, q1, q2, q3, q4, q5⟩ := ih e1 hm'
    exact ⟨j + 1, m, c, by omega, by simpa using q2, q3, by simpa using q4, q5⟩
  | @rf v n vs as h t ih =>
    intro sl k i a e hm
    unfold argSlots at e
    split at e
    · rename_i c hc
      obtain ⟨sl', e1, e2⟩ := Option.map_eq_some_iff.mp e
      subst e2
      obtain ⟨w, h1, b, ev, hF, h0, hcell⟩ := r.sl n _ hc
      rw [h] at h1
      cases h1
      subst ev
      rcases List.mem_cons.mp (show (i, a) ∈ (k, b) :: ioOf (k + 1) vs sl' from hm) with q | q
      · cases q
        exact ⟨0, n, c, rfl, by simp, hc, by simp, h⟩
      · obtain ⟨j, m, c', q1, q2, q3, q4, q5⟩ := ih e1 q
        exact ⟨j + 1, m, c', by omega, by simpa using q2, q3, by simpa using q4, q5⟩
    · cases e
theorem io_of (r : Rel K G H0 F0 io st σ F H) {vs : List V} {as : List ArgR} (h : ArgsAt K G F σ vs as) : ∀ {sl : List Slot} {k j m : Nat}, argSlots st as = some sl → as[j]? = some (ArgR.rf m) → ∃ a, (k + j, a) ∈ ioOf k vs sl ∧ σ[m]? = some (some (V.ref a)) := by
  induction h with
  | nil =>
    intro sl k j m e hm
    simp at hm
  | @val v d vs as h t ih =>
    intro sl k j m e hm
    unfold argSlots at e
    obtain ⟨sl', e1, e2⟩ := Option.map_eq_some_iff.mp e
    subst e2
    cases j with
    | zero => simp at hm
    | succ j =>
      obtain ⟨a, q1, q2⟩ := ih (k := k + 1) e1 (j := j) (m := m) (by simpa using hm)
      refine ⟨a, ?_, q2⟩
      have q1' : (k + (j + 1), a) ∈ ioOf (k + 1) vs sl' := by
        rw [show k + (j + 1) = k + 1 + j by omega]
        exact q1
      cases v <;> exact q1'
  | @rf v n vs as h t ih =>
    intro sl k j m e hm
    unfold argSlots at e
    split at e
    · rename_i c hc
      obtain ⟨sl', e1, e2⟩ := Option.map_eq_some_iff.mp e
      subst e2
      obtain ⟨w, h1, b, ev, hF, h0, hcell⟩ := r.sl n _ hc
      rw [h] at h1
      cases h1
      subst ev
      cases j with
      | zero =>
        have e3 : n = m := by simpa using hm
        subst e3
        exact ⟨b, List.mem_cons_self, h⟩
      | succ j =>
        obtain ⟨a, q1, q2⟩ := ih (k := k + 1) e1 (j := j) (m := m) (by simpa using hm)
        refine ⟨a, List.mem_cons_of_mem _ ?_, q2⟩
        rw [show k + (j + 1) = k + 1 + j by omega]
        exact q1
    · cases e
theorem io_nodup (r : Rel K G H0 F0 io st σ F H) {vs : List V} {as : List ArgR} (h : ArgsAt K G F σ vs as) : ∀ {sl : List Slot} {k : Nat}, argSlots st as = some sl → (rfs as).Nodup → ((ioOf k vs sl).map (·.2)).Nodup := by
  induction h with
  | nil =>
    intro sl k e nd
    cases e
    exact List.nodup_nil
  | @val v d vs as h t ih =>
    intro sl k e nd
    unfold argSlots at e
    obtain ⟨sl', e1, e2⟩ := Option.map_eq_some_iff.mp e
    subst e2
    have q := ih (k := k + 1) e1 nd
    cases v <;> exact q
  | @rf v n vs as h t ih =>
    intro sl k e nd
    unfold argSlots at e
    split at e
    · rename_i c hc
      obtain ⟨sl', e1, e2⟩ := Option.map_eq_some_iff.mp e
      subst e2
      obtain ⟨w, h1, b, ev, hF, h0, hcell⟩ := r.sl n _ hc
      rw [h] at h1
      cases h1
      subst ev
      obtain ⟨nn, nd⟩ := List.nodup_cons.mp (show (n :: rfs as).Nodup from nd)
      show ((b :: (ioOf (k + 1) vs sl').map (·.2))).Nodup
      refine List.nodup_cons.mpr ⟨fun hm => ?_, ih e1 nd⟩
      obtain ⟨⟨i, b'⟩, hm, eb⟩ := List.mem_map.mp hm
      obtain ⟨j, m, c', q1, q2, q3, q4, q5⟩ := io_mem r t e1 hm
      have e3 : b' = b := eb
      subst e3
      have hne : n ≠ m := fun z => nn (by rw [z]; exact mem_rfs q2)
      exact r.sep n m c c' hne hc q3 (by rw [h, q5])
    · cases e
end
/-- f(e, ..), f a def that keeps its contract -/
theorem ce_call {ct : Ct} {as : List ArgR} {sl outs : List Slot} (hs : argSlots st1 as = some sl) (nd : (rfs as).Nodup) (hpl : ∀ (j m : Nat) (c : Cell), as[j]? = some (ArgR.rf m) → sl[j]? = some (Slot.own c) → c.plain = true) (hpo : ∀ (j : Nat) (c : Cell), outs[j]? = some (Slot.own c) → c.plain = true) (hct : ct sl r outs)
    {E : XK} : ∀ σ F H vs, RelX X Z st1 σ F H → ArgsAt X.K Z.G F σ vs as → ∀ Q : VK, (∀ w F' H', Ex F F' → RelX X Z (putOuts st1 0 as outs) σ F' H' → RAtX X Z (putOuts st1 0 as outs) σ F' H' w r → Q w H') → SpOf X.K Z.G ct vs H Q E := fun σ F H vs hr hvs Q q => by
  refine ⟨F, sl, r, outs, hr.ext, args_slots hr hvs hs, io_nodup hr hvs hs nd, hct, fun v F' H' e e' gf keep ho hv => ?_⟩
  have hR : RelX X Z (putOuts st1 0 as outs) σ F' H' := by
    refine hr.after (fun a => ∃ i, (i, a) ∈ ioOf 0 vs sl) e e' gf (fun a o h n => keep a o h fun i hi => n ⟨i, hi⟩) (putOuts_len _ _ _ _) (fun a ⟨i, hi⟩ => ?_) fun i => ?_
    · obtain ⟨j, m, c, q1, q2, q3, q4, q5⟩ := io_mem hr hvs hs hi
      exact ⟨m, c, hpl j m c q2 q4, q3, q5⟩
    · by_cases hm : i ∈ rfs as
      · obtain ⟨j, hj⟩ := rfs_mem hm
        obtain ⟨a, ha, hσ⟩ := io_of hr hvs (k := 0) hs hj
        obtain ⟨hF, c, hc, hcell⟩ := ho _ a ha
        obtain ⟨j', m', c', q1, q2, q3, q4, q5⟩ := io_mem hr hvs hs ha
        have ej : j' = j := by omega
        subst ej
        rw [hj] at q2
        cases q2
        have hl : i < st1.length := (List.getElem?_eq_some_iff.mp q3).1
        exact .inr ⟨c', c, a, q3, putOuts_at st1 0 as outs nd hj hc hl, hpo _ c hc, hσ, hF, hcell⟩
      · refine .inl ⟨putOuts_other _ _ _ _ hm, fun c a h1 h2 ⟨k, hk⟩ => ?_⟩
        obtain ⟨j', m', c', q1, q2, q3, q4, q5⟩ := io_mem hr hvs hs hk
        have hne : i ≠ m' := fun z => hm (by rw [z]; exact mem_rfs q2)
        exact hr.sep i m' c c' hne h1 q3 (by rw [h2, q5])
  refine q v F' H' e hR ?_
  match r, hv with
  | .val d, hv => exact hv
  | .own c, ⟨a, ev, hF, h0, hc, _⟩ =>
    refine ⟨a, ev, hF, hr.fresh0 h0, hc, fun i c' hi => ?_⟩
    by_cases hm : i ∈ rfs as
    · obtain ⟨j, hj⟩ := rfs_mem hm
      obtain ⟨b, hb, hσ⟩ := io_of hr hvs (k := 0) hs hj
      obtain ⟨_, m', c', q1, q2, q3, q4, q5⟩ := io_mem hr hvs hs hb
      intro z
      rw [hσ] at z
      cases z
      obtain ⟨v, h1, a', ev, hF', _, hc'⟩ := hr.sl m' _ q3
      rw [q5] at h1
      cases h1
      cases ev
      obtain ⟨o, ho⟩ := hc'.at
      rw [ho] at h0
      cases h0
    · rw [putOuts_other _ _ _ _ hm] at hi
      exact hr.notheld h0 i c' hi
theorem se_call {ct : Ct} {as : List ArgR} {sl outs : List Slot} {k : Nat} {fa : Addr} {fd : FuncData} {ps : List Str} {CX : CXT} {E : XK} (Fn : FnOk X.prog X.w X.K X.mg X.base CX k fa fd ps (SpOf X.K Z.G ct)) (hrm : Room k X.A) (hg : Gl X n) (hm : X.mg n = some (.ref fa)) (hk : PySem.W.keepIn X.K (.ref fa) = true)
    (hb : Binds X.K fd ps []) (hx : Passes CX X E) (ha : SA' X Z (e :: es) st st1 as) (hdb : (n == ("__debug__" : Str)) = false) (hst : (e :: es).any isStar = false)
    (hs : argSlots st1 as = some sl) (nd : (rfs as).Nodup) (hpl : ∀ (j m : Nat) (c : Cell), as[j]? = some (ArgR.rf m) → sl[j]? = some (Slot.own c) → c.plain = true) (hpo : ∀ (j : Nat) (c : Cell), outs[j]? = some (Slot.own c) → c.plain = true) (hct : ct sl r outs) :
    SE X Z (.Call (.Name n p) (e :: es) [] pos) st (putOuts st1 0 as outs) r := by
  rw [List.any_cons, Bool.or_eq_false_iff] at hst
  refine pe_weak (pe_call Fn hrm hg hm hk hb (show Vals [] [] from .nil) hx ha hdb (starEach_cons hst.1) (noStar_any hst.2)) fun σ H Q ⟨F, hr, q⟩ => ⟨F, hr, fun vs F' H' ex hr' hvs => ?_⟩
  show SpOf X.K Z.G ct (vs ++ []) H' Q E
  rw [List.append_nil]
  exact ce_call hs nd hpl hpo hct σ F' H' vs hr' hvs Q fun w F2 H2 e2 r2 hw => q w F2 H2 (ex.trans e2) r2 hw
end
end PV


set_option Elab.async false
set_option linter.all false
set_option maxRecDepth 100000
set_option maxHeartbeats 4000000
/-! errors made as values, by keywords too -/
namespace PV
open PySem PySem.W PySem.Calls PyProof.Rows PySem.HandSPX
section
variable {prog : Program} {w : World} {A : Around} {E : Value → Shared → Prop} {R : Result → Shared → Prop} {h : Heap} {g : Array GenState} {dr : Drawn} {t : Nat} {os : OsState}
variable {nm q : Str} {C N : Addr} {bs bm bmB : List Value} {hd : Bool} {sn : List Str} {sb : List Value} {ab : Bool} {col : Option Bool} {dd : Option Addr} {k0 k1 k2 k3 k5 : Option Value} {B newId initId : String} {us : List Value} {kw : List (Str × Value)}
/-- an error's class as it stands -/
abbrev eco (nm q : Str) (C N : Addr) (bs bm : List Value) (hd : Bool) (sn : List Str) (sb : List Value) (ab : Bool) (col : Option Bool) (dd : Option Addr) (k0 k1 k2 k3 k5 : Option Value) (newId : String) : Obj :=
  PySem.excClassObj nm q C N bs bm hd sn sb ab col dd k0 k1 k2 k3 k5 newId
theorem xk_check (F : ExcBaseFacts B newId initId bmB) (hT : ∀ X : String, bm.contains (.type X) = bmB.contains (.type X)) {Q : Unit → Shared → Prop} {M : Model}
    (hC : h.get? C = some (eco nm q C N bs bm hd sn sb ab col dd k0 k1 k2 k3 k5 newId)) (hq : Q () ⟨h, g, dr, t, os⟩) :
    wpAny M A (checkBuiltinCall newId ⟨.ref C :: us, kw⟩) Q E ⟨h, g, dr, t, os⟩ := by
  have c1 : (Value.ref C :: bm).contains (.type B) = true := by
    rw [List.contains_cons, hT, F.hasB, Bool.or_true]
  have c2 := F.noStar
  simp only [checkBuiltinCall, F.newKind, F.newSplit, F.newRow]
  repeat (first
    | refine wpAny_loadPart_at hC ?_
    | (refine wpAny_isSubtype_exc hC ?_
       rw [c1])
    | refine wpAny_staticBase_exc hC ?_
    | refine wpAny_madeBy_exc hC ?_
    | simp only [bne_self_eq_false, Bool.false_eq_true, if_false]
    | wp_step)
  exact hq
theorem xk_new (F : ExcBaseFacts B newId initId bmB) (hT : ∀ X : String, bm.contains (.type X) = bmB.contains (.type X))
    (hC : h.get? C = some (eco nm q C N bs bm hd sn sb ab col dd k0 k1 k2 k3 k5 newId)) (hr : us.length ≤ sizeLine)
    (hq : R (.ok (.ret (.ref (h.objs.size + 1)))) ⟨(h.push (kdv_tup us)).push (excO C h.objs.size), g, dr, t, os⟩) :
    codeAny (model prog w) A (.builtin newId ⟨.ref C :: us, kw⟩) R ⟨h, g, dr, t, os⟩ := by
  have e1 := F.ends
  have c1 : (Value.ref C :: bm).contains (.type B) = true := by
    rw [List.contains_cons, hT, F.hasB, Bool.or_true]
  have c2 : (Value.ref C :: bm).contains (.type "AttributeError") = false := by
    rw [List.contains_cons, hT, F.noAttr]
    rfl
  have c3 : (Value.ref C :: bm).contains (.type "NameError") = false := by
    rw [List.contains_cons, hT, F.noName]
    rfl
  refine codeAny_builtinAt F.entry ?_
  unfold Builtin.«BaseException.__new__»
  refine PySem.wpAt_bind ?_
  show PySem.wpAt _ _ _ (stack >>= _) _ _ _
  refine PySem.wpAt_bind (PySem.wpAt_stack fun p below => PySem.wpAt_of_wpAny ?_)
  wp_walk
  refine PySem.wpAt_of_wpAny ?_
  rw [F.owner]
  repeat (first
    | with_reducible refine wpAny_madeHere_exc F.canon hC ?_
    | with_reducible refine wpAny_loadPart_at hC ?_
    | (with_reducible refine wpAny_isSubtype_exc hC ?_
       first | rw [c1] | rw [c2] | rw [c3])
    | wp_step)
  show R _ _
  rw [Heap.size_push]
  exact hq
theorem xk_tycall (F : ExcBaseFacts B newId initId bmB) (hT : ∀ X : String, bm.contains (.type X) = bmB.contains (.type X)) {fI : Addr} {Q : Fin → Shared → Prop}
    (hC : h.get? C = some (eco nm q C N bs bm hd sn sb ab col dd k0 k1 k2 k3 k5 newId))
    (hi : W.Looks (model prog w) h (typeLookup (.ref C) "__init__") (some (.ref fI))) (hb : ∀ self, W.Looks (model prog w) h (bindSpecial (.ref fI) self) (.ref fI, [self])) (hr : us.length ≤ sizeLine)
    (hq : codeAny (model prog w) A (.call (.ref fI) ⟨.ref (h.objs.size + 1) :: us, kw⟩) (fun r s' => match r with
      | .ok (.ret v) => v = .none ∧ Q (.done (.ret (.ref (h.objs.size + 1)))) s'
      | .ok _ => False
      | .error e => E e s') ⟨(h.push (kdv_tup us)).push (excO C h.objs.size), g, dr, t, os⟩) :
    wpAny (model prog w) A (Builtin.«type.__call__» ⟨.ref C :: us, kw⟩) Q E ⟨h, g, dr, t, os⟩ := by
  repeat (first
    | with_reducible refine wpAny_loadPart_at hC ?_
    | with_reducible refine wpAny_madeBy_exc hC ?_
    | wp_step)
  refine codeAny_call_builtin_code (Code.quiet_builtin _ F.quiet) (xk_check F hT hC ?_)
  refine xk_new F hT hC hr ?_
  show wpAny _ _ _ _ _ _
  have k : ∀ b o, h.get? b = some o → ((h.push (kdv_tup us)).push (excO C h.objs.size)).get? b = some o := fun b o e => Heap.get?_push_of_some _ (Heap.get?_push_of_some _ e)
  have hC1 := k _ _ hC
  have hx : ((h.push (kdv_tup us)).push (excO C h.objs.size)).get? (h.objs.size + 1) = some (excO C h.objs.size) := by heap_get
  have c1 : (Value.ref C :: bm).contains (.ref C) = true := by simp
  have i1 := hi.keeps k
  have b1 := (hb (.ref (h.objs.size + 1))).keeps k
  unfold isInstance
  repeat (first
    | with_reducible refine wpAny_loadPart_at hx ?_
    | (with_reducible refine wpAny_isSubtype_exc hC1 ?_
       rw [c1])
    | wp_step)
  show wpAny _ _ (typeLookup (.ref C) _) _ _ _
  refine i1.at ?_
  refine wpAny_holding (wpAny_bind (b1.at ?_))
  refine wpAny_bind (wpAny_call (codeAny_mono hq fun r s' z => ?_))
  cases r with
  | error e => exact z
  | ok f =>
    cases f with
    | ret v =>
      obtain ⟨z1, z2⟩ := z
      subst z1
      first
        | exact wpAny_pure (wpAny_pure z2)
        | (wp_walk
           exact z2)
    | next => exact z.elim
    | brk => exact z.elim
    | cont => exact z.elim
theorem xk_check2 {M : Model} {Q : Unit → Shared → Prop} (hC : h.get? C = some (eco nm q C N bs bm hd sn sb ab col dd k0 k1 k2 k3 k5 newId)) (hq : Q () ⟨h, g, dr, t, os⟩) :
    wpAny M A (checkBuiltinCall "type.__call__" ⟨.ref C :: us, kw⟩) Q E ⟨h, g, dr, t, os⟩ := by
  have f3 := tc_sub
  have hT : (⟨h, g, dr, t, os⟩ : Shared).TypeIs (.ref C) "type" := ⟨_, hC, rfl⟩
  simp only [checkBuiltinCall, tc_kind, tc_split]
  repeat (any_goals (first
    | assumption
    | with_reducible refine wpAny_loadPart_at hC ?_
    | with_reducible refine wpAny_onRaise ?_
    | with_reducible refine wpAny_map ?_
    | wp_step))
theorem xk_call (F : ExcBaseFacts B newId initId bmB) (hT : ∀ X : String, bm.contains (.type X) = bmB.contains (.type X)) {fI : Addr}
    (hC : h.get? C = some (eco nm q C N bs bm hd sn sb ab col dd k0 k1 k2 k3 k5 newId))
    (hi : W.Looks (model prog w) h (typeLookup (.ref C) "__init__") (some (.ref fI))) (hb : ∀ self, W.Looks (model prog w) h (bindSpecial (.ref fI) self) (.ref fI, [self])) (hr : us.length ≤ sizeLine)
    (hq : codeAny (model prog w) (A.under (.builtin "type.__call__" ⟨.ref C :: us, kw⟩)) (.call (.ref fI) ⟨.ref (h.objs.size + 1) :: us, kw⟩) (W.InitBack (h.objs.size + 1) R)
      ⟨(h.push (kdv_tup us)).push (excO C h.objs.size), g, dr, t, os⟩) :
    codeAny (model prog w) A (.call (.ref C) ⟨us, kw⟩) R ⟨h, g, dr, t, os⟩ := by
  have f1 := tc_lookup
  have f2 := tc_bind (.ref C)
  have hTy : (⟨h, g, dr, t, os⟩ : Shared).TypeIs (.ref C) "type" := ⟨_, hC, rfl⟩
  refine codeAny_of_tree ?_
  show wpAny _ _ (callAny (.ref C) _) _ _ _
  repeat (any_goals (first
    | assumption
    | with_reducible refine wpAny_loadPart_at hC ?_
    | wp_step))
  refine ⟨rfl, ?_⟩
  refine codeAny_call_builtin_at (Code.quiet_builtin _ (by decide +kernel)) entry_typeCall (xk_check2 hC (xk_tycall F hT hC hi hb hr ?_))
  refine codeAny_mono hq fun r s' z => ?_
  cases r with
  | error e => exact z
  | ok f => cases f <;> exact z
end
end PV


set_option Elab.async false
set_option linter.all false
set_option maxRecDepth 100000
set_option maxHeartbeats 4000000
namespace PV
open PySem L2
open PySem.W (Frag)
/-- the names' fields with their values, as an error's dict lists them -/
def flds {α : Type} : List Str → List α → List (Str × α) → List (Str × α)
  | f :: fs, y :: ys, acc => flds fs ys ((f, y) :: acc)
  | _, _, acc => acc
/-- what an error's __init__ does that lays its parameters down under their names fs -/
def spInit (K : Frag) (fs : List Str) : Sp := fun vs H Q _ => ∃ (a C : Addr) (ys : List V), vs = .ref a :: ys ∧ ys.length = fs.length ∧ OexC K C ∧ (∀ f ∈ fs, PySem.W.findIn K (.ref C) f = some none) ∧ H a = some (exo a C none) ∧
  ∀ dx H', H dx = none → dx ≠ a → H' a = some (exo a C (some dx)) → H' dx = some (exd dx (flds fs ys [])) → (∀ b, b ≠ a → b ≠ dx → H' b = H b) → Q .non H'
section
variable {P : Program} {w : World} {K : PySem.W.Frag} {mg : Str → Option Value} {base : Heap} {st : Stmt} {fI : Addr} {fd : FuncData} {qual : Str} {f f1 f2 : Str}
variable {p1 p2 p3 p4 q1 q2 q3 q4 : Pos}
theorem ok_init1 (F : Fun K "__init__" qual st fI fd) (S : FnScope ["self", f] ["self", f] (defScope st)) (hb : defBody st = [.Assign [.Attribute (.Name "self" p1) f p2] (.Name f p3) p4])
    (h0 : (defScope st).names.lookup ("self" : Str) = some .local) (h1 : (defScope st).names.lookup f = some .local) (d0 : (f == ("__debug__" : Str)) = false) (d1 : (f == ("__classdict__" : Str)) = false) : FnOk P w K mg base CX0 1 fI fd ["self", f] (spInit K [f]) := by
  refine F.ok S (fun vs H Q E h => ?_) (fun cdv A outer s H vs Q E hr h => ?_)
  · obtain ⟨a, C, ys, rfl, hl, _⟩ := h
    simp at hl
    simp [hl]
  · obtain ⟨a, C, ys, rfl, hl, T, hno, ha, k⟩ := h
    match ys, hl with
    | [y], _ =>
      rw [hb]
      refine ⟨_, pss_one (ps_ost (pe_var (i := 0) (by rfl) (Or.inl h0)) (pe_var (i := 1) (by rfl) (Or.inl h1) d0 d1)), ?_⟩
      refine ⟨_, rfl, _, rfl, a, C, rfl, T, hno f (by simp), .inl ⟨ha, fun dx n ne => ?_⟩⟩
      refine k dx _ n ne upd_same (by rw [upd_ne ne, upd_same] <;> rfl) fun b nb nd => by rw [upd_ne nb, upd_ne nd]
theorem ok_init2 (F : Fun K "__init__" qual st fI fd) (S : FnScope ["self", f1, f2] ["self", f1, f2] (defScope st)) (hb : defBody st = [.Assign [.Attribute (.Name "self" p1) f1 p2] (.Name f1 p3) p4, .Assign [.Attribute (.Name "self" q1) f2 q2] (.Name f2 q3) q4])
    (h0 : (defScope st).names.lookup ("self" : Str) = some .local) (h1 : (defScope st).names.lookup f1 = some .local) (h2 : (defScope st).names.lookup f2 = some .local) (d0 : (f1 == ("__debug__" : Str)) = false) (d1 : (f1 == ("__classdict__" : Str)) = false)
    (e0 : (f2 == ("__debug__" : Str)) = false) (e1 : (f2 == ("__classdict__" : Str)) = false) : FnOk P w K mg base CX0 1 fI fd ["self", f1, f2] (spInit K [f1, f2]) := by
  refine F.ok S (fun vs H Q E h => ?_) (fun cdv A outer s H vs Q E hr h => ?_)
  · obtain ⟨a, C, ys, rfl, hl, _⟩ := h
    simp at hl
    simp [hl]
  · obtain ⟨a, C, ys, rfl, hl, T, hno, ha, k⟩ := h
    match ys, hl with
    | [y, z], _ =>
      rw [hb]
      refine ⟨_, pss_cons (ps_ost (pe_var (i := 0) (by rfl) (Or.inl h0)) (pe_var (i := 1) (by rfl) (Or.inl h1) d0 d1)) (pss_one (ps_ost (pe_var (i := 0) (by rfl) (Or.inl h0)) (pe_var (i := 2) (by rfl) (Or.inl h2) e0 e1))), ?_⟩
      refine ⟨_, rfl, _, rfl, a, C, rfl, T, hno f1 (by simp), .inl ⟨ha, fun dx n ne => ?_⟩⟩
      refine ⟨_, rfl, _, rfl, a, C, rfl, T, hno f2 (by simp), .inr ⟨dx, _, upd_same, by rw [upd_ne ne, upd_same], by simp, ?_⟩⟩
      refine k dx _ n ne (by rw [upd_ne (Ne.symm ne), upd_same]) upd_same fun b nb nd => by rw [upd_ne nd, upd_ne nb, upd_ne nd]
end
section
variable {X : Cx} {pins : List (Addr × Obj)} {σ : St} {H : Hp} {s : Shared} {Q : VK} {C fI : Addr} {fd : FuncData} {ps fs : List Str} {us ws : List Value} {kw : List (Str × Value)} {ys : List V} {k : Nat}
theorem run_err (T : OexC X.K C) (iC : PySem.W.findIn X.K (.ref C) "__init__" = some (some (.ref fI))) (tI : PySem.W.typeIn X.K (.ref fI) = some (.type "function")) (F1 : FnOk X.prog X.w X.K X.mg X.base CX0 k fI fd ps (spInit X.K fs)) (hr : Room (k + 1) X.A)
    (hno : ∀ f ∈ fs, PySem.W.findIn X.K (.ref C) f = some none) (I : Inv X pins σ H s) (hb : ∀ (s : Shared) (a : Addr), BindsTo s fd ⟨.ref a :: us, kw⟩ (ps.zip (.ref a :: ws))) (r : Vals ys ws) (hl : us.length ≤ sizeLine) (hy : ys.length = fs.length)
    (q : ∀ a dx H', H a = none → H dx = none → dx ≠ a → H' a = some (exo a C (some dx)) → H' dx = some (exd dx (flds fs ys [])) → (∀ b, b ≠ a → b ≠ dx → H' b = H b) → Q (.ref a) H') :
    wpAny (model X.prog X.w) X.A (call (.ref C) us kw) (EP X pins σ Q) X.xe s := by
  obtain ⟨nm, qn, N, bs, bm, sn, sub, ab, col, dd, k0, k1, k2, k3, k5, hC, hbm⟩ := T.cls
  obtain ⟨hp, g, dr, tk, os⟩ := s
  have hsz : hp.objs.size ≤ hp.objs.size + 1 := Nat.le_succ _
  have hn : H (hp.objs.size + 1) = none := I.hok.fresh hsz
  have kk : ∀ b o, hp.get? b = some o → ((hp.push (PySem.W.kdv_tup us)).push (PySem.HandSPX.excO C hp.objs.size)).get? b = some o := fun b o e => Heap.get?_push_of_some _ (Heap.get?_push_of_some _ e)
  have hget : ((hp.push (PySem.W.kdv_tup us)).push (PySem.HandSPX.excO C hp.objs.size)).get? (hp.objs.size + 1) = some (PySem.HandSPX.excO C hp.objs.size) := by heap_get
  have I2 : Inv X pins σ (upd H (hp.objs.size + 1) (exo (hp.objs.size + 1) C none)) ⟨(hp.push (PySem.W.kdv_tup us)).push (PySem.HandSPX.excO C hp.objs.size), g, dr, tk, os⟩ :=
    I.laid (t' := tk) (a := hp.objs.size + 1) (o := exo (hp.objs.size + 1) C none) (h' := (hp.push (PySem.W.kdv_tup us)).push (PySem.HandSPX.excO C hp.objs.size)) kk hsz (exo_ok hget)
  have hq : spInit X.K fs (V.ref (hp.objs.size + 1) :: ys) (upd H (hp.objs.size + 1) (exo (hp.objs.size + 1) C none)) (fun v H2 => v = .non ∧ Q (.ref (hp.objs.size + 1)) H2) E0 := by
    refine ⟨_, C, ys, rfl, hy, T, hno, upd_same, fun dx H' n ne e1 e2 e3 => ⟨rfl, ?_⟩⟩
    rw [upd_ne ne] at n
    exact q _ dx H' hn n ne e1 e2 fun b nb nd => by rw [e3 b nb nd, upd_ne nb]
  have r2 : Vals (V.ref (hp.objs.size + 1) :: ys) (Value.ref (hp.objs.size + 1) :: ws) := .cons rfl r
  refine wpAny_call (xk_call F.excBase_ValueError (fun Y => PySem.HandSPX.refsVE_contains Y bm hbm) (I.kIn _ _ hC) (PySem.W.looks_findIn I.kIn iC) (fun self => PySem.W.bind_fn I.kIn self tI) hl
    (codeAny_mono (F1.run _ X.stack _ _ ⟨Value.ref (hp.objs.size + 1) :: us, kw⟩ (Value.ref (hp.objs.size + 1) :: ws) _ _ E0 (hr.make C us kw) (I2.env0.make C us kw) (hb _ _) r2 hq) fun r s' hq' => ?_))
  cases r with
  | error er => exact False.elim hq'
  | ok fl =>
    cases fl with
    | ret u =>
      obtain ⟨v, H', I3, rv, ev, q3⟩ := I2.after hq'
      subst ev
      exact ⟨rv, ⟨V.ref (hp.objs.size + 1), H', I3, rfl, q3⟩⟩
    | next => exact False.elim hq'
    | brk => exact False.elim hq'
    | cont => exact False.elim hq'
end
end PV


set_option Elab.async false
set_option linter.all false
set_option maxRecDepth 100000
set_option maxHeartbeats 4000000
namespace PV
open PySem L2
open PySem.W (Frag)
theorem AtF.flds {K : Frag} {G : Str → Addr} {F : Hp} : ∀ {fs : List Str} {ys : List V} {ds : List D} {acc : List (Str × V)} {acd : List (Str × D)}, AtL K G F ys ds → AtF K G F acc acd → AtF K G F (PV.flds fs ys acc) (PV.flds fs ds acd)
  | [], _, _, _, _, _, h => h
  | _ :: _, _, _, _, _, .nil, h => h
  | f :: fs, y :: ys, d :: ds, acc, acd, .cons h t, h2 => (AtF.flds (fs := fs) (ys := ys) (ds := ds) (acc := (f, y) :: acc) (acd := (f, d) :: acd) t (.cons h h2))
/-- all that is told of an error's class with its own __init__ over the fields fs -/
structure ErrI (X : Cx) (Z : Env0) (n : Str) (fs : List Str) (k : Nat) : Prop where
  T : ErrC X.K (Z.G n)
  g : X.mg n = some (.ref (Z.G n))
  no : ∀ f ∈ fs, PySem.W.findIn X.K (.ref (Z.G n)) f = some none
  ex : ∃ (fI : Addr) (fd : FuncData), PySem.W.findIn X.K (.ref (Z.G n)) "__init__" = some (some (.ref fI)) ∧ PySem.W.typeIn X.K (.ref fI) = some (.type "function") ∧
    FnOk X.prog X.w X.K X.mg X.base CX0 k fI fd ("self" :: fs) (spInit X.K fs) ∧
    (∀ us : List Value, us.length = fs.length + 1 → bindArgs fd ⟨us, []⟩ = pure ((("self" : Str) :: fs).zip us)) ∧
    ∀ (a : Value) (ws : List Value), ws.length = fs.length → bindArgs fd ⟨[a], fs.reverse.zip ws⟩ = pure ((("self" : Str) :: fs).zip (a :: ws.reverse))
section
variable {X : Cx} {Z : Env0} {st st1 st2 st3 : Sta} {e e1 e2 : Expr} {es : List Expr} {r : R} {d x y z : D} {s : Stmt} {ss : List Stmt} {o : Out} {pos p p' : Pos} {σ : L2.St} {F F' H H' : Hp} {v u : V} {b : Bool} {f n : Str} {k : Nat} {fs : List Str}
/-- a new error stands for good -/
theorem err_at {ys : List V} {ds : List D} {a dx : Addr} (hr : RelX X Z st σ F H) (hv : AtLX X Z F ys ds) (hn : H a = none) (nd : H dx = none) (ne : dx ≠ a) (e1 : H' a = some (exo a (Z.G n) (some dx))) (e2 : H' dx = some (exd dx (flds fs ys []))) (e3 : ∀ b, b ≠ a → b ≠ dx → H' b = H b) :
    ∃ F', Ex F F' ∧ RelX X Z st σ F' H' ∧ AtX X Z F' (.ref a) (.err n (flds fs ds [])) := by
  have eH : H' = upd (upd H dx (exd dx (flds fs ys []))) a (exo a (Z.G n) (some dx)) := by
    funext b
    by_cases ha : b = a
    · subst ha
      rw [upd_same, e1]
    · rw [upd_ne ha]
      by_cases hd : b = dx
      · subst hd
        rw [upd_same, e2]
      · rw [upd_ne hd, e3 b ha hd]
  subst eH
  have hn2 : upd H dx (exd dx (flds fs ys [])) a = none := by rw [upd_ne (Ne.symm ne)]; exact hn
  have r1 := (hr.newF (o := exd dx (flds fs ys [])) nd).newF (o := exo a (Z.G n) (some dx)) hn2
  have x1 : Ex F (upd F dx (exd dx (flds fs ys []))) := Ex.new (hr.ext.none nd)
  have hF2 : upd F dx (exd dx (flds fs ys [])) a = none := by rw [upd_ne (Ne.symm ne)]; exact hr.ext.none hn
  have x2 : Ex (upd F dx (exd dx (flds fs ys []))) (upd (upd F dx (exd dx (flds fs ys []))) a (exo a (Z.G n) (some dx))) := Ex.new hF2
  refine ⟨_, x1.trans x2, r1, At.err upd_same (x2 _ _ upd_same) (AtF.flds (AtL.mono hv (x1.trans x2)) .nil)⟩
/-- N(e, ..), an error -/
def tErrP (X : Cx) (C : Addr) (fs : List Str) (ta : TA) : TE := fun σ H Q => ta σ H fun ys H1 => ys.length = fs.length ∧ ∀ a dx H', H1 a = none → H1 dx = none → dx ≠ a → H' a = some (exo a C (some dx)) → H' dx = some (exd dx (flds fs ys [])) → (∀ b, b ≠ a → b ≠ dx → H' b = H1 b) → Q (.ref a) H'
theorem pe_errP {ta : TA} (E : ErrI X Z n fs k) (hr : Room (k + 1) X.A) (hfs : fs.length ≤ 100) (hg : Gl X n) (ha : PA X (e :: es) ta) (hdb : (n == ("__debug__" : Str)) = false) (hst : (e :: es).any isStar = false) : PE X (.Call (.Name n p) (e :: es) [] pos) (tErrP X (Z.G n) fs ta) := by
  rw [List.any_cons, Bool.or_eq_false_iff] at hst
  obtain ⟨fI, fd, h1, h2, h3, h4, _⟩ := E.ex
  refine ⟨fun pins s σ H Q I h => ?_⟩
  refine wpAny_Call_Name_kw (ld_glob I hg E.g ?_ hdb)
  refine PySem.W.callWith_K (h₀ := X.base) I.ok.mod.kin E.T.ox.kC (thn (ha.run pos pins s σ H _ I h) fun us s1 hh => ?_) (starEach_cons hst.1) (noStar_any hst.2)
  obtain ⟨ys, H1, I1, r1, hl, q⟩ := hh
  refine ⟨I1.kIn, ?_⟩
  have hlu : us.length = fs.length := by rw [← r1.length]; exact hl
  show wpAny _ _ (call (.ref (Z.G n)) us []) _ _ _
  exact run_err E.T.ox h1 h2 h3 hr E.no I1 (fun s a => .of_eq (h4 (.ref a :: us) (by simp [hlu]))) r1 (by rw [hlu, sizeLine_eq]; omega) hl q
theorem se_errP {ds : List D} (E : ErrI X Z n fs k) (hr : Room (k + 1) X.A) (hfs : fs.length ≤ 100) (hg : Gl X n) (ha : SA X Z (e :: es) st st1 ds) (hdb : (n == ("__debug__" : Str)) = false) (hst : (e :: es).any isStar = false) (hl : ds.length = fs.length) :
    SE X Z (.Call (.Name n p) (e :: es) [] pos) st st1 (.val (.err n (flds fs ds []))) :=
  pe_weak (pe_errP E hr hfs hg ha hdb hst) fun σ H Q ⟨F, hr, q⟩ => ⟨F, hr, fun ys F' H' ex hr' hv => ⟨by rw [AtL.length hv]; exact hl, fun a dx H2 n1 n2 ne e1 e2 e3 => by
    obtain ⟨F2, x2, r2, t2⟩ := err_at hr' hv n1 n2 ne e1 e2 e3
    exact q _ F2 H2 (ex.trans x2) r2 t2⟩⟩
/-! by keywords -/
def SK (X : Cx) (Z : Env0) (ks : List Keyword) (st st' : Sta) (ds : List D) : Prop := PK X ks (CA X Z st st' ds)
theorem pk_weak {ks : List Keyword} {t t' : TA} (h : PK X ks t) (w : ∀ σ H Q, t' σ H Q → t σ H Q) : PK X ks t' := ⟨fun pos pins s σ H Q I q => h.run pos pins s σ H Q I (w σ H Q q)⟩
theorem sk_nil : SK X Z [] st st [] := pk_weak pk_nil fun σ H Q ⟨F, hr, k⟩ => k [] F H (Ex.refl F) hr .nil
theorem sk_cons {ks : List Keyword} {ds : List D} {nm : Option Str} {kp : Pos} (h : SE X Z e st st1 (.val d)) (t : SK X Z ks st1 st2 ds) : SK X Z (⟨nm, e, kp⟩ :: ks) st st2 (d :: ds) :=
  pk_weak (pk_cons h t) fun σ H Q ⟨F, hr, k⟩ => ⟨F, hr, fun v F' H' ex hr' hv => ⟨F', hr', fun vs F2 H2 e2 hr2 hvs => k _ F2 H2 (ex.trans e2) hr2 (.cons (At.mono hv e2) hvs)⟩⟩
theorem AtL.reverse {K : Frag} {G : Str → Addr} {vs : List V} {ds : List D} (h : AtL K G F vs ds) : AtL K G F vs.reverse ds.reverse := by
  induction vs generalizing ds with
  | nil => cases h; exact .nil
  | cons v vs ih =>
    cases h with
    | cons h t =>
      rw [List.reverse_cons, List.reverse_cons]
      exact (ih t).append (.one h)
def kwNames : List Keyword → List (Option Str)
  | [] => []
  | ⟨nm, _, _⟩ :: ks => nm :: kwNames ks
theorem backKw_names : ∀ {ks : List Keyword} {fs : List Str}, kwNames ks = fs.map some → (backToKw pos (keywordEach ks X.env)).all (·.1.isSome) = true ∧ (backToKw pos (keywordEach ks X.env)).filterMap (·.1) = fs ∧ (backToKw pos (keywordEach ks X.env)).any (·.1.isNone) = false
  | [], fs, h => by
    cases fs with
    | nil => exact ⟨rfl, rfl, rfl⟩
    | cons _ _ => cases h
  | ⟨nm, e, kp⟩ :: ks, fs, h => by
    cases fs with
    | nil => cases h
    | cons f fs =>
      have h1 : nm = some f := (List.cons.inj h).1
      subst h1
      obtain ⟨a, b, c⟩ := backKw_names (ks := ks) (fs := fs) (List.cons.inj h).2
      have e : backToKw pos (keywordEach (⟨some f, e, kp⟩ :: ks) X.env) = (some f, do let v ← eval e X.env; standAt pos; pure v) :: backToKw pos (keywordEach ks X.env) := rfl
      rw [e]
      refine ⟨?_, ?_, ?_⟩
      · rw [List.all_cons, a]; rfl
      · rw [List.filterMap_cons, b]
      · rw [List.any_cons, c]; rfl
theorem pe_errK {ks : List Keyword} {ta : TA} (E : ErrI X Z n fs k) (hr : Room (k + 1) X.A) (hfs : fs.length ≤ 100) (hg : Gl X n) (ha : PK X ks ta) (hdb : (n == ("__debug__" : Str)) = false) (hks : kwNames ks = fs.reverse.map some) :
    PE X (.Call (.Name n p) [] ks pos) (tErrP X (Z.G n) fs fun σ H Q => ta σ H fun ys H1 => Q ys.reverse H1) := by
  obtain ⟨fI, fd, h1, h2, h3, _, h5⟩ := E.ex
  obtain ⟨b1, b2, b3⟩ := backKw_names (X := X) (pos := pos) hks
  refine ⟨fun pins s σ H Q I h => ?_⟩
  refine wpAny_Call_Name_kw (ld_glob I hg E.g ?_ hdb)
  refine PySem.W.callWith_KW0 (h₀ := X.base) I.ok.mod.kin E.T.ox.kC b1 (thn (ha.run pos pins s σ H _ I h) fun ws s1 hh => ?_) (by
    show ((backTo pos (starEach [] X.env)).any (·.1) || (backToKw pos (keywordEach ks X.env)).any (·.1.isNone)) = false
    rw [b3]
    rfl)
  obtain ⟨ys, H1, I1, r1, hl, q⟩ := hh
  refine ⟨I1.kIn, ?_⟩
  rw [b2]
  have hlw : ws.length = fs.length := by rw [← r1.length]; simpa using hl
  show wpAny _ _ (call (.ref (Z.G n)) [] (fs.reverse.zip ws)) _ _ _
  have rv : ∀ {ys : List V} {ws : List Value}, Vals ys ws → Vals ys.reverse ws.reverse := fun h => h.reverse
  exact run_err (us := []) E.T.ox h1 h2 h3 hr E.no I1 (fun s a => .of_eq (h5 (.ref a) ws hlw)) (rv r1) (Nat.zero_le _) hl q
theorem se_errK {ks : List Keyword} {ds : List D} (E : ErrI X Z n fs k) (hr : Room (k + 1) X.A) (hfs : fs.length ≤ 100) (hg : Gl X n) (ha : SK X Z ks st st1 ds) (hdb : (n == ("__debug__" : Str)) = false) (hks : kwNames ks = fs.reverse.map some) (hl : ds.length = fs.length) :
    SE X Z (.Call (.Name n p) [] ks pos) st st1 (.val (.err n (flds fs ds.reverse []))) :=
  pe_weak (pe_errK E hr hfs hg ha hdb hks) fun σ H Q ⟨F, hr, q⟩ => ⟨F, hr, fun ys F' H' ex hr' hv => ⟨by rw [List.length_reverse, AtL.length hv]; exact hl, fun a dx H2 n1 n2 ne e1 e2 e3 => by
    obtain ⟨F2, x2, r2, t2⟩ := err_at hr' (AtL.reverse hv) n1 n2 ne e1 e2 e3
    exact q _ F2 H2 (ex.trans x2) r2 t2⟩⟩
/-! without an own __init__, without arguments -/
structure Err0 (X : Cx) (Z : Env0) (n : Str) : Prop where
  q : PySem.W.excIn X.K (Z.G n) [.type "ValueError", .type "Exception", .type "BaseException", .type "object"] "ValueError.__new__" = true
  g : X.mg n = some (.ref (Z.G n))
  kC : PySem.W.keepIn X.K (.ref (Z.G n)) = true
theorem pe_err0 (E : Err0 X Z n) (hg : Gl X n) (hdb : (n == ("__debug__" : Str)) = false) : PE X (.Call (.Name n p) [] [] pos) (fun σ H Q => ∀ a, H a = none → Q (.ref a) (upd H a (exo a (Z.G n) none))) := by
  refine ⟨fun pins s σ H Q I h => ?_⟩
  refine wpAny_Call_Name_kw (ld_glob I hg E.g ?_ hdb)
  refine PySem.W.callWith_K0 I.kIn E.kC ?_
  show wpAny _ _ (call (.ref (Z.G n)) []) _ _ _
  obtain ⟨bm, N, nm, qn, bs, hdct, sn, sub, ab, col, dd, k0, k1, k2, k3, k5, mN, hC, hN, hni, T⟩ := exc_obj I.kIn E.q
  refine wpAny_call_exc_subT F.excBase_ValueError T hC hN hni (fun h' a hm => ?_) (Nat.zero_le _)
  have hn : H a = none := I.hok.gone hm.new
  obtain ⟨t, ht, _, _⟩ := hm.there
  exact ⟨.ref a, _, I.laidN hm.keeps hm.new hn (exo_ok ht), rfl, h a hn⟩
theorem se_err0 (E : Err0 X Z n) (hg : Gl X n) (hdb : (n == ("__debug__" : Str)) = false) : SE X Z (.Call (.Name n p) [] [] pos) st st (.val (.err n [])) :=
  pe_weak (pe_err0 E hg hdb) fun σ H Q ⟨F, hr, q⟩ a ha => q _ _ _ (Ex.new (hr.ext.none ha)) (hr.newF ha) (.err0 upd_same)
end
end PV


set_option Elab.async false
set_option linter.all false
set_option maxRecDepth 100000
set_option maxHeartbeats 4000000
namespace PV
open PySem L2
open PySem.W (Frag)
section
variable {X : Cx} {Z : Env0} {st st1 st2 st3 : Sta} {e e1 e2 tg it : Expr} {es : List Expr} {r : R} {d x y z : D} {s : Stmt} {ss body : List Stmt} {o : Out} {pos p p' : Pos} {σ : L2.St} {F F' H H' : Hp} {v u : V} {b : Bool} {f n : Str} {k : Nat} {items : List D}
/-! ### targets -/
def OutOf (is : List Nat) (σ σ' : L2.St) : Prop := σ'.length = σ.length ∧ ∀ j, j ∉ is → σ'[j]? = σ[j]?
theorem OutOf.refl (σ : L2.St) : OutOf [] σ σ := ⟨rfl, fun _ _ => rfl⟩
theorem OutOf.trans {a b : List Nat} {σ σ1 σ2 : L2.St} (h : OutOf a σ σ1) (h2 : OutOf b σ1 σ2) : OutOf (a ++ b) σ σ2 :=
  ⟨h2.1.trans h.1, fun j hj => (h2.2 j fun z => hj (List.mem_append_right _ z)).trans (h.2 j fun z => hj (List.mem_append_left _ z))⟩
def CG (X : Cx) (Z : Env0) (d : D) (st st' : Sta) (is : List Nat) : TG := fun v σ H Q => ∃ F, RelX X Z st σ F H ∧ AtX X Z F v d ∧ ∀ σ' F' H', OutOf is σ σ' → Ex F F' → RelX X Z st' σ' F' H' → Q σ' H'
def SG (X : Cx) (Z : Env0) (tg : Expr) (d : D) (st st' : Sta) (is : List Nat) : Prop := PG X tg (CG X Z d st st' is)
theorem pg_weak {t t' : TG} (h : PG X tg t) (w : ∀ v σ H Q, t' v σ H Q → t v σ H Q) : PG X tg t' := ⟨fun pins s σ H v u Q I r q => h.run pins s σ H v u Q I r (w v σ H Q q)⟩
def anyG (X : Cx) (Z : Env0) (tg : Expr) : TG := fun v σ H Q => ∃ d st st' is, SG X Z tg d st st' is ∧ CG X Z d st st' is v σ H Q
theorem pg_any : PG X tg (anyG X Z tg) := ⟨fun pins s σ H v u Q I r ⟨d, st, st', is, h, q⟩ => h.run pins s σ H v u Q I r q⟩
theorem sg_name {i : Nat} (hN : X.N.Nodup) (hi : X.N[i]? = some n) (hx : Loc X.env.scope n) (hf : X.fn n = true ∨ X.env.scope.names.lookup n = some .local) (hio : ∀ a, (i, a) ∉ Z.io) (hl : i < st.length) : SG X Z (.Name n p) d st (st.set i (some (.val d))) [i] :=
  pg_weak (pg_name hN hi hx hf) fun v σ H Q ⟨F, hr, hv, k⟩ => k _ F H ⟨List.length_set .., fun j hj => List.getElem?_set_ne (fun z => hj (by simp [z]))⟩ (Ex.refl F) (hr.put (r := .val d) hv rfl hio hl)
/-- names in a row -/
def CGs (X : Cx) (Z : Env0) (ds : List D) (st st' : Sta) (is : List Nat) : TGs := fun vs σ H Q => ∃ F, RelX X Z st σ F H ∧ AtLX X Z F vs ds ∧ ∀ σ' F' H', OutOf is σ σ' → Ex F F' → RelX X Z st' σ' F' H' → Q σ' H'
def SGs (X : Cx) (Z : Env0) (tgs : List Expr) (ds : List D) (st st' : Sta) (is : List Nat) : Prop := PGs X tgs (CGs X Z ds st st' is)
theorem pgs_weak {tgs : List Expr} {t t' : TGs} (h : PGs X tgs t) (w : ∀ v σ H Q, t' v σ H Q → t v σ H Q) : PGs X tgs t' := ⟨fun pins s σ H v u Q I r q => h.run pins s σ H v u Q I r (w v σ H Q q)⟩
theorem sgs_nil : SGs X Z [] [] st st [] := pgs_weak pgs_nil fun v σ H Q ⟨F, hr, hv, k⟩ => by
  cases hv
  exact ⟨rfl, k σ F H (OutOf.refl σ) (Ex.refl F) hr⟩
theorem sgs_cons {tgs : List Expr} {ds : List D} {i1 i2 : List Nat} (h : SG X Z tg d st st1 i1) (t : SGs X Z tgs ds st1 st2 i2) (hs : isStar tg = false) : SGs X Z (tg :: tgs) (d :: ds) st st2 (i1 ++ i2) :=
  pgs_weak (pgs_cons h t (by cases tg <;> first | rfl | cases hs)) fun v σ H Q ⟨F, hr, hv, k⟩ => by
    cases hv with
    | cons h1 t1 => exact ⟨_, _, rfl, F, hr, h1, fun σ' F' H' o1 ex hr' => ⟨F', hr', AtL.mono t1 ex, fun σ2 F2 H2 o2 e2 hr2 => k σ2 F2 H2 (o1.trans o2) (ex.trans e2) hr2⟩⟩
theorem assignEach_star : ∀ {tgs : List Expr}, tgs.any isStar = false → (assignEach tgs X.env).length = tgs.length ∧ (assignEach tgs X.env).findIdx? (·.1) = none
  | [], _ => ⟨rfl, rfl⟩
  | t :: ts, h => by
    rw [List.any_cons, Bool.or_eq_false_iff] at h
    obtain ⟨a, b⟩ := assignEach_star (tgs := ts) h.2
    have e : assignEach (t :: ts) X.env = (false, assign t X.env) :: assignEach ts X.env := by
      cases t with
      | Starred _ _ => cases h.1
      | _ => rfl
    rw [e]
    refine ⟨by rw [List.length_cons, List.length_cons, a], ?_⟩
    rw [List.findIdx?_cons]
    simp [b]
theorem sg_tup {tgs : List Expr} {ds : List D} {c : _} {is : List Nat} (hc : X.calm = true) (h : SGs X Z tgs ds st st1 is) (hs : tgs.any isStar = false) (hl : ds.length = tgs.length) : SG X Z (.Tuple tgs c p) (.tup ds) st st1 is :=
  pg_weak (pg_tup (n := tgs.length) hc h (assignEach_star hs).1 (assignEach_star hs).2) fun v σ H Q ⟨F, hr, hv, k⟩ => by
    obtain ⟨a, xs, rfl, hx, t⟩ := At.tup_inv hv
    exact ⟨a, xs, rfl, hr.ext.sqT hx, by rw [t.length, hl], F, hr, t, k⟩
theorem ss_asg {is : List Nat} (h : SE X Z e st st1 (.val d)) (hg : SG X Z tg d st1 st2 is) (hs : swapsWithSole [tg] e pos.line X.env = pure false) (hw : swappedStores [tg] e X.env = pure none) (hst : isStar tg = false) : SS X Z (.Assign [tg] e pos) st (.nx st2) :=
  ps_weak (ps_asg h hg hs hw (by cases tg <;> first | rfl | cases hst)) fun D σ H ⟨F, hr, k⟩ => ⟨F, hr, fun v F' H' ex hr' hv => ⟨F', hr', hv, fun σ2 F2 H2 _ e2 hr2 => k σ2 F2 H2 (ex.trans e2) hr2⟩⟩
/-! ### what is walked -/
def YOk (X : Cx) (Z : Env0) (F1 : Hp) (items : List D) (Y : Nat → Hp → V → Hp → Prop) : Prop := ∀ i H x H' F', Ex F1 F' → Ex F' H → Y i H x H' → ∃ d, items[i]? = some d ∧
  ((H' = H ∧ AtX X Z F' x d) ∨ ∃ p xs ds, x = .ref p ∧ H p = none ∧ H' = upd H p (.tup xs) ∧ d = .tup ds ∧ AtLX X Z F' xs ds)
def SI (X : Cx) (Z : Env0) (tg it : Expr) (st st1 : Sta) (items : List D) : Prop := ∃ wi, PI X tg it wi ∧ ∀ σ F H R, RelX X Z st σ F H →
  (∀ J F1 H1 Gd Y, Ex F F1 → RelX X Z st1 σ F1 H1 → Walk J items.length Gd Y → (∀ F' H', Ex F1 F' → Ex F' H' → Gd H') → YOk X Z F1 items Y → R J H1) → wi σ H R
theorem si_list (h : SE X Z it st st1 (.val (.lst items))) : SI X Z tg it st st1 items :=
  ⟨_, pi_list h, fun σ F H R hr k => ⟨F, hr, fun v F1 H1 ex hr1 hv => by
    obtain ⟨a, xs, rfl, hx, t⟩ := At.lst_inv hv
    refine ⟨a, rfl, ⟨xs, Or.inl (hr1.ext.rd hx)⟩, k _ F1 H1 _ _ ex hr1 (by rw [← t.length]; exact walk_list (xs := xs)) (fun F' H' e1 e2 => Or.inl (e2.rd (e1.rd hx))) fun i H x H' F' e1 e2 y => ?_⟩
    obtain ⟨d, h1, h2⟩ := t.get y.2
    exact ⟨d, h1, .inl ⟨y.1, At.mono h2 e1⟩⟩⟩⟩
theorem si_tup (h : SE X Z it st st1 (.val (.tup items))) : SI X Z tg it st st1 items :=
  ⟨_, pi_tup h, fun σ F H R hr k => ⟨F, hr, fun v F1 H1 ex hr1 hv => by
    obtain ⟨a, xs, rfl, hx, t⟩ := At.tup_inv hv
    refine ⟨a, rfl, ⟨xs, hr1.ext.sqT hx⟩, k _ F1 H1 _ _ ex hr1 (by rw [← t.length]; exact walk_tup (xs := xs)) (fun F' H' e1 e2 => e2.sqT (e1.sqT hx)) fun i H x H' F' e1 e2 y => ?_⟩
    obtain ⟨d, h1, h2⟩ := t.get y.2
    exact ⟨d, h1, .inl ⟨y.1, At.mono h2 e1⟩⟩⟩⟩
def rangeD (n : Nat) : List D := (List.range n).map fun (i : Nat) => D.int (i : Int)
theorem si_range1 {j : Int} (hg : Gl X "range") (hm : X.mg "range" = none) (h : SA X Z [e] st st1 [.int j]) (hs : isStar e = false) (h1 : -(2 ^ 62) ≤ j) (h2 : j < 2 ^ 62) : SI X Z tg (.Call (.Name "range" p) [e] [] pos) st st1 (rangeD j.toNat) :=
  ⟨_, pi_range1 hg hm h (by rw [starEach_cons hs] <;> rfl), fun σ F H R hr k => ⟨F, hr, fun vs F1 H1 ex hr1 hv => by
    obtain ⟨v, rfl, hv'⟩ := hv.inv1
    obtain rfl := At.int_inv hv'
    refine ⟨j, rfl, h1, h2, k _ F1 H1 _ _ ex hr1 (by
      have e : (rangeD j.toNat).length = j.toNat := by simp [rangeD]
      rw [e]
      exact walk_range.mono (G' := fun _ => True) (Y' := fun i H x H' => H' = H ∧ x = .int (0 + (i : Int)) ∧ i < j.toNat) (fun _ h => h) fun i H x H' hi _ y => ⟨y.1, y.2, hi⟩) (fun _ _ _ _ => True.intro) fun i H x H' F' e1 e2 y => ?_⟩
    obtain ⟨y1, y2, y3⟩ := y
    refine ⟨.int (i : Int), by simp [rangeD, y3], .inl ⟨y1, ?_⟩⟩
    subst y2
    have e : (0 : Int) + (i : Int) = i := by omega
    rw [e]
    exact .int _⟩⟩
def enumD : Nat → List D → List D
  | _, [] => []
  | k, d :: ds => .tup [.int (k : Int), d] :: enumD (k + 1) ds
theorem enumD_len : ∀ (k : Nat) (ds : List D), (enumD k ds).length = ds.length
  | _, [] => rfl
  | k, _ :: ds => congrArg (· + 1) (enumD_len (k + 1) ds)
theorem enumD_get : ∀ (k : Nat) (ds : List D) (i : Nat) (d : D), ds[i]? = some d → (enumD k ds)[i]? = some (.tup [.int ((k + i : Nat) : Int), d])
  | _, [], _, _, h => by simp at h
  | k, x :: ds, 0, d, h => by
    have e : x = d := by simpa using h
    subst e
    simp [enumD]
  | k, x :: ds, i + 1, d, h => by
    have h' : ds[i]? = some d := by simpa using h
    have := enumD_get (k + 1) ds i d h'
    show (enumD (k + 1) ds)[i]? = _
    rw [this]
    congr 4
    omega
theorem si_enum {tgs : List Expr} {c : _} {tp : Pos} (hg : Gl X "enumerate") (hm : X.mg "enumerate" = none) (h : SA X Z [e] st st1 [.lst items]) (hs : isStar e = false) : SI X Z (.Tuple tgs c tp) (.Call (.Name "enumerate" p) [e] [] pos) st st1 (enumD 0 items) :=
  ⟨_, pi_enum hg hm h (by rw [starEach_cons hs] <;> rfl), fun σ F H R hr k => ⟨F, hr, fun vs F1 H1 ex hr1 hv => by
    obtain ⟨v, rfl, hv'⟩ := hv.inv1
    obtain ⟨a, xs, rfl, hx, t⟩ := At.lst_inv hv'
    refine ⟨a, xs, rfl, Or.inl (hr1.ext.rd hx), k _ F1 H1 _ _ ex hr1 (by rw [enumD_len, ← t.length]; exact walk_enum (xs := xs)) (fun F' H' e1 e2 => Or.inl (e2.rd (e1.rd hx))) fun i H x H' F' e1 e2 y => ?_⟩
    obtain ⟨T, x1, y1, q1, q2, q3, q4, q5⟩ := y
    cases q4
    obtain ⟨d, h1, h2⟩ := t.get q5
    exact ⟨_, enumD_get 0 items i d h1, .inr ⟨T, _, _, q1, q2, q3, rfl, .cons (by rw [Nat.zero_add]; exact .int _) (.one (At.mono h2 e1))⟩⟩⟩⟩
/-! ### for -/
/-- one turn: the target, the body -/
def TurnS (X : Cx) (Z : Env0) (tg : Expr) (body : List Stmt) (d : D) (st : Sta) (o : Out) : Prop := ∃ st' is, SG X Z tg d st st' is ∧ SSs X Z body st' o
inductive ForR (B : D → Sta → Out → Prop) : List D → Sta → Out → Prop where
  | nil (st : Sta) : ForR B [] st (.nx st)
  | nx {d : D} {ds : List D} {st st1 : Sta} {o : Out} (h : B d st (.nx st1)) (t : ForR B ds st1 o) : ForR B (d :: ds) st o
  | ct {d : D} {ds : List D} {st st1 : Sta} {o : Out} (h : B d st (.ct st1)) (t : ForR B ds st1 o) : ForR B (d :: ds) st o
  | bk {d : D} {ds : List D} {st st1 : Sta} (h : B d st (.bk st1)) : ForR B (d :: ds) st (.nx st1)
  | rt {d : D} {ds : List D} {st st1 : Sta} {r : R} (h : B d st (.rt r st1)) : ForR B (d :: ds) st (.rt r st1)
/-- what is wanted behind o -/
def KS (X : Cx) (Z : Env0) (D : Ends) (F : Hp) : Out → Prop
  | .nx st' => ∀ σ' F' H', Ex F F' → RelX X Z st' σ' F' H' → D.nx σ' H'
  | .rt r st' => ∀ v σ' F' H', Ex F F' → RelX X Z st' σ' F' H' → RAtX X Z st' σ' F' H' v r → D.rt v H'
  | .bk st' => ∀ σ' F' H', Ex F F' → RelX X Z st' σ' F' H' → D.bk σ' H'
  | .ct st' => ∀ σ' F' H', Ex F F' → RelX X Z st' σ' F' H' → D.ct σ' H'
theorem CS.ks {D : Ends} (h : CS X Z st o D σ H) : ∃ F, RelX X Z st σ F H ∧ KS X Z D F o := by
  obtain ⟨F, hr, k⟩ := h
  refine ⟨F, hr, ?_⟩
  cases o <;> exact k
theorem CS.of {D : Ends} (hr : RelX X Z st σ F H) (k : KS X Z D F o) : CS X Z st o D σ H := by
  refine ⟨F, hr, ?_⟩
  cases o <;> exact k
theorem KS.mono {D : Ends} (k : KS X Z D F o) (e : Ex F F') : KS X Z D F' o := by
  cases o with
  | nx st' => exact fun σ2 F2 H2 e2 r2 => k σ2 F2 H2 (e.trans e2) r2
  | rt r st' => exact fun v σ2 F2 H2 e2 r2 hv => k v σ2 F2 H2 (e.trans e2) r2 hv
  | bk st' => exact fun σ2 F2 H2 e2 r2 => k σ2 F2 H2 (e.trans e2) r2
  | ct st' => exact fun σ2 F2 H2 e2 r2 => k σ2 F2 H2 (e.trans e2) r2
theorem ForR.out {B : D → Sta → Out → Prop} {ds : List D} (h : ForR B ds st o) : (∃ st', o = .nx st') ∨ ∃ r st', o = .rt r st' := by
  induction h with
  | nil st => exact .inl ⟨_, rfl⟩
  | nx _ _ ih => exact ih
  | ct _ _ ih => exact ih
  | bk _ => exact .inl ⟨_, rfl⟩
  | rt _ => exact .inr ⟨_, _, rfl⟩
/-- an item that is drawn stands for good -/
theorem yok_in {Y : Nat → Hp → V → Hp → Prop} {F1 : Hp} {i : Nat} {v : V} (y : YOk X Z F1 items Y) (hr : RelX X Z st σ F H) (e1 : Ex F1 F) (h : Y i H v H') : ∃ d F', items[i]? = some d ∧ Ex F F' ∧ RelX X Z st σ F' H' ∧ AtX X Z F' v d ∧ ∀ a o, H a = some o → H' a = some o ∧ (F a = none → F' a = none) := by
  obtain ⟨d, hd, q⟩ := y i H v H' F e1 hr.ext h
  rcases q with ⟨e, ht⟩ | ⟨q, xs, ds, ev, hn, eH, ed, t⟩
  · subst e
    exact ⟨d, F, hd, Ex.refl F, hr, ht, fun _ _ h => ⟨h, fun h => h⟩⟩
  · subst ev eH ed
    have nF := hr.ext.none hn
    exact ⟨_, upd F q (.tup xs), hd, Ex.new nF, hr.newF hn, .tup (SqT.of upd_same) (AtL.mono t (Ex.new nF)), fun a o h => ⟨Ex.new hn a o h, fun h2 => by rw [upd_ne (ne_of_none h hn)]; exact h2⟩⟩
theorem drop_cons {α : Type} {l : List α} {i : Nat} {d : α} (h : l[i]? = some d) : l.drop i = d :: l.drop (i + 1) := by
  obtain ⟨hl, e⟩ := List.getElem?_eq_some_iff.mp h
  rw [← e]
  exact (List.drop_eq_getElem_cons hl)
theorem ss_for (hpo : PassesOwn (model X.prog X.w) X.A X.env X.xe) (hc : X.calm = true) (hi : SI X Z tg it st st1 items) (hf : ForR (TurnS X Z tg body) items st1 o) (hs : ∀ x, foldedSetIterable it X.env x = pure x) : SS X Z (.For tg it body [] pos) st o := by
  obtain ⟨wi, pwi, hw⟩ := hi
  refine ps_weak (ps_for hpo hc pwi (pg_any (Z := Z)) (pss_any (Z := Z)) hs) fun D σ H hk => ?_
  obtain ⟨F, hr, k⟩ := hk.ks
  refine hw σ F H _ hr fun J F1 H1 Gd Y e1 hr1 wk hG hY => ?_
  refine for_it wk (fun i σ H => ∃ st' F', Ex F1 F' ∧ RelX X Z st' σ F' H ∧ ForR (TurnS X Z tg body) (items.drop i) st' o) ⟨st1, F1, Ex.refl F1, hr1, hf⟩ (fun i σ H _ ⟨st', F', x1, x2, _⟩ => hG F' H x1 x2.ext) (fun i v σ H H' hi ⟨st', F', x1, x2, x3⟩ y => ?_) fun σ H ⟨st', F', x1, x2, x3⟩ => ?_
  · obtain ⟨d, F2, hd, e2, hr2, hv, _⟩ := yok_in hY x2 x1 y
    rw [drop_cons hd] at x3
    cases x3 with
    | nx h t =>
      obtain ⟨st3, is, h1, h2⟩ := h
      exact ⟨d, _, _, _, h1, F2, hr2, hv, fun σ3 F3 H3 _ e3 hr3 => ⟨_, _, h2, F3, hr3, fun σ4 F4 H4 e4 hr4 => ⟨_, F4, (x1.trans (e2.trans e3)).trans e4, hr4, t⟩⟩⟩
    | ct h t =>
      obtain ⟨st3, is, h1, h2⟩ := h
      exact ⟨d, _, _, _, h1, F2, hr2, hv, fun σ3 F3 H3 _ e3 hr3 => ⟨_, _, h2, F3, hr3, fun σ4 F4 H4 e4 hr4 => ⟨_, F4, (x1.trans (e2.trans e3)).trans e4, hr4, t⟩⟩⟩
    | bk h =>
      obtain ⟨st3, is, h1, h2⟩ := h
      exact ⟨d, _, _, _, h1, F2, hr2, hv, fun σ3 F3 H3 _ e3 hr3 => ⟨_, _, h2, F3, hr3, fun σ4 F4 H4 e4 hr4 => k σ4 F4 H4 (e1.trans ((x1.trans (e2.trans e3)).trans e4)) hr4⟩⟩
    | rt h =>
      obtain ⟨st3, is, h1, h2⟩ := h
      exact ⟨d, _, _, _, h1, F2, hr2, hv, fun σ3 F3 H3 _ e3 hr3 => ⟨_, _, h2, F3, hr3, fun v σ4 F4 H4 e4 hr4 hv4 => k v σ4 F4 H4 (e1.trans ((x1.trans (e2.trans e3)).trans e4)) hr4 hv4⟩⟩
  · rw [List.drop_eq_nil_of_le (Nat.le_refl _)] at x3
    cases x3
    exact k σ F' H (e1.trans x1) x2
end
end PV


set_option Elab.async false
set_option linter.all false
set_option maxRecDepth 100000
set_option maxHeartbeats 4000000
namespace PV
open PySem L2
open PySem.W (Frag)
section
variable {K : Frag} {G : Str → Addr} {H0 F0 F F' H H' : Hp} {io : List (Nat × Addr)} {st st2 : Sta} {σ σ' : L2.St} {a p D : Addr} {vs : List Nat}
theorem Rel.resig (r : Rel K G H0 F0 io st σ F H) (hl : σ'.length = σ.length) (h : ∀ (i : Nat) (s : Slot), st[i]? = some (some s) → σ'[i]? = σ[i]?) (hio : ∀ (i : Nat) (a : Addr), (i, a) ∈ io → σ'[i]? = σ[i]?) : Rel K G H0 F0 io st σ' F H where
  ext := r.ext
  gf := r.gf
  fr := r.fr
  ioH := fun i a q => by
    obtain ⟨h1, h2, h3⟩ := r.ioH i a q
    exact ⟨h1, h2, (hio i a q).trans h3⟩
  len := r.len.trans hl.symm
  sl := fun i s q => by
    obtain ⟨v, h1, h2⟩ := r.sl i s q
    exact ⟨v, (h i s q).trans h1, h2⟩
  sep := fun i j ci cj hne hi hj => by
    rw [h i _ hi, h j _ hj]
    exact r.sep i j ci cj hne hi hj
  one := r.one
theorem Rel.clear (r : Rel K G H0 F0 io st σ F H) (i : Nat) : Rel K G H0 F0 io (st.set i none) σ F H := by
  have back : ∀ (j : Nat) (s : Slot), (st.set i none)[j]? = some (some s) → st[j]? = some (some s) := fun j s hj => by
    by_cases e : j = i
    · subst e
      by_cases hl : j < st.length
      · rw [List.getElem?_set_self hl] at hj
        cases hj
      · rw [List.getElem?_eq_none (by rw [List.length_set]; omega)] at hj
        cases hj
    · rw [List.getElem?_set_ne (Ne.symm e)] at hj
      exact hj
  exact ⟨r.ext, r.gf, r.fr, r.ioH, by rw [List.length_set]; exact r.len, fun j s hj => r.sl j s (back j s hj), fun j k cj ck hne hj hk => r.sep j k cj ck hne (back j _ hj) (back k _ hk), fun j C fs hj => r.one j C fs (back j _ hj)⟩
def wipeS (st : Sta) : List Nat → Sta
  | [] => st
  | v :: vs => (wipeS st vs).set v none
theorem Rel.wipeS (r : Rel K G H0 F0 io st σ F H) : ∀ vs : List Nat, Rel K G H0 F0 io (PV.wipeS st vs) σ F H
  | [] => r
  | v :: vs => (r.wipeS vs).clear v
theorem wipeS_some {i : Nat} {s : Slot} : ∀ {vs : List Nat}, (wipeS st vs)[i]? = some (some s) → st[i]? = some (some s) ∧ i ∉ vs
  | [], h => ⟨h, by simp⟩
  | v :: vs, h => by
    unfold wipeS at h
    by_cases hi : v = i
    · subst hi
      by_cases hv : v < (wipeS st vs).length
      · rw [List.getElem?_set_self hv] at h; cases h
      · rw [List.getElem?_eq_none (by simpa using hv)] at h; cases h
    · rw [List.getElem?_set_ne hi] at h
      obtain ⟨h1, h2⟩ := wipeS_some h
      exact ⟨h1, fun z => by
        rcases List.mem_cons.mp z with z | z
        · exact hi z.symm
        · exact h2 z⟩
theorem wipe_out {i : Nat} : ∀ {vs : List Nat}, i ∉ vs → (wipe σ vs)[i]? = σ[i]?
  | [], _ => rfl
  | v :: vs, h => by
    unfold wipe
    rw [List.getElem?_set_ne (fun z => h (by simp [z])), wipe_out fun z => h (List.mem_cons_of_mem _ z)]
theorem wipe_in {i : Nat} : ∀ {vs : List Nat}, i ∈ vs → (wipe σ vs)[i]? = if i < σ.length then some none else none
  | [], h => by simp at h
  | v :: vs, h => by
    unfold wipe
    by_cases e : v = i
    · subst e
      by_cases hl : v < σ.length
      · rw [List.getElem?_set_self (by rw [wipe_length]; exact hl), if_pos hl]
      · rw [List.getElem?_eq_none (by rw [List.length_set, wipe_length]; omega), if_neg hl]
    · rw [List.getElem?_set_ne e]
      rcases List.mem_cons.mp h with z | z
      · exact absurd z.symm e
      · exact wipe_in z
theorem wipe_outOf {is : List Nat} (h : OutOf is (wipe σ vs) σ') (hs : ∀ j ∈ is, j ∈ vs) : wipe σ' vs = wipe σ vs := by
  have hl : σ'.length = σ.length := h.1.trans (wipe_length σ vs)
  apply List.ext_getElem?
  intro i
  by_cases hi : i ∈ vs
  · rw [wipe_in hi, wipe_in hi, hl]
  · rw [wipe_out hi, h.2 i fun z => hi (hs i z)]
theorem Rel.towipe (r : Rel K G H0 F0 io st σ F H) (hst : ∀ (i : Nat) (s : Slot), st[i]? = some (some s) → i ∉ vs) (hio : ∀ (i : Nat) (a : Addr), (i, a) ∈ io → i ∉ vs) : Rel K G H0 F0 io st (wipe σ vs) F H :=
  r.resig (wipe_length σ vs) (fun i s h => wipe_out (hst i s h)) fun i a h => wipe_out (hio i a h)
theorem Rel.unwipe (r : Rel K G H0 F0 io st (wipe σ vs) F H) (hst : ∀ (i : Nat) (s : Slot), st[i]? = some (some s) → i ∉ vs) (hio : ∀ (i : Nat) (a : Addr), (i, a) ∈ io → i ∉ vs) : Rel K G H0 F0 io st σ F H :=
  r.resig (wipe_length σ vs).symm (fun i s h => (wipe_out (hst i s h)).symm) fun i a h => (wipe_out (hio i a h)).symm
/-- the own cells, by slots from k on -/
def ownIO : Nat → Sta → L2.St → List (Nat × Addr)
  | k, some (.own _) :: st, some (.ref a) :: σ => (k, a) :: ownIO (k + 1) st σ
  | k, _ :: st, _ :: σ => ownIO (k + 1) st σ
  | _, _, _ => []
theorem ownIO_mem {i : Nat} : ∀ {k : Nat} {st : Sta} {σ : L2.St}, (i, a) ∈ ownIO k st σ → ∃ j c, i = k + j ∧ st[j]? = some (some (Slot.own c)) ∧ σ[j]? = some (some (V.ref a))
  | k, [], σ, h => by
    unfold ownIO at h
    simp at h
  | k, s :: st, [], h => by
    unfold ownIO at h
    split at h <;> simp_all
  | k, s :: st, v :: σ, h => by
    have step : (i, a) ∈ ownIO (k + 1) st σ → ∃ j c, i = k + j ∧ (s :: st)[j]? = some (some (Slot.own c)) ∧ (v :: σ)[j]? = some (some (V.ref a)) := fun h => by
      obtain ⟨j, c, h1, h2, h3⟩ := ownIO_mem h
      exact ⟨j + 1, c, by omega, by simpa using h2, by simpa using h3⟩
    unfold ownIO at h
    split at h
    · rename_i e1 e2
      cases e1
      cases e2
      rcases List.mem_cons.mp h with z | z
      · cases z
        exact ⟨0, _, rfl, rfl, rfl⟩
      · exact step z
    · rename_i e1 e2
      cases e1
      cases e2
      exact step h
    · simp at h
theorem mem_ownIO {j : Nat} {c : Cell} : ∀ {k : Nat} {st : Sta} {σ : L2.St}, st[j]? = some (some (Slot.own c)) → σ[j]? = some (some (V.ref a)) → (k + j, a) ∈ ownIO k st σ
  | k, [], σ, h, _ => by simp at h
  | k, s :: st, [], _, h => by simp at h
  | k, s :: st, v :: σ, h1, h2 => by
    cases j with
    | zero =>
      have e1 : s = some (Slot.own c) := by simpa using h1
      have e2 : v = some (V.ref a) := by simpa using h2
      subst e1 e2
      exact List.mem_cons_self
    | succ j =>
      have ih := mem_ownIO (k := k + 1) (st := st) (σ := σ) (j := j) (c := c) (by simpa using h1) (by simpa using h2)
      rw [show k + 1 + j = k + (j + 1) by omega] at ih
      unfold ownIO
      split
      · rename_i e1 e2
        cases e1
        cases e2
        exact List.mem_cons_of_mem _ ih
      · rename_i e1 e2
        cases e1
        cases e2
        exact ih
      · rename_i x y
        exact absurd rfl (y _ _ _ _ rfl)
/-- the state as it is becomes what is protected; what the names own is handed in -/
theorem Rel.enter (r : Rel K G H0 F0 io st σ F H) : Rel K G H F (ownIO 0 st σ) st σ F H where
  ext := r.ext
  gf := fun a o h => .inl ⟨o, h⟩
  fr := fun a o h _ => h
  ioH := fun i a h => by
    obtain ⟨j, c, h1, h2, h3⟩ := ownIO_mem h
    rw [Nat.zero_add] at h1
    subst h1
    obtain ⟨v, q1, a', ev, _, _, hc⟩ := r.sl i _ h2
    rw [h3] at q1
    cases q1
    cases ev
    exact ⟨hc.at, hc.at, h3⟩
  len := r.len
  sl := fun i s h => by
    obtain ⟨v, h1, h2⟩ := r.sl i s h
    refine ⟨v, h1, ?_⟩
    match s, h2, h with
    | .val d, h2, _ => exact h2
    | .own c, ⟨a, ev, hF, h0, hc⟩, h =>
      subst ev
      have := mem_ownIO (k := 0) h h1
      rw [Nat.zero_add] at this
      exact ⟨a, rfl, hF, .inr ⟨i, this⟩, hc⟩
  sep := r.sep
  one := r.one
/-- and back: from a state reached within -/
theorem Rel.leave (r : Rel K G H0 F0 io st σ F H) (r2 : Rel K G H F (ownIO 0 st σ) st2 σ' F' H') (hio : ∀ (i : Nat) (a : Addr), (i, a) ∈ io → σ'[i]? = σ[i]?) : Rel K G H0 F0 io st2 σ' F' H' where
  ext := r2.ext
  gf := fun a o h => by
    rcases r2.gf a o h with ⟨u, hu⟩ | hn | ⟨i, hi⟩
    · exact r.gf a u hu
    · exact .inr (.inl (r.fresh0 hn))
    · obtain ⟨j, c, h1, h2, h3⟩ := ownIO_mem hi
      obtain ⟨v, q1, a', ev, _, h0, hc⟩ := r.sl j _ h2
      rw [h3] at q1
      cases q1
      cases ev
      exact h0.elim (fun z => .inr (.inl z)) fun z => .inr (.inr z)
  fr := fun a o h n => by
    have h1 := r.fr a o h n
    refine r2.fr a o h1 fun i hi => ?_
    obtain ⟨j, c, _, h2, h3⟩ := ownIO_mem hi
    obtain ⟨v, q1, a', ev, _, h0, hc⟩ := r.sl j _ h2
    rw [h3] at q1
    cases q1
    cases ev
    rcases h0 with h0 | ⟨k, hk⟩
    · rw [h0] at h
      cases h
    · exact n k hk
  ioH := fun i a h => by
    obtain ⟨h1, ⟨u, h2⟩, h3⟩ := r.ioH i a h
    refine ⟨h1, ?_, (hio i a h).trans h3⟩
    by_cases hn : ∀ j, (j, a) ∉ ownIO 0 st σ
    · exact ⟨u, r2.fr a u h2 hn⟩
    · have hn2 : ∃ j, (j, a) ∈ ownIO 0 st σ := Classical.byContradiction fun z => hn fun j hj => z ⟨j, hj⟩
      obtain ⟨j, hj⟩ := hn2
      exact (r2.ioH j a hj).2.1
  len := r2.len
  sl := fun i s h => by
    obtain ⟨v, h1, h2⟩ := r2.sl i s h
    refine ⟨v, h1, ?_⟩
    match s, h2 with
    | .val d, h2 => exact h2
    | .own c, ⟨a, ev, hF, h0, hc⟩ =>
      refine ⟨a, ev, hF, ?_, hc⟩
      rcases h0 with h0 | ⟨j, hj⟩
      · exact .inl (r.fresh0 h0)
      · obtain ⟨j', c', _, h2, h3⟩ := ownIO_mem hj
        obtain ⟨v, q1, a', ev, _, h0, _⟩ := r.sl j' _ h2
        rw [h3] at q1
        cases q1
        cases ev
        exact h0
  sep := r2.sep
  one := r2.one
/-- a list that no name owns is changed -/
theorem Rel.setTmp (r : Rel K G H0 F0 io st σ F H) {o o' : HO} (hD : H D = some o) (hk : ∀ dx xs, o ≠ exd dx xs) (hF : F D = none) (h0 : H0 D = none) (nh : ∀ (i : Nat) (c' : Cell), st[i]? = some (some (Slot.own c')) → σ[i]? ≠ some (some (V.ref D))) : Rel K G H0 F0 io st σ F (upd H D o') where
  ext := fun a o h => by
    rw [upd_ne (fun z => by subst z; rw [hF] at h; cases h)]
    exact r.ext a o h
  gf := r.gf
  fr := fun a o h n => by
    rw [upd_ne (fun z => by subst z; rw [h0] at h; cases h)]
    exact r.fr a o h n
  ioH := fun i a h => by
    obtain ⟨⟨u, h1⟩, h2, h3⟩ := r.ioH i a h
    refine ⟨⟨u, h1⟩, ?_, h3⟩
    rw [upd_ne (fun z => by subst z; rw [h0] at h1; cases h1)]
    exact h2
  len := r.len
  sl := fun i s h => by
    obtain ⟨v, h1, h2⟩ := r.sl i s h
    refine ⟨v, h1, ?_⟩
    match s, h2, h with
    | .val d, h2, _ => exact h2
    | .own c, ⟨b, ev, hF', h0', hc⟩, h =>
      subst ev
      have hb : b ≠ D := fun z => by
        subst z
        exact nh i c h h1
      refine ⟨b, rfl, hF', h0', ?_⟩
      match c, hc with
      | .lst ds, ⟨xs, q, t⟩ => exact ⟨xs, by rw [upd_ne hb]; exact q, t⟩
      | .dct ds, ⟨xs, q, t⟩ => exact ⟨xs, by rw [upd_ne hb]; exact q, t⟩
      | .ins C ds, ⟨dx, xs, q, t⟩ => exact ⟨dx, xs, by rw [upd_ne hb]; exact q, t⟩
      | .exo C [], q => exact (upd_ne hb).trans q
      | .exo C (f :: fs), ⟨dx, xs, q, q2, q3, t⟩ =>
        refine ⟨dx, xs, by rw [upd_ne hb]; exact q, ?_, q3, t⟩
        have hd : dx ≠ D := fun z => by
          subst z
          rw [hD] at q2
          exact hk _ _ (Option.some.inj q2)
        rw [upd_ne hd]
        exact q2
  sep := r.sep
  one := r.one
/-- an object that nobody owns and nobody shares is as it was -/
theorem Rel.temp (r : Rel K G H0 F0 io st σ F H) (r2 : Rel K G H F (ownIO 0 st σ) st2 σ' F' H') {o : HO} (hD : H D = some o) (hF : F D = none) (nh : ∀ (i : Nat) (c' : Cell), st[i]? = some (some (Slot.own c')) → σ[i]? ≠ some (some (V.ref D))) : H' D = some o ∧ F' D = none ∧ ∀ (i : Nat) (c' : Cell), st2[i]? = some (some (Slot.own c')) → σ'[i]? ≠ some (some (V.ref D)) := by
  have nio : ∀ i, (i, D) ∉ ownIO 0 st σ := fun i hi => by
    obtain ⟨j, c, _, h2, h3⟩ := ownIO_mem hi
    exact nh j c h2 h3
  refine ⟨r2.fr D o hD nio, ?_, fun i c' h z => ?_⟩
  · cases q : F' D with
    | none => rfl
    | some u =>
      rcases r2.gf D u q with ⟨w, hw⟩ | hn | ⟨i, hi⟩
      · rw [hF] at hw
        cases hw
      · rw [hD] at hn
        cases hn
      · exact absurd hi (nio i)
  · obtain ⟨v, q1, a', ev, _, h0, _⟩ := r2.sl i _ h
    rw [z] at q1
    cases q1
    cases ev
    rcases h0 with h0 | ⟨j, hj⟩
    · rw [hD] at h0
      cases h0
    · exact nio j hj
end
end PV


set_option Elab.async false
set_option linter.all false
set_option maxRecDepth 100000
set_option maxHeartbeats 4000000
namespace PV
open PySem L2
open PySem.W (Frag)
/-- in every block of the comprehension -/
def blkAll (X : Cx) (scope : Scope) (P : Cx → Prop) : Prop := ∀ (s : Shared) (H : Hp) (C : Addr) (cl : List (Str × Addr)) (fp : List Addr), P (X.blk s H scope (compEnvC scope cl C X.env) fp)
def STs (X : Cx) (Z : Env0) (ifs : List Expr) (st st' : Sta) (b : Bool) : Prop := PTs X ifs (CT X Z st st' b)
/-- what is handed in within: the names' own cells -/
def InOk (Z : Env0) (st : Sta) (Z' : Env0) : Prop := Z'.G = Z.G ∧ ∀ (i : Nat) (a : Addr), (i, a) ∈ Z'.io → ∃ c, st[i]? = some (some (Slot.own c))
section
variable (X : Cx) (Z : Env0) (scope : Scope) (tg : Expr) (ifs : List Expr) (elt : Expr) (vs : List Nat)
/-- one turn of a comprehension: what it gives -/
def TurnC (d : D) (st : Sta) (ry : Option D) (st' : Sta) : Prop := ∃ (st1 st2 : Sta) (is : List Nat) (b : Bool), (∀ j ∈ is, j ∈ vs) ∧ (∀ Z', InOk Z st Z' → blkAll X scope fun X' => SG X' Z' tg d st st1 is) ∧
  (∀ Z', InOk Z st Z' → blkAll X scope fun X' => STs X' Z' ifs st1 st2 b) ∧ match ry with
    | none => b = false ∧ st' = wipeS st2 vs
    | some y => b = true ∧ ∃ st3, (∀ Z', InOk Z st Z' → blkAll X scope fun X' => SE X' Z' elt st2 st3 (.val y)) ∧ st' = wipeS st3 vs
end
inductive LcR (B : D → Sta → Option D → Sta → Prop) : List D → Sta → List D → Sta → Prop where
  | nil (st : Sta) : LcR B [] st [] st
  | skip {d : D} {ds ys : List D} {st st1 st2 : Sta} (h : B d st none st1) (t : LcR B ds st1 ys st2) : LcR B (d :: ds) st ys st2
  | take {d y : D} {ds ys : List D} {st st1 st2 : Sta} (h : B d st (some y) st1) (t : LcR B ds st1 ys st2) : LcR B (d :: ds) st (y :: ys) st2
section
variable {X : Cx} {Z : Env0} {st st1 st2 st3 : Sta} {e e1 e2 tg it elt : Expr} {es ifs : List Expr} {r : R} {d x y z : D} {s : Stmt} {ss body : List Stmt} {o : Out} {pos p p' : Pos} {σ : L2.St} {F F' H H' : Hp} {v u : V} {b : Bool} {f n : Str} {k : Nat} {items ys : List D} {scope : Scope} {own : List (Str × Nat)}
def lcG (X : Cx) (scope : Scope) (tg : Expr) : TG := fun v σ H Q => ∃ t : TG, (blkAll X scope fun X' => PG X' tg t) ∧ t v σ H Q
def lcT (X : Cx) (scope : Scope) (ifs : List Expr) : TT := fun σ H Q => ∃ t : TT, (blkAll X scope fun X' => PTs X' ifs t) ∧ t σ H Q
def lcE (X : Cx) (scope : Scope) (elt : Expr) : TE := fun σ H Q => ∃ t : TE, (blkAll X scope fun X' => PE X' elt t) ∧ t σ H Q
theorem lc_g (s : Shared) (H : Hp) (C : Addr) (cl : List (Str × Addr)) (fp : List Addr) : PG (X.blk s H scope (compEnvC scope cl C X.env) fp) tg (lcG X scope tg) := ⟨fun pins s' σ H' v u Q I r ⟨t, h, q⟩ => (h s H C cl fp).run pins s' σ H' v u Q I r q⟩
theorem lc_t (s : Shared) (H : Hp) (C : Addr) (cl : List (Str × Addr)) (fp : List Addr) : PTs (X.blk s H scope (compEnvC scope cl C X.env) fp) ifs (lcT X scope ifs) := ⟨fun pins s' σ H' Q I ⟨t, h, q⟩ => (h s H C cl fp).run pins s' σ H' Q I q⟩
theorem lc_e (s : Shared) (H : Hp) (C : Addr) (cl : List (Str × Addr)) (fp : List Addr) : PE (X.blk s H scope (compEnvC scope cl C X.env) fp) elt (lcE X scope elt) := ⟨fun pins s' σ H' Q I ⟨t, h, q⟩ => (h s H C cl fp).run pins s' σ H' Q I q⟩
/-- what every state through the comprehension keeps: its own names stand for nothing without -/
def Clean (st : Sta) (vs : List Nat) : Prop := ∀ (i : Nat) (s : Slot), st[i]? = some (some s) → i ∉ vs
theorem clean_wipe {vs : List Nat} : Clean (wipeS st vs) vs := fun i s h => (wipeS_some h).2
theorem lc_read (hi : SI X Z tg it st st1 items) (hcl : Clean st1 (own.map (·.2))) (hio : ∀ (i : Nat) (a : Addr), (i, a) ∈ Z.io → i ∉ own.map (·.2)) (hf : LcR (TurnC X Z scope tg ifs elt (own.map (·.2))) items st1 ys st2) (hl : items.length < sizeLine) :
    ∃ wi, PI X tg it wi ∧ ∀ σ H Q, CE X Z st st2 (.own (.lst ys)) σ H Q → tLc wi (lcG X scope tg) (lcT X scope ifs) (lcE X scope elt) (own.map (·.2)) σ H Q := by
  obtain ⟨wi, pwi, hw⟩ := hi
  refine ⟨wi, pwi, fun σ H Q ⟨F, hr, k⟩ => ?_⟩
  refine hw σ F H _ hr fun J F1 H1 Gd Y e1 hr1 wk hG hY => ?_
  intro La hD
  refine lc_it wk (fun i H => ∃ (st' : Sta) (F' : Hp) (acc : List V) (pre rest : List D), Ex F1 F' ∧ RelX X Z st' (wipe σ (own.map (·.2))) F' H ∧ Clean st' (own.map (·.2)) ∧ H La = some (.lst acc) ∧ F' La = none ∧ Z.H0 La = none ∧
      (∀ (i : Nat) (c' : Cell), st'[i]? = some (some (Slot.own c')) → (wipe σ (own.map (·.2)))[i]? ≠ some (some (V.ref La))) ∧ AtLX X Z F' acc pre ∧ pre.length ≤ i ∧ LcR (TurnC X Z scope tg ifs elt (own.map (·.2))) (items.drop i) st' rest st2 ∧ pre ++ rest = ys) ?_ (fun i H _ ⟨st', F', acc, pre, rest, x1, x2, _⟩ => hG F' H x1 x2.ext) ?_ ?_
  · refine ⟨st1, F1, [], [], ys, Ex.refl F1, (hr1.new hD).towipe hcl hio, hcl, upd_same, hr1.ext.none hD, hr1.fresh0 hD, fun i c' h z => ?_, .nil, Nat.zero_le _, hf, rfl⟩
    exact hr1.notheld hD i c' h (wipe_some z).1 
  · rintro i v H H' hi ⟨st', F', acc, pre, rest, x1, x2, xc, xD, xF, x0, xn, xa, xl, xr, xe⟩ y
    obtain ⟨d, F2, hd, e2, hr2, hv, hk⟩ := yok_in hY x2 x1 y
    have hDs := hk La _ xD
    rw [drop_cons hd] at xr
    have zok : InOk Z st' ⟨Z.G, H', F2, ownIO 0 st' (wipe σ (own.map (·.2)))⟩ := ⟨rfl, fun i a h => by
      obtain ⟨j, c, h1, h2, _⟩ := ownIO_mem h
      rw [Nat.zero_add] at h1
      subst h1
      exact ⟨c, h2⟩⟩
    have rin := hr2.enter
    -- the state behind a turn
    have back : ∀ {st3 : Sta} {σ2 : L2.St} {F3 H3 : Hp} {is : List Nat}, (∀ j ∈ is, j ∈ own.map (·.2)) → OutOf is (wipe σ (own.map (·.2))) σ2 → Rel X.K Z.G H' F2 (ownIO 0 st' (wipe σ (own.map (·.2)))) st3 σ2 F3 H3 →
        RelX X Z (wipeS st3 (own.map (·.2))) (wipe σ (own.map (·.2))) F3 H3 ∧ H3 La = some (.lst acc) ∧ F3 La = none ∧ ∀ (i : Nat) (c' : Cell), (wipeS st3 (own.map (·.2)))[i]? = some (some (Slot.own c')) → (wipe σ (own.map (·.2)))[i]? ≠ some (some (V.ref La)) := by
      intro st3 σ2 F3 H3 is hs oo r3
      have rl := hr2.leave r3 (fun i a h => oo.2 i fun z => hio i a h (hs i z))
      obtain ⟨t1, t2, t3⟩ := hr2.temp r3 hDs.1 (hDs.2 xF) xn
      have ew := wipe_outOf oo hs
      have rw1 := (rl.wipeS (own.map (·.2))).towipe (vs := own.map (·.2)) (fun i s h => (wipeS_some h).2) hio
      rw [ew] at rw1
      refine ⟨rw1, t1, t2, fun i c' h z => ?_⟩
      obtain ⟨h1, h2⟩ := wipeS_some h
      rw [← ew, wipe_out h2] at z
      exact t3 i c' h1 z
    cases xr with
    | skip h t =>
      obtain ⟨st3, st4, is, b, hs, hg, ht, hb, est⟩ := h
      subst hb est
      refine ⟨CG X ⟨Z.G, H', F2, ownIO 0 st' (wipe σ (own.map (·.2)))⟩ d st' st3 is, hg _ zok, F2, rin, hv, fun σ2 F3 H3 oo e3 r3 => ⟨wipe_outOf oo hs, CT X ⟨Z.G, H', F2, ownIO 0 st' (wipe σ (own.map (·.2)))⟩ st3 st4 _, ht _ zok, F3, r3, fun F4 H4 e4 r4 => ?_⟩⟩
      refine (if_neg Bool.false_ne_true).mpr ?_
      obtain ⟨q1, q2, q3, q4⟩ := back hs oo r4
      exact ⟨_, F4, acc, pre, rest, x1.trans (e2.trans (e3.trans e4)), q1, clean_wipe, q2, q3, x0, q4, AtL.mono xa (e2.trans (e3.trans e4)), Nat.le_succ_of_le xl, t, xe⟩
    | @take _ yy _ rest' _ _ _ h t =>
      obtain ⟨st3, st4, is, b, hs, hg, ht, hb, st5, he, est⟩ := h
      subst hb est
      refine ⟨CG X ⟨Z.G, H', F2, ownIO 0 st' (wipe σ (own.map (·.2)))⟩ d st' st3 is, hg _ zok, F2, rin, hv, fun σ2 F3 H3 oo e3 r3 => ⟨wipe_outOf oo hs, CT X ⟨Z.G, H', F2, ownIO 0 st' (wipe σ (own.map (·.2)))⟩ st3 st4 _, ht _ zok, F3, r3, fun F4 H4 e4 r4 => ?_⟩⟩
      refine (if_pos rfl).mpr ⟨CE X ⟨Z.G, H', F2, ownIO 0 st' (wipe σ (own.map (·.2)))⟩ st4 st5 (.val yy), he _ zok, F4, r4, fun w F5 H5 e5 r5 hw5 => ?_⟩
      obtain ⟨q1, q2, q3, q4⟩ := back hs oo r5
      have x5 : Ex F' F5 := e2.trans (e3.trans (e4.trans e5))
      have hacc : acc.length ≤ i := by rw [AtL.length xa]; exact xl
      refine ⟨acc, q2, by omega, ?_⟩
      have rD : RelX X Z (wipeS st5 (own.map (·.2))) (wipe σ (own.map (·.2))) F5 (upd H5 La (.lst (acc ++ [w]))) := by
        exact q1.setTmp q2 (fun dx xs z => by cases (show HO.lst _ = HO.ext _ from z)) q3 x0 q4
      exact ⟨_, F5, acc ++ [w], pre ++ [yy], rest', x1.trans x5, rD, clean_wipe, upd_same, q3, x0, q4, (AtL.mono xa x5).append (.one hw5), by rw [List.length_append]; exact Nat.succ_le_succ xl, t, by rw [List.append_assoc]; exact xe⟩
  · rintro H ⟨st', F', acc, pre, rest, x1, x2, xc, xD, xF, x0, xn, xa, xl, xr, xe⟩
    rw [List.drop_eq_nil_of_le (Nat.le_refl _)] at xr
    cases xr
    rw [List.append_nil] at xe
    subst xe
    refine k _ F' H (e1.trans x1) (x2.unwipe xc hio) ⟨La, rfl, xF, x0, ⟨acc, xD, xa⟩, fun i c' h => ?_⟩
    have := xn i c' h
    rw [wipe_out (xc i _ h)] at this
    exact this
theorem se_lc (hc : X.calm = true) (hN : X.N.Nodup) (hi : SI X Z tg it st st1 items) (ok : BlkOk X.N X.env.scope scope own) (hcl : Clean st1 (own.map (·.2))) (hio : ∀ (i : Nat) (a : Addr), (i, a) ∈ Z.io → i ∉ own.map (·.2)) (hf : LcR (TurnC X Z scope tg ifs elt (own.map (·.2))) items st1 ys st2) (hl : items.length < sizeLine)
    (hs : ∀ x, foldedSetIterable it X.env x = pure x) : SE X Z (.ListComp elt [⟨tg, it, ifs, 0⟩] scope pos) st st2 (.own (.lst ys)) := by
  obtain ⟨wi, pwi, h⟩ := lc_read hi hcl hio hf hl
  exact pe_weak (pe_lc hc hN pwi ok lc_g lc_t lc_e hs) h
/-- name = [..] -/
theorem ss_setLc {i : Nat} {py spos : Pos} (hc : X.calm = true) (hN : X.N.Nodup) (hy : X.N[i]? = some n) (hyl : X.env.scope.names.lookup n = some .local) (hsw : swapsWith (.ListComp elt [⟨tg, it, ifs, 0⟩] scope pos) (some (.Name n py)) spos.line X.env = pure true)
    (hi : SI X Z tg it st st1 items) (ok : BlkOk X.N X.env.scope scope own) (hcl : Clean st1 (own.map (·.2))) (hio : ∀ (i : Nat) (a : Addr), (i, a) ∈ Z.io → i ∉ own.map (·.2)) (hf : LcR (TurnC X Z scope tg ifs elt (own.map (·.2))) items st1 ys st2) (hl : items.length < sizeLine)
    (hs : ∀ x, foldedSetIterable it X.env x = pure x) (hi0 : ∀ a, (i, a) ∉ Z.io) (hil : i < st2.length) : SS X Z (.Assign [.Name n py] (.ListComp elt [⟨tg, it, ifs, 0⟩] scope pos) spos) st (.nx (st2.set i (some (.own (.lst ys))))) := by
  obtain ⟨wi, pwi, h⟩ := lc_read hi hcl hio hf hl
  refine ps_weak (ps_setLc hc hN hy hyl hsw pwi ok lc_g lc_t lc_e hs) fun D σ H ⟨F, hr, k⟩ => ?_
  exact h σ H _ ⟨F, hr, fun v F' H' ex hr' hv => k _ F' H' ex (hr'.put (r := .own (.lst ys)) hv rfl hi0 hil)⟩
end
end PV


set_option Elab.async false
set_option linter.all false
set_option maxRecDepth 100000
set_option maxHeartbeats 4000000
namespace PV
open PySem L2
open PySem.W (Frag)
section
variable {X : Cx} {Z : Env0} {st st1 st2 st3 : Sta} {e e1 e2 e3 tg it elt : Expr} {es ifs : List Expr} {r : R} {d x y z : D} {s : Stmt} {ss body : List Stmt} {o : Out} {pos p p' : Pos} {σ : L2.St} {F F' H H' : Hp} {v u : V} {b : Bool} {f n : Str} {k : Nat} {items ys : List D}
/-! ### a < b < c -/
theorem lm_of {op op' : CmpOp} {b c : Expr} (h : behindInMarks op' c = false) : lastMarks [op, op'] [b, c] = false := h
theorem se_chT {op op' : CmpOp} (h1 : SE X Z e1 st st1 (.val x)) (h2 : SE X Z e2 st1 st2 (.val y)) (ho : OpOk X Z (compareOp op) x y (.val (.bl true))) (h3 : SE X Z e3 st2 st3 (.val z)) (ho' : OpOk X Z (compareOp op') y z r) (hm : behindInMarks op' e3 = false) :
    SE X Z (.Compare e1 [op, op'] [e2, e3] pos) st st3 r := by
  obtain ⟨rr, hR, k⟩ := ho
  obtain ⟨rr', hR', k'⟩ := ho'
  refine pe_weak (pe_chain hR hR' h1 h2 h3 (lm_of hm)) fun σ H Q ⟨F, hr, q⟩ => ⟨F, hr, fun v F1 H1 x1 r1 hv => ⟨F1, r1, fun u F2 H2 x2 r2 hu => k st2 σ F2 H2 v u r2 (At.mono hv x2) hu _ fun w F3 H3 x3 r3 hw => ?_⟩⟩
  cases (show At X.K Z.G F3 w (.bl true) from hw)
  refine ⟨true, rfl, (if_pos rfl).mpr ⟨F3, r3, fun w2 F4 H4 x4 r4 hw2 => k' st3 σ F4 H4 u w2 r4 (At.mono hu (x3.trans x4)) hw2 Q fun w3 F5 H5 x5 r5 hw3 => q w3 F5 H5 (x1.trans (x2.trans (x3.trans (x4.trans x5)))) r5 hw3⟩⟩
theorem se_chF {op op' : CmpOp} (h1 : SE X Z e1 st st1 (.val x)) (h2 : SE X Z e2 st1 st2 (.val y)) (ho : OpOk X Z (compareOp op) x y (.val (.bl false))) {rr' : R2} (hR' : OpR X (compareOp op') rr') (hm : behindInMarks op' e3 = false) :
    SE X Z (.Compare e1 [op, op'] [e2, e3] pos) st st2 (.val (.bl false)) := by
  obtain ⟨rr, hR, k⟩ := ho
  refine pe_weak (pe_chain hR hR' h1 h2 (pe_any (Z := Z)) (lm_of hm)) fun σ H Q ⟨F, hr, q⟩ => ⟨F, hr, fun v F1 H1 x1 r1 hv => ⟨F1, r1, fun u F2 H2 x2 r2 hu => k st2 σ F2 H2 v u r2 (At.mono hv x2) hu _ fun w F3 H3 x3 r3 hw => ?_⟩⟩
  cases (show At X.K Z.G F3 w (.bl false) from hw)
  exact ⟨false, rfl, (if_neg Bool.false_ne_true).mpr (q _ F3 H3 (x1.trans (x2.trans x3)) r3 (.bl false))⟩
theorem st_chT {op op' : CmpOp} (h1 : SE X Z e1 st st1 (.val x)) (h2 : SE X Z e2 st1 st2 (.val y)) (ho : OpOk X Z (compareOp op) x y (.val (.bl true))) (h3 : SE X Z e3 st2 st3 (.val z)) (ho' : OpOk X Z (compareOp op') y z (.val (.bl b))) (hm : behindInMarks op' e3 = false) :
    ST X Z (.Compare e1 [op, op'] [e2, e3] pos) st st3 b := by
  obtain ⟨rr, hR, k⟩ := ho
  obtain ⟨rr', hR', k'⟩ := ho'
  refine pt_weak (pt_chain hR hR' h1 h2 h3 (lm_of hm)) fun σ H Q ⟨F, hr, q⟩ => ⟨F, hr, fun v F1 H1 x1 r1 hv => ⟨F1, r1, fun u F2 H2 x2 r2 hu => k st2 σ F2 H2 v u r2 (At.mono hv x2) hu _ fun w F3 H3 x3 r3 hw => ?_⟩⟩
  cases (show At X.K Z.G F3 w (.bl true) from hw)
  refine ⟨true, rfl, (if_pos rfl).mpr ⟨F3, r3, fun w2 F4 H4 x4 r4 hw2 => k' st3 σ F4 H4 u w2 r4 (At.mono hu (x3.trans x4)) hw2 _ fun w3 F5 H5 x5 r5 hw3 => ?_⟩⟩
  cases (show At X.K Z.G F5 w3 (.bl b) from hw3)
  exact ⟨b, rfl, q F5 H5 (x1.trans (x2.trans (x3.trans (x4.trans x5)))) r5⟩
theorem st_chF {op op' : CmpOp} (h1 : SE X Z e1 st st1 (.val x)) (h2 : SE X Z e2 st1 st2 (.val y)) (ho : OpOk X Z (compareOp op) x y (.val (.bl false))) {rr' : R2} (hR' : OpR X (compareOp op') rr') (hm : behindInMarks op' e3 = false) :
    ST X Z (.Compare e1 [op, op'] [e2, e3] pos) st st2 false := by
  obtain ⟨rr, hR, k⟩ := ho
  refine pt_weak (pt_chain hR hR' h1 h2 (pe_any (Z := Z)) (lm_of hm)) fun σ H Q ⟨F, hr, q⟩ => ⟨F, hr, fun v F1 H1 x1 r1 hv => ⟨F1, r1, fun u F2 H2 x2 r2 hu => k st2 σ F2 H2 v u r2 (At.mono hv x2) hu _ fun w F3 H3 x3 r3 hw => ?_⟩⟩
  cases (show At X.K Z.G F3 w (.bl false) from hw)
  exact ⟨false, rfl, (if_neg Bool.false_ne_true).mpr ⟨false, rfl, q F3 H3 (x1.trans (x2.trans x3)) r3⟩⟩
/-! ### in -/
def D.flat : D → Bool
  | .non | .bl _ | .int _ | .str _ => true
  | _ => false
def eqF : D → D → Bool
  | .non, .non => true
  | .bl a, .bl b => a == b
  | .bl a, .int b => (if a then 1 else 0) == b
  | .int a, .bl b => a == (if b then 1 else 0)
  | .int a, .int b => a == b
  | .str a, .str b => a == b
  | _, _ => false
theorem At.flat {K : Frag} {G : Str → Addr} (h : At K G F v d) (hf : d.flat = true) : flatV v = true := by
  cases h <;> first | rfl | cases hf
theorem At.eqF {K : Frag} {G : Str → Addr} (h : At K G F v x) (h2 : At K G F u y) (hf : x.flat = true) (hf2 : y.flat = true) : eqV v u = PV.eqF x y := by
  cases h with
  | non => cases h2 <;> first | rfl | cases hf2
  | bl b => cases h2 <;> first | rfl | cases hf2
  | int i => cases h2 <;> first | rfl | cases hf2
  | str i => cases h2 <;> first | rfl | cases hf2
  | _ => cases hf
theorem AtL.flat {K : Frag} {G : Str → Addr} : ∀ {vs : List V} {ds : List D}, AtL K G F vs ds → ds.all D.flat = true → vs.all flatV = true
  | _, _, .nil, _ => rfl
  | _, _, .cons h t, hf => by
    rw [List.all_cons, Bool.and_eq_true] at hf ⊢
    exact ⟨h.flat hf.1, t.flat hf.2⟩
theorem AtL.inV {K : Frag} {G : Str → Addr} (h : At K G F v x) (hx : x.flat = true) : ∀ {vs : List V} {ds : List D}, AtL K G F vs ds → ds.all D.flat = true → L2.inV v vs = ds.any fun y => eqF y x
  | _, _, .nil, _ => rfl
  | _, _, .cons h1 t, hf => by
    rw [List.all_cons, Bool.and_eq_true] at hf
    have ih := AtL.inV h hx t hf.2
    unfold L2.inV at ih ⊢
    rw [List.any_cons, List.any_cons, ih, h1.eqF h hf.1 hx]
def D.itms : D → Option (List D)
  | .lst xs => some xs
  | .tup xs => some xs
  | _ => none
theorem oo_in (hy : y.itms = some items) (hx : x.flat = true) (hf : items.all D.flat = true) : OpOk X Z (compareOp .In) x y (.val (.bl (items.any fun y => eqF y x))) :=
  OpOk.pure op_in_seq fun F H v u ex hx' hy' => by
    refine ⟨_, .bl _, fun Q q => ?_⟩
    cases hy' with
    | lst h t => cases hy; exact ⟨_, _, rfl, .inl (.inl (ex.rd h)), At.flat hx' hx, t.flat hf, by rw [if_neg Bool.false_ne_true, t.inV hx' hx hf]; exact q⟩
    | tup h t => cases hy; exact ⟨_, _, rfl, .inr (ex.sqT h), At.flat hx' hx, t.flat hf, by rw [if_neg Bool.false_ne_true, t.inV hx' hx hf]; exact q⟩
    | _ => cases hy
theorem oo_notin (hy : y.itms = some items) (hx : x.flat = true) (hf : items.all D.flat = true) : OpOk X Z (compareOp .NotIn) x y (.val (.bl (!items.any fun y => eqF y x))) :=
  OpOk.pure op_notIn_seq fun F H v u ex hx' hy' => by
    refine ⟨_, .bl _, fun Q q => ?_⟩
    cases hy' with
    | lst h t => cases hy; exact ⟨_, _, rfl, .inl (.inl (ex.rd h)), At.flat hx' hx, t.flat hf, by rw [if_pos rfl, t.inV hx' hx hf]; exact q⟩
    | tup h t => cases hy; exact ⟨_, _, rfl, .inr (ex.sqT h), At.flat hx' hx, t.flat hf, by rw [if_pos rfl, t.inV hx' hx hf]; exact q⟩
    | _ => cases hy
theorem oo_isN : OpOk X Z (compareOp .Is) x .non (.val (.bl (match x with | .non => true | _ => false))) :=
  OpOk.pure op_isN fun F H v u ex hx hy => by
    obtain rfl := At.non_inv hy
    refine ⟨_, .bl _, fun Q q => ⟨rfl, ?_⟩⟩
    cases hx <;> exact q
theorem oo_notN : OpOk X Z (compareOp .IsNot) x .non (.val (.bl (match x with | .non => false | _ => true))) :=
  OpOk.pure op_notN fun F H v u ex hx hy => by
    obtain rfl := At.non_inv hy
    refine ⟨_, .bl _, fun Q q => ⟨rfl, ?_⟩⟩
    cases hx <;> exact q
/-! ### isinstance -/
/-- the type of a datum, as the deciders take it -/
def D.tyOf (G : Str → Addr) : D → Option Value
  | .non => some (.type "NoneType")
  | .bl _ => some (.type "bool")
  | .int _ => some (.type "int")
  | .str _ => some (.type "str")
  | .lst _ => some (.type "list")
  | .tup _ => some (.type "tuple")
  | .dct _ => some (.type "dict")
  | .err C _ => some (.ref (G C))
  | .obj C _ => some (.ref (G C))
  | _ => none
def D.clsV (G : Str → Addr) : D → Option Value
  | .ty n => some (.type n)
  | .cls x => some (.ref (G x))
  | _ => none
/-- what isinstance asks of an own class -/
structure KitC (K : Frag) (C : Addr) : Prop where
  ca : PySem.W.findIn K (.ref C) "__class__" = some (some (.builtin "object.__class__"))
  hn : PySem.W.specialIn K (.builtin "object.__class__") "__get__" = some (some (.builtin "getset_descriptor.__get__"))
  tk : PySem.W.takesIn K (.builtin "object.__class__") = some true
  mr : PySem.W.mroIn K C (.type "object") = some true
def isOwn : D → Option Str
  | .err C _ => some C
  | .obj C _ => some C
  | _ => none
def rIsiP : List V → Hp → VK → Prop := fun xs H Q => False
theorem co_isi {t c : Value} (hT : ∀ C fs, x = .err C fs → ErrC X.K (Z.G C)) (hO : ∀ C fs, x = .obj C fs → Cls X.K (Z.G C)) (hK : ∀ C, isOwn x = some C → KitC X.K (Z.G C)) (ht : x.tyOf Z.G = some t) (hc : y.clsV Z.G = some c) (hk : PySem.W.kitOne X.K t c = some b) :
    CallOk X Z (.builtin "isinstance") [x, y] (.val (.bl b)) := by
  refine ⟨fun xs H Q => ∃ (v w : V) (F : Hp), xs = [v, w] ∧ Ex F H ∧ At X.K Z.G F v x ∧ At X.K Z.G F w y ∧ Q (.bl b) H, fun pins s σ H xs us Q I r h => ?_, fun st σ F H vs hr hx Q q => ?_⟩
  · obtain ⟨v, w, F, rfl, ex, hv, hw, q⟩ := h
    obtain ⟨u1, u2, rfl, r1, r2⟩ := vals2 r
    have ec : u2 = c := by
      cases hw <;> cases hc <;> exact r2
    subst ec
    have fin : ∀ (P : Heap → Prop), PySem.W.KitX X.K u1 t P → P s.heap → u1 ≠ .builtin "__main__.__loader__#opaque" → wpAny (model X.prog X.w) X.A (call (.builtin "isinstance") [u1, u2]) (EP X pins σ Q) X.xe s := fun P Zk p hne =>
      PySem.W.kia_one Zk I.kIn p hk hne fun tk => ⟨.bl b, H, I.tok tk, rfl, q⟩
    have base : TyX X.K H v t → wpAny (model X.prog X.w) X.A (call (.builtin "isinstance") [u1, u2]) (EP X pins σ Q) X.xe s := fun ty => by
      obtain ⟨P, Zk, p, hx⟩ := kit_of I r1 ty
      exact fin P Zk p hx
    have errc : ∀ {C : Str} {a : Addr} {dv : Option Addr}, x.tyOf Z.G = some (.ref (Z.G C)) → ErrC X.K (Z.G C) → KitC X.K (Z.G C) → v = .ref a → H a = some (exo a (Z.G C) dv) → (∀ dx, dv = some dx → ∃ fs, H dx = some (exd dx fs)) → wpAny (model X.prog X.w) X.A (call (.builtin "isinstance") [u1, u2]) (EP X pins σ Q) X.xe s := fun {C a dv} e1 T k ev ha hd => by
      subst ev
      obtain rfl : u1 = Value.ref a := r1
      have et : t = .ref (Z.G C) := by rw [e1] at ht; exact (Option.some.inj ht).symm
      subst et
      obtain ⟨t1, ho⟩ := exo_at I.hok ha
      have hcl : (PySem.W.clsIn X.K (Z.G C)).isSome = true := by
        obtain ⟨cd, h1, _⟩ := PySem.W.any_some T.hdC
        rw [h1]
        rfl
      cases dv with
      | none => exact fin _ (PySem.W.kitx_exc (od := none) hcl T.ga T.gg T.ox.exC k.ca k.hn k.tk k.mr) (show PySem.W.InstAt s.heap a ({ cls := .ref (Z.G C), dict := none, data := .fields #[.ref t1, .none, .none, .none, .bool false, .none] } : Obj) (Z.G C) none from ⟨ho, rfl, rfl, trivial⟩) (fun z => nomatch z)
      | some dx =>
        obtain ⟨fs, hdx⟩ := hd dx rfl
        obtain ⟨mA, hns, rel⟩ := exd_at I.hok hdx
        obtain ⟨od, hod, _⟩ := lookIn_ns hns
        exact fin _ (PySem.W.kitx_exc (od := some od) hcl T.ga T.gg T.ox.exC k.ca k.hn k.tk k.mr) (show PySem.W.InstAt s.heap a ({ cls := .ref (Z.G C), dict := some dx, data := .fields #[.ref t1, .none, .none, .none, .bool false, .none] } : Obj) (Z.G C) (some od) from ⟨ho, rfl, rfl, hod⟩) (fun z => nomatch z)
    cases hv with
    | non => cases ht; exact base (.base .non)
    | bl b => cases ht; exact base (.base (.bl _))
    | int i => cases ht; exact base (.base (.int _))
    | str i => cases ht; exact base (.base (.str _))
    | ty n => cases ht
    | cls n => cases ht
    | @lst a xs ds h t =>
      cases ht
      rcases ex.rd h with h | ⟨ob, h⟩
      · exact base (.base (.lst h))
      · exact base (.base (.frz h))
    | @tup a xs ds h t =>
      cases ht
      rcases ex.sqT h with (h | ⟨ob, h⟩) | ⟨ob, its, m, h1, h2, _⟩
      · exact base (.base (.tup h))
      · exact base (.fTuple h)
      · exact base (.kTuple h1 h2)
    | @dct a xs ds h t => cases ht; exact base (.base (.dK (ex _ _ h)))
    | @obj a dx C xs ds h t =>
      have k := hK C rfl
      cases ht
      exact base (.base (.ins (ex _ _ h) (hO C ds rfl) k.ca k.hn k.tk k.mr))
    | @err a dd C xs ds h h2 t => exact errc rfl (hT C ds rfl) (hK C rfl) rfl (ex _ _ h) fun dx e => ⟨_, by cases e; exact ex _ _ h2⟩
    | @err0 a C h => exact errc rfl (hT C [] rfl) (hK C rfl) rfl (ex _ _ h) fun dx e => nomatch e
  · obtain ⟨v, w, rfl, hv, hw⟩ := hx.inv2
    exact ⟨v, w, F, rfl, hr.ext, hv, hw, q _ F H (Ex.refl F) hr (.bl b)⟩
end
end PV


set_option Elab.async false
set_option linter.all false
set_option maxRecDepth 100000
set_option maxHeartbeats 4000000
/-! defs where it is known that nothing is being shown (repr) around them -/
namespace PV
open PySem L2 PyProof.Rows
open PySem.W (Frag)
structure FnG (P : Program) (w : World) (K : Frag) (mg : Str → Option Value) (base : Heap) (CX : CXT) (k : Nat) (f : Addr) (fd : FuncData) (ps : List Str) (sp : Sp) : Prop where
  len : ∀ vs H Q E, sp vs H Q E → vs.length = ps.length
  run : ∀ (A : Around) (outer : List Env) (s : Shared) (H : Hp) (args : Args) (us : List Value) (vs : List V) (Q : VK) (E : XK), Room k A → A.guards = some [] → L2.Env0 P w K mg base A outer s H →
    BindsTo s fd args (ps.zip us) → Vals vs us → sp vs H Q E → codeAny (model P w) A (.call (.ref f) args) (CR CX outer P w H s Q E) s
section
variable {P : Program} {w : World} {K : Frag} {mg : Str → Option Value} {base : Heap} {CX : CXT} {j k : Nat} {f : Addr} {fd : FuncData} {ps N : List Str} {sp sp' : Sp}
theorem FnG.of (F : FnOk P w K mg base CX k f fd ps sp) : FnG P w K mg base CX k f fd ps sp := ⟨F.len, fun A outer s H args us vs Q E hr _ => F.run A outer s H args us vs Q E hr⟩
theorem FnG.mono (F : FnG P w K mg base CX j f fd ps sp) (h : j ≤ k) : FnG P w K mg base CX k f fd ps sp := ⟨F.len, fun A outer s H args us vs Q E hr => F.run A outer s H args us vs Q E (hr.mono h)⟩
/-- a def by its body -/
theorem fnG_of {name qual : Str} {params : Arguments} {body : List Stmt} {scope : Scope} {dV kV doc pm cdv ct oc : Value} {an od : Option Addr} {osl : Array (Option Value)}
    (lk : K.lookup f = some ⟨oc, od, .func (PySem.W.fnOf name qual params body scope dV kV doc pm an cdv ct), osl⟩) (hcd : PySem.W.codeIn K cdv qual = true) (S : FnScope N ps scope) (len : ∀ vs H Q E, sp vs H Q E → vs.length = ps.length)
    (hbody : ∀ (A : Around) (outer : List Env) (s : Shared) (H : Hp) (vs : List V) (Q : VK) (E : XK), Room k (A.deeper (envOfC qual scope s.heap.objs.size f cdv)) → A.guards = some [] → sp vs H Q E →
      ∃ t, PSs (cxOf CX P w K mg base N qual scope f cdv A outer s H E) body t ∧ t { nx := fun _ H' => Q .non H', rt := Q } (start N vs) H) :
    FnG P w K mg base CX (k + 1) f (PySem.W.fnOf name qual params body scope dV kV doc pm an cdv ct) ps sp := by
  refine ⟨len, fun A outer s H args us vs Q E hr hgd e0 hb r hsp => ?_⟩
  have hl := len _ _ _ _ hsp
  have KX : K.In s.heap := e0.mod.kin.keeps fun b o e => (e0.bs b o e).1
  have kinds : ∀ y ∈ ps.zip us, scope.names.lookup y.1 = some .local ∨ (scope.names.lookup y.1 = some .cell ∧ ((cellsFrom (s.heap.objs.size + 1) scope.names []).lookup y.1).isSome = true) := by
    rintro ⟨n, v⟩ hy
    rcases S.par n (List.of_mem_zip hy).1 with q | q
    · exact .inl q
    · exact .inr ⟨q, PySem.W.cellsFrom_some _ _ _ (.inl q)⟩
  refine codeAny_call_function hr.depth (KX _ _ lk) rfl S.co S.gen rfl (PySem.W.codeRec_of KX hcd) (hb _ _ _ _ ?_)
  refine wpAny_newFunctionEnv_cells S.kind kinds fun env he s1 x => ?_
  subst he
  refine ⟨(e0.mod.nolimit.keeps fun b o e => (e0.bs b o e).1).keeps x.toInCall.keep, codeAny_func ?_⟩
  obtain ⟨t, ht, hq⟩ := hbody A outer s H vs Q E (hr.deeper _) hgd hsp
  refine wpAny_mono (ht.run [] s1 (start N vs) H _ (inv_start S hr.hd e0 hl r x) hq) (fun fl s' hs => ?_) fun e s' hs => hs
  cases fl with
  | ret u =>
    obtain ⟨v, σ', H', J, rv, q⟩ := hs
    exact ⟨v, H', J.os, J.bare, J.base, J.hok, rv, q⟩
  | next =>
    obtain ⟨σ', H', J, q⟩ := hs
    exact ⟨V.non, H', J.os, J.bare, J.base, J.hok, rfl, q⟩
  | brk =>
    obtain ⟨_, _, _, q⟩ := hs
    exact False.elim q
  | cont =>
    obtain ⟨_, _, _, q⟩ := hs
    exact False.elim q
end
section
variable {X : Cx} {Z : PV.Env0} {st st1 st2 st3 : Sta} {e e1 e2 : Expr} {es : List Expr} {r : R} {pos p : Pos} {n : Str} {CX : CXT} {k : Nat} {fa : Addr} {fd : FuncData} {ps : List Str} {sp : Sp} {E : XK} {t : TA} {dvs : List V} {ds : List Value}
theorem run_fnG {pins : List (Addr × Obj)} {σ : L2.St} {H : Hp} {s : Shared} {Q : VK} {us : List Value} {vs : List V} (F : FnG X.prog X.w X.K X.mg X.base CX k fa fd ps sp) (hr : Room k X.A) (hgd : X.A.guards = some []) (hb : Binds X.K fd ps ds) (hd : Vals dvs ds) (hx : Passes CX X E)
    (I : Inv X pins σ H s) (r : Vals vs us) (h : sp (vs ++ dvs) H Q E) : wpAny (model X.prog X.w) X.A (call (.ref fa) us) (EP X pins σ Q) X.xe s := by
  have r2 : Vals (vs ++ dvs) (us ++ ds) := r.append hd
  have hl : (us ++ ds).length = ps.length := by
    rw [← r2.length]
    exact F.len _ _ _ _ h
  refine wpAny_call (codeAny_mono (F.run X.A X.stack s H ⟨us, []⟩ (us ++ ds) (vs ++ dvs) Q E hr hgd I.env0 (hb s us I.kIn hl) r2 h) fun r s' hq => ?_)
  cases r with
  | error e => exact hx pins σ H s e s' I hq
  | ok fl =>
    cases fl with
    | ret u => exact I.after hq
    | next => exact False.elim hq
    | brk => exact False.elim hq
    | cont => exact False.elim hq
theorem pe_callG (F : FnG X.prog X.w X.K X.mg X.base CX k fa fd ps sp) (hr : Room k X.A) (hgd : X.A.guards = some []) (hg : Gl X n) (hm : X.mg n = some (.ref fa)) (hk : PySem.W.keepIn X.K (.ref fa) = true) (hb : Binds X.K fd ps ds) (hd : Vals dvs ds) (hx : Passes CX X E)
    (ha : PA X (e :: es) t) (hdb : (n == ("__debug__" : Str)) = false) (hst : (e :: es).any isStar = false) : PE X (.Call (.Name n p) (e :: es) [] pos) (tCall sp dvs E t) := by
  rw [List.any_cons, Bool.or_eq_false_iff] at hst
  refine ⟨fun pins s σ H Q I h => ?_⟩
  refine wpAny_Call_Name_kw (ld_glob I hg hm ?_ hdb)
  refine PySem.W.callWith_K (h₀ := X.base) I.ok.mod.kin hk (thn (ha.run pos pins s σ H _ I h) fun us s1 hh => ?_) (starEach_cons hst.1) (noStar_any hst.2)
  obtain ⟨vs, H1, I1, r, q⟩ := hh
  exact ⟨I1.kIn, run_fnG F hr hgd hb hd hx I1 r q⟩
theorem pe_callG0 (F : FnG X.prog X.w X.K X.mg X.base CX k fa fd ps sp) (hr : Room k X.A) (hgd : X.A.guards = some []) (hg : Gl X n) (hm : X.mg n = some (.ref fa)) (hk : PySem.W.keepIn X.K (.ref fa) = true) (hb : Binds X.K fd ps ds) (hd : Vals dvs ds) (hx : Passes CX X E)
    (hdb : (n == ("__debug__" : Str)) = false) : PE X (.Call (.Name n p) [] [] pos) (tCall sp dvs E tNil) := by
  refine ⟨fun pins s σ H Q I h => ?_⟩
  refine wpAny_Call_Name_kw (ld_glob I hg hm ?_ hdb)
  exact PySem.W.callWith_K0 I.kIn hk (run_fnG (us := []) F hr hgd hb hd hx I .nil h)
/-- f(e, ..) -/
theorem se_callG {ct : Ct} {as : List ArgR} {sl outs : List Slot} (F : FnG X.prog X.w X.K X.mg X.base CX k fa fd ps (SpOf X.K Z.G ct)) (hr : Room k X.A) (hgd : X.A.guards = some []) (hg : Gl X n) (hm : X.mg n = some (.ref fa)) (hk : PySem.W.keepIn X.K (.ref fa) = true)
    (hb : Binds X.K fd ps []) (hx : Passes CX X E) (ha : SA' X Z (e :: es) st st1 as) (hdb : (n == ("__debug__" : Str)) = false) (hst : (e :: es).any isStar = false)
    (hs : argSlots st1 as = some sl) (nd : (rfs as).Nodup) (hpl : ∀ (j m : Nat) (c : Cell), as[j]? = some (ArgR.rf m) → sl[j]? = some (Slot.own c) → c.plain = true) (hpo : ∀ (j : Nat) (c : Cell), outs[j]? = some (Slot.own c) → c.plain = true) (hct : ct sl r outs) :
    SE X Z (.Call (.Name n p) (e :: es) [] pos) st (putOuts st1 0 as outs) r :=
  pe_weak (pe_callG F hr hgd hg hm hk hb (show Vals [] [] from .nil) hx ha hdb hst) fun σ H Q ⟨F, hr, q⟩ => ⟨F, hr, fun vs F' H' ex hr' hvs => by
    show SpOf X.K Z.G ct (vs ++ []) H' Q E
    rw [List.append_nil]
    exact ce_call hs nd hpl hpo hct σ F' H' vs hr' hvs Q fun w F2 H2 e2 r2 hw => q w F2 H2 (ex.trans e2) r2 hw⟩
theorem se_callG0 {ct : Ct} {outs : List Slot} (F : FnG X.prog X.w X.K X.mg X.base CX k fa fd ps (SpOf X.K Z.G ct)) (hr : Room k X.A) (hgd : X.A.guards = some []) (hg : Gl X n) (hm : X.mg n = some (.ref fa)) (hk : PySem.W.keepIn X.K (.ref fa) = true)
    (hb : Binds X.K fd ps []) (hx : Passes CX X E) (hdb : (n == ("__debug__" : Str)) = false) (hpo : ∀ (j : Nat) (c : Cell), outs[j]? = some (Slot.own c) → c.plain = true) (hct : ct [] r outs) : SE X Z (.Call (.Name n p) [] [] pos) st st r :=
  pe_weak (pe_callG0 F hr hgd hg hm hk hb (show Vals [] [] from .nil) hx hdb) fun σ H Q ⟨F, hr, q⟩ =>
    ce_call (as := []) (st1 := st) (E := E) rfl List.nodup_nil (fun j m c h => by simp at h) hpo hct σ F H [] hr .nil Q q
end
/-! ### repr -/
mutual
def D.isPyD : D → Bool
  | .non | .bl _ | .int _ | .str _ => true
  | .lst xs => D.isPyDL xs
  | .tup xs => D.isPyDL xs
  | .dct xs => D.isPyDM xs
  | _ => false
def D.isPyDL : List D → Bool
  | [] => true
  | d :: ds => d.isPyD && D.isPyDL ds
def D.isPyDM : List (Key × D) → Bool
  | [] => true
  | (_, d) :: ds => d.isPyD && D.isPyDM ds
end
/-- the interpreter's table of modules is a dict -/
def SmOk (K : Frag) : Prop := ∃ o, K.lookup sysModules = some o ∧ o.cls = .type "dict"
section
variable {X : Cx} {pins : List (Addr × Obj)} {σ : L2.St} {H F : Hp} {s : Shared} {G : Str → Addr}
theorem keys_reads {h : Heap} {P : Program} {w : World} : ∀ {kvs : List (Key × Value)} {es : List DictEntry}, Pairs (mixKind P w) es kvs → ∀ {kds : List (Key × D)}, kvs.map (·.1) = kds.map (·.1) → ReadsAll h (es.map (·.key)) ((D.pyM kds).map (·.1)) []
  | [], _, .nil, kds, e => by
    cases kds with
    | nil => exact .nil
    | cons _ _ => cases e
  | kv :: kvs, _, .cons (e := en) (es := es) hk hv t, kds, e => by
    cases kds with
    | nil => cases e
    | cons q kds =>
      obtain ⟨kk, d⟩ := q
      have e1 : kv.1 = kk := (List.cons.inj e).1
      have ih := keys_reads (h := h) t (kds := kds) (List.cons.inj e).2
      have hk' : keyIs kk en.key = true := by rw [← e1]; exact hk
      have hd : Reads h en.key (keyPy kk) [] := by
        rcases keyIs_shape hk' with ⟨i, t, rfl, e2⟩ | ⟨x, t, rfl, e2⟩
        · rw [e2]
          exact .int i t
        · rw [e2]
          exact .str x t
      exact .cons (as := []) (bs := []) hd ih
theorem vals_map {P : Program} {w : World} : ∀ {kvs : List (Key × Value)} {es : List DictEntry}, Pairs (mixKind P w) es kvs → es.map (·.val) = kvs.map (·.2)
  | [], _, .nil => rfl
  | kv :: kvs, _, .cons hk hv t => by rw [List.map_cons, List.map_cons, hv, vals_map t]
theorem AtM.keys {K : Frag} : ∀ {xs : List (Key × V)} {ds : List (Key × D)}, AtM K G F xs ds → xs.map (·.1) = ds.map (·.1)
  | _, _, .nil => rfl
  | _, _, .cons h t => by rw [List.map_cons, List.map_cons, t.keys]
theorem KV.keys {κ : Type} : ∀ {xs : List (κ × V)} {vs : List (κ × Value)}, KV xs vs → xs.map (·.1) = vs.map (·.1)
  | _, _, .nil => rfl
  | _, _, .cons h t => by rw [List.map_cons, List.map_cons, h.1, KV.keys t]
theorem not_sm (hs : SmOk X.K) (I : Inv X pins σ H s) {a : Addr} {o : Obj} (h : s.heap.get? a = some o) (hc : o.cls ≠ .type "dict") : a ≠ sysModules := fun z => by
  obtain ⟨o', h1, h2⟩ := hs
  have h3 := I.kIn _ _ h1
  rw [z, h3] at h
  cases h
  exact hc h2
mutual
theorem At.reads (hs : SmOk X.K) (I : Inv X pins σ H s) (ex : Ex F H) : ∀ {v : V} {d : D} {u : Value}, At X.K G F v d → RelV v u → d.isPyD = true → ∃ as, Reads s.heap u d.py as ∧ sysModules ∉ as
  | _, _, u, .non, r, _ => ⟨[], by cases r; exact .none, by simp⟩
  | _, _, u, .bl b, r, _ => ⟨[], by cases r; exact .bool b, by simp⟩
  | _, _, u, .int i, r, _ => ⟨[], by obtain ⟨t, rfl⟩ := r; exact .int i t, by simp⟩
  | _, _, u, .str i, r, _ => ⟨[], by obtain ⟨t, rfl⟩ := r; exact .str i t, by simp⟩
  | _, _, u, .lst (a := a) (xs := xs) h t, r, e => by
    cases r
    obtain ⟨z, its, n, rv, ho⟩ := (show ObjOk X.prog X.w H s.heap a (.lst xs) from (ex.rd h).ok I.hok)
    obtain ⟨as, h1, h2⟩ := AtL.reads hs I ex t rv e
    refine ⟨a :: as, .list ho rfl rfl h1, fun hm => ?_⟩
    rcases List.mem_cons.mp hm with z | z
    · exact not_sm hs I ho (fun w => by simp at w) z.symm
    · exact h2 z
  | _, _, u, .tup (a := a) (xs := xs) h t, r, e => by
    cases r
    obtain ⟨its, rv, ⟨ob, ho, hc, n, hd⟩, _⟩ := I.tuple (ex.sqT h)
    obtain ⟨as, h1, h2⟩ := AtL.reads hs I ex t rv e
    exact ⟨as, .tuple ho hc hd h1, h2⟩
  | _, _, u, .dct (a := a) (xs := xs) (ds := ds) h t, r, e => by
    cases r
    obtain ⟨z, hsm, vs, kv, ob, es, ep, ho, hx, hd, hk, hp, _⟩ := (show ObjOk X.prog X.w H s.heap a (.dK xs) from I.hok a _ (ex _ _ h))
    have ek : vs.map (·.1) = ds.map (·.1) := by rw [← KV.keys kv, t.keys]
    obtain ⟨bs, h1, h2⟩ := AtM.reads hs I ex t kv e
    refine ⟨a :: [] ++ bs, .dict ho hx.1 hd (keys_reads hp ek) (by rw [vals_map hp]; exact h1), fun hm => ?_⟩
    rcases List.mem_cons.mp hm with z | z
    · rw [← z] at hsm
      simp at hsm
    · exact h2 z
theorem AtL.reads (hs : SmOk X.K) (I : Inv X pins σ H s) (ex : Ex F H) : ∀ {vs : List V} {ds : List D} {us : List Value}, AtL X.K G F vs ds → Vals vs us → D.isPyDL ds = true → ∃ as, ReadsAll s.heap us (D.pyL ds) as ∧ sysModules ∉ as
  | _, _, us, .nil, r, _ => ⟨[], by cases r; exact .nil, by simp⟩
  | _, _, us, .cons h t, r, e => by
    cases r with
    | cons r1 r2 =>
      obtain ⟨e1, e2⟩ := Bool.and_eq_true_iff.mp e
      obtain ⟨as, h1, h2⟩ := At.reads hs I ex h r1 e1
      obtain ⟨bs, h3, h4⟩ := AtL.reads hs I ex t r2 e2
      exact ⟨as ++ bs, .cons h1 h3, fun hm => (List.mem_append.mp hm).elim h2 h4⟩
theorem AtM.reads (hs : SmOk X.K) (I : Inv X pins σ H s) (ex : Ex F H) : ∀ {vs : List (Key × V)} {ds : List (Key × D)} {us : List (Key × Value)}, AtM X.K G F vs ds → KV vs us → D.isPyDM ds = true → ∃ as, ReadsAll s.heap (us.map (·.2)) ((D.pyM ds).map (·.2)) as ∧ sysModules ∉ as
  | _, _, us, .nil, r, _ => ⟨[], by cases r; exact .nil, by simp⟩
  | _, _, us, .cons h t, r, e => by
    cases r with
    | cons r1 r2 =>
      obtain ⟨e1, e2⟩ := Bool.and_eq_true_iff.mp e
      obtain ⟨as, h1, h2⟩ := At.reads hs I ex h r1.2 e1
      obtain ⟨bs, h3, h4⟩ := AtM.reads hs I ex t r2 e2
      exact ⟨as ++ bs, .cons h1 h3, fun hm => (List.mem_append.mp hm).elim h2 h4⟩
end
end
section
variable {X : Cx} {Z : PV.Env0} {x : D}
/-- repr of data -/
theorem co_repr (hs : SmOk X.K) (hg : X.A.guards = some []) (hu : X.A.units + 100 < cLine) (hp : x.isPyD = true) (hw : x.py.showable = true) (hd : x.py.depth ≤ 60) (hl : x.py.shown.length ≤ sizeLine) : CallOk X Z (.builtin "repr") [x] (.val (.str x.py.shown)) := by
  refine ⟨fun xs H Q => ∃ (v : V) (F : Hp), xs = [v] ∧ Ex F H ∧ At X.K Z.G F v x ∧ Q (.str x.py.shown) H, fun pins s σ H xs us Q I r h => ?_, fun st σ F H vs hr hx Q q => ?_⟩
  · obtain ⟨v, F, rfl, ex, hv, q⟩ := h
    obtain ⟨u, rfl, r1⟩ := vals1 r
    obtain ⟨as, h1, h2⟩ := At.reads hs I ex hv r1 hp
    have fin : ∀ t tk, EP X pins σ Q (.str x.py.shown t) { s with toks := tk } := fun t tk => ⟨.str _, H, I.tok tk, ⟨_, rfl⟩, q⟩
    cases hv with
    | non => cases r1; exact PySem.P.repr_of_none (fin _ _)
    | bl b => cases r1; exact PySem.P.repr_of_bool (fin _ _)
    | int i => obtain ⟨t, rfl⟩ := r1; exact PySem.P.repr_of_int (of_decide_eq_true hw) (fin _ _)
    | str i => obtain ⟨t, rfl⟩ := r1; exact PySem.P.repr_of_str (fin _ _) hl
    | lst h t => cases r1; exact PySem.repr_of_reads' h1 hw (fun _ => h2) hg (by omega) (fun _ _ e => e) (fun h' u tk hk => ⟨.str _, H, I.kept hk, ⟨_, rfl⟩, q⟩) hl
    | tup h t => cases r1; exact PySem.repr_of_reads' h1 hw (fun _ => h2) hg (by omega) (fun _ _ e => e) (fun h' u tk hk => ⟨.str _, H, I.kept hk, ⟨_, rfl⟩, q⟩) hl
    | dct h t => cases r1; exact PySem.repr_of_reads' h1 hw (fun _ => h2) hg (by omega) (fun _ _ e => e) (fun h' u tk hk => ⟨.str _, H, I.kept hk, ⟨_, rfl⟩, q⟩) hl
    | _ => cases hp
  · obtain ⟨v, rfl, hv⟩ := hx.inv1
    exact ⟨v, F, rfl, hr.ext, hv, q _ F H (Ex.refl F) hr (.str _)⟩
end
end PV


set_option Elab.async false
set_option linter.all false
set_option maxRecDepth 100000
set_option maxHeartbeats 4000000
namespace PV
open PySem L2
open PySem.W (Frag)
section
variable {X : Cx} {Z : PV.Env0} {st st1 st2 st3 : Sta} {e e1 e2 e3 tg it elt : Expr} {es ifs : List Expr} {r : R} {d x y z : D} {s : Stmt} {ss body : List Stmt} {o : Out} {pos p p' : Pos} {σ : L2.St} {F F' H H' : Hp} {v u : V} {b : Bool} {f n : Str} {k : Nat} {items ys : List D}
/-! ### slices -/
def CO (X : Cx) (Z : PV.Env0) (st st' : Sta) (o : Option Int) : TO := fun σ H Q => ∃ F, RelX X Z st σ F H ∧ ∀ F' H', Ex F F' → RelX X Z st' σ F' H' → Q o H'
def SO (X : Cx) (Z : PV.Env0) (e : Option Expr) (st st' : Sta) (o : Option Int) : Prop := PO X e (CO X Z st st' o)
theorem po_weak {e : Option Expr} {t t' : TO} (h : PO X e t) (w : ∀ σ H Q, t' σ H Q → t σ H Q) : PO X e t' := ⟨fun pins s σ H Q I q => h.run pins s σ H Q I (w σ H Q q)⟩
theorem so_none : SO X Z none st st none := po_weak po_none fun σ H Q ⟨F, hr, k⟩ => k F H (Ex.refl F) hr
theorem so_some {i : Int} (h : SE X Z e st st1 (.val (.int i))) : SO X Z (some e) st st1 (some i) := po_weak (po_some h) fun σ H Q ⟨F, hr, k⟩ => ⟨F, hr, fun v F' H' ex hr' hv => by
  obtain rfl := At.int_inv hv
  exact ⟨i, rfl, k F' H' ex hr'⟩⟩
def cutD (ds : List D) (lo hi : Option Int) : List D := (ds.drop (HT.sIx ds.length 0 lo)).take (HT.sIx ds.length ds.length hi - HT.sIx ds.length 0 lo)
theorem AtL.cut {K : Frag} {G : Str → Addr} {vs : List V} {ds : List D} (h : AtL K G F vs ds) (lo hi : Option Int) : AtL K G F (cutV vs lo hi) (cutD ds lo hi) := by
  unfold cutV cutD
  rw [h.length]
  exact (h.drop _).take _
theorem se_slL {lo hi : Option Expr} {l u : Option Int} {p2 : Pos} {ds : List D} (h : SE X Z e st st1 (.val (.lst ds))) (hl : SO X Z lo st1 st2 l) (hu : SO X Z hi st2 st3 u) : SE X Z (.Subscript e (.Slice lo hi none p2) pos) st st3 (.own (.lst (cutD ds l u))) :=
  pe_weak (pe_slice sl_list h hl hu) fun σ H Q ⟨F, hr, k⟩ => ⟨F, hr, fun v F1 H1 x1 r1 hv => ⟨F1, r1, fun F2 H2 x2 r2 => ⟨F2, r2, fun F3 H3 x3 r3 => by
    obtain ⟨a, xs, rfl, hx, t⟩ := At.lst_inv hv
    refine ⟨a, xs, rfl, .inl (r3.ext.rd ((x2.trans x3).rd hx)), fun q hq => ?_⟩
    obtain ⟨q1, q2⟩ := fresh_own (c := .lst (cutD ds l u)) (o := .lst (cutV xs l u)) r3 hq ⟨_, upd_same, AtL.cut (AtL.mono t (x2.trans x3)) l u⟩
    exact k _ F3 _ (x1.trans (x2.trans x3)) q1 q2⟩⟩⟩
/-! ### written dicts -/
def putD (kvs : List (Key × D)) (k : Key) (v : D) : List (Key × D) :=
  if (kvs.any fun kv => decide (kv.1 = k)) = true then kvs.map (fun kv => if kv.1 = k then (kv.1, v) else kv) else kvs ++ [(k, v)]
def mergeD (kvs more : List (Key × D)) : List (Key × D) := more.foldl (fun acc kv => putD acc kv.1 kv.2) kvs
section
variable {K : Frag} {G : Str → Addr}
theorem AtM.any {k : Key} : ∀ {xs : List (Key × V)} {ds : List (Key × D)}, AtM K G F xs ds → (xs.any fun kv => decide (kv.1 = k)) = ds.any fun kv => decide (kv.1 = k)
  | _, _, .nil => rfl
  | _, _, .cons h t => by rw [List.any_cons, List.any_cons, AtM.any t]
theorem AtM.append : ∀ {xs us : List (Key × V)} {ds es : List (Key × D)}, AtM K G F xs ds → AtM K G F us es → AtM K G F (xs ++ us) (ds ++ es)
  | _, _, _, _, .nil, h => h
  | _, _, _, _, .cons h t, h' => .cons h (AtM.append t h')
theorem AtM.upd {k : Key} (hv : At K G F v d) : ∀ {xs : List (Key × V)} {ds : List (Key × D)}, AtM K G F xs ds → AtM K G F (xs.map fun kv => if kv.1 = k then (kv.1, v) else kv) (ds.map fun kv => if kv.1 = k then (kv.1, d) else kv)
  | _, _, .nil => .nil
  | _, _, .cons (f := f) h t => by
    rw [List.map_cons, List.map_cons]
    by_cases e : f = k
    · simp only [e, if_true]
      exact .cons hv (AtM.upd hv t)
    · simp only [e, if_false]
      exact .cons h (AtM.upd hv t)
theorem AtM.put {k : Key} {xs : List (Key × V)} {ds : List (Key × D)} (h : AtM K G F xs ds) (hv : At K G F v d) : AtM K G F (putK xs k v) (putD ds k d) := by
  unfold putK putD
  rw [AtM.any h]
  split
  · exact h.upd hv
  · exact h.append (.cons hv .nil)
theorem AtM.merge : ∀ {more : List (Key × V)} {md : List (Key × D)}, AtM K G F more md → ∀ {xs : List (Key × V)} {ds : List (Key × D)}, AtM K G F xs ds → AtM K G F (mergeK xs more) (mergeD ds md)
  | _, _, .nil, _, _, h => h
  | _, _, .cons h t, _, _, h0 => AtM.merge t (h0.put h)
end
def kstr (ks : List Str) {α : Type} (ys : List α) : List (Key × α) := (ks.map fun k => (Sum.inr k : Key)).zip ys
theorem AtM.kstr {K : Frag} {G : Str → Addr} : ∀ {ks : List Str} {ys : List V} {ds : List D}, AtL K G F ys ds → AtM K G F (PV.kstr ks ys) (PV.kstr ks ds)
  | [], _, _, _ => .nil
  | _ :: _, _, _, .nil => .nil
  | k :: ks, y :: ys, d :: ds, .cons h t => (AtM.cons (f := (Sum.inr k : Key)) h (AtM.kstr (ks := ks) t))
inductive KeysAre : List (Option Expr) → List Str → Prop where
  | nil : KeysAre [] []
  | cons {k : Str} {j : _} {p : Pos} {es : List (Option Expr)} {ks : List Str} (t : KeysAre es ks) : KeysAre (some (.Constant (.str k) j p) :: es) (k :: ks)
inductive SEs (X : Cx) (Z : PV.Env0) : List Expr → Sta → Sta → List D → Prop where
  | nil (st : Sta) : SEs X Z [] st st []
  | cons {e : Expr} {es : List Expr} {st st1 st2 : Sta} {d : D} {ds : List D} (h : SE X Z e st st1 (.val d)) (t : SEs X Z es st1 st2 ds) : SEs X Z (e :: es) st st2 (d :: ds)
def anyP (X : Cx) (e : Expr) : TE := fun σ H Q => ∃ t, PE X e t ∧ t σ H Q
theorem pe_anyP : PE X e (anyP X e) := ⟨fun pins s σ H Q I ⟨t, h, q⟩ => h.run pins s σ H Q I q⟩
def trsOf (X : Cx) : List Str → List Expr → List (TE × TE)
  | k :: ks, e :: es => (tC (.str k), anyP X e) :: trsOf X ks es
  | _, _ => []
theorem pps_of {keys : List (Option Expr)} {ks : List Str} (hk : KeysAre keys ks) : ∀ {vs : List Expr}, vs.length = ks.length → PPs X pos keys vs (trsOf X ks vs) := by
  induction hk with
  | nil =>
    intro vs hl
    cases vs with
    | nil => exact pps_nil
    | cons _ _ => cases hl
  | cons t ih =>
    intro vs hl
    cases vs with
    | nil => cases hl
    | cons e es => exact pps_cons pe_str pe_anyP (ih (Nat.succ.inj hl))
theorem sp_read : ∀ {ks : List Str} {vs : List Expr} {st st' : Sta} {ds : List D}, vs.length = ks.length → SEs X Z vs st st' ds → ∀ (σ : L2.St) (H : Hp) (Q : List (V × V) → Hp → Prop) (F : Hp), RelX X Z st σ F H →
    (∀ ys F' H', Ex F F' → RelX X Z st' σ F' H' → AtLX X Z F' ys ds → ys.length = ks.length → Q ((kstr ks ys).map fun kv => (kV kv.1, kv.2)) H') → tPairs (trsOf X ks vs) σ H Q
  | [], _, _, _, _, _, .nil st, σ, H, Q, F, hr, k => k [] F H (Ex.refl F) hr .nil rfl
  | [], _, _, _, _, hl, .cons _ _, _, _, _, _, _, _ => by cases hl
  | _ :: _, _, _, _, _, hl, .nil _, _, _, _, _, _, _ => by cases hl
  | kk :: ks, _, _, _, _, hl, .cons h1 t1, σ, H, Q, F, hr, k => ⟨_, h1, F, hr, fun v F1 H1 x1 r1 hv => sp_read (ks := ks) (Nat.succ.inj hl) t1 σ H1 _ F1 r1 fun ys F2 H2 x2 r2 hys hyl =>
    k (v :: ys) F2 H2 (x1.trans x2) r2 (.cons (At.mono hv x2) hys) (congrArg (· + 1) hyl)⟩
theorem KeysAre.some_ : ∀ {keys : List (Option Expr)} {ks : List Str}, KeysAre keys ks → keys.all (·.isSome) = true ∧ keys.length = ks.length
  | _, _, .nil => ⟨rfl, rfl⟩
  | _, _, .cons t => by
    obtain ⟨a, b⟩ := t.some_
    exact ⟨by rw [List.all_cons, a]; rfl, by rw [List.length_cons, List.length_cons, b]⟩
theorem se_dct {keys : List (Option Expr)} {ks : List Str} {vs : List Expr} {ds : List D} (hk : KeysAre keys ks) (hl : vs.length = ks.length) (h0 : ks ≠ []) (h15 : ks.length ≤ 15)
    (h : ∀ Z', InOk Z st Z' → SEs X Z' vs st st' ds) : SE X Z (.Dict keys vs pos) st st' (.own (.dct (mergeD [] (kstr ks ds)))) := by
  obtain ⟨k1, k2⟩ := hk.some_
  have hne : keys ≠ [] := fun z => by
    rw [z] at k2
    exact h0 (List.eq_nil_of_length_eq_zero k2.symm)
  refine pe_weak (pe_disp (pps_of hk hl) k1 (k2.trans hl.symm) hne (by rw [k2]; exact h15)) fun σ H Q ⟨F, hr, k⟩ q hq0 => ?_
  have hr1 := hr.new (o := .dK []) hq0
  refine sp_read hl (h ⟨Z.G, upd H q (.dK []), F, ownIO 0 st σ⟩ ⟨rfl, fun i a h => ?_⟩) σ _ _ F hr1.enter fun ys F' H' x1 r1 hys hyl => ?_
  · obtain ⟨j, c, h1, h2, _⟩ := ownIO_mem h
    rw [Nat.zero_add] at h1
    subst h1
    exact ⟨c, h2⟩
  · obtain ⟨t1, t2, t3⟩ := hr1.temp r1 (D := q) upd_same (hr.ext.none hq0) (fun i c' h => hr.notheld hq0 i c' h)
    have rl := hr1.leave r1 fun i a _ => rfl
    refine ⟨t1, kstr ks ys, rfl, by unfold kstr; rw [List.length_zip, List.length_map]; omega, ?_⟩
    exact k _ F' _ x1 (rl.setTmp t1 (fun dx xs z => by cases (show HO.dK _ = HO.ext _ from z)) t2 (hr.fresh0 hq0) t3) ⟨q, rfl, t2, hr.fresh0 hq0, ⟨_, upd_same, AtM.merge (AtM.kstr hys) .nil⟩, t3⟩
end
end PV


set_option Elab.async false
set_option linter.all false
set_option maxRecDepth 100000
set_option maxHeartbeats 4000000
/-! PV, part p: frames by closed layouts, so that all side conditions on names are closed Bools -/
namespace PV
open PySem L2 PyProof.Rows
open PySem.W (Frag)
structure Wd where
  P : Program
  w : World
  K : Frag
  mg : Str → Option Value
  base : Heap
  G : Str → Addr
def wdOf (X : Cx) (Z : PV.Env0) : Wd := ⟨X.prog, X.w, X.K, X.mg, X.base, Z.G⟩
structure Lay where
  N : List Str
  sc : Scope
  io : List Nat
  top : Bool
structure Fr (W : Wd) (k : Nat) (L : Lay) (X : Cx) (Z : PV.Env0) : Prop where
  w : wdOf X Z = W
  N : X.N = L.N
  nd : X.N.Nodup
  loc : ∀ n, L.sc.names.lookup n = some .local → X.env.scope.names.lookup n = some .local
  cel : ∀ n, L.sc.names.lookup n = some .cell → X.env.scope.names.lookup n = some .cell
  fre : ∀ n, L.sc.names.lookup n = some .free → X.env.scope.names.lookup n = some .cell ∨ X.env.scope.names.lookup n = some .free
  glo : ∀ n, L.sc.names.lookup n = some .globalImplicit → X.env.scope.names.lookup n = some .globalImplicit
  kd : X.env.scope.kind = .function
  fn : ∀ n, L.sc.names.lookup n = some .cell → X.fn n = true
  calm : X.calm = true
  room : Room k X.A
  gd : X.A.guards = some []
  io : ∀ i a, (i, a) ∈ Z.io → i ∈ L.io
  own : L.top = true → PassesOwn (model X.prog X.w) X.A X.env X.xe
  topE : L.top = true → X.env.scope = L.sc
def kdB (L : Lay) (n : Str) (p : NameKind → Bool) : Bool := match L.sc.names.lookup n with
  | some k => p k
  | none => false
def isVis : NameKind → Bool
  | .local | .cell | .free => true
  | _ => false
def isLoc : NameKind → Bool
  | .local | .cell => true
  | _ => false
def isLcl : NameKind → Bool
  | .local => true
  | _ => false
def isGlo : NameKind → Bool
  | .globalImplicit => true
  | _ => false
def okName (n : Str) : Bool := !(n == ("__debug__" : Str)) && !(n == ("__classdict__" : Str)) && !(n == ("__name__" : Str))
def ixB (L : Lay) (n : Str) (i : Nat) : Bool := decide (L.N[i]? = some n)
/-- n is the i-th slot and to be read -/
def rdB (L : Lay) (n : Str) (i : Nat) : Bool := ixB L n i && kdB L n isVis && okName n
/-- n is the i-th slot, to be set, and not handed in -/
def wrB (L : Lay) (n : Str) (i : Nat) : Bool := ixB L n i && kdB L n isLoc && !(L.io.any (· == i))
def wlB (L : Lay) (n : Str) (i : Nat) : Bool := ixB L n i && kdB L n isLcl && !(L.io.any (· == i))
def glB (L : Lay) (n : Str) : Bool := kdB L n isGlo && okName n
theorem kdB_inv {L : Lay} {n : Str} {p : NameKind → Bool} (h : kdB L n p = true) : ∃ k, L.sc.names.lookup n = some k ∧ p k = true := by
  unfold kdB at h
  split at h
  · exact ⟨_, by assumption, h⟩
  · cases h
theorem okName_inv {n : Str} (h : okName n = true) : (n == ("__debug__" : Str)) = false ∧ (n == ("__classdict__" : Str)) = false ∧ n ≠ "__name__" := by
  unfold okName at h
  simp only [Bool.and_eq_true, Bool.not_eq_true'] at h
  exact ⟨h.1.1, h.1.2, fun z => by
    have := h.2
    rw [z] at this
    simp at this⟩
section
variable {W : Wd} {k j : Nat} {L : Lay} {X : Cx} {Z : PV.Env0} {st st1 st2 st3 st' : Sta} {e e1 e2 : Expr} {es : List Expr} {r : R} {d x y z : D} {o : Out} {pos p : Pos} {n : Str} {i : Nat} {c : Cell}
theorem Fr.rd (F : Fr W k L X Z) (h : rdB L n i = true) : X.N[i]? = some n ∧ Vis X.env.scope n ∧ (n == ("__debug__" : Str)) = false ∧ (n == ("__classdict__" : Str)) = false := by
  unfold rdB ixB at h
  simp only [Bool.and_eq_true, decide_eq_true_eq] at h
  obtain ⟨⟨h1, h2⟩, h3⟩ := h
  obtain ⟨a, b, _⟩ := okName_inv h3
  refine ⟨F.N ▸ h1, ?_, a, b⟩
  obtain ⟨q, hq, hp⟩ := kdB_inv h2
  cases q with
  | «local» => exact .inl (F.loc _ hq)
  | cell => exact .inr (.inl (F.cel _ hq))
  | free => exact .inr (F.fre _ hq)
  | _ => cases hp
theorem Fr.gl (F : Fr W k L X Z) (h : glB L n = true) : Gl X n ∧ (n == ("__debug__" : Str)) = false ∧ n ≠ "__name__" := by
  unfold glB at h
  simp only [Bool.and_eq_true] at h
  obtain ⟨a, _, b⟩ := okName_inv h.2
  refine ⟨?_, a, b⟩
  obtain ⟨q, hq, hp⟩ := kdB_inv h.1
  cases q with
  | globalImplicit => exact F.glo _ hq
  | _ => cases hp
theorem Fr.noio (F : Fr W k L X Z) (h : (!(L.io.any (· == i))) = true) : ∀ a, (i, a) ∉ Z.io := fun a z => by
  have h2 := F.io i a z
  simp only [Bool.not_eq_true', List.any_eq_false, beq_iff_eq] at h
  exact h i h2 rfl
theorem Fr.wr (F : Fr W k L X Z) (h : wrB L n i = true) : X.N[i]? = some n ∧ Loc X.env.scope n ∧ (X.fn n = true ∨ X.env.scope.names.lookup n = some .local) ∧ ∀ a, (i, a) ∉ Z.io := by
  unfold wrB ixB at h
  simp only [Bool.and_eq_true, decide_eq_true_eq] at h
  obtain ⟨⟨h1, h2⟩, h3⟩ := h
  obtain ⟨q, hq, hp⟩ := kdB_inv h2
  cases q with
  | «local» => exact ⟨F.N ▸ h1, .inl (F.loc _ hq), .inr (F.loc _ hq), F.noio h3⟩
  | cell => exact ⟨F.N ▸ h1, .inr (F.cel _ hq), .inl (F.fn _ hq), F.noio h3⟩
  | _ => cases hp
theorem Fr.wl (F : Fr W k L X Z) (h : wlB L n i = true) : X.N[i]? = some n ∧ X.env.scope.names.lookup n = some .local ∧ ∀ a, (i, a) ∉ Z.io := by
  unfold wlB ixB at h
  simp only [Bool.and_eq_true, decide_eq_true_eq] at h
  obtain ⟨⟨h1, h2⟩, h3⟩ := h
  obtain ⟨q, hq, hp⟩ := kdB_inv h2
  cases q with
  | «local» => exact ⟨F.N ▸ h1, F.loc _ hq, F.noio h3⟩
  | _ => cases hp
/-! names -/
theorem p_var (F : Fr W k L X Z) (h : rdB L n i = true) (hs : st[i]? = some (some (Slot.val d))) : SE X Z (.Name n pos) st st (.val d) := by
  obtain ⟨a, b, c, g⟩ := F.rd h
  exact se_var a b hs c g
theorem p_varO (F : Fr W k L X Z) (h : rdB L n i = true) (hs : st[i]? = some (some (Slot.own c))) (hp : c.plain = true) (hd : c.d = d) (ht : st.set i (some (.val d)) = st') : SE X Z (.Name n pos) st st' (.val d) := by
  obtain ⟨a, b, g, g2⟩ := F.rd h
  subst hd
  subst ht
  exact se_varO a b hs hp g g2
structure ClsOk (W : Wd) (n : Str) : Prop where
  g : W.mg n = some (.ref (W.G n))
  kit : KitC W.K (W.G n)
theorem p_cls (F : Fr W k L X Z) (h : glB L n = true) (C : W.mg n = some (.ref (W.G n))) : SE X Z (.Name n pos) st st (.val (.cls n)) := by
  obtain ⟨a, b, _⟩ := F.gl h
  obtain rfl := F.w
  exact se_cls a C b
theorem p_ty {T : String} (F : Fr W k L X Z) (h : glB L n = true) (hm : W.mg n = none) (hv : bootBuiltins n = some (.type T)) : SE X Z (.Name n pos) st st (.val (.ty T)) := by
  obtain ⟨a, b, c⟩ := F.gl h
  obtain rfl := F.w
  exact se_ty a hm hv c b
theorem p_frz (h : SE X Z e st st1 (.own c)) (hp : c.plain = true) (hd : c.d = d) : SE X Z e st st1 (.val d) := by
  subst hd
  exact h.val hp
/-! calls of the built-in -/
theorem p_callB {ds : List D} {id : String} (F : Fr W k L X Z) (hg : glB L n = true) (hm : W.mg n = none) (hv : bootBuiltins n = some (.builtin id)) (hs : (e :: es).any isStar = false) (ha : SA X Z (e :: es) st st1 ds) (hc : CallOk X Z (.builtin id) ds r) : SE X Z (.Call (.Name n p) (e :: es) [] pos) st st1 r := by
  obtain ⟨a, b, c⟩ := F.gl hg
  obtain rfl := F.w
  exact se_callB hc a hm hv ha c b hs
theorem p_callTy {ds : List D} {T : String} (F : Fr W k L X Z) (hg : glB L n = true) (hm : W.mg n = none) (hv : bootBuiltins n = some (.type T)) (hs : (e :: es).any isStar = false) (ha : SA X Z (e :: es) st st1 ds) (hc : CallOk X Z (.type T) ds r) : SE X Z (.Call (.Name n p) (e :: es) [] pos) st st1 r := by
  obtain ⟨a, b, c⟩ := F.gl hg
  obtain rfl := F.w
  exact se_callTy hc a hm hv ha c b hs
/-! arguments that may be a cell -/
theorem p_arf {as : List ArgR} (F : Fr W k L X Z) (h : rdB L n i = true) (hs : st[i]? = some (some (Slot.own c))) (t : SA' X Z es st st2 as) : SA' X Z (.Name n p :: es) st st2 (.rf i :: as) := by
  obtain ⟨a, b, g, g2⟩ := F.rd h
  exact sa'_rf a b hs g g2 t
/-! defs -/
structure DefOk (W : Wd) (n : Str) (k : Nat) (ct : Ct) : Prop where
  ex : ∃ fa fd ps, FnG W.P W.w W.K W.mg W.base CX0 k fa fd ps (SpOf W.K W.G ct) ∧ W.mg n = some (.ref fa) ∧ PySem.W.keepIn W.K (.ref fa) = true ∧ Binds W.K fd ps []
def slotsPlain : List Slot → Bool
  | [] => true
  | .own c :: ss => c.plain && slotsPlain ss
  | .val _ :: ss => slotsPlain ss
theorem slotsPlain_at : ∀ {ss : List Slot} {j : Nat} {c : Cell}, slotsPlain ss = true → ss[j]? = some (Slot.own c) → c.plain = true
  | [], j, c, _, h => by simp at h
  | .own c' :: ss, 0, c, h, e => by
    simp at e
    subst e
    exact (Bool.and_eq_true_iff.mp h).1
  | .own c' :: ss, j + 1, c, h, e => slotsPlain_at (Bool.and_eq_true_iff.mp h).2 (by simpa using e)
  | .val _ :: ss, 0, c, h, e => by simp at e
  | .val _ :: ss, j + 1, c, h, e => slotsPlain_at (ss := ss) h (by simpa using e)
def nodupB : List Nat → Bool
  | [] => true
  | x :: xs => !(xs.any (· == x)) && nodupB xs
theorem nodupB_ok : ∀ {l : List Nat}, nodupB l = true → l.Nodup
  | [], _ => List.nodup_nil
  | x :: xs, h => by
    obtain ⟨a, b⟩ := Bool.and_eq_true_iff.mp h
    refine List.nodup_cons.mpr ⟨fun z => ?_, nodupB_ok b⟩
    simp only [Bool.not_eq_true', List.any_eq_false, beq_iff_eq] at a
    exact a x z rfl
theorem p_call {ct : Ct} {as : List ArgR} {sl outs : List Slot} (F : Fr W k L X Z) (hg : glB L n = true) (hD : DefOk W n j ct) (hj : Nat.ble j k = true) (hst : (e :: es).any isStar = false) (ha : SA' X Z (e :: es) st st1 as)
    (hs : argSlots st1 as = some sl) (hct : ct sl r outs) (nd : nodupB (rfs as) = true) (h1 : slotsPlain sl = true) (h2 : slotsPlain outs = true) (ho : putOuts st1 0 as outs = st') : SE X Z (.Call (.Name n p) (e :: es) [] pos) st st' r := by
  obtain ⟨a, b, c⟩ := F.gl hg
  subst ho
  obtain ⟨fa, fd, ps, f1, f2, f3, f4⟩ := hD.ex
  obtain rfl := F.w
  exact se_callG (E := E0) f1 (F.room.mono (Nat.le_of_ble_eq_true hj)) F.gd a f2 f3 f4 pass0 ha b hst hs (nodupB_ok nd) (fun j m c _ h => slotsPlain_at h1 h) (fun j c h => slotsPlain_at h2 h) hct
theorem p_call0 {ct : Ct} {outs : List Slot} (F : Fr W k L X Z) (hg : glB L n = true) (hD : DefOk W n j ct) (hj : Nat.ble j k = true) (hct : ct [] r outs) (h2 : slotsPlain outs = true) : SE X Z (.Call (.Name n p) [] [] pos) st st r := by
  obtain ⟨a, b, c⟩ := F.gl hg
  obtain ⟨fa, fd, ps, f1, f2, f3, f4⟩ := hD.ex
  obtain rfl := F.w
  exact se_callG0 (E := E0) f1 (F.room.mono (Nat.le_of_ble_eq_true hj)) F.gd a f2 f3 f4 pass0 b (fun j c h => slotsPlain_at h2 h) hct
/-! errors as values -/
def EOk (W : Wd) (n : Str) (fs : List Str) (j : Nat) : Prop := ∀ X Z, wdOf X Z = W → ErrI X Z n fs j
def E0k (W : Wd) (n : Str) : Prop := ∀ X Z, wdOf X Z = W → Err0 X Z n
theorem p_errP {fs : List Str} {ds : List D} {gs : List (Str × D)} (F : Fr W k L X Z) (hg : glB L n = true) (E : EOk W n fs j) (hj : Nat.ble (j + 1) k = true) (hst : (e :: es).any isStar = false) (ha : SA X Z (e :: es) st st1 ds) (hl : Nat.beq ds.length fs.length = true) (hf : Nat.ble fs.length 100 = true) (hgs : flds fs ds [] = gs) :
    SE X Z (.Call (.Name n p) (e :: es) [] pos) st st1 (.val (.err n gs)) := by
  obtain ⟨a, b, c⟩ := F.gl hg
  subst hgs
  exact se_errP (E X Z F.w) (F.room.mono (Nat.le_of_ble_eq_true hj)) (Nat.le_of_ble_eq_true hf) a ha b hst (Nat.eq_of_beq_eq_true hl)
theorem p_errK {kw : Keyword} {ks : List Keyword} {fs : List Str} {ds : List D} {gs : List (Str × D)} (F : Fr W k L X Z) (hg : glB L n = true) (E : EOk W n fs j) (hj : Nat.ble (j + 1) k = true) (hks : kwNames (kw :: ks) = fs.reverse.map some) (ha : SK X Z (kw :: ks) st st1 ds) (hl : Nat.beq ds.length fs.length = true) (hf : Nat.ble fs.length 100 = true)
    (hgs : flds fs ds.reverse [] = gs) : SE X Z (.Call (.Name n p) [] (kw :: ks) pos) st st1 (.val (.err n gs)) := by
  obtain ⟨a, b, c⟩ := F.gl hg
  subst hgs
  exact se_errK (E X Z F.w) (F.room.mono (Nat.le_of_ble_eq_true hj)) (Nat.le_of_ble_eq_true hf) a ha b hks (Nat.eq_of_beq_eq_true hl)
theorem p_err0 (F : Fr W k L X Z) (hg : glB L n = true) (E : E0k W n) : SE X Z (.Call (.Name n p) [] [] pos) st st (.val (.err n [])) := by
  obtain ⟨a, b, c⟩ := F.gl hg
  exact se_err0 (E X Z F.w) a b
/-- reading fields of an error -/
structure FOk (W : Wd) (C f : Str) : Prop where
  T : ErrC W.K (W.G C)
  no : PySem.W.findIn W.K (.ref (W.G C)) f = some none
theorem p_errF {C f : Str} {ds : List (Str × D)} (F : Fr W k L X Z) (h : SE X Z e st st1 (.val (.err C ds))) (hb : attrPlain e = true) (T : FOk W C f) (hl : ds.lookup f = some d) : SE X Z (.Attribute e f pos) st st1 (.val d) := by
  obtain rfl := F.w
  exact se_errF h hb T.T T.no hl
/-! slots of one's own: indexing -/
theorem p_ixO {ds : List D} {j : Int} (F : Fr W k L X Z) (h : rdB L n i = true) (hs0 : st[i]? = some (some (Slot.own c))) (h2 : SE X Z e2 st st1 (.val (.int j))) (hs1 : st1[i]? = some (some (Slot.own (.lst ds)))) (hs : noSlice e2 = true) (hi : atI ds j = some d) : SE X Z (.Subscript (.Name n p) e2 pos) st st1 (.val d) := by
  obtain ⟨a, b, g, g2⟩ := F.rd h
  exact se_ixO a b ⟨c, hs0⟩ g g2 h2 hs1 hs hi
theorem p_setIx {ds : List D} {i j : Nat} {k' : Int} {p' : Pos} (F : Fr W k L X Z) (h : rdB L n i = true) (h1 : SE X Z e st st1 (.val d)) (hs1 : st1[i]? = some (some (Slot.own c))) (h2 : SE X Z e2 st1 st2 (.val (.int k'))) (hs2 : st2[i]? = some (some (Slot.own (.lst ds))))
    (hk : ixN ds.length k' = some j) (hns : noSlice e2 = true) (hs : swapsWithSole [.Subscript (.Name n p) e2 p'] e pos.line X.env = pure false) (hw : swappedStores [.Subscript (.Name n p) e2 p'] e X.env = pure none) (ht : st2.set i (some (.own (.lst (ds.set j d)))) = st') :
    SS X Z (.Assign [.Subscript (.Name n p) e2 p'] e pos) st (.nx st') := by
  obtain ⟨a, b, g, g2⟩ := F.rd h
  subst ht
  exact ss_setIx a b g g2 h1 ⟨c, hs1⟩ h2 hs2 hk hns hs hw
/-! statements -/
theorem p_set {px : Pos} {s : Slot} (F : Fr W k L X Z) (hi : wrB L n i = true) (h : SE X Z e st st1 r) (hp : Rfz r = true) (hs : swapsWith e (some (.Name n px)) pos.line X.env = pure false) (hl : Nat.blt i st1.length = true) (hr : r.slot = s) (ht : st1.set i (some s) = st') : SS X Z (.Assign [.Name n px] e pos) st (.nx st') := by
  obtain ⟨a, b, f, g⟩ := F.wr hi
  subst hr
  subst ht
  exact ps_weak (ps_set F.nd a b h hs f) fun D σ H ⟨F, hr, k⟩ => ⟨F, hr, fun v F' H' ex hr' hv => k _ F' H' ex (hr'.put hv hp g (Nat.le_of_ble_eq_true hl))⟩
theorem p_gname (F : Fr W k L X Z) (hi : wrB L n i = true) (hl : Nat.blt i st.length = true) (ht : st.set i (some (.val d)) = st') : SG X Z (.Name n p) d st st' [i] := by
  obtain ⟨a, b, f, g⟩ := F.wr hi
  subst ht
  exact sg_name F.nd a b f g (Nat.le_of_ble_eq_true hl)
theorem p_gtup {tgs : List Expr} {ds : List D} {cc : _} {is : List Nat} (F : Fr W k L X Z) (h : SGs X Z tgs ds st st1 is) (hs : tgs.any isStar = false) (hl : Nat.beq ds.length tgs.length = true) : SG X Z (.Tuple tgs cc p) (.tup ds) st st1 is :=
  sg_tup F.calm h hs (Nat.eq_of_beq_eq_true hl)
theorem p_for {tg it : Expr} {body : List Stmt} {items : List D} (F : Fr W k L X Z) (ht : L.top = true) (hi : SI X Z tg it st st1 items) (hf : ForR (TurnS X Z tg body) items st1 o) (hs : ∀ x, foldedSetIterable it X.env x = pure x) : SS X Z (.For tg it body [] pos) st o :=
  ss_for (F.own ht) F.calm hi hf hs
theorem p_range1 {tg : Expr} {m : Int} {nn : Nat} {items : List D} (F : Fr W k L X Z) (hg : glB L "range" = true) (hm : W.mg "range" = none) (hs : isStar e = false) (h : SA X Z [e] st st1 [.int m]) (h1 : -(2 ^ 62) ≤ m) (h2 : m < 2 ^ 62) (hn : m.toNat = nn) (hi : rangeD nn = items) : SI X Z tg (.Call (.Name "range" p) [e] [] pos) st st1 items := by
  obtain ⟨a, _, _⟩ := F.gl hg
  obtain rfl := F.w
  subst hn
  subst hi
  exact si_range1 a hm h hs h1 h2
theorem p_enum {tgs : List Expr} {cc : _} {tp : Pos} {xs items : List D} (F : Fr W k L X Z) (hg : glB L "enumerate" = true) (hm : W.mg "enumerate" = none) (hs : isStar e = false) (h : SA X Z [e] st st1 [.lst xs]) (hi : enumD 0 xs = items) : SI X Z (.Tuple tgs cc tp) (.Call (.Name "enumerate" p) [e] [] pos) st st1 items := by
  obtain ⟨a, _, _⟩ := F.gl hg
  obtain rfl := F.w
  subst hi
  exact si_enum a hm h hs
theorem p_turn {tg : Expr} {body : List Stmt} {is : List Nat} (h : SG X Z tg d st st' is) (hb : SSs X Z body st' o) : TurnS X Z tg body d st o := ⟨st', is, h, hb⟩
/-- two names at once -/
theorem p_par {i j : Nat} {n1 n2 : Str} {p1 p2 pt pt2 : Pos} {kt k2} {d1 d2 : D} (F : Fr W k L X Z) (h1 : wlB L n1 i = true) (h2 : wlB L n2 j = true) (hij : Nat.beq i j = false) (ha : SA X Z [e1, e2] st st1 [d1, d2]) (hw : swappedStores [.Tuple [.Name n1 p1, .Name n2 p2] kt pt] (.Tuple [e1, e2] k2 pt2) X.env = pure (some [n1, n2]))
    (hl : Nat.blt i st1.length = true) (hl2 : Nat.blt j st1.length = true) (ht : (st1.set i (some (.val d1))).set j (some (.val d2)) = st') : SS X Z (.Assign [.Tuple [.Name n1 p1, .Name n2 p2] kt pt] (.Tuple [e1, e2] k2 pt2) pos) st (.nx st') := by
  obtain ⟨a1, b1, c1⟩ := F.wl h1
  obtain ⟨a2, b2, c2⟩ := F.wl h2
  subst ht
  refine ps_weak (ps_par F.calm F.nd a1 a2 (Nat.ne_of_beq_eq_false hij) b1 b2 ha hw) fun D σ H ⟨F, hr, k⟩ => ⟨F, hr, fun vs F' H' ex hr' hv => ?_⟩
  obtain ⟨v, u, rfl, hv, hu⟩ := AtL.inv2 hv
  refine ⟨v, u, rfl, k _ F' H' ex ?_⟩
  have q1 := hr'.put (i := i) (r := .val d1) (show RAt _ _ _ _ _ _ _ _ (.val d1) from hv) rfl c1 (Nat.le_of_ble_eq_true hl)
  exact q1.put (i := j) (r := .val d2) (show RAt _ _ _ _ _ _ _ _ (.val d2) from hu) rfl c2 (by rw [List.length_set]; exact Nat.le_of_ble_eq_true hl2)
end
end PV


set_option Elab.async false
set_option linter.all false
set_option maxRecDepth 100000
set_option maxHeartbeats 4000000
/-! PV, part q: blocks of comprehensions; a def by its body -/
namespace PV
open PySem L2 PyProof.Rows
open PySem.W (Frag)
def ownIx : Nat → Sta → List Nat
  | _, [] => []
  | k, some (.own _) :: st => k :: ownIx (k + 1) st
  | k, some (.val _) :: st => ownIx (k + 1) st
  | k, none :: st => ownIx (k + 1) st
theorem ownIx_mem {c : Cell} : ∀ {st : Sta} {k i : Nat}, st[i]? = some (some (Slot.own c)) → k + i ∈ ownIx k st
  | [], k, i, h => by simp at h
  | some (.own _) :: st, k, 0, h => List.mem_cons_self ..
  | some (.own _) :: st, k, i + 1, h => List.mem_cons_of_mem _ (by
      have := ownIx_mem (st := st) (k := k + 1) (i := i) (by simpa using h)
      rw [show k + (i + 1) = k + 1 + i by omega]
      exact this)
  | some (.val _) :: st, k, 0, h => by simp at h
  | none :: st, k, 0, h => by simp at h
  | some (.val _) :: st, k, i + 1, h => by
      have := ownIx_mem (st := st) (k := k + 1) (i := i) (by simpa using h)
      rw [show k + (i + 1) = k + 1 + i by omega]
      exact this
  | none :: st, k, i + 1, h => by
      have := ownIx_mem (st := st) (k := k + 1) (i := i) (by simpa using h)
      rw [show k + (i + 1) = k + 1 + i by omega]
      exact this
def blkL (L : Lay) (scope : Scope) (st : Sta) : Lay := ⟨L.N, scope, ownIx 0 st, false⟩
theorem lookup_relabel {env : Env} : ∀ {names : List (Str × NameKind)} {x : Str} {k : NameKind}, names.lookup x = some k →
    (names.map fun (n, k) => if (k == NameKind.free && env.scope.kind == .function && env.kindOf n == some .cell) then (n, NameKind.cell) else (n, k)).lookup x = some k ∨
    (k = .free ∧ (names.map fun (n, k) => if (k == NameKind.free && env.scope.kind == .function && env.kindOf n == some .cell) then (n, NameKind.cell) else (n, k)).lookup x = some .cell)
  | [], _, _, h => by simp at h
  | (n, k') :: r, x, k, h => by
    have ih := @lookup_relabel env r x k
    rw [List.map_cons]
    dsimp only
    cases hx : x == n with
    | true =>
      simp only [List.lookup_cons, hx] at h
      cases h
      by_cases hc : (k' == NameKind.free && env.scope.kind == .function && env.kindOf n == some .cell) = true
      · right
        rw [if_pos hc]
        simp only [Bool.and_eq_true, beq_iff_eq] at hc
        exact ⟨hc.1.1, by simp only [List.lookup_cons, hx]⟩
      · left
        rw [if_neg hc]
        simp only [List.lookup_cons, hx]
    | false =>
      simp only [List.lookup_cons, hx] at h
      have := ih h
      by_cases hc : (k' == NameKind.free && env.scope.kind == .function && env.kindOf n == some .cell) = true
      · rw [if_pos hc]
        simp only [List.lookup_cons, hx]
        exact this
      · rw [if_neg hc]
        simp only [List.lookup_cons, hx]
        exact this
section
variable {W : Wd} {k j : Nat} {L : Lay} {X : Cx} {Z Z' : PV.Env0} {st st1 st2 st3 st' : Sta} {e e1 e2 : Expr} {es : List Expr} {r : R} {d x y z : D} {o : Out} {pos p : Pos} {n : Str} {i : Nat} {c : Cell} {scope : Scope} {own : List (Str × Nat)}
theorem Fr.blkOk (F : Fr W k L X Z) (h : blkC L.N L.sc scope own = true) : BlkOk X.N X.env.scope scope own := by
  have ok := blkOk_by h
  refine ⟨ok.kind, ok.uniq, F.N ▸ ok.ix, fun y hy e => ?_, F.N ▸ ok.own⟩
  rcases ok.free y hy e with q | q
  · exact .inl (F.cel _ q)
  · rcases F.fre _ q with q | q
    · exact .inl q
    · exact .inr q
theorem Fr.blk (F : Fr W k L X Z) (hin : InOk Z st Z') (h : blkC L.N L.sc scope own = true) (s : Shared) (H : Hp) (C : Addr) (cl : List (Str × Addr)) (fp : List Addr) : Fr W k (blkL L scope st) (X.blk s H scope (compEnvC scope cl C X.env) fp) Z' where
  w := by
    obtain rfl := F.w
    show Wd.mk _ _ _ _ _ _ = Wd.mk _ _ _ _ _ _
    rw [hin.1]
  N := F.N
  nd := F.nd
  loc := fun n q => lookup_relabel_local q
  cel := fun n q => by
    rcases lookup_relabel (env := X.env) q with h | ⟨h, _⟩
    · exact h
    · cases h
  fre := fun n q => by
    rcases lookup_relabel (env := X.env) q with h | ⟨_, h⟩
    · exact .inr h
    · exact .inl h
  glo := fun n q => by
    rcases lookup_relabel (env := X.env) q with h | ⟨h, _⟩
    · exact h
    · cases h
  kd := (blkOk_by h).kind
  fn := fun n q => by
    show (scope.names.lookup n == some .cell) = true
    rw [show scope.names.lookup n = some .cell from q]
    rfl
  calm := F.calm
  room := F.room
  gd := F.gd
  io := fun i a q => by
    obtain ⟨c, hc⟩ := hin.2 i a q
    have := ownIx_mem (k := 0) hc
    rwa [Nat.zero_add] at this
  own := fun z => by cases z
  topE := fun z => by cases z
def cleanB : Nat → Sta → List Nat → Bool
  | _, [], _ => true
  | k, none :: st, vs => cleanB (k + 1) st vs
  | k, some _ :: st, vs => !(vs.any (· == k)) && cleanB (k + 1) st vs
theorem cleanB_ok : ∀ {st : Sta} {k : Nat} {vs : List Nat}, cleanB k st vs = true → ∀ (i : Nat) (s : Slot), st[i]? = some (some s) → k + i ∉ vs
  | [], k, vs, _, i, s, h => by simp at h
  | none :: st, k, vs, q, 0, s, h => by simp at h
  | none :: st, k, vs, q, i + 1, s, h => by
    rw [show k + (i + 1) = k + 1 + i by omega]
    exact cleanB_ok (st := st) q i s (by simpa using h)
  | some x :: st, k, vs, q, 0, s, h => fun z => by
    obtain ⟨a, _⟩ := Bool.and_eq_true_iff.mp q
    simp only [Bool.not_eq_true', List.any_eq_false, beq_iff_eq] at a
    exact a _ z rfl
  | some x :: st, k, vs, q, i + 1, s, h => by
    rw [show k + (i + 1) = k + 1 + i by omega]
    exact cleanB_ok (st := st) (Bool.and_eq_true_iff.mp q).2 i s (by simpa using h)
def apartB (io vs : List Nat) : Bool := io.all fun i => !(vs.any (· == i))
theorem Fr.apart (F : Fr W k L X Z) {vs : List Nat} (h : apartB L.io vs = true) : ∀ (i : Nat) (a : Addr), (i, a) ∈ Z.io → i ∉ vs := fun i a q z => by
  have h2 := List.all_eq_true.mp h i (F.io i a q)
  simp only [Bool.not_eq_true', List.any_eq_false, beq_iff_eq] at h2
  exact h2 i z rfl
theorem p_lc {tg it elt : Expr} {ifs : List Expr} {items ys : List D} {vs : List Nat} (own : List (Str × Nat)) (F : Fr W k L X Z) (ok : blkC L.N L.sc scope own = true) (hv : own.map (·.2) = vs) (hap : apartB L.io vs = true) (hi : SI X Z tg it st st1 items) (hcl : cleanB 0 st1 vs = true) (hl : Nat.blt items.length sizeLine = true)
    (hs : ∀ x, foldedSetIterable it X.env x = pure x) (hf : blkC L.N L.sc scope own = true → LcR (TurnC X Z scope tg ifs elt vs) items st1 ys st2) : SE X Z (.ListComp elt [⟨tg, it, ifs, 0⟩] scope pos) st st2 (.own (.lst ys)) := by
  subst hv
  exact se_lc F.calm F.nd hi (F.blkOk ok) (fun i s h => by
    have := cleanB_ok hcl i s h
    rwa [Nat.zero_add] at this) (F.apart hap) (hf ok) (Nat.le_of_ble_eq_true hl) hs
theorem p_turnC {tg elt : Expr} {vs is : List Nat} (F : Fr W k L X Z) (ok : blkC L.N L.sc scope own = true) (h : ∀ X' Z', Fr W k (blkL L scope st) X' Z' → SG X' Z' tg d st st1 is) (his : (is.all fun j => vs.any (· == j)) = true)
    (h3 : ∀ X' Z', Fr W k (blkL L scope st) X' Z' → SE X' Z' elt st1 st2 (.val y)) (hw : wipeS st2 vs = st') : TurnC X Z scope tg [] elt vs d st (some y) st' :=
  ⟨st1, st1, is, true, fun j hj => by
    have := List.all_eq_true.mp his j hj
    simp only [List.any_eq_true, beq_iff_eq] at this
    obtain ⟨a, b, rfl⟩ := this
    exact b, fun Z' hin s H C cl fp => h _ _ (F.blk hin ok s H C cl fp), fun Z' hin s H C cl fp => ⟨fun pins s σ H Q I q => pts_nil.run pins s σ H Q I (by
      obtain ⟨F1, hr, k⟩ := q
      exact k F1 H (Ex.refl F1) hr)⟩, rfl, st2, fun Z' hin s H C cl fp => h3 _ _ (F.blk hin ok s H C cl fp), hw.symm⟩
/-- all turns alike, the state as it was -/
theorem lcr_map {B : D → Sta → Option D → Sta → Prop} {f : D → D} : ∀ {ds : List D}, (∀ d ∈ ds, B d st (some (f d)) st) → LcR B ds st (ds.map f) st
  | [], _ => .nil st
  | d :: ds, h => .take (h d (List.mem_cons_self ..)) (lcr_map fun d' h' => h d' (List.mem_cons_of_mem _ h'))
end
/-! ### a def -/
def startS (N : List Str) (sl : List Slot) : Sta := sl.map some ++ List.replicate (N.length - sl.length) none
section
variable {K : Frag} {G : Str → Addr} {F H : Hp}
theorem SlotsAt.length {vs : List V} {sl : List Slot} (h : SlotsAt K G F H vs sl) : vs.length = sl.length := by
  induction h with
  | nil => rfl
  | val _ _ ih => exact congrArg (· + 1) ih
  | own _ _ _ ih => exact congrArg (· + 1) ih
theorem CellAt.some {a : Addr} {c : Cell} (h : CellAt K G F H a c) : ∃ o, H a = some o := by
  match c, h with
  | .lst _, ⟨_, h, _⟩ => exact ⟨_, h⟩
  | .dct _, ⟨_, h, _⟩ => exact ⟨_, h⟩
  | .ins _ _, ⟨_, _, h, _⟩ => exact ⟨_, h⟩
  | .exo _ [], h => exact ⟨_, h⟩
  | .exo _ (_ :: _), ⟨_, _, h, _⟩ => exact ⟨_, h⟩
theorem SlotsAt.io {vs : List V} {sl : List Slot} (h : SlotsAt K G F H vs sl) : ∀ {k i : Nat} {a : Addr}, (i, a) ∈ ioOf k vs sl → ∃ j c, i = k + j ∧ vs[j]? = some (.ref a) ∧ sl[j]? = some (.own c) ∧ F a = none ∧ CellAt K G F H a c := by
  induction h with
  | nil =>
    intro k i a h
    cases h
  | val hv t ih =>
    rename_i v d vs as
    intro k i a h
    have h' : (i, a) ∈ ioOf (k + 1) vs as := by
      cases v <;> exact h
    obtain ⟨j, c, e, h1, h2, h3, h4⟩ := ih h'
    exact ⟨j + 1, c, by omega, by simpa using h1, by simpa using h2, h3, h4⟩
  | own hF hc t ih =>
    rename_i b c vs as
    intro k i a h
    rcases List.mem_cons.mp (show (i, a) ∈ (k, b) :: ioOf (k + 1) vs as from h) with q | q
    · cases q
      exact ⟨0, c, rfl, rfl, rfl, hF, hc⟩
    · obtain ⟨j, c, e, h1, h2, h3, h4⟩ := ih q
      exact ⟨j + 1, c, by omega, by simpa using h1, by simpa using h2, h3, h4⟩
theorem SlotsAt.at {vs : List V} {sl : List Slot} (h : SlotsAt K G F H vs sl) : ∀ {k j : Nat} {s : Slot}, sl[j]? = some s → ∃ v, vs[j]? = some v ∧ ((∃ d, s = .val d ∧ At K G F v d) ∨ ∃ c a, s = .own c ∧ v = .ref a ∧ F a = none ∧ (k + j, a) ∈ ioOf k vs sl ∧ CellAt K G F H a c) := by
  induction h with
  | nil =>
    intro k j s h
    simp at h
  | val hv t ih =>
    rename_i v d vs as
    intro k j s h
    match j, h with
    | 0, h =>
      simp at h
      subst h
      exact ⟨v, rfl, .inl ⟨d, rfl, hv⟩⟩
    | j + 1, h =>
      obtain ⟨u, h1, h2⟩ := ih (k := k + 1) (j := j) (s := s) (by simpa using h)
      refine ⟨u, by simpa using h1, ?_⟩
      rcases h2 with h2 | ⟨c, a, e1, e2, e3, e4, e5⟩
      · exact .inl h2
      · refine .inr ⟨c, a, e1, e2, e3, ?_, e5⟩
        rw [show k + (j + 1) = k + 1 + j by omega]
        cases v <;> exact e4
  | own hF hc t ih =>
    rename_i b c vs as
    intro k j s h
    match j, h with
    | 0, h =>
      simp at h
      subst h
      exact ⟨_, rfl, .inr ⟨c, b, rfl, rfl, hF, List.mem_cons_self .., hc⟩⟩
    | j + 1, h =>
      obtain ⟨u, h1, h2⟩ := ih (k := k + 1) (j := j) (s := s) (by simpa using h)
      refine ⟨u, by simpa using h1, ?_⟩
      rcases h2 with h2 | ⟨c, a, e1, e2, e3, e4, e5⟩
      · exact .inl h2
      · refine .inr ⟨c, a, e1, e2, e3, ?_, e5⟩
        rw [show k + (j + 1) = k + 1 + j by omega]
        exact List.mem_cons_of_mem _ e4
theorem startS_at {N : List Str} {sl : List Slot} {i : Nat} {s : Slot} (h : (startS N sl)[i]? = some (some s)) : sl[i]? = some s := by
  unfold startS at h
  by_cases hi : i < sl.length
  · rw [List.getElem?_append_left (by rw [List.length_map]; exact hi), List.getElem?_map] at h
    cases q : sl[i]? with
    | none =>
      rw [q] at h
      cases h
    | some s' =>
      rw [q] at h
      cases h
      rfl
  · rw [List.getElem?_append_right (by rw [List.length_map]; omega), List.getElem?_replicate] at h
    split at h
    · cases h
    · cases h
theorem start_at {N : List Str} {vs : List V} {i : Nat} {v : V} (h : vs[i]? = some v) : (L2.start N vs)[i]? = some (some v) := by
  unfold L2.start
  have hi : i < vs.length := by
    apply Classical.byContradiction
    intro q
    rw [List.getElem?_eq_none (by omega)] at h
    cases h
  rw [List.getElem?_append_left (by rw [List.length_map]; exact hi), List.getElem?_map, h]
  rfl
theorem io_inj : ∀ {l : List (Nat × Addr)} {i j : Nat} {a : Addr}, (l.map (·.2)).Nodup → (i, a) ∈ l → (j, a) ∈ l → i = j
  | [], _, _, _, _, h, _ => by cases h
  | (x, b) :: l, i, j, a, nd, h1, h2 => by
    rw [List.map_cons, List.nodup_cons] at nd
    rcases List.mem_cons.mp h1 with q1 | q1 <;> rcases List.mem_cons.mp h2 with q2 | q2
    · cases q1
      cases q2
      rfl
    · cases q1
      exact absurd (List.mem_map.mpr ⟨_, q2, rfl⟩) nd.1
    · cases q2
      exact absurd (List.mem_map.mpr ⟨_, q1, rfl⟩) nd.1
    · exact io_inj nd.2 q1 q2
theorem rel_start {N : List Str} {vs : List V} {sl : List Slot} (ex : Ex F H) (h : SlotsAt K G F H vs sl) (nd : ((ioOf 0 vs sl).map (·.2)).Nodup) (hp : slotsPlain sl = true) (hl : sl.length ≤ N.length) : Rel K G H F (ioOf 0 vs sl) (startS N sl) (L2.start N vs) F H where
  ext := ex
  gf := fun a o q => .inl ⟨o, q⟩
  fr := fun a o q _ => q
  ioH := fun i a q => by
    obtain ⟨j, c, e, h1, _, _, hc⟩ := h.io q
    obtain ⟨o, ho⟩ := hc.some
    rw [Nat.zero_add] at e
    subst e
    exact ⟨⟨o, ho⟩, ⟨o, ho⟩, start_at h1⟩
  len := by
    unfold startS L2.start
    rw [List.length_append, List.length_append, List.length_map, List.length_map, List.length_replicate, List.length_replicate, h.length]
  sl := fun i s q => by
    obtain ⟨v, h1, h2⟩ := h.at (k := 0) (startS_at q)
    refine ⟨v, start_at h1, ?_⟩
    rcases h2 with ⟨d, rfl, h2⟩ | ⟨c, a, rfl, rfl, e3, e4, e5⟩
    · exact h2
    · exact ⟨a, rfl, e3, .inr ⟨_, e4⟩, e5⟩
  sep := fun i j ci cj ne q1 q2 => by
    obtain ⟨v1, a1, b1⟩ := h.at (k := 0) (startS_at q1)
    obtain ⟨v2, a2, b2⟩ := h.at (k := 0) (startS_at q2)
    rw [start_at a1, start_at a2]
    rcases b1 with ⟨_, z, _⟩ | ⟨_, c1, _, rfl, _, m1, _⟩
    · cases z
    rcases b2 with ⟨_, z, _⟩ | ⟨_, c2, _, rfl, _, m2, _⟩
    · cases z
    intro z
    cases z
    have := io_inj nd m1 m2
    omega
  one := fun i C fs q => by
    have := slotsPlain_at hp (startS_at q)
    cases this
end
def ioIx : Nat → List Slot → List Nat
  | _, [] => []
  | k, .own _ :: sl => k :: ioIx (k + 1) sl
  | k, .val _ :: sl => ioIx (k + 1) sl
theorem ioIx_mem : ∀ {k : Nat} {vs : List V} {sl : List Slot} {i : Nat} {a : Addr}, (i, a) ∈ ioOf k vs sl → i ∈ ioIx k sl
  | k, [], sl, i, a, h => by
    cases sl <;> cases h
  | k, v :: vs, [], i, a, h => by
    cases v <;> cases h
  | k, v :: vs, .val d :: sl, i, a, h => by
    have h' : (i, a) ∈ ioOf (k + 1) vs sl := by
      cases v <;> exact h
    exact (show i ∈ ioIx (k + 1) sl from ioIx_mem h')
  | k, v :: vs, .own c :: sl, i, a, h => by
    cases v with
    | ref b =>
      rcases List.mem_cons.mp (show (i, a) ∈ (k, b) :: ioOf (k + 1) vs sl from h) with q | q
      · cases q
        exact List.mem_cons_self ..
      · exact List.mem_cons_of_mem _ (ioIx_mem q)
    | _ => exact List.mem_cons_of_mem _ (ioIx_mem (show (i, a) ∈ ioOf (k + 1) vs sl from h))
/-- what the cells handed in hold at the end -/
def outsB : Nat → List Slot → Sta → List Slot → Prop
  | _, [], _, _ => True
  | k, .val _ :: sl, st, outs => outsB (k + 1) sl st outs
  | k, .own _ :: sl, st, outs => (∃ c, st[k]? = some (some (Slot.own c)) ∧ outs[k]? = some (Slot.own c)) ∧ outsB (k + 1) sl st outs
theorem outsB_at : ∀ {k : Nat} {sl : List Slot} {st : Sta} {outs : List Slot}, outsB k sl st outs → ∀ {j : Nat} {c : Cell}, sl[j]? = some (.own c) → ∃ c', st[k + j]? = some (some (Slot.own c')) ∧ outs[k + j]? = some (Slot.own c')
  | k, [], st, outs, _, j, c, h => by simp at h
  | k, .val _ :: sl, st, outs, q, 0, c, h => by simp at h
  | k, .val _ :: sl, st, outs, q, j + 1, c, h => by
    rw [show k + (j + 1) = k + 1 + j by omega]
    exact outsB_at (sl := sl) q (by simpa using h)
  | k, .own _ :: sl, st, outs, q, 0, c, h => q.1
  | k, .own _ :: sl, st, outs, q, j + 1, c, h => by
    rw [show k + (j + 1) = k + 1 + j by omega]
    exact outsB_at (sl := sl) q.2 (by simpa using h)
theorem p_defF {W : Wd} {x qual : Str} {stm : Stmt} {f : Addr} {fd : FuncData} {N ps : List Str} {k : Nat} {ct : Ct} (Fn : Fun W.K x qual stm f fd) (S : FnScope N ps (defScope stm))
    (hl : ∀ sl r outs, ct sl r outs → sl.length = ps.length ∧ slotsPlain sl = true) (hNl : ps.length ≤ N.length)
    (body : ∀ sl r outs, ct sl r outs → ∀ X Z, Fr W k ⟨N, defScope stm, ioIx 0 sl, true⟩ X Z → ∃ st', SSs X Z (defBody stm) (startS N sl) (.rt r st') ∧ outsB 0 sl st' outs) : FnG W.P W.w W.K W.mg W.base CX0 (k + 1) f fd ps (SpOf W.K W.G ct) := by
  obtain ⟨oc, od, kV, doc, pm, an, cdv, ctv, osl, rfl, lk, hcd⟩ := Fn.ex
  refine fnG_of lk hcd S (fun vs H Q E q => ?_) fun A outer s H vs Q E hr hgd hsp => ?_
  · obtain ⟨F, as, r, outs, _, sa, _, hct, _⟩ := q
    rw [sa.length, (hl _ _ _ hct).1]
  · obtain ⟨F, sl, r, outs, ex, sa, nd, hct, hQ⟩ := hsp
    obtain ⟨l1, l2⟩ := hl _ _ _ hct
    obtain ⟨st', hS, ho⟩ := body sl r outs hct (cxOf CX0 W.P W.w W.K W.mg W.base N qual (defScope stm) f cdv A outer s H E) ⟨W.G, H, F, ioOf 0 vs sl⟩
      { w := rfl, N := rfl, nd := S.nd, loc := fun _ h => h, cel := fun _ h => h, fre := fun _ h => .inr h, glo := fun _ h => h, kd := S.kind, fn := fun _ _ => rfl, calm := rfl, room := hr, gd := hgd, io := fun i a h => ioIx_mem h, own := fun _ => passes_of rfl, topE := fun _ => rfl }
    refine ⟨_, hS, F, rel_start ex sa nd l2 (by omega), fun v σ' F' H' e hr' hv => ?_⟩
    have key : ∀ i a, (i, a) ∈ ioOf 0 vs sl → F' a = none ∧ ∃ c, outs[i]? = some (Slot.own c) ∧ CellAt W.K W.G F' H' a c := fun i a hi => by
      obtain ⟨j, c, ej, h1, h2, h3, h4⟩ := sa.io hi
      obtain ⟨c', q1, q2⟩ := outsB_at ho h2
      rw [← ej] at q1 q2
      obtain ⟨u, u1, u2⟩ := hr'.sl i _ q1
      obtain ⟨_, _, i3⟩ := hr'.ioH i a hi
      rw [i3] at u1
      cases u1
      obtain ⟨b, e1, e2, e3, e4⟩ := u2
      cases e1
      exact ⟨e2, c', q2, e4⟩
    refine hQ v F' H' e hr'.ext (fun a o h => ?_) hr'.fr key ?_
    · rcases hr'.gf a o h with h1 | h1 | ⟨i, h1⟩
      · exact .inl h1
      · exact .inr h1
      · have := (key i a h1).1
        rw [h] at this
        cases this
    · match r, hv with
      | .val d, hv => exact hv
      | .own c, ⟨a, e1, e2, e3, e4, _⟩ => exact ⟨a, e1, e2, e3, e4, fun i c' h => by simp at h⟩
theorem p_def {W : Wd} {n x qual : Str} {stm : Stmt} {f : Addr} {fd : FuncData} {N ps : List Str} {k : Nat} {ct : Ct} (Fn : Fun W.K x qual stm f fd) (hm : W.mg n = some (.ref f)) (S : FnScope N ps (defScope stm))
    (hb : ∀ (kV doc pm : Value) (an : Option Addr) (cdv ct : Value) (us : List Value), us.length = ps.length → bindArgs (PySem.W.fnOf x qual (defArgs stm) (defBody stm) (defScope stm) .none kV doc pm an cdv ct) ⟨us, []⟩ = pure (ps.zip us))
    (hl : ∀ sl r outs, ct sl r outs → sl.length = ps.length ∧ slotsPlain sl = true) (hNl : ps.length ≤ N.length)
    (body : ∀ sl r outs, ct sl r outs → ∀ X Z, Fr W k ⟨N, defScope stm, ioIx 0 sl, true⟩ X Z → ∃ st', SSs X Z (defBody stm) (startS N sl) (.rt r st') ∧ outsB 0 sl st' outs) : DefOk W n (k + 1) ct :=
  ⟨f, fd, ps, p_defF Fn S hl hNl body, hm, Fn.kp, Fn.binds hb⟩
end PV


set_option Elab.async false
set_option linter.all false
set_option maxRecDepth 100000
set_option maxHeartbeats 4000000
/-! PV, part r: the rules in the form that the tactic takes -/
namespace PV
open PySem L2 PyProof.Rows
open PySem.W (Frag)
instance {i j : Int} : Decidable (CPow i j) := by
  unfold CPow
  infer_instance
instance {i j : Int} : Decidable (CMulW i j) := by
  unfold CMulW
  infer_instance
instance {i j : Int} : Decidable (CDivG i j) := by
  unfold CDivG
  infer_instance
section
variable {W : Wd} {k j : Nat} {L : Lay} {X : Cx} {Z : PV.Env0} {st st1 st2 st3 st' : Sta} {e e1 e2 e3 : Expr} {es : List Expr} {r : R} {d x y z : D} {o : Out} {pos p : Pos} {n : Str} {b b' : Bool} {s : Stmt} {ss a c : List Stmt} {op op' : CmpOp} {cs : List Prop}
/-! operators -/
theorem q_add {i j m : Int} (h : i + j = m) : OpOk X Z (binaryOp .Add) (.int i) (.int j) (.val (.int m)) := h ▸ oo_add
theorem q_sub {i j m : Int} (h : i - j = m) : OpOk X Z (binaryOp .Sub) (.int i) (.int j) (.val (.int m)) := h ▸ oo_sub
theorem q_mul {i j m : Int} (c : CMulW i j) (h : i * j = m) : OpOk X Z (binaryOp .Mult) (.int i) (.int j) (.val (.int m)) := h ▸ oo_mul c
theorem q_fdiv {i j m : Int} (c : CDivG i j) (h : i.fdiv j = m) : OpOk X Z (binaryOp .FloorDiv) (.int i) (.int j) (.val (.int m)) := h ▸ oo_fdiv c
theorem q_mod {i j m : Int} (c : j ≠ 0) (h : i.fmod j = m) : OpOk X Z (binaryOp .Mod) (.int i) (.int j) (.val (.int m)) := h ▸ oo_mod c
theorem q_pow {i j m : Int} {n : Nat} (c : CPow i j) (hn : j.toNat = n) (h : i ^ n = m) : OpOk X Z (binaryOp .Pow) (.int i) (.int j) (.val (.int m)) := by
  subst hn
  exact h ▸ oo_pow c
theorem q_cat {xs ys zs : List D} (c : xs.length + ys.length ≤ sizeLine) (h : xs ++ ys = zs) : OpOk X Z (binaryOp .Add) (.lst xs) (.lst ys) (.own (.lst zs)) := h ▸ oo_cat c
theorem q_lt {i j : Int} (h : decide (i < j) = b) : OpOk X Z (compareOp .Lt) (.int i) (.int j) (.val (.bl b)) := h ▸ oo_lt
theorem q_le {i j : Int} (h : decide (i ≤ j) = b) : OpOk X Z (compareOp .LtE) (.int i) (.int j) (.val (.bl b)) := h ▸ oo_le
theorem q_gt {i j : Int} (h : decide (j < i) = b) : OpOk X Z (compareOp .Gt) (.int i) (.int j) (.val (.bl b)) := h ▸ oo_gt
theorem q_ge {i j : Int} (h : decide (j ≤ i) = b) : OpOk X Z (compareOp .GtE) (.int i) (.int j) (.val (.bl b)) := h ▸ oo_ge
theorem Fr.un (F : Fr W k L X Z) : X.A.units + 64 < cLine := by
  have := F.room.un
  omega
theorem Fr.un1 (F : Fr W k L X Z) : X.A.units + 100 < cLine := by
  have := F.room.un
  omega
theorem eqv_int {i j : Int} : PyData.eqv (.int i) (.int j) = decide (i = j) := by
  first | rfl | (unfold PyData.eqv; simp [PyData.eqv]) | simp [PyData.eqv]
theorem q_eqI {i j : Int} (F : Fr W k L X Z) (h : decide (i = j) = b) : OpOk X Z (compareOp .Eq) (.int i) (.int j) (.val (.bl b)) := by
  rw [← h, ← eqv_int]
  exact oo_eqD F.un (x := .int i) (y := .int j) rfl rfl
theorem q_neI {i j : Int} (F : Fr W k L X Z) (h : (!decide (i = j)) = b) : OpOk X Z (compareOp .NotEq) (.int i) (.int j) (.val (.bl b)) := by
  rw [← h, ← eqv_int]
  exact oo_neD F.un (x := .int i) (y := .int j) rfl rfl
theorem q_eqD (F : Fr W k L X Z) (h1 : x.eqOk = true) (h2 : y.eqOk = true) (h : PyData.eqv x.py y.py = b) : OpOk X Z (compareOp .Eq) x y (.val (.bl b)) := h ▸ oo_eqD F.un h1 h2
theorem q_neD (F : Fr W k L X Z) (h1 : x.eqOk = true) (h2 : y.eqOk = true) (h : (!PyData.eqv x.py y.py) = b) : OpOk X Z (compareOp .NotEq) x y (.val (.bl b)) := h ▸ oo_neD F.un h1 h2
theorem q_eqS {i j : Str} (h : decide (i = j) = b) : OpOk X Z (compareOp .Eq) (.str i) (.str j) (.val (.bl b)) :=
  OpOk.pure op_eq fun F H v u _ hx hy => by
    obtain rfl := At.str_inv hx
    obtain rfl := At.str_inv hy
    refine ⟨_, .bl _, fun Q q => ⟨rfl, ?_⟩⟩
    have e : decide (V.str i = V.str j) = b := by
      rw [← h]
      exact decide_eq_decide.mpr ⟨fun z => by cases z; rfl, fun z => by rw [z]⟩
    rw [e]
    exact q
theorem q_neS {i j : Str} (h : (!decide (i = j)) = b) : OpOk X Z (compareOp .NotEq) (.str i) (.str j) (.val (.bl b)) :=
  OpOk.pure op_ne fun F H v u _ hx hy => by
    obtain rfl := At.str_inv hx
    obtain rfl := At.str_inv hy
    refine ⟨_, .bl _, fun Q q => ⟨rfl, ?_⟩⟩
    have e : (!decide (V.str i = V.str j)) = b := by
      rw [← h]
      congr 1
      exact decide_eq_decide.mpr ⟨fun z => by cases z; rfl, fun z => by rw [z]⟩
    rw [e]
    exact q
theorem q_eqSs {i : Str} : OpOk X Z (compareOp .Eq) (.str i) (.str i) (.val (.bl true)) := q_eqS (decide_eq_true rfl)
theorem q_neSs {i : Str} : OpOk X Z (compareOp .NotEq) (.str i) (.str i) (.val (.bl false)) := q_neS (by rw [decide_eq_true rfl]; rfl)
theorem q_in {items : List D} (hy : y.itms = some items) (hx : x.flat = true) (hf : items.all D.flat = true) (h : (items.any fun y => eqF y x) = b) : OpOk X Z (compareOp .In) x y (.val (.bl b)) := h ▸ oo_in hy hx hf
theorem q_notin {items : List D} (hy : y.itms = some items) (hx : x.flat = true) (hf : items.all D.flat = true) (h : (!items.any fun y => eqF y x) = b) : OpOk X Z (compareOp .NotIn) x y (.val (.bl b)) := h ▸ oo_notin hy hx hf
theorem q_isN (h : (match x with | .non => true | _ => false) = b) : OpOk X Z (compareOp .Is) x .non (.val (.bl b)) := h ▸ oo_isN
theorem q_notN (h : (match x with | .non => false | _ => true) = b) : OpOk X Z (compareOp .IsNot) x .non (.val (.bl b)) := h ▸ oo_notN
/-! truth -/
theorem t_cast (h : ST X Z e st st1 b) (q : b = b') : ST X Z e st st1 b' := q ▸ h
theorem t_truth (h : SE X Z e st st1 (.val d)) (hp : plainT e = true) (ht : d.tru = some (b, cs)) (hc : allP cs) : ST X Z e st st1 b := st_truth h hp ht hc
theorem t_not (h : ST X Z e st st1 b) (q : (!b) = b') : ST X Z (.UnaryOp .Not e p) st st1 b' := q ▸ st_not h
theorem t_cmp {op : CmpOp} (h1 : SE X Z e1 st st1 (.val x)) (h2 : SE X Z e2 st1 st2 (.val y)) (hm : behindInMarks op e2 = false) (ho : OpOk X Z (compareOp op) x y (.val (.bl b))) : ST X Z (.Compare e1 [op] [e2] pos) st st2 b := st_cmp h1 h2 ho hm
theorem e_cmp {op : CmpOp} (h1 : SE X Z e1 st st1 (.val x)) (h2 : SE X Z e2 st1 st2 (.val y)) (hm : behindInMarks op e2 = false) (ho : OpOk X Z (compareOp op) x y r) : SE X Z (.Compare e1 [op] [e2] pos) st st2 r := se_cmp h1 h2 ho hm
theorem e_chT (h1 : SE X Z e1 st st1 (.val x)) (h2 : SE X Z e2 st1 st2 (.val y)) (ho : OpOk X Z (compareOp op) x y (.val (.bl b))) (q : b = true) (h3 : SE X Z e3 st2 st3 (.val z)) (hm : behindInMarks op' e3 = false) (ho' : OpOk X Z (compareOp op') y z r) :
    SE X Z (.Compare e1 [op, op'] [e2, e3] pos) st st3 r := by
  subst q
  exact se_chT h1 h2 ho h3 ho' hm
theorem op_ofC (h : op' = .Lt ∨ op' = .LtE ∨ op' = .Gt ∨ op' = .GtE) : ∃ rr, OpR X (compareOp op') rr := by
  rcases h with rfl | rfl | rfl | rfl
  · exact ⟨_, op_lt⟩
  · exact ⟨_, op_le⟩
  · exact ⟨_, op_gt⟩
  · exact ⟨_, op_ge⟩
def ordOp : CmpOp → Bool
  | .Lt | .LtE | .Gt | .GtE => true
  | _ => false
theorem op_ord (h : ordOp op' = true) : ∃ rr, OpR X (compareOp op') rr := by
  cases op' with
  | Lt => exact ⟨_, op_lt⟩
  | LtE => exact ⟨_, op_le⟩
  | Gt => exact ⟨_, op_gt⟩
  | GtE => exact ⟨_, op_ge⟩
  | _ => cases h
theorem e_chF (h1 : SE X Z e1 st st1 (.val x)) (h2 : SE X Z e2 st1 st2 (.val y)) (ho : OpOk X Z (compareOp op) x y (.val (.bl b))) (q : b = false) (hR : ordOp op' = true) (hm : behindInMarks op' e3 = false) : SE X Z (.Compare e1 [op, op'] [e2, e3] pos) st st2 (.val (.bl false)) := by
  subst q
  obtain ⟨rr, h⟩ := op_ord (X := X) hR
  exact se_chF h1 h2 ho h hm
theorem t_chT (h1 : SE X Z e1 st st1 (.val x)) (h2 : SE X Z e2 st1 st2 (.val y)) (ho : OpOk X Z (compareOp op) x y (.val (.bl b))) (q : b = true) (h3 : SE X Z e3 st2 st3 (.val z)) (hm : behindInMarks op' e3 = false) (ho' : OpOk X Z (compareOp op') y z (.val (.bl b'))) :
    ST X Z (.Compare e1 [op, op'] [e2, e3] pos) st st3 b' := by
  subst q
  exact st_chT h1 h2 ho h3 ho' hm
theorem t_chF (h1 : SE X Z e1 st st1 (.val x)) (h2 : SE X Z e2 st1 st2 (.val y)) (ho : OpOk X Z (compareOp op) x y (.val (.bl b))) (q : b = false) (hR : ordOp op' = true) (hm : behindInMarks op' e3 = false) : ST X Z (.Compare e1 [op, op'] [e2, e3] pos) st st2 false := by
  subst q
  obtain ⟨rr, h⟩ := op_ord (X := X) hR
  exact st_chF h1 h2 ho h hm
/-- and, or as a test -/
def STw (X : Cx) (Z : PV.Env0) (e : Expr) (st st' : Sta) (b : Bool) : Prop := PW X e (CT X Z st st' b)
theorem t_w (h : STw X Z e st st1 b) : ST X Z e st st1 b := PW.pt h
theorem w_one {op : BoolOp} (h : ST X Z e st st1 b) : STw X Z (.BoolOp op [e] p) st st1 b := stw_one op h
theorem w_andT (h : ST X Z e st st1 b) (q : b = true) (h2 : STw X Z (.BoolOp .And (e1 :: es) p) st1 st2 b') : STw X Z (.BoolOp .And (e :: e1 :: es) p) st st2 b' := stw_andT (q ▸ h) h2
theorem w_andF (h : ST X Z e st st1 b) (q : b = false) : STw X Z (.BoolOp .And (e :: e1 :: es) p) st st1 false := stw_andF (q ▸ h)
theorem w_orF (h : ST X Z e st st1 b) (q : b = false) (h2 : STw X Z (.BoolOp .Or (e1 :: es) p) st1 st2 b') : STw X Z (.BoolOp .Or (e :: e1 :: es) p) st st2 b' := stw_orF (q ▸ h) h2
theorem w_orT (h : ST X Z e st st1 b) (q : b = true) : STw X Z (.BoolOp .Or (e :: e1 :: es) p) st st1 true := stw_orT (q ▸ h)
theorem e_one {op : BoolOp} (h : SE X Z e st st1 r) : SE X Z (.BoolOp op [e] p) st st1 r := se_one h
theorem e_andT (h : SE X Z e st st1 (.val d)) (ht : d.tru = some (b, cs)) (q : b = true) (hc : allP cs) (h2 : SE X Z (.BoolOp .And (e1 :: es) p) st1 st2 r) : SE X Z (.BoolOp .And (e :: e1 :: es) p) st st2 r := se_andT h (q ▸ ht) hc h2
theorem e_andF (h : SE X Z e st st1 (.val d)) (ht : d.tru = some (b, cs)) (q : b = false) (hc : allP cs) : SE X Z (.BoolOp .And (e :: e1 :: es) p) st st1 (.val d) := se_andF h (q ▸ ht) hc
theorem e_orF (h : SE X Z e st st1 (.val d)) (ht : d.tru = some (b, cs)) (q : b = false) (hc : allP cs) (h2 : SE X Z (.BoolOp .Or (e1 :: es) p) st1 st2 r) : SE X Z (.BoolOp .Or (e :: e1 :: es) p) st st2 r := se_orF h (q ▸ ht) hc h2
theorem e_orT (h : SE X Z e st st1 (.val d)) (ht : d.tru = some (b, cs)) (q : b = true) (hc : allP cs) : SE X Z (.BoolOp .Or (e :: e1 :: es) p) st st1 (.val d) := se_orT h (q ▸ ht) hc
theorem e_notT (h : SE X Z e st st1 (.val d)) (ht : d.tru = some (b, cs)) (hc : allP cs) (q : (!b) = b') : SE X Z (.UnaryOp .Not e p) st st1 (.val (.bl b')) := q ▸ se_not h ht hc
theorem e_neg {i m : Int} (h : SE X Z e st st1 (.val (.int i))) (q : -i = m) : SE X Z (.UnaryOp .USub e p) st st1 (.val (.int m)) := q ▸ se_neg h
theorem e_ifT (hc : ST X Z e st st1 b) (q : b = true) (h : SE X Z e1 st1 st2 r) : SE X Z (.IfExp e e1 e2 p) st st2 r := se_ifT (q ▸ hc) h
theorem e_ifF (hc : ST X Z e st st1 b) (q : b = false) (h : SE X Z e2 st1 st2 r) : SE X Z (.IfExp e e1 e2 p) st st2 r := se_ifF (q ▸ hc) h
theorem s_ifT (hc : ST X Z e st st1 b) (q : b = true) (h : SSs X Z a st1 o) : SS X Z (.If e a c pos) st o := ss_ifT (q ▸ hc) h
theorem s_ifF (hc : ST X Z e st st1 b) (q : b = false) (h : SSs X Z c st1 o) : SS X Z (.If e a c pos) st o := ss_ifF (q ▸ hc) h
/-! the built-in -/
theorem c_len {m : Int} (h : x.len = some m) : CallOk X Z (.builtin "len") [x] (.val (.int m)) := co_len h
theorem c_lenS {i : Str} {m : Int} (h : i.length ≤ sizeLine) (q : (i.length : Int) = m) : CallOk X Z (.builtin "len") [.str i] (.val (.int m)) := q ▸ co_lenS h
theorem c_abs {i m : Int} (q : (if i < 0 then -i else i) = m) : CallOk X Z (.builtin "abs") [.int i] (.val (.int m)) := q ▸ co_abs
theorem c_intB {m : Int} (q : (if b then (1 : Int) else 0) = m) : CallOk X Z (.type "int") [.bl b] (.val (.int m)) := q ▸ co_intB
theorem c_boolI {i : Int} (q : (i != 0) = b) : CallOk X Z (.type "bool") [.int i] (.val (.bl b)) := q ▸ co_boolI
theorem c_strI {i : Int} {m : Str} (h : i.natAbs.log2 < 1920) (q : (toString i : Str) = m) : CallOk X Z (.type "str") [.int i] (.val (.str m)) := q ▸ co_strI h
theorem c_repr (F : Fr W k L X Z) (hs : SmOk W.K) (hp : x.isPyD = true) (hw : x.py.showable = true) (hd : x.py.depth ≤ 60) (hl : x.py.shown.length ≤ sizeLine) : CallOk X Z (.builtin "repr") [x] (.val (.str x.py.shown)) := by
  obtain rfl := F.w
  exact co_repr hs F.gd F.un1 hp hw hd hl
def IsiOk (W : Wd) (x y : D) (b : Bool) : Prop := ∀ X Z, wdOf X Z = W → CallOk X Z (.builtin "isinstance") [x, y] (.val (.bl b))
theorem c_isi (F : Fr W k L X Z) (h : IsiOk W x y b) : CallOk X Z (.builtin "isinstance") [x, y] (.val (.bl b)) := h X Z F.w
/-! reading by a slice -/
theorem e_slL {lo hi : Option Expr} {l u : Option Int} {p2 : Pos} {ds zs : List D} (h : SE X Z e st st1 (.val (.lst ds))) (hl : SO X Z lo st1 st2 l) (hu : SO X Z hi st2 st3 u) (q : cutD ds l u = zs) : SE X Z (.Subscript e (.Slice lo hi none p2) pos) st st3 (.own (.lst zs)) := q ▸ se_slL h hl hu
theorem e_dct {keys : List (Option Expr)} {ks : List Str} {vs : List Expr} {ds : List D} {m : List (Key × D)} (hk : KeysAre keys ks) (hl : Nat.beq vs.length ks.length = true) (h0 : Nat.blt 0 ks.length = true) (h15 : Nat.ble ks.length 15 = true)
    (F : Fr W k L X Z) (h : ∀ Z', InOk Z st Z' → SEs X Z' vs st st' ds) (q : mergeD [] (kstr ks ds) = m) : SE X Z (.Dict keys vs pos) st st' (.own (.dct m)) := by
  subst q
  exact se_dct hk (Nat.eq_of_beq_eq_true hl) (fun z => by
    rw [z] at h0
    cases h0) (Nat.le_of_ble_eq_true h15) h
theorem e_append {ds zs : List D} {c : Cell} {i : Nat} {pa pc p : Pos} (F : Fr W k L X Z) (h : rdB L n i = true) : True := trivial
end
/-! names, checked in one run for a whole frame -/
theorem all_at {α : Type} {l : List α} {p : α → Bool} {i : Nat} {x : α} (h : l.all p = true) (e : l[i]? = some x) : p x = true := List.all_eq_true.mp h x (List.mem_of_getElem? e)
theorem gl_at {L : Lay} {gls : List Str} {i : Nat} {n : Str} (h : gls.all (glB L) = true) (e : gls[i]? = some n) : glB L n = true := all_at h e
def rdAllB (L : Lay) (m : Nat) : Bool := (L.N.take m).zipIdx.all fun q => rdB L q.1 q.2
theorem rd_at {L : Lay} {m i : Nat} {n : Str} (h : rdAllB L m = true) (e : (L.N.take m)[i]? = some n) : rdB L n i = true := by
  have := List.all_eq_true.mp h (n, i) (by
    rw [List.mk_mem_zipIdx_iff_getElem?]
    exact e)
  exact this
def wrAllB (L : Lay) (m : Nat) : Bool := (L.N.take m).zipIdx.all fun q => L.io.any (· == q.2) || wrB L q.1 q.2
theorem wr_at {L : Lay} {m i : Nat} {n : Str} (h : wrAllB L m = true) (e : (L.N.take m)[i]? = some n) (a : L.io.any (· == i) = false) : wrB L n i = true := by
  have := List.all_eq_true.mp h (n, i) (by
    rw [List.mk_mem_zipIdx_iff_getElem?]
    exact e)
  rw [a] at this
  exact this
theorem lookup_here {α : Type} {f : Str} {d : α} {ds : List (Str × α)} : ((f, d) :: ds).lookup f = some d := by simp
theorem lookup_next {α : Type} {f g : Str} {d d' : α} {ds : List (Str × α)} (h : (f == g) = false) (t : ds.lookup f = some d) : ((g, d') :: ds).lookup f = some d := by
  rw [List.lookup_cons, h]
  exact t
/-- F under a changed entry (a display that is being built) -/
theorem Fr.inZ {W : Wd} {k : Nat} {L : Lay} {X : Cx} {Z Z' : PV.Env0} {st : Sta} (F : Fr W k L X Z) (h : InOk Z st Z') : Fr W k ⟨L.N, L.sc, ownIx 0 st, L.top⟩ X Z' where
  w := by
    obtain rfl := F.w
    show Wd.mk _ _ _ _ _ _ = Wd.mk _ _ _ _ _ _
    rw [h.1]
  N := F.N
  nd := F.nd
  loc := F.loc
  cel := F.cel
  fre := F.fre
  glo := F.glo
  kd := F.kd
  fn := F.fn
  calm := F.calm
  room := F.room
  gd := F.gd
  io := fun i a q => by
    obtain ⟨c, hc⟩ := h.2 i a q
    have := ownIx_mem (k := 0) hc
    rwa [Nat.zero_add] at this
  own := F.own
  topE := F.topE
def swB (n1 n2 : Str) (p1 p2 : Pos) (e1 e2 : Expr) : Bool := !isStar e1 && !isStar e2 && (p2.line == p1.line) && !(n2 == n1) && !([e1, e2].all (foldedForSure 8)) && !([e1, e2].all (constantsAlone 8))
theorem sw_pair {W : Wd} {k : Nat} {L : Lay} {X : Cx} {Z : PV.Env0} {n1 n2 : Str} {p1 p2 pt pt2 : Pos} {kt k2} {e1 e2 : Expr} {i j : Nat} (F : Fr W k L X Z) (h1 : wlB L n1 i = true) (h2 : wlB L n2 j = true) (h : swB n1 n2 p1 p2 e1 e2 = true) :
    swappedStores [.Tuple [.Name n1 p1, .Name n2 p2] kt pt] (.Tuple [e1, e2] k2 pt2) X.env = pure (some [n1, n2]) := by
  obtain ⟨_, b1, _⟩ := F.wl h1
  obtain ⟨_, b2, _⟩ := F.wl h2
  have q1 : X.env.kindOf n1 = some .local := b1
  have q2 : X.env.kindOf n2 = some .local := b2
  have bk : X.env.blockKind = .function := by
    unfold Env.blockKind
    rw [F.kd]
    rfl
  unfold swB at h
  simp only [Bool.and_eq_true, Bool.not_eq_true', beq_iff_eq] at h
  obtain ⟨⟨⟨⟨⟨s1, s2⟩, l⟩, ne⟩, f1⟩, f2⟩ := h
  unfold swappedStores
  simp [q1, q2, bk, f1, f2, l, List.eraseDups_cons, Expr.pos]
  rw [if_neg (by
    clear f1 f2
    rintro (z | z)
    · cases e1 <;> first | (cases s1; done) | cases z
    · cases e2 <;> first | (cases s2; done) | cases z), if_pos (by simp [List.filter, ne, List.eraseDups_cons])]
theorem p_par2 {W : Wd} {k : Nat} {L : Lay} {X : Cx} {Z : PV.Env0} {st st1 st' : Sta} {e1 e2 : Expr} {pos : Pos} {i j : Nat} {n1 n2 : Str} {p1 p2 pt pt2 : Pos} {kt k2} {d1 d2 : D} (F : Fr W k L X Z) (h1 : wlB L n1 i = true) (h2 : wlB L n2 j = true) (hij : Nat.beq i j = false) (ha : SA X Z [e1, e2] st st1 [d1, d2]) (hw : swB n1 n2 p1 p2 e1 e2 = true)
    (hl : Nat.blt i st1.length = true) (hl2 : Nat.blt j st1.length = true) (ht : (st1.set i (some (.val d1))).set j (some (.val d2)) = st') : SS X Z (.Assign [.Tuple [.Name n1 p1, .Name n2 p2] kt pt] (.Tuple [e1, e2] k2 pt2) pos) st (.nx st') :=
  p_par F h1 h2 hij ha (sw_pair F h1 h2 hw) hl hl2 ht
theorem byAuto {p : Prop} (h : p) : p := h
theorem byK {p : Prop} (h : p) : p := h
theorem ex_of {X : L2.Cx} {Z : PV.Env0} {s : List PySem.Stmt} {st st' : Sta} {r : R} {sl outs : List Slot} (h : SSs X Z s st (.rt r st')) (ho : outsB 0 sl st' outs) : ∃ st', SSs X Z s st (.rt r st') ∧ outsB 0 sl st' outs := ⟨st', h, ho⟩
theorem ss_conv {X : L2.Cx} {Z : PV.Env0} {s : List PySem.Stmt} {st st' : Sta} {r r' : R} (h : SSs X Z s st (.rt r st')) (e : r = r') : SSs X Z s st (.rt r' st') := e ▸ h
theorem ex_ofS {X : L2.Cx} {Z : PV.Env0} {s : List PySem.Stmt} {N : List PySem.Str} {st0 st' : Sta} {r r' : R} {sl outs : List Slot} (e0 : startS N sl = st0) (h : SSs X Z s st0 (.rt r st')) (e : r = r') (ho : outsB 0 sl st' outs) : ∃ st', SSs X Z s (startS N sl) (.rt r' st') ∧ outsB 0 sl st' outs := by
  subst e0
  subst e
  exact ⟨st', h, ho⟩
end PV


set_option Elab.async false
set_option linter.all false
set_option maxRecDepth 100000
set_option maxHeartbeats 4000000
/-! PV, part u: what the head tells of classes and defs; the law's own call -/
namespace PV
open PySem PySem.Spec L2 PyProof.Rows
open PySem.W (Frag)
def oexB (K : Frag) (C : Addr) : Bool :=
  match K.lookup C with
  | some ⟨.type "type", _, .cls c, s⟩ =>
    match c.mro, s.toList with
    | .ref D :: tl, [_, _, _, _, some (.builtin m), _] => (D == C) && (m == "ValueError.__new__") && !c.hasDel && c.hasDict && PySem.HandSPX.refsVE tl
    | _, _ => false
  | _ => false
def oexRest (K : Frag) (C : Addr) : Bool :=
  decide (PySem.W.findIn K (.ref C) "__setattr__" = some (some (.builtin "object.__setattr__"))) &&
  (decide (PySem.W.subIn K (.ref C) (.type "BaseException") = some true) &&
  (decide (PySem.W.typeIn K (.ref C) = some (.type "type")) && PySem.W.keepIn K (.ref C)))
def errB (K : Frag) (C : Addr) : Bool := oexB K C && (oexRest K C &&
  (decide (PySem.W.findIn K (.ref C) "__getattribute__" = some (some (.builtin "BaseException.__getattribute__"))) &&
  (decide (PySem.W.findIn K (.ref C) "__getattr__" = some none) && PySem.W.hasDictIn K C)))
def kitCB (K : Frag) (C : Addr) : Bool := decide (PySem.W.findIn K (.ref C) "__class__" = some (some (.builtin "object.__class__"))) &&
  (decide (PySem.W.specialIn K (.builtin "object.__class__") "__get__" = some (some (.builtin "getset_descriptor.__get__"))) &&
  (decide (PySem.W.takesIn K (.builtin "object.__class__") = some true) && decide (PySem.W.mroIn K C (.type "object") = some true)))
theorem an {a b : Bool} (h : (a && b) = true) : a = true ∧ b = true := Bool.and_eq_true_iff.mp h
theorem oexB_ok {K : Frag} {C : Addr} (h : oexB K C = true) (r : oexRest K C = true) : OexC K C := by
  obtain ⟨r1, r⟩ := an r
  obtain ⟨r2, r⟩ := an r
  obtain ⟨r3, r4⟩ := an r
  refine ⟨?_, of_decide_eq_true r1, of_decide_eq_true r2, of_decide_eq_true r3, r4⟩
  unfold oexB at h
  split at h
  · rename_i dd c s ho
    split at h
    · rename_i D tl k0 k1 k2 k3 m k5 hm hs
      simp only [Bool.and_eq_true, beq_iff_eq, Bool.not_eq_true'] at h
      obtain ⟨⟨⟨⟨rfl, rfl⟩, q1⟩, q2⟩, q3⟩ := h
      obtain ⟨nm, bs, mro, ns, qn, hd, sn, sub, ab, col, del⟩ := c
      obtain ⟨l⟩ := s
      simp only at hm q1 q2 hs
      subst hm q1 q2 hs
      exact ⟨nm, qn, ns, bs, tl, sn, sub, ab, col, dd, k0, k1, k2, k3, k5, ho, q3⟩
    · cases h
  · cases h
theorem errB_ok {K : Frag} {C : Addr} (h : errB K C = true) : ErrC K C := by
  obtain ⟨h1, h⟩ := an h
  obtain ⟨h2, h⟩ := an h
  obtain ⟨h3, h⟩ := an h
  obtain ⟨h4, h5⟩ := an h
  exact ⟨oexB_ok h1 h2, of_decide_eq_true h3, of_decide_eq_true h4, h5⟩
theorem kitCB_ok {K : Frag} {C : Addr} (h : kitCB K C = true) : KitC K C := by
  obtain ⟨h1, h⟩ := an h
  obtain ⟨h2, h⟩ := an h
  obtain ⟨h3, h4⟩ := an h
  exact ⟨of_decide_eq_true h1, of_decide_eq_true h2, of_decide_eq_true h3, of_decide_eq_true h4⟩
/-- a def without defaults -/
theorem fun_of {K : Frag} {x qual : Str} {st : Stmt} {f : Addr} {fd : FuncData} (F : FunD K x qual (defArgs st) (defBody st) (defScope st) [] [] f fd) : Fun K x qual st f fd := by
  obtain ⟨oc, od, dV, kV, doc, pm, an, cdv, ct, osl, e, lk, hcd, hD, hK⟩ := F.ex
  rcases hD with ⟨_, rfl⟩ | ⟨z, _⟩
  · exact ⟨⟨oc, od, kV, doc, pm, an, cdv, ct, osl, e, lk, hcd⟩, F.kp⟩
  · exact absurd rfl z
def smB (K : Frag) : Bool := match K.lookup sysModules with
  | some o => decide (o.cls = .type "dict")
  | none => false
theorem smB_ok {K : Frag} (h : smB K = true) : SmOk K := by
  unfold smB at h
  split at h
  · exact ⟨_, by assumption, of_decide_eq_true h⟩
  · cases h
/-- no list among the module's own things -/
def nolB (K : Frag) : Bool := K.all fun p => !decide (p.2.cls = .type "list")
theorem nolB_ok {K : Frag} (h : nolB K = true) {a : Addr} {o : Obj} (e : K.lookup a = some o) (c : o.cls = .type "list") : False := by
  have m : (a, o) ∈ K := by
    have : ∀ l : List (Addr × Obj), l.lookup a = some o → (a, o) ∈ l := fun l => by
      induction l with
      | nil => intro z; cases z
      | cons p l ih =>
        intro z
        obtain ⟨b, u⟩ := p
        rw [List.lookup_cons] at z
        split at z
        · rename_i q
          cases z
          rw [beq_iff_eq.mp q]
          exact List.mem_cons_self ..
        · exact List.mem_cons_of_mem _ (ih z)
    exact this K e
  have q := List.all_eq_true.mp h _ m
  rw [c] at q
  simp at q
/-- the law, called by its def on a list of numbers that no one else holds -/
theorem law_run {P : Program} {w : World} {K : Frag} {mg mb : Str → Option Value} {G : Str → Addr} {k : Nat} {fl sa : Addr} {fd : FuncData} {x : Str} {ct : Ct} {t : Shared} {us : List Value} {zs : List Int}
    (kin : K.In t.heap) (g1 : t.heap.Ns mainGlobals mg) (g2 : t.heap.Ns builtinsNs mb) (g3 : ∀ y : Str, y ≠ "__name__" → mb y = bootBuiltins y) (lim : t.heap.NoLimit) (gn : t.gens = #[])
    (at_ : t.heap.get? sa = some { cls := .type "list", data := .seq us.toArray }) (hin : IntsAre us zs) (len : zs.length ≤ sizeLine) (room : Room k callerA) (nol : K.lookup sa = none)
    (fn : ∀ base : Heap, K.In base → base.Ns mainGlobals mg → FnG P w K mg base CX0 k fl fd [x] (SpOf K G ct)) (bd : ∀ (s : Shared) (u : Value), BindsTo s fd ⟨[u], []⟩ [(x, u)]) (good : ct [.val (.lst (zs.map .int))] (.val (.bl true)) []) :
    codeAny (model P w) callerA (.call (.ref fl) ⟨[.ref sa], []⟩) (fun r t' => r = .ok (.ret (.bool true)) ∧ OldK t.heap t'.heap ∧ t'.os = t.os ∧ AllBare t'.gens) t := by
  have vls := vals_ints hin
  have lus := hin.length
  let ob : Obj := { cls := .type "list", data := .seq us.toArray }
  let H : Hp := fun b => if b = sa then some (.frz ob (.lst (zs.map V.int))) else none
  have hAt : H sa = some (.frz ob (.lst (zs.map V.int))) := if_pos rfl
  have hNo : ∀ b, b ≠ sa → H b = none := fun b q => if_neg q
  have hok : HOk P w H t.heap := fun b u q => by
    by_cases e : b = sa
    · subst e
      rw [hAt] at q
      cases q
      exact ⟨at_, by rw [List.length_map]; exact len, us, _, vls, at_⟩
    · rw [hNo b e] at q
      cases q
  have hid : ∀ {b : Addr} {o : Obj}, t.heap.get? b = some o → b ≠ sa → (hidT t.heap H).get? b = some o := fun q n => hidT_get q (hNo _ n)
  have nsT : ∀ {b : Addr} {m : Str → Option Value}, t.heap.Ns b m → (hidT t.heap H).Ns b m := by
    rintro b m ⟨o, es, ep, q1, q2, q3⟩
    refine ⟨o, es, ep, hid q1 fun z => ?_, q2, q3⟩
    subst z
    rw [at_] at q1
    cases q1
    cases q2
  have kinT : K.In (hidT t.heap H) := fun b o q => hid (kin b o q) fun z => by
    subst z
    rw [nol] at q
    cases q
  have md : Mod K mg (hidT t.heap H) := ⟨kinT, nsT g1, ⟨mb, nsT g2, g3⟩, by
    obtain ⟨mc, q1, q2⟩ := lim
    exact ⟨mc, nsT q1, q2⟩⟩
  have env : L2.Env0 P w K mg (hidT t.heap H) callerA [] t H := ⟨rfl, md, fun b o q => of_hidT q, Nat.le_of_eq (hidT_size _ _), trivial, fun b q => (by cases q), hok, .of_eq gn⟩
  have ats : ∀ l : List Int, AtL K G H (l.map V.int) (l.map D.int) := fun l => by
    induction l with
    | nil => exact .nil
    | cons i l ih => exact .cons (.int i) ih
  have sp : SpOf K G ct [.ref sa] H (fun v _ => v = .bl true) E0 := ⟨H, [.val (.lst (zs.map .int))], .val (.bl true), [], Ex.refl H, .val (.lst (.inr ⟨ob, hAt⟩) (ats zs)) .nil, by simp [ioOf], good,
    fun v F' H' _ _ _ _ _ q => At.bl_inv (show At K G F' v (.bl true) from q)⟩
  refine codeAny_mono ((fn _ kinT (nsT g1)).run callerA [] t H ⟨[.ref sa], []⟩ [.ref sa] [.ref sa] _ _ room rfl env (bd t (.ref sa)) (.cons rfl .nil) sp) fun r t' q => ?_
  match r, q with
  | .error e, q => exact q.elim
  | .ok .next, q => exact q.elim
  | .ok .brk, q => exact q.elim
  | .ok .cont, q => exact q.elim
  | .ok (.ret u), ⟨v, H', o1, o2, un, hok', rv, e⟩ =>
    cases (show v = .bl true from e)
    cases (show u = Value.bool true from rv)
    refine ⟨rfl, OldK.of_keep fun b o hq => ?_, o1, o2⟩
    by_cases z : b = sa
    · subst z
      obtain ⟨q2, _⟩ := hok' b _ (un.frzs b ob _ hAt)
      rw [at_] at hq
      cases hq
      exact q2
    · exact un.keep b o hq (hNo b z) (fun y => by cases y) (by simp)
theorem law_end {l : PySem.W.OpenLaw} {n k : Nat} {q : Program} {loose : List Str} {XP : (Str → Option Value) → Heap → Prop} {YP : World → Heap → Prop} {d : DefRec} {x : Str} {ct : Ct}
    (e1 : l.most = some n) (e2 : n ≤ sizeLine) (e3 : d.params.defaults = []) (room : Room k callerA)
    (F : ∀ (w : World) (mg : Str → Option Value) (fa : Addr) (h : Heap), YP w h → h.Ns mainGlobals mg → mg d.name = some (.ref fa) →
      ∃ (K : Frag) (G : Str → Addr) (fd : FuncData), K.In h ∧ nolB K = true ∧ (∀ (s : Shared) (u : Value), BindsTo s fd ⟨[u], []⟩ [(x, u)]) ∧ ∀ base : Heap, K.In base → base.Ns mainGlobals mg → FnG l.prog w K mg base CX0 k fa fd [x] (SpOf K G ct))
    (good : ∀ zs : List Int, zs.length ≤ n → ct [.val (.lst (zs.map .int))] (.val (.bl true)) []) :
    PySem.W.WalkO q loose XP YP l.row.toRowW d [] (fun f vs => PySem.call f vs) := by
  refine Att.attach_call e1 e3 fun w _ t mg mb fl o pm cd doc sa us zs T Y _ _ _ h1 h2 h3 h4 h5 => ?_
  obtain ⟨K, G, fd, kin, nl, bd, fn⟩ := F w mg fl _ Y T.T.g h1
  refine law_run kin T.T.g T.T.b T.T.builtins T.T.nolimit h5 h2 h3 (Nat.le_trans h4 e2) room ?_ fn bd (good zs h4)
  cases z : K.lookup sa with
  | none => rfl
  | some u =>
    have q := kin _ _ z
    rw [h2] at q
    cases q
    exact (nolB_ok nl z rfl).elim
end PV


set_option Elab.async false
set_option linter.all false
set_option maxRecDepth 100000
set_option maxHeartbeats 4000000
namespace K0
open PySem L2 PyProof.Rows PV
abbrev prog : Program := PySem.Challenge.pw_alleyes_k00_errors_keep_their_fields
def nthS : Nat → List Stmt → Stmt
  | _, [] => .Pass default
  | 0, s :: _ => s
  | n + 1, _ :: ss => nthS n ss
abbrev dS (i : Nat) : Stmt := nthS i prog.main.body
abbrev sJug := dS 40
abbrev nJug : List Str := [Str.ofString "_law_script", Str.ofString "_law_whole", Str.ofString "_law_cell"]
abbrev pJug : List Str := [Str.ofString "_law_script"]
def gJug : List Str := [Str.ofString "abs", Str.ofString "int"]
abbrev lJug : Lay := ⟨nJug, defScope sJug, [], true⟩
theorem rdJug : rdAllB lJug 3 = true := by kernel_rfl
theorem wrJug : wrAllB lJug 3 = true := by kernel_rfl
theorem glJug : gJug.all (glB lJug) = true := by kernel_rfl
abbrev sPour := dS 41
abbrev nPour : List Str := [Str.ofString "_law_jug_here", Str.ofString "_law_many", Str.ofString "_law_rest"]
abbrev pPour : List Str := [Str.ofString "_law_jug_here", Str.ofString "_law_many"]
def gPour : List Str := []
abbrev lPour : Lay := ⟨nPour, defScope sPour, [0], true⟩
theorem rdPour : rdAllB lPour 3 = true := by kernel_rfl
theorem wrPour : wrAllB lPour 3 = true := by kernel_rfl
theorem glPour : gPour.all (glB lPour) = true := by kernel_rfl
abbrev sParts := dS 42
abbrev nParts : List Str := [Str.ofString "_law_one", Str.ofString "_law_made"]
abbrev pParts : List Str := [Str.ofString "_law_one"]
def gParts : List Str := [Str.ofString "BadRatio", Str.ofString "BadRow", Str.ofString "BadPicture", Str.ofString "BadStep", Str.ofString "BadMark", Str.ofString "BadScene", Str.ofString "BadCone", Str.ofString "BadEye", Str.ofString "BadEyeRow", Str.ofString "BadFlat", Str.ofString "BadFact", Str.ofString "BadBook", Str.ofString "BadStanding", Str.ofString "BadSaying", Str.ofString "BadSolid", Str.ofString "BadView", Str.ofString "BadLight", Str.ofString "BadNumber", Str.ofString "BadPaper", Str.ofString "BadDesk", Str.ofString "NotPlain", Str.ofString "Unsettled"]
abbrev lParts : Lay := ⟨nParts, defScope sParts, [], true⟩
theorem rdParts : rdAllB lParts 2 = true := by kernel_rfl
theorem wrParts : wrAllB lParts 2 = true := by kernel_rfl
theorem glParts : gParts.all (glB lParts) = true := by kernel_rfl
abbrev sPartsTurned := dS 43
abbrev nPartsTurned : List Str := [Str.ofString "_law_one", Str.ofString "_law_made"]
abbrev pPartsTurned : List Str := [Str.ofString "_law_one"]
def gPartsTurned : List Str := [Str.ofString "BadRatio", Str.ofString "BadRow", Str.ofString "BadPicture", Str.ofString "BadStep", Str.ofString "BadMark", Str.ofString "BadScene", Str.ofString "BadCone", Str.ofString "BadEye", Str.ofString "BadEyeRow", Str.ofString "BadFlat", Str.ofString "BadFact", Str.ofString "BadBook", Str.ofString "BadStanding", Str.ofString "BadSaying", Str.ofString "BadSolid", Str.ofString "BadView", Str.ofString "BadLight", Str.ofString "BadNumber", Str.ofString "BadPaper", Str.ofString "BadDesk", Str.ofString "NotPlain", Str.ofString "Unsettled"]
abbrev lPartsTurned : Lay := ⟨nPartsTurned, defScope sPartsTurned, [], true⟩
theorem rdPartsTurned : rdAllB lPartsTurned 2 = true := by kernel_rfl
theorem wrPartsTurned : wrAllB lPartsTurned 2 = true := by kernel_rfl
theorem glPartsTurned : gPartsTurned.all (glB lPartsTurned) = true := by kernel_rfl
abbrev sOthers := dS 44
abbrev nOthers : List Str := [Str.ofString "_law_one", Str.ofString "_law_two", Str.ofString "_law_made"]
abbrev pOthers : List Str := [Str.ofString "_law_one", Str.ofString "_law_two"]
def gOthers : List Str := [Str.ofString "NoLabel", Str.ofString "NoPicture", Str.ofString "NoName", Str.ofString "Twice", Str.ofString "Behind", Str.ofString "NoFact", Str.ofString "Impossible", Str.ofString "SamePlace", Str.ofString "TwoPictures", Str.ofString "NotJoined", Str.ofString "TooMany", Str.ofString "BadText", Str.ofString "BadLine", Str.ofString "Nothing"]
abbrev lOthers : Lay := ⟨nOthers, defScope sOthers, [], true⟩
theorem rdOthers : rdAllB lOthers 3 = true := by kernel_rfl
theorem wrOthers : wrAllB lOthers 3 = true := by kernel_rfl
theorem glOthers : gOthers.all (glB lOthers) = true := by kernel_rfl
abbrev sOthersNamed := dS 45
abbrev nOthersNamed : List Str := [Str.ofString "_law_one", Str.ofString "_law_two", Str.ofString "_law_made"]
abbrev pOthersNamed : List Str := [Str.ofString "_law_one", Str.ofString "_law_two"]
def gOthersNamed : List Str := [Str.ofString "NoLabel", Str.ofString "NoPicture", Str.ofString "NoName", Str.ofString "Twice", Str.ofString "Behind", Str.ofString "NoFact", Str.ofString "Impossible", Str.ofString "SamePlace", Str.ofString "TwoPictures", Str.ofString "NotJoined", Str.ofString "TooMany", Str.ofString "BadText", Str.ofString "BadLine", Str.ofString "Nothing"]
abbrev lOthersNamed : Lay := ⟨nOthersNamed, defScope sOthersNamed, [], true⟩
theorem rdOthersNamed : rdAllB lOthersNamed 3 = true := by kernel_rfl
theorem wrOthersNamed : wrAllB lOthersNamed 3 = true := by kernel_rfl
theorem glOthersNamed : gOthersNamed.all (glB lOthersNamed) = true := by kernel_rfl
abbrev sFields := dS 46
abbrev nFields : List Str := [Str.ofString "_law_error", Str.ofString "_law_place"]
abbrev pFields : List Str := [Str.ofString "_law_error", Str.ofString "_law_place"]
def gFields : List Str := []
abbrev lFields : Lay := ⟨nFields, defScope sFields, [], true⟩
theorem rdFields : rdAllB lFields 2 = true := by kernel_rfl
theorem wrFields : wrAllB lFields 2 = true := by kernel_rfl
theorem glFields : gFields.all (glB lFields) = true := by kernel_rfl
abbrev sKin := dS 47
abbrev nKin : List Str := [Str.ofString "_law_error", Str.ofString "_law_kin_here"]
abbrev pKin : List Str := [Str.ofString "_law_error"]
def gKin : List Str := [Str.ofString "isinstance", Str.ofString "BadRatio", Str.ofString "BadRow", Str.ofString "BadPicture", Str.ofString "BadStep", Str.ofString "BadMark", Str.ofString "BadScene", Str.ofString "BadCone", Str.ofString "BadEye", Str.ofString "BadEyeRow", Str.ofString "BadFlat", Str.ofString "BadFact", Str.ofString "BadBook", Str.ofString "BadStanding", Str.ofString "BadSaying", Str.ofString "BadSolid", Str.ofString "BadView", Str.ofString "BadLight", Str.ofString "BadNumber", Str.ofString "BadPaper", Str.ofString "BadDesk", Str.ofString "NotPlain", Str.ofString "Unsettled", Str.ofString "NoLabel", Str.ofString "NoPicture", Str.ofString "NoName", Str.ofString "Twice", Str.ofString "Behind", Str.ofString "NoFact", Str.ofString "Impossible", Str.ofString "SamePlace", Str.ofString "TwoPictures", Str.ofString "NotJoined", Str.ofString "TooMany", Str.ofString "BadText", Str.ofString "BadLine", Str.ofString "Nothing"]
abbrev lKin : Lay := ⟨nKin, defScope sKin, [], true⟩
theorem rdKin : rdAllB lKin 2 = true := by kernel_rfl
theorem wrKin : wrAllB lKin 2 = true := by kernel_rfl
theorem glKin : gKin.all (glB lKin) = true := by kernel_rfl
abbrev sStandsRight := dS 48
abbrev nStandsRight : List Str := [Str.ofString "_law_error", Str.ofString "_law_place", Str.ofString "_law_at"]
abbrev pStandsRight : List Str := [Str.ofString "_law_error", Str.ofString "_law_place"]
def gStandsRight : List Str := [Str.ofString "_law_kin", Str.ofString "range", Str.ofString "isinstance", Str.ofString "EyesError", Str.ofString "ValueError", Str.ofString "Missing", Str.ofString "LookupError", Str.ofString "TypeError", Str.ofString "ArithmeticError", Str.ofString "RuntimeError", Str.ofString "AttributeError"]
abbrev lStandsRight : Lay := ⟨nStandsRight, defScope sStandsRight, [], true⟩
theorem rdStandsRight : rdAllB lStandsRight 2 = true := by kernel_rfl
theorem wrStandsRight : wrAllB lStandsRight 2 = true := by kernel_rfl
theorem glStandsRight : gStandsRight.all (glB lStandsRight) = true := by kernel_rfl
abbrev sAllRight := dS 49
abbrev nAllRight : List Str := [Str.ofString "_law_values", Str.ofString "_law_made", Str.ofString "_law_place", Str.ofString "_law_error", Str.ofString "_law_due"]
abbrev pAllRight : List Str := [Str.ofString "_law_values", Str.ofString "_law_made"]
def gAllRight : List Str := [Str.ofString "enumerate", Str.ofString "repr", Str.ofString "_law_fields", Str.ofString "_law_stands_right", Str.ofString "len"]
abbrev lAllRight : Lay := ⟨nAllRight, defScope sAllRight, [], true⟩
theorem rdAllRight : rdAllB lAllRight 5 = true := by kernel_rfl
theorem wrAllRight : wrAllB lAllRight 5 = true := by kernel_rfl
theorem glAllRight : gAllRight.all (glB lAllRight) = true := by kernel_rfl
abbrev sLaw := dS 50
abbrev nLaw : List Str := [Str.ofString "_law_script", Str.ofString "_law_jug_here", Str.ofString "_law_number", Str.ofString "_law_plain", Str.ofString "_law_values", Str.ofString "_law_one", Str.ofString "_law_two", Str.ofString "_law_error"]
abbrev pLaw : List Str := [Str.ofString "_law_script"]
def gLaw : List Str := [Str.ofString "_law_jug", Str.ofString "_law_pour", Str.ofString "_law_all_right", Str.ofString "_law_parts", Str.ofString "_law_others", Str.ofString "_law_parts_turned", Str.ofString "_law_others_named", Str.ofString "Missing", Str.ofString "EyesError", Str.ofString "_law_kin", Str.ofString "isinstance", Str.ofString "ValueError", Str.ofString "repr"]
abbrev lLaw : Lay := ⟨nLaw, defScope sLaw, [], true⟩
theorem rdLaw : rdAllB lLaw 8 = true := by kernel_rfl
theorem wrLaw : wrAllB lLaw 8 = true := by kernel_rfl
theorem glLaw : gLaw.all (glB lLaw) = true := by kernel_rfl
/-! the classes -/
def kinN : List Str := [Str.ofString "BadRatio", Str.ofString "BadRow", Str.ofString "BadPicture", Str.ofString "BadStep", Str.ofString "BadMark", Str.ofString "BadScene", Str.ofString "BadCone", Str.ofString "BadEye", Str.ofString "BadEyeRow", Str.ofString "BadFlat", Str.ofString "BadFact", Str.ofString "BadBook", Str.ofString "BadStanding", Str.ofString "BadSaying", Str.ofString "BadSolid", Str.ofString "BadView", Str.ofString "BadLight", Str.ofString "BadNumber", Str.ofString "BadPaper", Str.ofString "BadDesk", Str.ofString "NotPlain", Str.ofString "Unsettled",
  Str.ofString "NoLabel", Str.ofString "NoPicture", Str.ofString "NoName", Str.ofString "Twice", Str.ofString "Behind", Str.ofString "NoFact", Str.ofString "Impossible", Str.ofString "SamePlace", Str.ofString "TwoPictures", Str.ofString "NotJoined", Str.ofString "TooMany", Str.ofString "BadText", Str.ofString "BadLine", Str.ofString "Nothing"]
def clsN : List Str := [Str.ofString "BadRatio", Str.ofString "BadRow", Str.ofString "BadPicture", Str.ofString "BadStep", Str.ofString "BadMark", Str.ofString "BadScene", Str.ofString "BadCone", Str.ofString "BadEye", Str.ofString "BadEyeRow", Str.ofString "BadFlat", Str.ofString "BadFact", Str.ofString "BadBook", Str.ofString "BadStanding", Str.ofString "BadSaying", Str.ofString "BadSolid", Str.ofString "BadView", Str.ofString "BadLight", Str.ofString "BadNumber", Str.ofString "BadPaper", Str.ofString "BadDesk", Str.ofString "NotPlain", Str.ofString "Unsettled",
  Str.ofString "NoLabel", Str.ofString "NoPicture", Str.ofString "NoName", Str.ofString "Twice", Str.ofString "Behind", Str.ofString "NoFact", Str.ofString "Impossible", Str.ofString "SamePlace", Str.ofString "TwoPictures", Str.ofString "NotJoined", Str.ofString "TooMany", Str.ofString "BadText", Str.ofString "BadLine", Str.ofString "Nothing", Str.ofString "Missing", Str.ofString "EyesError"]
def fldN : List Str := [Str.ofString "part", Str.ofString "name", Str.ofString "number", Str.ofString "word", Str.ofString "one", Str.ofString "other", Str.ofString "what", Str.ofString "most", Str.ofString "line", Str.ofString "error"]
def tyN : List String := ["ValueError", "LookupError", "TypeError", "ArithmeticError", "RuntimeError", "AttributeError"]
def bltN : List Str := [Str.ofString "ValueError", Str.ofString "LookupError", Str.ofString "TypeError", Str.ofString "ArithmeticError", Str.ofString "RuntimeError", Str.ofString "AttributeError", Str.ofString "abs", Str.ofString "int", Str.ofString "isinstance", Str.ofString "range", Str.ofString "enumerate", Str.ofString "repr", Str.ofString "len"]
def errT : List (Str × List Str) := [(Str.ofString "BadRatio", [Str.ofString "part"]), (Str.ofString "BadRow", [Str.ofString "part"]), (Str.ofString "BadPicture", [Str.ofString "part"]), (Str.ofString "BadStep", [Str.ofString "part"]), (Str.ofString "BadMark", [Str.ofString "part"]), (Str.ofString "BadScene", [Str.ofString "part"]), (Str.ofString "BadCone", [Str.ofString "part"]), (Str.ofString "BadEye", [Str.ofString "part"]), (Str.ofString "BadEyeRow", [Str.ofString "part"]), (Str.ofString "BadFlat", [Str.ofString "part"]), (Str.ofString "BadFact", [Str.ofString "part"]), (Str.ofString "BadBook", [Str.ofString "part"]),
  (Str.ofString "BadStanding", [Str.ofString "part"]), (Str.ofString "BadSaying", [Str.ofString "part"]), (Str.ofString "BadSolid", [Str.ofString "part"]), (Str.ofString "BadView", [Str.ofString "part"]), (Str.ofString "BadLight", [Str.ofString "part"]), (Str.ofString "BadNumber", [Str.ofString "part"]), (Str.ofString "BadPaper", [Str.ofString "part"]), (Str.ofString "BadDesk", [Str.ofString "part"]), (Str.ofString "NotPlain", [Str.ofString "part"]), (Str.ofString "Unsettled", [Str.ofString "part"]),
  (Str.ofString "NoLabel", [Str.ofString "name"]), (Str.ofString "NoPicture", [Str.ofString "name"]), (Str.ofString "NoName", [Str.ofString "name"]), (Str.ofString "Twice", [Str.ofString "name"]), (Str.ofString "Behind", [Str.ofString "name"]), (Str.ofString "NoFact", [Str.ofString "number"]), (Str.ofString "Impossible", [Str.ofString "word"]), (Str.ofString "SamePlace", [Str.ofString "one", Str.ofString "other"]), (Str.ofString "TwoPictures", [Str.ofString "one", Str.ofString "other"]), (Str.ofString "NotJoined", [Str.ofString "one", Str.ofString "other"]), (Str.ofString "TooMany", [Str.ofString "what", Str.ofString "most"]), (Str.ofString "BadText", [Str.ofString "line", Str.ofString "word"]), (Str.ofString "BadLine", [Str.ofString "line", Str.ofString "error"]), (Str.ofString "Missing", [Str.ofString "name"])]
def err0N : List Str := [Str.ofString "Nothing", Str.ofString "EyesError"]
/-- C the i-th, c the j-th class: is C one of c's -/
def kitI (i j : Nat) : Bool := Nat.beq i j || Nat.beq j 37 || (Nat.beq j 36 && Nat.ble 22 i && Nat.ble i 24)
structure Hd (W : Wd) : Prop where
  cls : ∀ (i : Nat) n, clsN[i]? = some n → W.mg n = some (.ref (W.G n))
  blt : ∀ (i : Nat) n, bltN[i]? = some n → W.mg n = none
  err : ∀ (i : Nat) n fs, errT[i]? = some (n, fs) → EOk W n fs 1
  err0 : ∀ (i : Nat) n, err0N[i]? = some n → E0k W n
  fld : ∀ (i j : Nat) C fs f, errT[i]? = some (C, fs) → fs[j]? = some f → FOk W C f
  isi : ∀ (i j : Nat) C c, clsN[i]? = some C → clsN[j]? = some c → ∀ fs, IsiOk W (.err C fs) (.cls c) (kitI i j)
  isT : ∀ (i j : Nat) C T, clsN[i]? = some C → tyN[j]? = some T → ∀ fs, IsiOk W (.err C fs) (.ty T) (Nat.beq j 0)
  sm : SmOk W.K
end K0


set_option Elab.async false
set_option linter.all false
set_option maxRecDepth 100000
set_option maxHeartbeats 4000000
namespace K0
open PySem L2 PyProof.Rows PV
/-! mirrors -/
def kinL (i : Nat) : List D := [.bl (kitI i 0), .bl (kitI i 1), .bl (kitI i 2), .bl (kitI i 3), .bl (kitI i 4), .bl (kitI i 5), .bl (kitI i 6), .bl (kitI i 7), .bl (kitI i 8), .bl (kitI i 9), .bl (kitI i 10), .bl (kitI i 11), .bl (kitI i 12), .bl (kitI i 13), .bl (kitI i 14), .bl (kitI i 15), .bl (kitI i 16), .bl (kitI i 17),
  .bl (kitI i 18), .bl (kitI i 19), .bl (kitI i 20), .bl (kitI i 21), .bl (kitI i 22), .bl (kitI i 23), .bl (kitI i 24), .bl (kitI i 25), .bl (kitI i 26), .bl (kitI i 27), .bl (kitI i 28), .bl (kitI i 29), .bl (kitI i 30), .bl (kitI i 31), .bl (kitI i 32), .bl (kitI i 33), .bl (kitI i 34), .bl (kitI i 35)]
inductive ctKin : Ct
  | mk {C : Str} {i : Nat} {fs : List (Str × D)} (hC : clsN[i]? = some C) : ctKin [.val (.err C fs)] (.val (.lst (kinL i))) []
inductive ctFields : Ct
  | part {C : Str} {i : Nat} {fs : List (Str × D)} {d : D} {p : Int} (hC : errT[i]? = some (C, [Str.ofString "part"])) (h : p < 22) (hl : fs.lookup (Str.ofString "part") = some d) : ctFields [.val (.err C fs), .val (.int p)] (.own (.lst [d])) []
  | name {C : Str} {i : Nat} {fs : List (Str × D)} {d : D} {p : Int} (hC : errT[i]? = some (C, [Str.ofString "name"])) (h0 : 22 ≤ p) (h : p < 27) (hl : fs.lookup (Str.ofString "name") = some d) : ctFields [.val (.err C fs), .val (.int p)] (.own (.lst [d])) []
  | number {C : Str} {i : Nat} {fs : List (Str × D)} {d : D} {p : Int} (hC : errT[i]? = some (C, [Str.ofString "number"])) (h0 : p = 27) (hl : fs.lookup (Str.ofString "number") = some d) : ctFields [.val (.err C fs), .val (.int p)] (.own (.lst [d])) []
  | word {C : Str} {i : Nat} {fs : List (Str × D)} {d : D} {p : Int} (hC : errT[i]? = some (C, [Str.ofString "word"])) (h0 : p = 28) (hl : fs.lookup (Str.ofString "word") = some d) : ctFields [.val (.err C fs), .val (.int p)] (.own (.lst [d])) []
  | pair {C : Str} {i : Nat} {fs : List (Str × D)} {d d2 : D} {p : Int} (hC : errT[i]? = some (C, [Str.ofString "one", Str.ofString "other"])) (h0 : 29 ≤ p) (h : p < 32) (hl : fs.lookup (Str.ofString "one") = some d) (hl2 : fs.lookup (Str.ofString "other") = some d2) : ctFields [.val (.err C fs), .val (.int p)] (.own (.lst [d, d2])) []
  | most {C : Str} {i : Nat} {fs : List (Str × D)} {d d2 : D} {p : Int} (hC : errT[i]? = some (C, [Str.ofString "what", Str.ofString "most"])) (h0 : p = 32) (hl : fs.lookup (Str.ofString "what") = some d) (hl2 : fs.lookup (Str.ofString "most") = some d2) : ctFields [.val (.err C fs), .val (.int p)] (.own (.lst [d, d2])) []
  | txt {C : Str} {i : Nat} {fs : List (Str × D)} {d d2 : D} {p : Int} (hC : errT[i]? = some (C, [Str.ofString "line", Str.ofString "word"])) (h0 : p = 33) (hl : fs.lookup (Str.ofString "line") = some d) (hl2 : fs.lookup (Str.ofString "word") = some d2) : ctFields [.val (.err C fs), .val (.int p)] (.own (.lst [d, d2])) []
  | lin {C : Str} {i : Nat} {fs : List (Str × D)} {d d2 : D} {p : Int} (hC : errT[i]? = some (C, [Str.ofString "line", Str.ofString "error"])) (h0 : p = 34) (hl : fs.lookup (Str.ofString "line") = some d) (hl2 : fs.lookup (Str.ofString "error") = some d2) : ctFields [.val (.err C fs), .val (.int p)] (.own (.lst [d, d2])) []
  | none {C : Str} {fs : List (Str × D)} {p : Int} (h0 : p = 35) : ctFields [.val (.err C fs), .val (.int p)] (.own (.lst [])) []
section
variable {W : Wd} {X : Cx} {Z : PV.Env0} {k : Nat}
theorem w_kin {C : Str} {i : Nat} {fs : List (Str × D)} (h : Hd W) (hC : clsN[i]? = some C) (F : Fr W k lKin X Z) : ∃ st', SSs X Z (defBody sKin) (startS nKin [.val (.err C fs)]) (.rt (.val (.lst (kinL i))) st') ∧
   outsB 0 [.val (.err C fs)] st' [] := by
  have cls := h.cls
  have blt := h.blt
  have isi := h.isi
  have rd := rdKin
  have wr := wrKin
  have gl := glKin
  (refine ex_ofS (st0 := [(some (.val _)), none]) rfl (PV.sss_cons (PV.p_set (st' := [(some (.val _)), (some (.own _))]) (i := 1) (s := (.own _)) F (PV.wr_at wr rfl (by kernel_rfl)) (PV.se_lst (PV.sa_cons (PV.p_callB (id := "isinstance") F (PV.gl_at (i := 0) gl rfl) (blt 8 _ rfl) (by kernel_rfl) (by kernel_rfl) (PV.sa_cons (PV.p_var (i := 0) F (PV.rd_at rd rfl) rfl) (PV.sa_cons (PV.p_cls F (PV.gl_at (i := 1) gl rfl) (cls 0 _ rfl)) PV.sa_nil (by kernel_rfl)) (by kernel_rfl)) (PV.c_isi F (isi _ 0 _ _ hC rfl _))) (PV.sa_cons (PV.p_callB (id := "isinstance") F (PV.gl_at (i := 0) gl rfl) (blt 8 _ rfl) (by kernel_rfl) (by kernel_rfl) (PV.sa_cons (PV.p_var (i := 0) F (PV.rd_at rd rfl) rfl) (PV.sa_cons (PV.p_cls F (PV.gl_at (i := 2) gl rfl) (cls 1 _ rfl)) PV.sa_nil (by kernel_rfl)) (by kernel_rfl)) (PV.c_isi F (isi _ 1 _ _ hC rfl _))) (PV.sa_cons (PV.p_callB (id := "isinstance") F (PV.gl_at (i := 0) gl rfl) (blt 8 _ rfl) (by kernel_rfl) (by kernel_rfl) (PV.sa_cons (PV.p_var (i := 0) F (PV.rd_at rd rfl) rfl) (PV.sa_cons (PV.p_cls F (PV.gl_at (i := 3) gl rfl) (cls 2 _ rfl)) PV.sa_nil (by kernel_rfl)) (by kernel_rfl)) (PV.c_isi F (isi _ 2 _ _ hC rfl _))) PV.sa_nil (by kernel_rfl)) (by kernel_rfl)) (by kernel_rfl)) (Nat.le_of_ble_eq_true (by kernel_rfl))) (by kernel_rfl) (by kernel_rfl) (by kernel_rfl) rfl rfl) (PV.sss_cons (PV.p_set (st' := [(some (.val _)), (some (.own _))]) (i := 1) (s := (.own _)) F (PV.wr_at wr rfl (by kernel_rfl)) (PV.se_bin (PV.p_varO (st' := [(some (.val _)), (some (.val _))]) (d := (.lst _)) (i := 1) F (PV.rd_at rd rfl) rfl (by kernel_rfl) rfl rfl) (PV.p_frz (d := (.lst _)) (PV.se_lst (PV.sa_cons (PV.p_callB (id := "isinstance") F (PV.gl_at (i := 0) gl rfl) (blt 8 _ rfl) (by kernel_rfl) (by kernel_rfl) (PV.sa_cons (PV.p_var (i := 0) F (PV.rd_at rd rfl) rfl) (PV.sa_cons (PV.p_cls F (PV.gl_at (i := 4) gl rfl) (cls 3 _ rfl)) PV.sa_nil (by kernel_rfl)) (by kernel_rfl)) (PV.c_isi F (isi _ 3 _ _ hC rfl _))) (PV.sa_cons (PV.p_callB (id := "isinstance") F (PV.gl_at (i := 0) gl rfl) (blt 8 _ rfl) (by kernel_rfl) (by kernel_rfl) (PV.sa_cons (PV.p_var (i := 0) F (PV.rd_at rd rfl) rfl) (PV.sa_cons (PV.p_cls F (PV.gl_at (i := 5) gl rfl) (cls 4 _ rfl)) PV.sa_nil (by kernel_rfl)) (by kernel_rfl)) (PV.c_isi F (isi _ 4 _ _ hC rfl _))) (PV.sa_cons (PV.p_callB (id := "isinstance") F (PV.gl_at (i := 0) gl rfl) (blt 8 _ rfl) (by kernel_rfl) (by kernel_rfl) (PV.sa_cons (PV.p_var (i := 0) F (PV.rd_at rd rfl) rfl) (PV.sa_cons (PV.p_cls F (PV.gl_at (i := 6) gl rfl) (cls 5 _ rfl)) PV.sa_nil (by kernel_rfl)) (by kernel_rfl)) (PV.c_isi F (isi _ 5 _ _ hC rfl _))) PV.sa_nil (by kernel_rfl)) (by kernel_rfl)) (by kernel_rfl)) (Nat.le_of_ble_eq_true (by kernel_rfl))) (by kernel_rfl) rfl) (PV.q_cat (zs := [_, _, _, _, _, _]) (Nat.le_of_ble_eq_true (by kernel_rfl)) rfl)) (by kernel_rfl) (by kernel_rfl) (by kernel_rfl) rfl rfl) (PV.sss_cons (PV.p_set (st' := [(some (.val _)), (some (.own _))]) (i := 1) (s := (.own _)) F (PV.wr_at wr rfl (by kernel_rfl)) (PV.se_bin (PV.p_varO (st' := [(some (.val _)), (some (.val _))]) (d := (.lst _)) (i := 1) F (PV.rd_at rd rfl) rfl (by kernel_rfl) rfl rfl) (PV.p_frz (d := (.lst _)) (PV.se_lst (PV.sa_cons (PV.p_callB (id := "isinstance") F (PV.gl_at (i := 0) gl rfl) (blt 8 _ rfl) (by kernel_rfl) (by kernel_rfl) (PV.sa_cons (PV.p_var (i := 0) F (PV.rd_at rd rfl) rfl) (PV.sa_cons (PV.p_cls F (PV.gl_at (i := 7) gl rfl) (cls 6 _ rfl)) PV.sa_nil (by kernel_rfl)) (by kernel_rfl)) (PV.c_isi F (isi _ 6 _ _ hC rfl _))) (PV.sa_cons (PV.p_callB (id := "isinstance") F (PV.gl_at (i := 0) gl rfl) (blt 8 _ rfl) (by kernel_rfl) (by kernel_rfl) (PV.sa_cons (PV.p_var (i := 0) F (PV.rd_at rd rfl) rfl) (PV.sa_cons (PV.p_cls F (PV.gl_at (i := 8) gl rfl) (cls 7 _ rfl)) PV.sa_nil (by kernel_rfl)) (by kernel_rfl)) (PV.c_isi F (isi _ 7 _ _ hC rfl _))) (PV.sa_cons (PV.p_callB (id := "isinstance") F (PV.gl_at (i := 0) gl rfl) (blt 8 _ rfl) (by kernel_rfl) (by kernel_rfl) (PV.sa_cons (PV.p_var (i := 0) F (PV.rd_at rd rfl) rfl) (PV.sa_cons (PV.p_cls F (PV.gl_at (i := 9) gl rfl) (cls 8 _ rfl)) PV.sa_nil (by kernel_rfl)) (by kernel_rfl)) (PV.c_isi F (isi _ 8 _ _ hC rfl _))) PV.sa_nil (by kernel_rfl)) (by kernel_rfl)) (by kernel_rfl)) (Nat.le_of_ble_eq_true (by kernel_rfl))) (by kernel_rfl) rfl) (PV.q_cat (zs := [_, _, _, _, _, _, _, _, _]) (Nat.le_of_ble_eq_true (by kernel_rfl)) rfl)) (by kernel_rfl) (by kernel_rfl) (by kernel_rfl) rfl rfl) (PV.sss_cons (PV.p_set (st' := [(some (.val _)), (some (.own _))]) (i := 1) (s := (.own _)) F (PV.wr_at wr rfl (by kernel_rfl)) (PV.se_bin (PV.p_varO (st' := [(some (.val _)), (some (.val _))]) (d := (.lst _)) (i := 1) F (PV.rd_at rd rfl) rfl (by kernel_rfl) rfl rfl) (PV.p_frz (d := (.lst _)) (PV.se_lst (PV.sa_cons (PV.p_callB (id := "isinstance") F (PV.gl_at (i := 0) gl rfl) (blt 8 _ rfl) (by kernel_rfl) (by kernel_rfl) (PV.sa_cons (PV.p_var (i := 0) F (PV.rd_at rd rfl) rfl) (PV.sa_cons (PV.p_cls F (PV.gl_at (i := 10) gl rfl) (cls 9 _ rfl)) PV.sa_nil (by kernel_rfl)) (by kernel_rfl)) (PV.c_isi F (isi _ 9 _ _ hC rfl _))) (PV.sa_cons (PV.p_callB (id := "isinstance") F (PV.gl_at (i := 0) gl rfl) (blt 8 _ rfl) (by kernel_rfl) (by kernel_rfl) (PV.sa_cons (PV.p_var (i := 0) F (PV.rd_at rd rfl) rfl) (PV.sa_cons (PV.p_cls F (PV.gl_at (i := 11) gl rfl) (cls 10 _ rfl)) PV.sa_nil (by kernel_rfl)) (by kernel_rfl)) (PV.c_isi F (isi _ 10 _ _ hC rfl _))) (PV.sa_cons (PV.p_callB (id := "isinstance") F (PV.gl_at (i := 0) gl rfl) (blt 8 _ rfl) (by kernel_rfl) (by kernel_rfl) (PV.sa_cons (PV.p_var (i := 0) F (PV.rd_at rd rfl) rfl) (PV.sa_cons (PV.p_cls F (PV.gl_at (i := 12) gl rfl) (cls 11 _ rfl)) PV.sa_nil (by kernel_rfl)) (by kernel_rfl)) (PV.c_isi F (isi _ 11 _ _ hC rfl _))) PV.sa_nil (by kernel_rfl)) (by kernel_rfl)) (by kernel_rfl)) (Nat.le_of_ble_eq_true (by kernel_rfl))) (by kernel_rfl) rfl) (PV.q_cat (zs := [_, _, _, _, _, _, _, _, _, _, _, _]) (Nat.le_of_ble_eq_true (by kernel_rfl)) rfl)) (by kernel_rfl) (by kernel_rfl) (by kernel_rfl) rfl rfl) (PV.sss_cons (PV.p_set (st' := [(some (.val _)), (some (.own _))]) (i := 1) (s := (.own _)) F (PV.wr_at wr rfl (by kernel_rfl)) (PV.se_bin (PV.p_varO (st' := [(some (.val _)), (some (.val _))]) (d := (.lst _)) (i := 1) F (PV.rd_at rd rfl) rfl (by kernel_rfl) rfl rfl) (PV.p_frz (d := (.lst _)) (PV.se_lst (PV.sa_cons (PV.p_callB (id := "isinstance") F (PV.gl_at (i := 0) gl rfl) (blt 8 _ rfl) (by kernel_rfl) (by kernel_rfl) (PV.sa_cons (PV.p_var (i := 0) F (PV.rd_at rd rfl) rfl) (PV.sa_cons (PV.p_cls F (PV.gl_at (i := 13) gl rfl) (cls 12 _ rfl)) PV.sa_nil (by kernel_rfl)) (by kernel_rfl)) (PV.c_isi F (isi _ 12 _ _ hC rfl _))) (PV.sa_cons (PV.p_callB (id := "isinstance") F (PV.gl_at (i := 0) gl rfl) (blt 8 _ rfl) (by kernel_rfl) (by kernel_rfl) (PV.sa_cons (PV.p_var (i := 0) F (PV.rd_at rd rfl) rfl) (PV.sa_cons (PV.p_cls F (PV.gl_at (i := 14) gl rfl) (cls 13 _ rfl)) PV.sa_nil (by kernel_rfl)) (by kernel_rfl)) (PV.c_isi F (isi _ 13 _ _ hC rfl _))) (PV.sa_cons (PV.p_callB (id := "isinstance") F (PV.gl_at (i := 0) gl rfl) (blt 8 _ rfl) (by kernel_rfl) (by kernel_rfl) (PV.sa_cons (PV.p_var (i := 0) F (PV.rd_at rd rfl) rfl) (PV.sa_cons (PV.p_cls F (PV.gl_at (i := 15) gl rfl) (cls 14 _ rfl)) PV.sa_nil (by kernel_rfl)) (by kernel_rfl)) (PV.c_isi F (isi _ 14 _ _ hC rfl _))) PV.sa_nil (by kernel_rfl)) (by kernel_rfl)) (by kernel_rfl)) (Nat.le_of_ble_eq_true (by kernel_rfl))) (by kernel_rfl) rfl) (PV.q_cat (zs := [_, _, _, _, _, _, _, _, _, _, _, _, _, _, _]) (Nat.le_of_ble_eq_true (by kernel_rfl)) rfl)) (by kernel_rfl) (by kernel_rfl) (by kernel_rfl) rfl rfl) (PV.sss_cons (PV.p_set (st' := [(some (.val _)), (some (.own _))]) (i := 1) (s := (.own _)) F (PV.wr_at wr rfl (by kernel_rfl)) (PV.se_bin (PV.p_varO (st' := [(some (.val _)), (some (.val _))]) (d := (.lst _)) (i := 1) F (PV.rd_at rd rfl) rfl (by kernel_rfl) rfl rfl) (PV.p_frz (d := (.lst _)) (PV.se_lst (PV.sa_cons (PV.p_callB (id := "isinstance") F (PV.gl_at (i := 0) gl rfl) (blt 8 _ rfl) (by kernel_rfl) (by kernel_rfl) (PV.sa_cons (PV.p_var (i := 0) F (PV.rd_at rd rfl) rfl) (PV.sa_cons (PV.p_cls F (PV.gl_at (i := 16) gl rfl) (cls 15 _ rfl)) PV.sa_nil (by kernel_rfl)) (by kernel_rfl)) (PV.c_isi F (isi _ 15 _ _ hC rfl _))) (PV.sa_cons (PV.p_callB (id := "isinstance") F (PV.gl_at (i := 0) gl rfl) (blt 8 _ rfl) (by kernel_rfl) (by kernel_rfl) (PV.sa_cons (PV.p_var (i := 0) F (PV.rd_at rd rfl) rfl) (PV.sa_cons (PV.p_cls F (PV.gl_at (i := 17) gl rfl) (cls 16 _ rfl)) PV.sa_nil (by kernel_rfl)) (by kernel_rfl)) (PV.c_isi F (isi _ 16 _ _ hC rfl _))) (PV.sa_cons (PV.p_callB (id := "isinstance") F (PV.gl_at (i := 0) gl rfl) (blt 8 _ rfl) (by kernel_rfl) (by kernel_rfl) (PV.sa_cons (PV.p_var (i := 0) F (PV.rd_at rd rfl) rfl) (PV.sa_cons (PV.p_cls F (PV.gl_at (i := 18) gl rfl) (cls 17 _ rfl)) PV.sa_nil (by kernel_rfl)) (by kernel_rfl)) (PV.c_isi F (isi _ 17 _ _ hC rfl _))) PV.sa_nil (by kernel_rfl)) (by kernel_rfl)) (by kernel_rfl)) (Nat.le_of_ble_eq_true (by kernel_rfl))) (by kernel_rfl) rfl) (PV.q_cat (zs := [_, _, _, _, _, _, _, _, _, _, _, _, _, _, _, _, _, _]) (Nat.le_of_ble_eq_true (by kernel_rfl)) rfl)) (by kernel_rfl) (by kernel_rfl) (by kernel_rfl) rfl rfl) (PV.sss_cons (PV.p_set (st' := [(some (.val _)), (some (.own _))]) (i := 1) (s := (.own _)) F (PV.wr_at wr rfl (by kernel_rfl)) (PV.se_bin (PV.p_varO (st' := [(some (.val _)), (some (.val _))]) (d := (.lst _)) (i := 1) F (PV.rd_at rd rfl) rfl (by kernel_rfl) rfl rfl) (PV.p_frz (d := (.lst _)) (PV.se_lst (PV.sa_cons (PV.p_callB (id := "isinstance") F (PV.gl_at (i := 0) gl rfl) (blt 8 _ rfl) (by kernel_rfl) (by kernel_rfl) (PV.sa_cons (PV.p_var (i := 0) F (PV.rd_at rd rfl) rfl) (PV.sa_cons (PV.p_cls F (PV.gl_at (i := 19) gl rfl) (cls 18 _ rfl)) PV.sa_nil (by kernel_rfl)) (by kernel_rfl)) (PV.c_isi F (isi _ 18 _ _ hC rfl _))) (PV.sa_cons (PV.p_callB (id := "isinstance") F (PV.gl_at (i := 0) gl rfl) (blt 8 _ rfl) (by kernel_rfl) (by kernel_rfl) (PV.sa_cons (PV.p_var (i := 0) F (PV.rd_at rd rfl) rfl) (PV.sa_cons (PV.p_cls F (PV.gl_at (i := 20) gl rfl) (cls 19 _ rfl)) PV.sa_nil (by kernel_rfl)) (by kernel_rfl)) (PV.c_isi F (isi _ 19 _ _ hC rfl _))) (PV.sa_cons (PV.p_callB (id := "isinstance") F (PV.gl_at (i := 0) gl rfl) (blt 8 _ rfl) (by kernel_rfl) (by kernel_rfl) (PV.sa_cons (PV.p_var (i := 0) F (PV.rd_at rd rfl) rfl) (PV.sa_cons (PV.p_cls F (PV.gl_at (i := 21) gl rfl) (cls 20 _ rfl)) PV.sa_nil (by kernel_rfl)) (by kernel_rfl)) (PV.c_isi F (isi _ 20 _ _ hC rfl _))) PV.sa_nil (by kernel_rfl)) (by kernel_rfl)) (by kernel_rfl)) (Nat.le_of_ble_eq_true (by kernel_rfl))) (by kernel_rfl) rfl) (PV.q_cat (zs := [_, _, _, _, _, _, _, _, _, _, _, _, _, _, _, _, _, _, _, _, _]) (Nat.le_of_ble_eq_true (by kernel_rfl)) rfl)) (by kernel_rfl) (by kernel_rfl) (by kernel_rfl) rfl rfl) (PV.sss_cons (PV.p_set (st' := [(some (.val _)), (some (.own _))]) (i := 1) (s := (.own _)) F (PV.wr_at wr rfl (by kernel_rfl)) (PV.se_bin (PV.p_varO (st' := [(some (.val _)), (some (.val _))]) (d := (.lst _)) (i := 1) F (PV.rd_at rd rfl) rfl (by kernel_rfl) rfl rfl) (PV.p_frz (d := (.lst _)) (PV.se_lst (PV.sa_cons (PV.p_callB (id := "isinstance") F (PV.gl_at (i := 0) gl rfl) (blt 8 _ rfl) (by kernel_rfl) (by kernel_rfl) (PV.sa_cons (PV.p_var (i := 0) F (PV.rd_at rd rfl) rfl) (PV.sa_cons (PV.p_cls F (PV.gl_at (i := 22) gl rfl) (cls 21 _ rfl)) PV.sa_nil (by kernel_rfl)) (by kernel_rfl)) (PV.c_isi F (isi _ 21 _ _ hC rfl _))) (PV.sa_cons (PV.p_callB (id := "isinstance") F (PV.gl_at (i := 0) gl rfl) (blt 8 _ rfl) (by kernel_rfl) (by kernel_rfl) (PV.sa_cons (PV.p_var (i := 0) F (PV.rd_at rd rfl) rfl) (PV.sa_cons (PV.p_cls F (PV.gl_at (i := 23) gl rfl) (cls 22 _ rfl)) PV.sa_nil (by kernel_rfl)) (by kernel_rfl)) (PV.c_isi F (isi _ 22 _ _ hC rfl _))) (PV.sa_cons (PV.p_callB (id := "isinstance") F (PV.gl_at (i := 0) gl rfl) (blt 8 _ rfl) (by kernel_rfl) (by kernel_rfl) (PV.sa_cons (PV.p_var (i := 0) F (PV.rd_at rd rfl) rfl) (PV.sa_cons (PV.p_cls F (PV.gl_at (i := 24) gl rfl) (cls 23 _ rfl)) PV.sa_nil (by kernel_rfl)) (by kernel_rfl)) (PV.c_isi F (isi _ 23 _ _ hC rfl _))) PV.sa_nil (by kernel_rfl)) (by kernel_rfl)) (by kernel_rfl)) (Nat.le_of_ble_eq_true (by kernel_rfl))) (by kernel_rfl) rfl) (PV.q_cat (zs := [_, _, _, _, _, _, _, _, _, _, _, _, _, _, _, _, _, _, _, _, _, _, _, _]) (Nat.le_of_ble_eq_true (by kernel_rfl)) rfl)) (by kernel_rfl) (by kernel_rfl) (by kernel_rfl) rfl rfl) (PV.sss_cons (PV.p_set (st' := [(some (.val _)), (some (.own _))]) (i := 1) (s := (.own _)) F (PV.wr_at wr rfl (by kernel_rfl)) (PV.se_bin (PV.p_varO (st' := [(some (.val _)), (some (.val _))]) (d := (.lst _)) (i := 1) F (PV.rd_at rd rfl) rfl (by kernel_rfl) rfl rfl) (PV.p_frz (d := (.lst _)) (PV.se_lst (PV.sa_cons (PV.p_callB (id := "isinstance") F (PV.gl_at (i := 0) gl rfl) (blt 8 _ rfl) (by kernel_rfl) (by kernel_rfl) (PV.sa_cons (PV.p_var (i := 0) F (PV.rd_at rd rfl) rfl) (PV.sa_cons (PV.p_cls F (PV.gl_at (i := 25) gl rfl) (cls 24 _ rfl)) PV.sa_nil (by kernel_rfl)) (by kernel_rfl)) (PV.c_isi F (isi _ 24 _ _ hC rfl _))) (PV.sa_cons (PV.p_callB (id := "isinstance") F (PV.gl_at (i := 0) gl rfl) (blt 8 _ rfl) (by kernel_rfl) (by kernel_rfl) (PV.sa_cons (PV.p_var (i := 0) F (PV.rd_at rd rfl) rfl) (PV.sa_cons (PV.p_cls F (PV.gl_at (i := 26) gl rfl) (cls 25 _ rfl)) PV.sa_nil (by kernel_rfl)) (by kernel_rfl)) (PV.c_isi F (isi _ 25 _ _ hC rfl _))) (PV.sa_cons (PV.p_callB (id := "isinstance") F (PV.gl_at (i := 0) gl rfl) (blt 8 _ rfl) (by kernel_rfl) (by kernel_rfl) (PV.sa_cons (PV.p_var (i := 0) F (PV.rd_at rd rfl) rfl) (PV.sa_cons (PV.p_cls F (PV.gl_at (i := 27) gl rfl) (cls 26 _ rfl)) PV.sa_nil (by kernel_rfl)) (by kernel_rfl)) (PV.c_isi F (isi _ 26 _ _ hC rfl _))) PV.sa_nil (by kernel_rfl)) (by kernel_rfl)) (by kernel_rfl)) (Nat.le_of_ble_eq_true (by kernel_rfl))) (by kernel_rfl) rfl) (PV.q_cat (zs := [_, _, _, _, _, _, _, _, _, _, _, _, _, _, _, _, _, _, _, _, _, _, _, _, _, _, _]) (Nat.le_of_ble_eq_true (by kernel_rfl)) rfl)) (by kernel_rfl) (by kernel_rfl) (by kernel_rfl) rfl rfl) (PV.sss_cons (PV.p_set (st' := [(some (.val _)), (some (.own _))]) (i := 1) (s := (.own _)) F (PV.wr_at wr rfl (by kernel_rfl)) (PV.se_bin (PV.p_varO (st' := [(some (.val _)), (some (.val _))]) (d := (.lst _)) (i := 1) F (PV.rd_at rd rfl) rfl (by kernel_rfl) rfl rfl) (PV.p_frz (d := (.lst _)) (PV.se_lst (PV.sa_cons (PV.p_callB (id := "isinstance") F (PV.gl_at (i := 0) gl rfl) (blt 8 _ rfl) (by kernel_rfl) (by kernel_rfl) (PV.sa_cons (PV.p_var (i := 0) F (PV.rd_at rd rfl) rfl) (PV.sa_cons (PV.p_cls F (PV.gl_at (i := 28) gl rfl) (cls 27 _ rfl)) PV.sa_nil (by kernel_rfl)) (by kernel_rfl)) (PV.c_isi F (isi _ 27 _ _ hC rfl _))) (PV.sa_cons (PV.p_callB (id := "isinstance") F (PV.gl_at (i := 0) gl rfl) (blt 8 _ rfl) (by kernel_rfl) (by kernel_rfl) (PV.sa_cons (PV.p_var (i := 0) F (PV.rd_at rd rfl) rfl) (PV.sa_cons (PV.p_cls F (PV.gl_at (i := 29) gl rfl) (cls 28 _ rfl)) PV.sa_nil (by kernel_rfl)) (by kernel_rfl)) (PV.c_isi F (isi _ 28 _ _ hC rfl _))) (PV.sa_cons (PV.p_callB (id := "isinstance") F (PV.gl_at (i := 0) gl rfl) (blt 8 _ rfl) (by kernel_rfl) (by kernel_rfl) (PV.sa_cons (PV.p_var (i := 0) F (PV.rd_at rd rfl) rfl) (PV.sa_cons (PV.p_cls F (PV.gl_at (i := 30) gl rfl) (cls 29 _ rfl)) PV.sa_nil (by kernel_rfl)) (by kernel_rfl)) (PV.c_isi F (isi _ 29 _ _ hC rfl _))) PV.sa_nil (by kernel_rfl)) (by kernel_rfl)) (by kernel_rfl)) (Nat.le_of_ble_eq_true (by kernel_rfl))) (by kernel_rfl) rfl) (PV.q_cat (zs := [_, _, _, _, _, _, _, _, _, _, _, _, _, _, _, _, _, _, _, _, _, _, _, _, _, _, _, _, _, _]) (Nat.le_of_ble_eq_true (by kernel_rfl)) rfl)) (by kernel_rfl) (by kernel_rfl) (by kernel_rfl) rfl rfl) (PV.sss_cons (PV.p_set (st' := [(some (.val _)), (some (.own _))]) (i := 1) (s := (.own _)) F (PV.wr_at wr rfl (by kernel_rfl)) (PV.se_bin (PV.p_varO (st' := [(some (.val _)), (some (.val _))]) (d := (.lst _)) (i := 1) F (PV.rd_at rd rfl) rfl (by kernel_rfl) rfl rfl) (PV.p_frz (d := (.lst _)) (PV.se_lst (PV.sa_cons (PV.p_callB (id := "isinstance") F (PV.gl_at (i := 0) gl rfl) (blt 8 _ rfl) (by kernel_rfl) (by kernel_rfl) (PV.sa_cons (PV.p_var (i := 0) F (PV.rd_at rd rfl) rfl) (PV.sa_cons (PV.p_cls F (PV.gl_at (i := 31) gl rfl) (cls 30 _ rfl)) PV.sa_nil (by kernel_rfl)) (by kernel_rfl)) (PV.c_isi F (isi _ 30 _ _ hC rfl _))) (PV.sa_cons (PV.p_callB (id := "isinstance") F (PV.gl_at (i := 0) gl rfl) (blt 8 _ rfl) (by kernel_rfl) (by kernel_rfl) (PV.sa_cons (PV.p_var (i := 0) F (PV.rd_at rd rfl) rfl) (PV.sa_cons (PV.p_cls F (PV.gl_at (i := 32) gl rfl) (cls 31 _ rfl)) PV.sa_nil (by kernel_rfl)) (by kernel_rfl)) (PV.c_isi F (isi _ 31 _ _ hC rfl _))) (PV.sa_cons (PV.p_callB (id := "isinstance") F (PV.gl_at (i := 0) gl rfl) (blt 8 _ rfl) (by kernel_rfl) (by kernel_rfl) (PV.sa_cons (PV.p_var (i := 0) F (PV.rd_at rd rfl) rfl) (PV.sa_cons (PV.p_cls F (PV.gl_at (i := 33) gl rfl) (cls 32 _ rfl)) PV.sa_nil (by kernel_rfl)) (by kernel_rfl)) (PV.c_isi F (isi _ 32 _ _ hC rfl _))) PV.sa_nil (by kernel_rfl)) (by kernel_rfl)) (by kernel_rfl)) (Nat.le_of_ble_eq_true (by kernel_rfl))) (by kernel_rfl) rfl) (PV.q_cat (zs := [_, _, _, _, _, _, _, _, _, _, _, _, _, _, _, _, _, _, _, _, _, _, _, _, _, _, _, _, _, _, _, _, _]) (Nat.le_of_ble_eq_true (by kernel_rfl)) rfl)) (by kernel_rfl) (by kernel_rfl) (by kernel_rfl) rfl rfl) (PV.sss_cons (PV.p_set (st' := [(some (.val _)), (some (.own _))]) (i := 1) (s := (.own _)) F (PV.wr_at wr rfl (by kernel_rfl)) (PV.se_bin (PV.p_varO (st' := [(some (.val _)), (some (.val _))]) (d := (.lst _)) (i := 1) F (PV.rd_at rd rfl) rfl (by kernel_rfl) rfl rfl) (PV.p_frz (d := (.lst _)) (PV.se_lst (PV.sa_cons (PV.p_callB (id := "isinstance") F (PV.gl_at (i := 0) gl rfl) (blt 8 _ rfl) (by kernel_rfl) (by kernel_rfl) (PV.sa_cons (PV.p_var (i := 0) F (PV.rd_at rd rfl) rfl) (PV.sa_cons (PV.p_cls F (PV.gl_at (i := 34) gl rfl) (cls 33 _ rfl)) PV.sa_nil (by kernel_rfl)) (by kernel_rfl)) (PV.c_isi F (isi _ 33 _ _ hC rfl _))) (PV.sa_cons (PV.p_callB (id := "isinstance") F (PV.gl_at (i := 0) gl rfl) (blt 8 _ rfl) (by kernel_rfl) (by kernel_rfl) (PV.sa_cons (PV.p_var (i := 0) F (PV.rd_at rd rfl) rfl) (PV.sa_cons (PV.p_cls F (PV.gl_at (i := 35) gl rfl) (cls 34 _ rfl)) PV.sa_nil (by kernel_rfl)) (by kernel_rfl)) (PV.c_isi F (isi _ 34 _ _ hC rfl _))) (PV.sa_cons (PV.p_callB (id := "isinstance") F (PV.gl_at (i := 0) gl rfl) (blt 8 _ rfl) (by kernel_rfl) (by kernel_rfl) (PV.sa_cons (PV.p_var (i := 0) F (PV.rd_at rd rfl) rfl) (PV.sa_cons (PV.p_cls F (PV.gl_at (i := 36) gl rfl) (cls 35 _ rfl)) PV.sa_nil (by kernel_rfl)) (by kernel_rfl)) (PV.c_isi F (isi _ 35 _ _ hC rfl _))) PV.sa_nil (by kernel_rfl)) (by kernel_rfl)) (by kernel_rfl)) (Nat.le_of_ble_eq_true (by kernel_rfl))) (by kernel_rfl) rfl) (PV.q_cat (zs := [_, _, _, _, _, _, _, _, _, _, _, _, _, _, _, _, _, _, _, _, _, _, _, _, _, _, _, _, _, _, _, _, _, _, _, _]) (Nat.le_of_ble_eq_true (by kernel_rfl)) rfl)) (by kernel_rfl) (by kernel_rfl) (by kernel_rfl) rfl rfl) (PV.sss_out (PV.ss_ret (PV.p_varO (st' := [(some (.val _)), (some (.val _))]) (d := (.lst _)) (i := 1) F (PV.rd_at rd rfl) rfl (by kernel_rfl) rfl rfl)) (by kernel_rfl)))))))))))))) rfl ?_; repeat' first | exact trivial | refine ⟨⟨_, rfl, rfl⟩, ?_⟩)
theorem w_fields (h : Hd W) (F : Fr W k lFields X Z) : ∀ sl r outs, ctFields sl r outs → ∃ st', SSs X Z (defBody sFields) (startS nFields sl) (.rt r st') ∧ outsB 0 sl st' outs := by
  have fld := h.fld
  have rd := rdFields
  have wr := wrFields
  intro sl r outs c
  cases c with
  | part hC h hl => (refine ex_ofS (st0 := [(some (.val _)), (some (.val _))]) rfl (PV.sss_out (PV.s_ifT (PV.t_cmp (PV.p_var (i := 1) F (PV.rd_at rd rfl) rfl) PV.se_int (by kernel_rfl) (PV.q_lt (b := _) rfl)) (decide_eq_true (by first | with_reducible assumption | omega | (simp_all; done))) (PV.sss_out (PV.ss_ret (PV.se_lst (PV.sa_cons (PV.p_errF F (PV.p_var (i := 0) F (PV.rd_at rd rfl) rfl) (by kernel_rfl) (fld _ 0 _ _ _ hC rfl) hl) PV.sa_nil (by kernel_rfl)) (Nat.le_of_ble_eq_true (by kernel_rfl)))) (by kernel_rfl))) (by kernel_rfl)) rfl ?_; repeat' first | exact trivial | refine ⟨⟨_, rfl, rfl⟩, ?_⟩)
  | name hC h0 h hl => (refine ex_ofS (st0 := [(some (.val _)), (some (.val _))]) rfl (PV.sss_cons (PV.s_ifF (PV.t_cmp (PV.p_var (i := 1) F (PV.rd_at rd rfl) rfl) PV.se_int (by kernel_rfl) (PV.q_lt (b := _) rfl)) (decide_eq_false (by first | with_reducible assumption | omega | (simp_all; done))) PV.sss_nil) (PV.sss_out (PV.s_ifT (PV.t_cmp (PV.p_var (i := 1) F (PV.rd_at rd rfl) rfl) PV.se_int (by kernel_rfl) (PV.q_lt (b := _) rfl)) (decide_eq_true (by first | with_reducible assumption | omega | (simp_all; done))) (PV.sss_out (PV.ss_ret (PV.se_lst (PV.sa_cons (PV.p_errF F (PV.p_var (i := 0) F (PV.rd_at rd rfl) rfl) (by kernel_rfl) (fld _ 0 _ _ _ hC rfl) hl) PV.sa_nil (by kernel_rfl)) (Nat.le_of_ble_eq_true (by kernel_rfl)))) (by kernel_rfl))) (by kernel_rfl))) rfl ?_; repeat' first | exact trivial | refine ⟨⟨_, rfl, rfl⟩, ?_⟩)
  | number hC h0 hl => (refine ex_ofS (st0 := [(some (.val _)), (some (.val _))]) rfl (PV.sss_cons (PV.s_ifF (PV.t_cmp (PV.p_var (i := 1) F (PV.rd_at rd rfl) rfl) PV.se_int (by kernel_rfl) (PV.q_lt (b := _) rfl)) (decide_eq_false (by first | with_reducible assumption | omega | (simp_all; done))) PV.sss_nil) (PV.sss_cons (PV.s_ifF (PV.t_cmp (PV.p_var (i := 1) F (PV.rd_at rd rfl) rfl) PV.se_int (by kernel_rfl) (PV.q_lt (b := _) rfl)) (decide_eq_false (by first | with_reducible assumption | omega | (simp_all; done))) PV.sss_nil) (PV.sss_out (PV.s_ifT (PV.t_cmp (PV.p_var (i := 1) F (PV.rd_at rd rfl) rfl) PV.se_int (by kernel_rfl) (PV.q_lt (b := _) rfl)) (decide_eq_true (by first | with_reducible assumption | omega | (simp_all; done))) (PV.sss_out (PV.ss_ret (PV.e_ifT (PV.t_cmp (PV.p_var (i := 1) F (PV.rd_at rd rfl) rfl) PV.se_int (by kernel_rfl) (PV.q_eqI (b := _) F rfl)) (decide_eq_true (by first | with_reducible assumption | omega | (simp_all; done))) (PV.se_lst (PV.sa_cons (PV.p_errF F (PV.p_var (i := 0) F (PV.rd_at rd rfl) rfl) (by kernel_rfl) (fld _ 0 _ _ _ hC rfl) hl) PV.sa_nil (by kernel_rfl)) (Nat.le_of_ble_eq_true (by kernel_rfl))))) (by kernel_rfl))) (by kernel_rfl)))) rfl ?_; repeat' first | exact trivial | refine ⟨⟨_, rfl, rfl⟩, ?_⟩)
  | word hC h0 hl => (refine ex_ofS (st0 := [(some (.val _)), (some (.val _))]) rfl (PV.sss_cons (PV.s_ifF (PV.t_cmp (PV.p_var (i := 1) F (PV.rd_at rd rfl) rfl) PV.se_int (by kernel_rfl) (PV.q_lt (b := _) rfl)) (decide_eq_false (by first | with_reducible assumption | omega | (simp_all; done))) PV.sss_nil) (PV.sss_cons (PV.s_ifF (PV.t_cmp (PV.p_var (i := 1) F (PV.rd_at rd rfl) rfl) PV.se_int (by kernel_rfl) (PV.q_lt (b := _) rfl)) (decide_eq_false (by first | with_reducible assumption | omega | (simp_all; done))) PV.sss_nil) (PV.sss_out (PV.s_ifT (PV.t_cmp (PV.p_var (i := 1) F (PV.rd_at rd rfl) rfl) PV.se_int (by kernel_rfl) (PV.q_lt (b := _) rfl)) (decide_eq_true (by first | with_reducible assumption | omega | (simp_all; done))) (PV.sss_out (PV.ss_ret (PV.e_ifF (PV.t_cmp (PV.p_var (i := 1) F (PV.rd_at rd rfl) rfl) PV.se_int (by kernel_rfl) (PV.q_eqI (b := _) F rfl)) (decide_eq_false (by first | with_reducible assumption | omega | (simp_all; done))) (PV.se_lst (PV.sa_cons (PV.p_errF F (PV.p_var (i := 0) F (PV.rd_at rd rfl) rfl) (by kernel_rfl) (fld _ 0 _ _ _ hC rfl) hl) PV.sa_nil (by kernel_rfl)) (Nat.le_of_ble_eq_true (by kernel_rfl))))) (by kernel_rfl))) (by kernel_rfl)))) rfl ?_; repeat' first | exact trivial | refine ⟨⟨_, rfl, rfl⟩, ?_⟩)
  | pair hC h0 h hl hl2 => (refine ex_ofS (st0 := [(some (.val _)), (some (.val _))]) rfl (PV.sss_cons (PV.s_ifF (PV.t_cmp (PV.p_var (i := 1) F (PV.rd_at rd rfl) rfl) PV.se_int (by kernel_rfl) (PV.q_lt (b := _) rfl)) (decide_eq_false (by first | with_reducible assumption | omega | (simp_all; done))) PV.sss_nil) (PV.sss_cons (PV.s_ifF (PV.t_cmp (PV.p_var (i := 1) F (PV.rd_at rd rfl) rfl) PV.se_int (by kernel_rfl) (PV.q_lt (b := _) rfl)) (decide_eq_false (by first | with_reducible assumption | omega | (simp_all; done))) PV.sss_nil) (PV.sss_cons (PV.s_ifF (PV.t_cmp (PV.p_var (i := 1) F (PV.rd_at rd rfl) rfl) PV.se_int (by kernel_rfl) (PV.q_lt (b := _) rfl)) (decide_eq_false (by first | with_reducible assumption | omega | (simp_all; done))) PV.sss_nil) (PV.sss_out (PV.s_ifT (PV.t_cmp (PV.p_var (i := 1) F (PV.rd_at rd rfl) rfl) PV.se_int (by kernel_rfl) (PV.q_lt (b := _) rfl)) (decide_eq_true (by first | with_reducible assumption | omega | (simp_all; done))) (PV.sss_out (PV.ss_ret (PV.se_lst (PV.sa_cons (PV.p_errF F (PV.p_var (i := 0) F (PV.rd_at rd rfl) rfl) (by kernel_rfl) (fld _ 0 _ _ _ hC rfl) hl) (PV.sa_cons (PV.p_errF F (PV.p_var (i := 0) F (PV.rd_at rd rfl) rfl) (by kernel_rfl) (fld _ 1 _ _ _ hC rfl) hl2) PV.sa_nil (by kernel_rfl)) (by kernel_rfl)) (Nat.le_of_ble_eq_true (by kernel_rfl)))) (by kernel_rfl))) (by kernel_rfl))))) rfl ?_; repeat' first | exact trivial | refine ⟨⟨_, rfl, rfl⟩, ?_⟩)
  | most hC h0 hl hl2 => (refine ex_ofS (st0 := [(some (.val _)), (some (.val _))]) rfl (PV.sss_cons (PV.s_ifF (PV.t_cmp (PV.p_var (i := 1) F (PV.rd_at rd rfl) rfl) PV.se_int (by kernel_rfl) (PV.q_lt (b := _) rfl)) (decide_eq_false (by first | with_reducible assumption | omega | (simp_all; done))) PV.sss_nil) (PV.sss_cons (PV.s_ifF (PV.t_cmp (PV.p_var (i := 1) F (PV.rd_at rd rfl) rfl) PV.se_int (by kernel_rfl) (PV.q_lt (b := _) rfl)) (decide_eq_false (by first | with_reducible assumption | omega | (simp_all; done))) PV.sss_nil) (PV.sss_cons (PV.s_ifF (PV.t_cmp (PV.p_var (i := 1) F (PV.rd_at rd rfl) rfl) PV.se_int (by kernel_rfl) (PV.q_lt (b := _) rfl)) (decide_eq_false (by first | with_reducible assumption | omega | (simp_all; done))) PV.sss_nil) (PV.sss_cons (PV.s_ifF (PV.t_cmp (PV.p_var (i := 1) F (PV.rd_at rd rfl) rfl) PV.se_int (by kernel_rfl) (PV.q_lt (b := _) rfl)) (decide_eq_false (by first | with_reducible assumption | omega | (simp_all; done))) PV.sss_nil) (PV.sss_out (PV.s_ifT (PV.t_cmp (PV.p_var (i := 1) F (PV.rd_at rd rfl) rfl) PV.se_int (by kernel_rfl) (PV.q_lt (b := _) rfl)) (decide_eq_true (by first | with_reducible assumption | omega | (simp_all; done))) (PV.sss_out (PV.ss_ret (PV.e_ifT (PV.t_cmp (PV.p_var (i := 1) F (PV.rd_at rd rfl) rfl) PV.se_int (by kernel_rfl) (PV.q_eqI (b := _) F rfl)) (decide_eq_true (by first | with_reducible assumption | omega | (simp_all; done))) (PV.se_lst (PV.sa_cons (PV.p_errF F (PV.p_var (i := 0) F (PV.rd_at rd rfl) rfl) (by kernel_rfl) (fld _ 0 _ _ _ hC rfl) hl) (PV.sa_cons (PV.p_errF F (PV.p_var (i := 0) F (PV.rd_at rd rfl) rfl) (by kernel_rfl) (fld _ 1 _ _ _ hC rfl) hl2) PV.sa_nil (by kernel_rfl)) (by kernel_rfl)) (Nat.le_of_ble_eq_true (by kernel_rfl))))) (by kernel_rfl))) (by kernel_rfl)))))) rfl ?_; repeat' first | exact trivial | refine ⟨⟨_, rfl, rfl⟩, ?_⟩)
  | txt hC h0 hl hl2 => (refine ex_ofS (st0 := [(some (.val _)), (some (.val _))]) rfl (PV.sss_cons (PV.s_ifF (PV.t_cmp (PV.p_var (i := 1) F (PV.rd_at rd rfl) rfl) PV.se_int (by kernel_rfl) (PV.q_lt (b := _) rfl)) (decide_eq_false (by first | with_reducible assumption | omega | (simp_all; done))) PV.sss_nil) (PV.sss_cons (PV.s_ifF (PV.t_cmp (PV.p_var (i := 1) F (PV.rd_at rd rfl) rfl) PV.se_int (by kernel_rfl) (PV.q_lt (b := _) rfl)) (decide_eq_false (by first | with_reducible assumption | omega | (simp_all; done))) PV.sss_nil) (PV.sss_cons (PV.s_ifF (PV.t_cmp (PV.p_var (i := 1) F (PV.rd_at rd rfl) rfl) PV.se_int (by kernel_rfl) (PV.q_lt (b := _) rfl)) (decide_eq_false (by first | with_reducible assumption | omega | (simp_all; done))) PV.sss_nil) (PV.sss_cons (PV.s_ifF (PV.t_cmp (PV.p_var (i := 1) F (PV.rd_at rd rfl) rfl) PV.se_int (by kernel_rfl) (PV.q_lt (b := _) rfl)) (decide_eq_false (by first | with_reducible assumption | omega | (simp_all; done))) PV.sss_nil) (PV.sss_out (PV.s_ifT (PV.t_cmp (PV.p_var (i := 1) F (PV.rd_at rd rfl) rfl) PV.se_int (by kernel_rfl) (PV.q_lt (b := _) rfl)) (decide_eq_true (by first | with_reducible assumption | omega | (simp_all; done))) (PV.sss_out (PV.ss_ret (PV.e_ifF (PV.t_cmp (PV.p_var (i := 1) F (PV.rd_at rd rfl) rfl) PV.se_int (by kernel_rfl) (PV.q_eqI (b := _) F rfl)) (decide_eq_false (by first | with_reducible assumption | omega | (simp_all; done))) (PV.se_lst (PV.sa_cons (PV.p_errF F (PV.p_var (i := 0) F (PV.rd_at rd rfl) rfl) (by kernel_rfl) (fld _ 0 _ _ _ hC rfl) hl) (PV.sa_cons (PV.p_errF F (PV.p_var (i := 0) F (PV.rd_at rd rfl) rfl) (by kernel_rfl) (fld _ 1 _ _ _ hC rfl) hl2) PV.sa_nil (by kernel_rfl)) (by kernel_rfl)) (Nat.le_of_ble_eq_true (by kernel_rfl))))) (by kernel_rfl))) (by kernel_rfl)))))) rfl ?_; repeat' first | exact trivial | refine ⟨⟨_, rfl, rfl⟩, ?_⟩)
  | lin hC h0 hl hl2 => (refine ex_ofS (st0 := [(some (.val _)), (some (.val _))]) rfl (PV.sss_cons (PV.s_ifF (PV.t_cmp (PV.p_var (i := 1) F (PV.rd_at rd rfl) rfl) PV.se_int (by kernel_rfl) (PV.q_lt (b := _) rfl)) (decide_eq_false (by first | with_reducible assumption | omega | (simp_all; done))) PV.sss_nil) (PV.sss_cons (PV.s_ifF (PV.t_cmp (PV.p_var (i := 1) F (PV.rd_at rd rfl) rfl) PV.se_int (by kernel_rfl) (PV.q_lt (b := _) rfl)) (decide_eq_false (by first | with_reducible assumption | omega | (simp_all; done))) PV.sss_nil) (PV.sss_cons (PV.s_ifF (PV.t_cmp (PV.p_var (i := 1) F (PV.rd_at rd rfl) rfl) PV.se_int (by kernel_rfl) (PV.q_lt (b := _) rfl)) (decide_eq_false (by first | with_reducible assumption | omega | (simp_all; done))) PV.sss_nil) (PV.sss_cons (PV.s_ifF (PV.t_cmp (PV.p_var (i := 1) F (PV.rd_at rd rfl) rfl) PV.se_int (by kernel_rfl) (PV.q_lt (b := _) rfl)) (decide_eq_false (by first | with_reducible assumption | omega | (simp_all; done))) PV.sss_nil) (PV.sss_cons (PV.s_ifF (PV.t_cmp (PV.p_var (i := 1) F (PV.rd_at rd rfl) rfl) PV.se_int (by kernel_rfl) (PV.q_lt (b := _) rfl)) (decide_eq_false (by first | with_reducible assumption | omega | (simp_all; done))) PV.sss_nil) (PV.sss_out (PV.ss_ret (PV.e_ifT (PV.t_cmp (PV.p_var (i := 1) F (PV.rd_at rd rfl) rfl) PV.se_int (by kernel_rfl) (PV.q_eqI (b := _) F rfl)) (decide_eq_true (by first | with_reducible assumption | omega | (simp_all; done))) (PV.se_lst (PV.sa_cons (PV.p_errF F (PV.p_var (i := 0) F (PV.rd_at rd rfl) rfl) (by kernel_rfl) (fld _ 0 _ _ _ hC rfl) hl) (PV.sa_cons (PV.p_errF F (PV.p_var (i := 0) F (PV.rd_at rd rfl) rfl) (by kernel_rfl) (fld _ 1 _ _ _ hC rfl) hl2) PV.sa_nil (by kernel_rfl)) (by kernel_rfl)) (Nat.le_of_ble_eq_true (by kernel_rfl))))) (by kernel_rfl))))))) rfl ?_; repeat' first | exact trivial | refine ⟨⟨_, rfl, rfl⟩, ?_⟩)
  | none h0 => (refine ex_ofS (st0 := [(some (.val _)), (some (.val _))]) rfl (PV.sss_cons (PV.s_ifF (PV.t_cmp (PV.p_var (i := 1) F (PV.rd_at rd rfl) rfl) PV.se_int (by kernel_rfl) (PV.q_lt (b := _) rfl)) (decide_eq_false (by first | with_reducible assumption | omega | (simp_all; done))) PV.sss_nil) (PV.sss_cons (PV.s_ifF (PV.t_cmp (PV.p_var (i := 1) F (PV.rd_at rd rfl) rfl) PV.se_int (by kernel_rfl) (PV.q_lt (b := _) rfl)) (decide_eq_false (by first | with_reducible assumption | omega | (simp_all; done))) PV.sss_nil) (PV.sss_cons (PV.s_ifF (PV.t_cmp (PV.p_var (i := 1) F (PV.rd_at rd rfl) rfl) PV.se_int (by kernel_rfl) (PV.q_lt (b := _) rfl)) (decide_eq_false (by first | with_reducible assumption | omega | (simp_all; done))) PV.sss_nil) (PV.sss_cons (PV.s_ifF (PV.t_cmp (PV.p_var (i := 1) F (PV.rd_at rd rfl) rfl) PV.se_int (by kernel_rfl) (PV.q_lt (b := _) rfl)) (decide_eq_false (by first | with_reducible assumption | omega | (simp_all; done))) PV.sss_nil) (PV.sss_cons (PV.s_ifF (PV.t_cmp (PV.p_var (i := 1) F (PV.rd_at rd rfl) rfl) PV.se_int (by kernel_rfl) (PV.q_lt (b := _) rfl)) (decide_eq_false (by first | with_reducible assumption | omega | (simp_all; done))) PV.sss_nil) (PV.sss_out (PV.ss_ret (PV.e_ifF (PV.t_cmp (PV.p_var (i := 1) F (PV.rd_at rd rfl) rfl) PV.se_int (by kernel_rfl) (PV.q_eqI (b := _) F rfl)) (decide_eq_false (by first | with_reducible assumption | omega | (simp_all; done))) (PV.se_lst PV.sa_nil (Nat.le_of_ble_eq_true (by kernel_rfl))))) (by kernel_rfl))))))) rfl ?_; repeat' first | exact trivial | refine ⟨⟨_, rfl, rfl⟩, ?_⟩)
end
end K0



set_option Elab.async false
set_option linter.all false
set_option maxRecDepth 100000
set_option maxHeartbeats 4000000
namespace K0
open PySem L2 PyProof.Rows PV
def partsL (a : D) : List D := [.err (Str.ofString "BadRatio") [(Str.ofString "part", a)], .err (Str.ofString "BadRow") [(Str.ofString "part", a)], .err (Str.ofString "BadPicture") [(Str.ofString "part", a)], .err (Str.ofString "BadStep") [(Str.ofString "part", a)], .err (Str.ofString "BadMark") [(Str.ofString "part", a)], .err (Str.ofString "BadScene") [(Str.ofString "part", a)], .err (Str.ofString "BadCone") [(Str.ofString "part", a)], .err (Str.ofString "BadEye") [(Str.ofString "part", a)], .err (Str.ofString "BadEyeRow") [(Str.ofString "part", a)], .err (Str.ofString "BadFlat") [(Str.ofString "part", a)], .err (Str.ofString "BadFact") [(Str.ofString "part", a)], .err (Str.ofString "BadBook") [(Str.ofString "part", a)], .err (Str.ofString "BadStanding") [(Str.ofString "part", a)], .err (Str.ofString "BadSaying") [(Str.ofString "part", a)], .err (Str.ofString "BadSolid") [(Str.ofString "part", a)], .err (Str.ofString "BadView") [(Str.ofString "part", a)], .err (Str.ofString "BadLight") [(Str.ofString "part", a)], .err (Str.ofString "BadNumber") [(Str.ofString "part", a)], .err (Str.ofString "BadPaper") [(Str.ofString "part", a)], .err (Str.ofString "BadDesk") [(Str.ofString "part", a)], .err (Str.ofString "NotPlain") [(Str.ofString "part", a)], .err (Str.ofString "Unsettled") [(Str.ofString "part", a)]]
def othersL (a b : D) : List D := [.err (Str.ofString "NoLabel") [(Str.ofString "name", a)], .err (Str.ofString "NoPicture") [(Str.ofString "name", a)], .err (Str.ofString "NoName") [(Str.ofString "name", a)], .err (Str.ofString "Twice") [(Str.ofString "name", a)], .err (Str.ofString "Behind") [(Str.ofString "name", a)], .err (Str.ofString "NoFact") [(Str.ofString "number", a)], .err (Str.ofString "Impossible") [(Str.ofString "word", a)], .err (Str.ofString "SamePlace") [(Str.ofString "other", b), (Str.ofString "one", a)], .err (Str.ofString "TwoPictures") [(Str.ofString "other", b), (Str.ofString "one", a)], .err (Str.ofString "NotJoined") [(Str.ofString "other", b), (Str.ofString "one", a)], .err (Str.ofString "TooMany") [(Str.ofString "most", b), (Str.ofString "what", a)], .err (Str.ofString "BadText") [(Str.ofString "word", b), (Str.ofString "line", a)], .err (Str.ofString "BadLine") [(Str.ofString "error", b), (Str.ofString "line", a)], .err (Str.ofString "Nothing") []]
inductive ctParts : Ct
  | mk {a : D} : ctParts [.val a] (.val (.lst (partsL a))) []
inductive ctOthers : Ct
  | mk {a b : D} : ctOthers [.val a, .val b] (.own (.lst (othersL a b))) []
def atL (i : Nat) : List D := [.bl (decide ((i : Int) = 0)), .bl (decide ((i : Int) = 1)), .bl (decide ((i : Int) = 2)), .bl (decide ((i : Int) = 3)), .bl (decide ((i : Int) = 4)), .bl (decide ((i : Int) = 5)), .bl (decide ((i : Int) = 6)), .bl (decide ((i : Int) = 7)), .bl (decide ((i : Int) = 8)), .bl (decide ((i : Int) = 9)), .bl (decide ((i : Int) = 10)), .bl (decide ((i : Int) = 11)), .bl (decide ((i : Int) = 12)), .bl (decide ((i : Int) = 13)), .bl (decide ((i : Int) = 14)), .bl (decide ((i : Int) = 15)), .bl (decide ((i : Int) = 16)), .bl (decide ((i : Int) = 17)), .bl (decide ((i : Int) = 18)), .bl (decide ((i : Int) = 19)), .bl (decide ((i : Int) = 20)), .bl (decide ((i : Int) = 21)), .bl (decide ((i : Int) = 22)), .bl (decide ((i : Int) = 23)), .bl (decide ((i : Int) = 24)), .bl (decide ((i : Int) = 25)), .bl (decide ((i : Int) = 26)), .bl (decide ((i : Int) = 27)), .bl (decide ((i : Int) = 28)), .bl (decide ((i : Int) = 29)), .bl (decide ((i : Int) = 30)), .bl (decide ((i : Int) = 31)), .bl (decide ((i : Int) = 32)), .bl (decide ((i : Int) = 33)), .bl (decide ((i : Int) = 34)), .bl (decide ((i : Int) = 35))]
inductive ctStands : Ct
  | mk {C : Str} {i : Nat} {p : Int} {fs : List (Str × D)} (hC : clsN[i]? = some C) (hi : i < 36) (hp : p = (i : Int)) : ctStands [.val (.err C fs), .val (.int p)] (.val (.bl true)) []
section
variable {W : Wd} {X : Cx} {Z : PV.Env0} {k : Nat} {a b : D}
theorem w_parts (h : Hd W) (F : Fr W 2 lParts X Z) : ∃ st', SSs X Z (defBody sParts) (startS nParts [.val a]) (.rt (.val (.lst (partsL a))) st') ∧ outsB 0 [.val a] st' [] := by
  have err := h.err
  have rd := rdParts
  have wr := wrParts
  have gl := glParts
  (refine ex_ofS (st0 := [(some (.val _)), none]) rfl (PV.sss_cons (PV.p_set (st' := [(some (.val _)), (some (.own _))]) (i := 1) (s := (.own _)) F (PV.wr_at wr rfl (by kernel_rfl)) (PV.se_lst (PV.sa_cons (PV.p_errP (gs := [(_, _)]) F (PV.gl_at (i := 0) gl rfl) (err 0 _ _ rfl) (by kernel_rfl) (by kernel_rfl) (PV.sa_cons (PV.p_var (i := 0) F (PV.rd_at rd rfl) rfl) PV.sa_nil (by kernel_rfl)) (by kernel_rfl) (by kernel_rfl) rfl) (PV.sa_cons (PV.p_errK (gs := [(_, _)]) F (PV.gl_at (i := 1) gl rfl) (err 1 _ _ rfl) (by kernel_rfl) (by kernel_rfl) (PV.sk_cons (PV.p_var (i := 0) F (PV.rd_at rd rfl) rfl) PV.sk_nil) (by kernel_rfl) (by kernel_rfl) rfl) (PV.sa_cons (PV.p_errP (gs := [(_, _)]) F (PV.gl_at (i := 2) gl rfl) (err 2 _ _ rfl) (by kernel_rfl) (by kernel_rfl) (PV.sa_cons (PV.p_var (i := 0) F (PV.rd_at rd rfl) rfl) PV.sa_nil (by kernel_rfl)) (by kernel_rfl) (by kernel_rfl) rfl) (PV.sa_cons (PV.p_errK (gs := [(_, _)]) F (PV.gl_at (i := 3) gl rfl) (err 3 _ _ rfl) (by kernel_rfl) (by kernel_rfl) (PV.sk_cons (PV.p_var (i := 0) F (PV.rd_at rd rfl) rfl) PV.sk_nil) (by kernel_rfl) (by kernel_rfl) rfl) (PV.sa_cons (PV.p_errP (gs := [(_, _)]) F (PV.gl_at (i := 4) gl rfl) (err 4 _ _ rfl) (by kernel_rfl) (by kernel_rfl) (PV.sa_cons (PV.p_var (i := 0) F (PV.rd_at rd rfl) rfl) PV.sa_nil (by kernel_rfl)) (by kernel_rfl) (by kernel_rfl) rfl) PV.sa_nil (by kernel_rfl)) (by kernel_rfl)) (by kernel_rfl)) (by kernel_rfl)) (by kernel_rfl)) (Nat.le_of_ble_eq_true (by kernel_rfl))) (by kernel_rfl) (by kernel_rfl) (by kernel_rfl) rfl rfl) (PV.sss_cons (PV.p_set (st' := [(some (.val _)), (some (.own _))]) (i := 1) (s := (.own _)) F (PV.wr_at wr rfl (by kernel_rfl)) (PV.se_bin (PV.p_varO (st' := [(some (.val _)), (some (.val _))]) (d := (.lst _)) (i := 1) F (PV.rd_at rd rfl) rfl (by kernel_rfl) rfl rfl) (PV.p_frz (d := (.lst _)) (PV.se_lst (PV.sa_cons (PV.p_errK (gs := [(_, _)]) F (PV.gl_at (i := 5) gl rfl) (err 5 _ _ rfl) (by kernel_rfl) (by kernel_rfl) (PV.sk_cons (PV.p_var (i := 0) F (PV.rd_at rd rfl) rfl) PV.sk_nil) (by kernel_rfl) (by kernel_rfl) rfl) (PV.sa_cons (PV.p_errP (gs := [(_, _)]) F (PV.gl_at (i := 6) gl rfl) (err 6 _ _ rfl) (by kernel_rfl) (by kernel_rfl) (PV.sa_cons (PV.p_var (i := 0) F (PV.rd_at rd rfl) rfl) PV.sa_nil (by kernel_rfl)) (by kernel_rfl) (by kernel_rfl) rfl) (PV.sa_cons (PV.p_errK (gs := [(_, _)]) F (PV.gl_at (i := 7) gl rfl) (err 7 _ _ rfl) (by kernel_rfl) (by kernel_rfl) (PV.sk_cons (PV.p_var (i := 0) F (PV.rd_at rd rfl) rfl) PV.sk_nil) (by kernel_rfl) (by kernel_rfl) rfl) (PV.sa_cons (PV.p_errP (gs := [(_, _)]) F (PV.gl_at (i := 8) gl rfl) (err 8 _ _ rfl) (by kernel_rfl) (by kernel_rfl) (PV.sa_cons (PV.p_var (i := 0) F (PV.rd_at rd rfl) rfl) PV.sa_nil (by kernel_rfl)) (by kernel_rfl) (by kernel_rfl) rfl) (PV.sa_cons (PV.p_errK (gs := [(_, _)]) F (PV.gl_at (i := 9) gl rfl) (err 9 _ _ rfl) (by kernel_rfl) (by kernel_rfl) (PV.sk_cons (PV.p_var (i := 0) F (PV.rd_at rd rfl) rfl) PV.sk_nil) (by kernel_rfl) (by kernel_rfl) rfl) PV.sa_nil (by kernel_rfl)) (by kernel_rfl)) (by kernel_rfl)) (by kernel_rfl)) (by kernel_rfl)) (Nat.le_of_ble_eq_true (by kernel_rfl))) (by kernel_rfl) rfl) (PV.q_cat (zs := [_, _, _, _, _, _, _, _, _, _]) (Nat.le_of_ble_eq_true (by kernel_rfl)) rfl)) (by kernel_rfl) (by kernel_rfl) (by kernel_rfl) rfl rfl) (PV.sss_cons (PV.p_set (st' := [(some (.val _)), (some (.own _))]) (i := 1) (s := (.own _)) F (PV.wr_at wr rfl (by kernel_rfl)) (PV.se_bin (PV.p_varO (st' := [(some (.val _)), (some (.val _))]) (d := (.lst _)) (i := 1) F (PV.rd_at rd rfl) rfl (by kernel_rfl) rfl rfl) (PV.p_frz (d := (.lst _)) (PV.se_lst (PV.sa_cons (PV.p_errP (gs := [(_, _)]) F (PV.gl_at (i := 10) gl rfl) (err 10 _ _ rfl) (by kernel_rfl) (by kernel_rfl) (PV.sa_cons (PV.p_var (i := 0) F (PV.rd_at rd rfl) rfl) PV.sa_nil (by kernel_rfl)) (by kernel_rfl) (by kernel_rfl) rfl) (PV.sa_cons (PV.p_errK (gs := [(_, _)]) F (PV.gl_at (i := 11) gl rfl) (err 11 _ _ rfl) (by kernel_rfl) (by kernel_rfl) (PV.sk_cons (PV.p_var (i := 0) F (PV.rd_at rd rfl) rfl) PV.sk_nil) (by kernel_rfl) (by kernel_rfl) rfl) (PV.sa_cons (PV.p_errP (gs := [(_, _)]) F (PV.gl_at (i := 12) gl rfl) (err 12 _ _ rfl) (by kernel_rfl) (by kernel_rfl) (PV.sa_cons (PV.p_var (i := 0) F (PV.rd_at rd rfl) rfl) PV.sa_nil (by kernel_rfl)) (by kernel_rfl) (by kernel_rfl) rfl) (PV.sa_cons (PV.p_errK (gs := [(_, _)]) F (PV.gl_at (i := 13) gl rfl) (err 13 _ _ rfl) (by kernel_rfl) (by kernel_rfl) (PV.sk_cons (PV.p_var (i := 0) F (PV.rd_at rd rfl) rfl) PV.sk_nil) (by kernel_rfl) (by kernel_rfl) rfl) (PV.sa_cons (PV.p_errP (gs := [(_, _)]) F (PV.gl_at (i := 14) gl rfl) (err 14 _ _ rfl) (by kernel_rfl) (by kernel_rfl) (PV.sa_cons (PV.p_var (i := 0) F (PV.rd_at rd rfl) rfl) PV.sa_nil (by kernel_rfl)) (by kernel_rfl) (by kernel_rfl) rfl) PV.sa_nil (by kernel_rfl)) (by kernel_rfl)) (by kernel_rfl)) (by kernel_rfl)) (by kernel_rfl)) (Nat.le_of_ble_eq_true (by kernel_rfl))) (by kernel_rfl) rfl) (PV.q_cat (zs := [_, _, _, _, _, _, _, _, _, _, _, _, _, _, _]) (Nat.le_of_ble_eq_true (by kernel_rfl)) rfl)) (by kernel_rfl) (by kernel_rfl) (by kernel_rfl) rfl rfl) (PV.sss_cons (PV.p_set (st' := [(some (.val _)), (some (.own _))]) (i := 1) (s := (.own _)) F (PV.wr_at wr rfl (by kernel_rfl)) (PV.se_bin (PV.p_varO (st' := [(some (.val _)), (some (.val _))]) (d := (.lst _)) (i := 1) F (PV.rd_at rd rfl) rfl (by kernel_rfl) rfl rfl) (PV.p_frz (d := (.lst _)) (PV.se_lst (PV.sa_cons (PV.p_errK (gs := [(_, _)]) F (PV.gl_at (i := 15) gl rfl) (err 15 _ _ rfl) (by kernel_rfl) (by kernel_rfl) (PV.sk_cons (PV.p_var (i := 0) F (PV.rd_at rd rfl) rfl) PV.sk_nil) (by kernel_rfl) (by kernel_rfl) rfl) (PV.sa_cons (PV.p_errP (gs := [(_, _)]) F (PV.gl_at (i := 16) gl rfl) (err 16 _ _ rfl) (by kernel_rfl) (by kernel_rfl) (PV.sa_cons (PV.p_var (i := 0) F (PV.rd_at rd rfl) rfl) PV.sa_nil (by kernel_rfl)) (by kernel_rfl) (by kernel_rfl) rfl) (PV.sa_cons (PV.p_errK (gs := [(_, _)]) F (PV.gl_at (i := 17) gl rfl) (err 17 _ _ rfl) (by kernel_rfl) (by kernel_rfl) (PV.sk_cons (PV.p_var (i := 0) F (PV.rd_at rd rfl) rfl) PV.sk_nil) (by kernel_rfl) (by kernel_rfl) rfl) (PV.sa_cons (PV.p_errP (gs := [(_, _)]) F (PV.gl_at (i := 18) gl rfl) (err 18 _ _ rfl) (by kernel_rfl) (by kernel_rfl) (PV.sa_cons (PV.p_var (i := 0) F (PV.rd_at rd rfl) rfl) PV.sa_nil (by kernel_rfl)) (by kernel_rfl) (by kernel_rfl) rfl) (PV.sa_cons (PV.p_errK (gs := [(_, _)]) F (PV.gl_at (i := 19) gl rfl) (err 19 _ _ rfl) (by kernel_rfl) (by kernel_rfl) (PV.sk_cons (PV.p_var (i := 0) F (PV.rd_at rd rfl) rfl) PV.sk_nil) (by kernel_rfl) (by kernel_rfl) rfl) PV.sa_nil (by kernel_rfl)) (by kernel_rfl)) (by kernel_rfl)) (by kernel_rfl)) (by kernel_rfl)) (Nat.le_of_ble_eq_true (by kernel_rfl))) (by kernel_rfl) rfl) (PV.q_cat (zs := [_, _, _, _, _, _, _, _, _, _, _, _, _, _, _, _, _, _, _, _]) (Nat.le_of_ble_eq_true (by kernel_rfl)) rfl)) (by kernel_rfl) (by kernel_rfl) (by kernel_rfl) rfl rfl) (PV.sss_cons (PV.p_set (st' := [(some (.val _)), (some (.own _))]) (i := 1) (s := (.own _)) F (PV.wr_at wr rfl (by kernel_rfl)) (PV.se_bin (PV.p_varO (st' := [(some (.val _)), (some (.val _))]) (d := (.lst _)) (i := 1) F (PV.rd_at rd rfl) rfl (by kernel_rfl) rfl rfl) (PV.p_frz (d := (.lst _)) (PV.se_lst (PV.sa_cons (PV.p_errP (gs := [(_, _)]) F (PV.gl_at (i := 20) gl rfl) (err 20 _ _ rfl) (by kernel_rfl) (by kernel_rfl) (PV.sa_cons (PV.p_var (i := 0) F (PV.rd_at rd rfl) rfl) PV.sa_nil (by kernel_rfl)) (by kernel_rfl) (by kernel_rfl) rfl) (PV.sa_cons (PV.p_errK (gs := [(_, _)]) F (PV.gl_at (i := 21) gl rfl) (err 21 _ _ rfl) (by kernel_rfl) (by kernel_rfl) (PV.sk_cons (PV.p_var (i := 0) F (PV.rd_at rd rfl) rfl) PV.sk_nil) (by kernel_rfl) (by kernel_rfl) rfl) PV.sa_nil (by kernel_rfl)) (by kernel_rfl)) (Nat.le_of_ble_eq_true (by kernel_rfl))) (by kernel_rfl) rfl) (PV.q_cat (zs := [_, _, _, _, _, _, _, _, _, _, _, _, _, _, _, _, _, _, _, _, _, _]) (Nat.le_of_ble_eq_true (by kernel_rfl)) rfl)) (by kernel_rfl) (by kernel_rfl) (by kernel_rfl) rfl rfl) (PV.sss_out (PV.ss_ret (PV.p_varO (st' := [(some (.val _)), (some (.val _))]) (d := (.lst _)) (i := 1) F (PV.rd_at rd rfl) rfl (by kernel_rfl) rfl rfl)) (by kernel_rfl))))))) rfl ?_; repeat' first | exact trivial | refine ⟨⟨_, rfl, rfl⟩, ?_⟩)
theorem w_parts2 (h : Hd W) (F : Fr W 2 lPartsTurned X Z) : ∃ st', SSs X Z (defBody sPartsTurned) (startS nPartsTurned [.val a]) (.rt (.val (.lst (partsL a))) st') ∧ outsB 0 [.val a] st' [] := by
  have err := h.err
  have rd := rdPartsTurned
  have wr := wrPartsTurned
  have gl := glPartsTurned
  (refine ex_ofS (st0 := [(some (.val _)), none]) rfl (PV.sss_cons (PV.p_set (st' := [(some (.val _)), (some (.own _))]) (i := 1) (s := (.own _)) F (PV.wr_at wr rfl (by kernel_rfl)) (PV.se_lst (PV.sa_cons (PV.p_errK (gs := [(_, _)]) F (PV.gl_at (i := 0) gl rfl) (err 0 _ _ rfl) (by kernel_rfl) (by kernel_rfl) (PV.sk_cons (PV.p_var (i := 0) F (PV.rd_at rd rfl) rfl) PV.sk_nil) (by kernel_rfl) (by kernel_rfl) rfl) (PV.sa_cons (PV.p_errP (gs := [(_, _)]) F (PV.gl_at (i := 1) gl rfl) (err 1 _ _ rfl) (by kernel_rfl) (by kernel_rfl) (PV.sa_cons (PV.p_var (i := 0) F (PV.rd_at rd rfl) rfl) PV.sa_nil (by kernel_rfl)) (by kernel_rfl) (by kernel_rfl) rfl) (PV.sa_cons (PV.p_errK (gs := [(_, _)]) F (PV.gl_at (i := 2) gl rfl) (err 2 _ _ rfl) (by kernel_rfl) (by kernel_rfl) (PV.sk_cons (PV.p_var (i := 0) F (PV.rd_at rd rfl) rfl) PV.sk_nil) (by kernel_rfl) (by kernel_rfl) rfl) (PV.sa_cons (PV.p_errP (gs := [(_, _)]) F (PV.gl_at (i := 3) gl rfl) (err 3 _ _ rfl) (by kernel_rfl) (by kernel_rfl) (PV.sa_cons (PV.p_var (i := 0) F (PV.rd_at rd rfl) rfl) PV.sa_nil (by kernel_rfl)) (by kernel_rfl) (by kernel_rfl) rfl) (PV.sa_cons (PV.p_errK (gs := [(_, _)]) F (PV.gl_at (i := 4) gl rfl) (err 4 _ _ rfl) (by kernel_rfl) (by kernel_rfl) (PV.sk_cons (PV.p_var (i := 0) F (PV.rd_at rd rfl) rfl) PV.sk_nil) (by kernel_rfl) (by kernel_rfl) rfl) PV.sa_nil (by kernel_rfl)) (by kernel_rfl)) (by kernel_rfl)) (by kernel_rfl)) (by kernel_rfl)) (Nat.le_of_ble_eq_true (by kernel_rfl))) (by kernel_rfl) (by kernel_rfl) (by kernel_rfl) rfl rfl) (PV.sss_cons (PV.p_set (st' := [(some (.val _)), (some (.own _))]) (i := 1) (s := (.own _)) F (PV.wr_at wr rfl (by kernel_rfl)) (PV.se_bin (PV.p_varO (st' := [(some (.val _)), (some (.val _))]) (d := (.lst _)) (i := 1) F (PV.rd_at rd rfl) rfl (by kernel_rfl) rfl rfl) (PV.p_frz (d := (.lst _)) (PV.se_lst (PV.sa_cons (PV.p_errP (gs := [(_, _)]) F (PV.gl_at (i := 5) gl rfl) (err 5 _ _ rfl) (by kernel_rfl) (by kernel_rfl) (PV.sa_cons (PV.p_var (i := 0) F (PV.rd_at rd rfl) rfl) PV.sa_nil (by kernel_rfl)) (by kernel_rfl) (by kernel_rfl) rfl) (PV.sa_cons (PV.p_errK (gs := [(_, _)]) F (PV.gl_at (i := 6) gl rfl) (err 6 _ _ rfl) (by kernel_rfl) (by kernel_rfl) (PV.sk_cons (PV.p_var (i := 0) F (PV.rd_at rd rfl) rfl) PV.sk_nil) (by kernel_rfl) (by kernel_rfl) rfl) (PV.sa_cons (PV.p_errP (gs := [(_, _)]) F (PV.gl_at (i := 7) gl rfl) (err 7 _ _ rfl) (by kernel_rfl) (by kernel_rfl) (PV.sa_cons (PV.p_var (i := 0) F (PV.rd_at rd rfl) rfl) PV.sa_nil (by kernel_rfl)) (by kernel_rfl) (by kernel_rfl) rfl) (PV.sa_cons (PV.p_errK (gs := [(_, _)]) F (PV.gl_at (i := 8) gl rfl) (err 8 _ _ rfl) (by kernel_rfl) (by kernel_rfl) (PV.sk_cons (PV.p_var (i := 0) F (PV.rd_at rd rfl) rfl) PV.sk_nil) (by kernel_rfl) (by kernel_rfl) rfl) (PV.sa_cons (PV.p_errP (gs := [(_, _)]) F (PV.gl_at (i := 9) gl rfl) (err 9 _ _ rfl) (by kernel_rfl) (by kernel_rfl) (PV.sa_cons (PV.p_var (i := 0) F (PV.rd_at rd rfl) rfl) PV.sa_nil (by kernel_rfl)) (by kernel_rfl) (by kernel_rfl) rfl) PV.sa_nil (by kernel_rfl)) (by kernel_rfl)) (by kernel_rfl)) (by kernel_rfl)) (by kernel_rfl)) (Nat.le_of_ble_eq_true (by kernel_rfl))) (by kernel_rfl) rfl) (PV.q_cat (zs := [_, _, _, _, _, _, _, _, _, _]) (Nat.le_of_ble_eq_true (by kernel_rfl)) rfl)) (by kernel_rfl) (by kernel_rfl) (by kernel_rfl) rfl rfl) (PV.sss_cons (PV.p_set (st' := [(some (.val _)), (some (.own _))]) (i := 1) (s := (.own _)) F (PV.wr_at wr rfl (by kernel_rfl)) (PV.se_bin (PV.p_varO (st' := [(some (.val _)), (some (.val _))]) (d := (.lst _)) (i := 1) F (PV.rd_at rd rfl) rfl (by kernel_rfl) rfl rfl) (PV.p_frz (d := (.lst _)) (PV.se_lst (PV.sa_cons (PV.p_errK (gs := [(_, _)]) F (PV.gl_at (i := 10) gl rfl) (err 10 _ _ rfl) (by kernel_rfl) (by kernel_rfl) (PV.sk_cons (PV.p_var (i := 0) F (PV.rd_at rd rfl) rfl) PV.sk_nil) (by kernel_rfl) (by kernel_rfl) rfl) (PV.sa_cons (PV.p_errP (gs := [(_, _)]) F (PV.gl_at (i := 11) gl rfl) (err 11 _ _ rfl) (by kernel_rfl) (by kernel_rfl) (PV.sa_cons (PV.p_var (i := 0) F (PV.rd_at rd rfl) rfl) PV.sa_nil (by kernel_rfl)) (by kernel_rfl) (by kernel_rfl) rfl) (PV.sa_cons (PV.p_errK (gs := [(_, _)]) F (PV.gl_at (i := 12) gl rfl) (err 12 _ _ rfl) (by kernel_rfl) (by kernel_rfl) (PV.sk_cons (PV.p_var (i := 0) F (PV.rd_at rd rfl) rfl) PV.sk_nil) (by kernel_rfl) (by kernel_rfl) rfl) (PV.sa_cons (PV.p_errP (gs := [(_, _)]) F (PV.gl_at (i := 13) gl rfl) (err 13 _ _ rfl) (by kernel_rfl) (by kernel_rfl) (PV.sa_cons (PV.p_var (i := 0) F (PV.rd_at rd rfl) rfl) PV.sa_nil (by kernel_rfl)) (by kernel_rfl) (by kernel_rfl) rfl) (PV.sa_cons (PV.p_errK (gs := [(_, _)]) F (PV.gl_at (i := 14) gl rfl) (err 14 _ _ rfl) (by kernel_rfl) (by kernel_rfl) (PV.sk_cons (PV.p_var (i := 0) F (PV.rd_at rd rfl) rfl) PV.sk_nil) (by kernel_rfl) (by kernel_rfl) rfl) PV.sa_nil (by kernel_rfl)) (by kernel_rfl)) (by kernel_rfl)) (by kernel_rfl)) (by kernel_rfl)) (Nat.le_of_ble_eq_true (by kernel_rfl))) (by kernel_rfl) rfl) (PV.q_cat (zs := [_, _, _, _, _, _, _, _, _, _, _, _, _, _, _]) (Nat.le_of_ble_eq_true (by kernel_rfl)) rfl)) (by kernel_rfl) (by kernel_rfl) (by kernel_rfl) rfl rfl) (PV.sss_cons (PV.p_set (st' := [(some (.val _)), (some (.own _))]) (i := 1) (s := (.own _)) F (PV.wr_at wr rfl (by kernel_rfl)) (PV.se_bin (PV.p_varO (st' := [(some (.val _)), (some (.val _))]) (d := (.lst _)) (i := 1) F (PV.rd_at rd rfl) rfl (by kernel_rfl) rfl rfl) (PV.p_frz (d := (.lst _)) (PV.se_lst (PV.sa_cons (PV.p_errP (gs := [(_, _)]) F (PV.gl_at (i := 15) gl rfl) (err 15 _ _ rfl) (by kernel_rfl) (by kernel_rfl) (PV.sa_cons (PV.p_var (i := 0) F (PV.rd_at rd rfl) rfl) PV.sa_nil (by kernel_rfl)) (by kernel_rfl) (by kernel_rfl) rfl) (PV.sa_cons (PV.p_errK (gs := [(_, _)]) F (PV.gl_at (i := 16) gl rfl) (err 16 _ _ rfl) (by kernel_rfl) (by kernel_rfl) (PV.sk_cons (PV.p_var (i := 0) F (PV.rd_at rd rfl) rfl) PV.sk_nil) (by kernel_rfl) (by kernel_rfl) rfl) (PV.sa_cons (PV.p_errP (gs := [(_, _)]) F (PV.gl_at (i := 17) gl rfl) (err 17 _ _ rfl) (by kernel_rfl) (by kernel_rfl) (PV.sa_cons (PV.p_var (i := 0) F (PV.rd_at rd rfl) rfl) PV.sa_nil (by kernel_rfl)) (by kernel_rfl) (by kernel_rfl) rfl) (PV.sa_cons (PV.p_errK (gs := [(_, _)]) F (PV.gl_at (i := 18) gl rfl) (err 18 _ _ rfl) (by kernel_rfl) (by kernel_rfl) (PV.sk_cons (PV.p_var (i := 0) F (PV.rd_at rd rfl) rfl) PV.sk_nil) (by kernel_rfl) (by kernel_rfl) rfl) (PV.sa_cons (PV.p_errP (gs := [(_, _)]) F (PV.gl_at (i := 19) gl rfl) (err 19 _ _ rfl) (by kernel_rfl) (by kernel_rfl) (PV.sa_cons (PV.p_var (i := 0) F (PV.rd_at rd rfl) rfl) PV.sa_nil (by kernel_rfl)) (by kernel_rfl) (by kernel_rfl) rfl) PV.sa_nil (by kernel_rfl)) (by kernel_rfl)) (by kernel_rfl)) (by kernel_rfl)) (by kernel_rfl)) (Nat.le_of_ble_eq_true (by kernel_rfl))) (by kernel_rfl) rfl) (PV.q_cat (zs := [_, _, _, _, _, _, _, _, _, _, _, _, _, _, _, _, _, _, _, _]) (Nat.le_of_ble_eq_true (by kernel_rfl)) rfl)) (by kernel_rfl) (by kernel_rfl) (by kernel_rfl) rfl rfl) (PV.sss_cons (PV.p_set (st' := [(some (.val _)), (some (.own _))]) (i := 1) (s := (.own _)) F (PV.wr_at wr rfl (by kernel_rfl)) (PV.se_bin (PV.p_varO (st' := [(some (.val _)), (some (.val _))]) (d := (.lst _)) (i := 1) F (PV.rd_at rd rfl) rfl (by kernel_rfl) rfl rfl) (PV.p_frz (d := (.lst _)) (PV.se_lst (PV.sa_cons (PV.p_errK (gs := [(_, _)]) F (PV.gl_at (i := 20) gl rfl) (err 20 _ _ rfl) (by kernel_rfl) (by kernel_rfl) (PV.sk_cons (PV.p_var (i := 0) F (PV.rd_at rd rfl) rfl) PV.sk_nil) (by kernel_rfl) (by kernel_rfl) rfl) (PV.sa_cons (PV.p_errP (gs := [(_, _)]) F (PV.gl_at (i := 21) gl rfl) (err 21 _ _ rfl) (by kernel_rfl) (by kernel_rfl) (PV.sa_cons (PV.p_var (i := 0) F (PV.rd_at rd rfl) rfl) PV.sa_nil (by kernel_rfl)) (by kernel_rfl) (by kernel_rfl) rfl) PV.sa_nil (by kernel_rfl)) (by kernel_rfl)) (Nat.le_of_ble_eq_true (by kernel_rfl))) (by kernel_rfl) rfl) (PV.q_cat (zs := [_, _, _, _, _, _, _, _, _, _, _, _, _, _, _, _, _, _, _, _, _, _]) (Nat.le_of_ble_eq_true (by kernel_rfl)) rfl)) (by kernel_rfl) (by kernel_rfl) (by kernel_rfl) rfl rfl) (PV.sss_out (PV.ss_ret (PV.p_varO (st' := [(some (.val _)), (some (.val _))]) (d := (.lst _)) (i := 1) F (PV.rd_at rd rfl) rfl (by kernel_rfl) rfl rfl)) (by kernel_rfl))))))) rfl ?_; repeat' first | exact trivial | refine ⟨⟨_, rfl, rfl⟩, ?_⟩)
theorem w_others (h : Hd W) (F : Fr W 2 lOthers X Z) : ∃ st', SSs X Z (defBody sOthers) (startS nOthers [.val a, .val b]) (.rt (.own (.lst (othersL a b))) st') ∧ outsB 0 [.val a, .val b] st' [] := by
  have err := h.err
  have err0 := h.err0
  have rd := rdOthers
  have wr := wrOthers
  have gl := glOthers
  (refine ex_ofS (st0 := [(some (.val _)), (some (.val _)), none]) rfl (PV.sss_cons (PV.p_set (st' := [(some (.val _)), (some (.val _)), (some (.own _))]) (i := 2) (s := (.own _)) F (PV.wr_at wr rfl (by kernel_rfl)) (PV.se_lst (PV.sa_cons (PV.p_errP (gs := [(_, _)]) F (PV.gl_at (i := 0) gl rfl) (err 22 _ _ rfl) (by kernel_rfl) (by kernel_rfl) (PV.sa_cons (PV.p_var (i := 0) F (PV.rd_at rd rfl) rfl) PV.sa_nil (by kernel_rfl)) (by kernel_rfl) (by kernel_rfl) rfl) (PV.sa_cons (PV.p_errP (gs := [(_, _)]) F (PV.gl_at (i := 1) gl rfl) (err 23 _ _ rfl) (by kernel_rfl) (by kernel_rfl) (PV.sa_cons (PV.p_var (i := 0) F (PV.rd_at rd rfl) rfl) PV.sa_nil (by kernel_rfl)) (by kernel_rfl) (by kernel_rfl) rfl) (PV.sa_cons (PV.p_errP (gs := [(_, _)]) F (PV.gl_at (i := 2) gl rfl) (err 24 _ _ rfl) (by kernel_rfl) (by kernel_rfl) (PV.sa_cons (PV.p_var (i := 0) F (PV.rd_at rd rfl) rfl) PV.sa_nil (by kernel_rfl)) (by kernel_rfl) (by kernel_rfl) rfl) (PV.sa_cons (PV.p_errP (gs := [(_, _)]) F (PV.gl_at (i := 3) gl rfl) (err 25 _ _ rfl) (by kernel_rfl) (by kernel_rfl) (PV.sa_cons (PV.p_var (i := 0) F (PV.rd_at rd rfl) rfl) PV.sa_nil (by kernel_rfl)) (by kernel_rfl) (by kernel_rfl) rfl) (PV.sa_cons (PV.p_errP (gs := [(_, _)]) F (PV.gl_at (i := 4) gl rfl) (err 26 _ _ rfl) (by kernel_rfl) (by kernel_rfl) (PV.sa_cons (PV.p_var (i := 0) F (PV.rd_at rd rfl) rfl) PV.sa_nil (by kernel_rfl)) (by kernel_rfl) (by kernel_rfl) rfl) (PV.sa_cons (PV.p_errP (gs := [(_, _)]) F (PV.gl_at (i := 5) gl rfl) (err 27 _ _ rfl) (by kernel_rfl) (by kernel_rfl) (PV.sa_cons (PV.p_var (i := 0) F (PV.rd_at rd rfl) rfl) PV.sa_nil (by kernel_rfl)) (by kernel_rfl) (by kernel_rfl) rfl) (PV.sa_cons (PV.p_errP (gs := [(_, _)]) F (PV.gl_at (i := 6) gl rfl) (err 28 _ _ rfl) (by kernel_rfl) (by kernel_rfl) (PV.sa_cons (PV.p_var (i := 0) F (PV.rd_at rd rfl) rfl) PV.sa_nil (by kernel_rfl)) (by kernel_rfl) (by kernel_rfl) rfl) PV.sa_nil (by kernel_rfl)) (by kernel_rfl)) (by kernel_rfl)) (by kernel_rfl)) (by kernel_rfl)) (by kernel_rfl)) (by kernel_rfl)) (Nat.le_of_ble_eq_true (by kernel_rfl))) (by kernel_rfl) (by kernel_rfl) (by kernel_rfl) rfl rfl) (PV.sss_cons (PV.p_set (st' := [(some (.val _)), (some (.val _)), (some (.own _))]) (i := 2) (s := (.own _)) F (PV.wr_at wr rfl (by kernel_rfl)) (PV.se_bin (PV.p_varO (st' := [(some (.val _)), (some (.val _)), (some (.val _))]) (d := (.lst _)) (i := 2) F (PV.rd_at rd rfl) rfl (by kernel_rfl) rfl rfl) (PV.p_frz (d := (.lst _)) (PV.se_lst (PV.sa_cons (PV.p_errP (gs := [(_, _), (_, _)]) F (PV.gl_at (i := 7) gl rfl) (err 29 _ _ rfl) (by kernel_rfl) (by kernel_rfl) (PV.sa_cons (PV.p_var (i := 0) F (PV.rd_at rd rfl) rfl) (PV.sa_cons (PV.p_var (i := 1) F (PV.rd_at rd rfl) rfl) PV.sa_nil (by kernel_rfl)) (by kernel_rfl)) (by kernel_rfl) (by kernel_rfl) rfl) (PV.sa_cons (PV.p_errP (gs := [(_, _), (_, _)]) F (PV.gl_at (i := 8) gl rfl) (err 30 _ _ rfl) (by kernel_rfl) (by kernel_rfl) (PV.sa_cons (PV.p_var (i := 0) F (PV.rd_at rd rfl) rfl) (PV.sa_cons (PV.p_var (i := 1) F (PV.rd_at rd rfl) rfl) PV.sa_nil (by kernel_rfl)) (by kernel_rfl)) (by kernel_rfl) (by kernel_rfl) rfl) (PV.sa_cons (PV.p_errP (gs := [(_, _), (_, _)]) F (PV.gl_at (i := 9) gl rfl) (err 31 _ _ rfl) (by kernel_rfl) (by kernel_rfl) (PV.sa_cons (PV.p_var (i := 0) F (PV.rd_at rd rfl) rfl) (PV.sa_cons (PV.p_var (i := 1) F (PV.rd_at rd rfl) rfl) PV.sa_nil (by kernel_rfl)) (by kernel_rfl)) (by kernel_rfl) (by kernel_rfl) rfl) (PV.sa_cons (PV.p_errP (gs := [(_, _), (_, _)]) F (PV.gl_at (i := 10) gl rfl) (err 32 _ _ rfl) (by kernel_rfl) (by kernel_rfl) (PV.sa_cons (PV.p_var (i := 0) F (PV.rd_at rd rfl) rfl) (PV.sa_cons (PV.p_var (i := 1) F (PV.rd_at rd rfl) rfl) PV.sa_nil (by kernel_rfl)) (by kernel_rfl)) (by kernel_rfl) (by kernel_rfl) rfl) PV.sa_nil (by kernel_rfl)) (by kernel_rfl)) (by kernel_rfl)) (by kernel_rfl)) (Nat.le_of_ble_eq_true (by kernel_rfl))) (by kernel_rfl) rfl) (PV.q_cat (zs := [_, _, _, _, _, _, _, _, _, _, _]) (Nat.le_of_ble_eq_true (by kernel_rfl)) rfl)) (by kernel_rfl) (by kernel_rfl) (by kernel_rfl) rfl rfl) (PV.sss_out (PV.ss_ret (PV.se_bin (PV.p_varO (st' := [(some (.val _)), (some (.val _)), (some (.val _))]) (d := (.lst _)) (i := 2) F (PV.rd_at rd rfl) rfl (by kernel_rfl) rfl rfl) (PV.p_frz (d := (.lst _)) (PV.se_lst (PV.sa_cons (PV.p_errP (gs := [(_, _), (_, _)]) F (PV.gl_at (i := 11) gl rfl) (err 33 _ _ rfl) (by kernel_rfl) (by kernel_rfl) (PV.sa_cons (PV.p_var (i := 0) F (PV.rd_at rd rfl) rfl) (PV.sa_cons (PV.p_var (i := 1) F (PV.rd_at rd rfl) rfl) PV.sa_nil (by kernel_rfl)) (by kernel_rfl)) (by kernel_rfl) (by kernel_rfl) rfl) (PV.sa_cons (PV.p_errP (gs := [(_, _), (_, _)]) F (PV.gl_at (i := 12) gl rfl) (err 34 _ _ rfl) (by kernel_rfl) (by kernel_rfl) (PV.sa_cons (PV.p_var (i := 0) F (PV.rd_at rd rfl) rfl) (PV.sa_cons (PV.p_var (i := 1) F (PV.rd_at rd rfl) rfl) PV.sa_nil (by kernel_rfl)) (by kernel_rfl)) (by kernel_rfl) (by kernel_rfl) rfl) (PV.sa_cons (PV.p_err0 F (PV.gl_at (i := 13) gl rfl) (err0 0 _ rfl)) PV.sa_nil (by kernel_rfl)) (by kernel_rfl)) (by kernel_rfl)) (Nat.le_of_ble_eq_true (by kernel_rfl))) (by kernel_rfl) rfl) (PV.q_cat (zs := [_, _, _, _, _, _, _, _, _, _, _, _, _, _]) (Nat.le_of_ble_eq_true (by kernel_rfl)) rfl))) (by kernel_rfl)))) rfl ?_; repeat' first | exact trivial | refine ⟨⟨_, rfl, rfl⟩, ?_⟩)
theorem w_others2 (h : Hd W) (F : Fr W 2 lOthersNamed X Z) : ∃ st', SSs X Z (defBody sOthersNamed) (startS nOthersNamed [.val a, .val b]) (.rt (.own (.lst (othersL a b))) st') ∧ outsB 0 [.val a, .val b] st' [] := by
  have err := h.err
  have err0 := h.err0
  have rd := rdOthersNamed
  have wr := wrOthersNamed
  have gl := glOthersNamed
  (refine ex_ofS (st0 := [(some (.val _)), (some (.val _)), none]) rfl (PV.sss_cons (PV.p_set (st' := [(some (.val _)), (some (.val _)), (some (.own _))]) (i := 2) (s := (.own _)) F (PV.wr_at wr rfl (by kernel_rfl)) (PV.se_lst (PV.sa_cons (PV.p_errK (gs := [(_, _)]) F (PV.gl_at (i := 0) gl rfl) (err 22 _ _ rfl) (by kernel_rfl) (by kernel_rfl) (PV.sk_cons (PV.p_var (i := 0) F (PV.rd_at rd rfl) rfl) PV.sk_nil) (by kernel_rfl) (by kernel_rfl) rfl) (PV.sa_cons (PV.p_errK (gs := [(_, _)]) F (PV.gl_at (i := 1) gl rfl) (err 23 _ _ rfl) (by kernel_rfl) (by kernel_rfl) (PV.sk_cons (PV.p_var (i := 0) F (PV.rd_at rd rfl) rfl) PV.sk_nil) (by kernel_rfl) (by kernel_rfl) rfl) (PV.sa_cons (PV.p_errK (gs := [(_, _)]) F (PV.gl_at (i := 2) gl rfl) (err 24 _ _ rfl) (by kernel_rfl) (by kernel_rfl) (PV.sk_cons (PV.p_var (i := 0) F (PV.rd_at rd rfl) rfl) PV.sk_nil) (by kernel_rfl) (by kernel_rfl) rfl) (PV.sa_cons (PV.p_errK (gs := [(_, _)]) F (PV.gl_at (i := 3) gl rfl) (err 25 _ _ rfl) (by kernel_rfl) (by kernel_rfl) (PV.sk_cons (PV.p_var (i := 0) F (PV.rd_at rd rfl) rfl) PV.sk_nil) (by kernel_rfl) (by kernel_rfl) rfl) (PV.sa_cons (PV.p_errK (gs := [(_, _)]) F (PV.gl_at (i := 4) gl rfl) (err 26 _ _ rfl) (by kernel_rfl) (by kernel_rfl) (PV.sk_cons (PV.p_var (i := 0) F (PV.rd_at rd rfl) rfl) PV.sk_nil) (by kernel_rfl) (by kernel_rfl) rfl) PV.sa_nil (by kernel_rfl)) (by kernel_rfl)) (by kernel_rfl)) (by kernel_rfl)) (by kernel_rfl)) (Nat.le_of_ble_eq_true (by kernel_rfl))) (by kernel_rfl) (by kernel_rfl) (by kernel_rfl) rfl rfl) (PV.sss_cons (PV.p_set (st' := [(some (.val _)), (some (.val _)), (some (.own _))]) (i := 2) (s := (.own _)) F (PV.wr_at wr rfl (by kernel_rfl)) (PV.se_bin (PV.p_varO (st' := [(some (.val _)), (some (.val _)), (some (.val _))]) (d := (.lst _)) (i := 2) F (PV.rd_at rd rfl) rfl (by kernel_rfl) rfl rfl) (PV.p_frz (d := (.lst _)) (PV.se_lst (PV.sa_cons (PV.p_errK (gs := [(_, _)]) F (PV.gl_at (i := 5) gl rfl) (err 27 _ _ rfl) (by kernel_rfl) (by kernel_rfl) (PV.sk_cons (PV.p_var (i := 0) F (PV.rd_at rd rfl) rfl) PV.sk_nil) (by kernel_rfl) (by kernel_rfl) rfl) (PV.sa_cons (PV.p_errK (gs := [(_, _)]) F (PV.gl_at (i := 6) gl rfl) (err 28 _ _ rfl) (by kernel_rfl) (by kernel_rfl) (PV.sk_cons (PV.p_var (i := 0) F (PV.rd_at rd rfl) rfl) PV.sk_nil) (by kernel_rfl) (by kernel_rfl) rfl) (PV.sa_cons (PV.p_errK (gs := [(_, _), (_, _)]) F (PV.gl_at (i := 7) gl rfl) (err 29 _ _ rfl) (by kernel_rfl) (by kernel_rfl) (PV.sk_cons (PV.p_var (i := 1) F (PV.rd_at rd rfl) rfl) (PV.sk_cons (PV.p_var (i := 0) F (PV.rd_at rd rfl) rfl) PV.sk_nil)) (by kernel_rfl) (by kernel_rfl) rfl) PV.sa_nil (by kernel_rfl)) (by kernel_rfl)) (by kernel_rfl)) (Nat.le_of_ble_eq_true (by kernel_rfl))) (by kernel_rfl) rfl) (PV.q_cat (zs := [_, _, _, _, _, _, _, _]) (Nat.le_of_ble_eq_true (by kernel_rfl)) rfl)) (by kernel_rfl) (by kernel_rfl) (by kernel_rfl) rfl rfl) (PV.sss_cons (PV.p_set (st' := [(some (.val _)), (some (.val _)), (some (.own _))]) (i := 2) (s := (.own _)) F (PV.wr_at wr rfl (by kernel_rfl)) (PV.se_bin (PV.p_varO (st' := [(some (.val _)), (some (.val _)), (some (.val _))]) (d := (.lst _)) (i := 2) F (PV.rd_at rd rfl) rfl (by kernel_rfl) rfl rfl) (PV.p_frz (d := (.lst _)) (PV.se_lst (PV.sa_cons (PV.p_errK (gs := [(_, _), (_, _)]) F (PV.gl_at (i := 8) gl rfl) (err 30 _ _ rfl) (by kernel_rfl) (by kernel_rfl) (PV.sk_cons (PV.p_var (i := 1) F (PV.rd_at rd rfl) rfl) (PV.sk_cons (PV.p_var (i := 0) F (PV.rd_at rd rfl) rfl) PV.sk_nil)) (by kernel_rfl) (by kernel_rfl) rfl) (PV.sa_cons (PV.p_errK (gs := [(_, _), (_, _)]) F (PV.gl_at (i := 9) gl rfl) (err 31 _ _ rfl) (by kernel_rfl) (by kernel_rfl) (PV.sk_cons (PV.p_var (i := 1) F (PV.rd_at rd rfl) rfl) (PV.sk_cons (PV.p_var (i := 0) F (PV.rd_at rd rfl) rfl) PV.sk_nil)) (by kernel_rfl) (by kernel_rfl) rfl) (PV.sa_cons (PV.p_errK (gs := [(_, _), (_, _)]) F (PV.gl_at (i := 10) gl rfl) (err 32 _ _ rfl) (by kernel_rfl) (by kernel_rfl) (PV.sk_cons (PV.p_var (i := 1) F (PV.rd_at rd rfl) rfl) (PV.sk_cons (PV.p_var (i := 0) F (PV.rd_at rd rfl) rfl) PV.sk_nil)) (by kernel_rfl) (by kernel_rfl) rfl) PV.sa_nil (by kernel_rfl)) (by kernel_rfl)) (by kernel_rfl)) (Nat.le_of_ble_eq_true (by kernel_rfl))) (by kernel_rfl) rfl) (PV.q_cat (zs := [_, _, _, _, _, _, _, _, _, _, _]) (Nat.le_of_ble_eq_true (by kernel_rfl)) rfl)) (by kernel_rfl) (by kernel_rfl) (by kernel_rfl) rfl rfl) (PV.sss_out (PV.ss_ret (PV.se_bin (PV.p_varO (st' := [(some (.val _)), (some (.val _)), (some (.val _))]) (d := (.lst _)) (i := 2) F (PV.rd_at rd rfl) rfl (by kernel_rfl) rfl rfl) (PV.p_frz (d := (.lst _)) (PV.se_lst (PV.sa_cons (PV.p_errK (gs := [(_, _), (_, _)]) F (PV.gl_at (i := 11) gl rfl) (err 33 _ _ rfl) (by kernel_rfl) (by kernel_rfl) (PV.sk_cons (PV.p_var (i := 1) F (PV.rd_at rd rfl) rfl) (PV.sk_cons (PV.p_var (i := 0) F (PV.rd_at rd rfl) rfl) PV.sk_nil)) (by kernel_rfl) (by kernel_rfl) rfl) (PV.sa_cons (PV.p_errK (gs := [(_, _), (_, _)]) F (PV.gl_at (i := 12) gl rfl) (err 34 _ _ rfl) (by kernel_rfl) (by kernel_rfl) (PV.sk_cons (PV.p_var (i := 1) F (PV.rd_at rd rfl) rfl) (PV.sk_cons (PV.p_var (i := 0) F (PV.rd_at rd rfl) rfl) PV.sk_nil)) (by kernel_rfl) (by kernel_rfl) rfl) (PV.sa_cons (PV.p_err0 F (PV.gl_at (i := 13) gl rfl) (err0 0 _ rfl)) PV.sa_nil (by kernel_rfl)) (by kernel_rfl)) (by kernel_rfl)) (Nat.le_of_ble_eq_true (by kernel_rfl))) (by kernel_rfl) rfl) (PV.q_cat (zs := [_, _, _, _, _, _, _, _, _, _, _, _, _, _]) (Nat.le_of_ble_eq_true (by kernel_rfl)) rfl))) (by kernel_rfl))))) rfl ?_; repeat' first | exact trivial | refine ⟨⟨_, rfl, rfl⟩, ?_⟩)
end
end K0



set_option Elab.async false
set_option linter.all false
set_option maxRecDepth 100000
set_option maxHeartbeats 4000000
namespace K0
open PySem L2 PyProof.Rows PV
def atOkB (i : Nat) : Bool := PyData.eqv (D.lst (kinL i)).py (D.lst (atL i)).py && kitI i 37 && (kitI i 36 == (Nat.ble 22 i && Nat.blt i 25))
theorem atOk_all : (List.range 36).all atOkB = true := by kernel_rfl
theorem atOk {i : Nat} (h : i < 36) : PyData.eqv (D.lst (kinL i)).py (D.lst (atL i)).py = true ∧ kitI i 37 = true ∧ kitI i 36 = (Nat.ble 22 i && Nat.blt i 25) := by
  have := List.all_eq_true.mp atOk_all i (List.mem_range.mpr h)
  unfold atOkB at this
  simp only [Bool.and_eq_true, beq_iff_eq] at this
  exact ⟨this.1.1, this.1.2, this.2⟩
section
variable {W : Wd} {X : Cx} {Z : PV.Env0} {k : Nat} {a b : D}
theorem w_stands {C : Str} {i : Nat} {fs : List (Str × D)} (h : Hd W) (dk : DefOk W (Str.ofString "_law_kin") 1 ctKin) (hC : clsN[i]? = some C) (hi : i < 36) (F : Fr W 1 lStandsRight X Z) :
    ∃ st', SSs X Z (defBody sStandsRight) (startS nStandsRight [.val (.err C fs), .val (.int i)]) (.rt (.val (.bl true)) st') ∧ outsB 0 [.val (.err C fs), .val (.int i)] st' [] := by
  obtain ⟨h1, h2, h3⟩ := atOk hi
  have cls := h.cls
  have blt := h.blt
  have isi := h.isi
  have isT := h.isT
  have rd := rdStandsRight
  have wr := wrStandsRight
  have gl := glStandsRight
  clear h
  by_cases q1 : 22 ≤ (i : Int)
  · have h4 : (!PyData.eqv (D.bl (kitI i 36)).py (D.bl (decide ((i : Int) < 25))).py) = false := by
      have e : kitI i 36 = decide ((i : Int) < 25) := by
        rw [h3, show Nat.ble 22 i = true from Nat.ble_eq_true_of_le (by omega), Bool.true_and]
        by_cases q2 : (i : Int) < 25
        · rw [decide_eq_true q2]
          exact Nat.ble_eq_true_of_le (by omega)
        · rw [decide_eq_false q2]
          apply Bool.eq_false_iff.mpr
          intro z
          have := Nat.le_of_ble_eq_true z
          omega
      rw [e]
      cases decide ((i : Int) < 25) <;> rfl
    clear h3
    (refine ex_ofS (st0 := [(some (.val _)), (some (.val _)), none]) rfl (PV.sss_cons (PV.s_ifF (PV.t_cmp (PV.p_call (st' := [(some (.val _)), (some (.val _)), none]) (sl := [(.val _)]) F (PV.gl_at (i := 0) gl rfl) dk (by kernel_rfl) (by kernel_rfl) (PV.sa'_val (PV.p_var (i := 0) F (PV.rd_at rd rfl) rfl) PV.sa'_nil (by kernel_rfl)) rfl (K0.ctKin.mk hC) (by kernel_rfl) (by kernel_rfl) (by kernel_rfl) rfl) (PV.p_frz (d := (.lst _)) (PV.p_lc ((Str.ofString "_law_at", 2) :: []) F (by kernel_rfl) rfl (by kernel_rfl) (PV.p_range1 (nn := 36) (items := [(.int 0), (.int 1), (.int 2), (.int 3), (.int 4), (.int 5), (.int 6), (.int 7), (.int 8), (.int 9), (.int 10), (.int 11), (.int 12), (.int 13), (.int 14), (.int 15), (.int 16), (.int 17), (.int 18), (.int 19), (.int 20), (.int 21), (.int 22), (.int 23), (.int 24), (.int 25), (.int 26), (.int 27), (.int 28), (.int 29), (.int 30), (.int 31), (.int 32), (.int 33), (.int 34), (.int 35)]) F (PV.gl_at (i := 1) gl rfl) (blt 9 _ rfl) (by kernel_rfl) (PV.sa_cons PV.se_int PV.sa_nil (by kernel_rfl)) (by decide +kernel) (by decide +kernel) (by kernel_rfl) rfl) (by kernel_rfl) (by kernel_rfl) (fun v46745429 => rfl) (fun v21224266 => (PV.LcR.take (PV.p_turnC (st' := [(some (.val _)), (some (.val _)), none]) F v21224266 (fun v59003528 => (fun v67420240 => (fun v4241406 => (PV.p_gname (st' := [(some (.val _)), (some (.val _)), (some (.val _))]) (i := 2) v4241406 (by kernel_rfl) (by kernel_rfl) rfl)))) (by kernel_rfl) (fun v81177301 => (fun v65595447 => (fun v86424909 => (PV.e_cmp (PV.p_var (i := 1) v86424909 (by kernel_rfl) rfl) (PV.p_var (i := 2) v86424909 (by kernel_rfl) rfl) (by kernel_rfl) (PV.q_eqI (b := _) v86424909 rfl))))) rfl) (PV.LcR.take (PV.p_turnC (st' := [(some (.val _)), (some (.val _)), none]) F v21224266 (fun v61481056 => (fun v93574073 => (fun v95186461 => (PV.p_gname (st' := [(some (.val _)), (some (.val _)), (some (.val _))]) (i := 2) v95186461 (by kernel_rfl) (by kernel_rfl) rfl)))) (by kernel_rfl) (fun v44474895 => (fun v58418974 => (fun v62721672 => (PV.e_cmp (PV.p_var (i := 1) v62721672 (by kernel_rfl) rfl) (PV.p_var (i := 2) v62721672 (by kernel_rfl) rfl) (by kernel_rfl) (PV.q_eqI (b := _) v62721672 rfl))))) rfl) (PV.LcR.take (PV.p_turnC (st' := [(some (.val _)), (some (.val _)), none]) F v21224266 (fun v33315642 => (fun v32454918 => (fun v30914151 => (PV.p_gname (st' := [(some (.val _)), (some (.val _)), (some (.val _))]) (i := 2) v30914151 (by kernel_rfl) (by kernel_rfl) rfl)))) (by kernel_rfl) (fun v69390844 => (fun v18277335 => (fun v84318128 => (PV.e_cmp (PV.p_var (i := 1) v84318128 (by kernel_rfl) rfl) (PV.p_var (i := 2) v84318128 (by kernel_rfl) rfl) (by kernel_rfl) (PV.q_eqI (b := _) v84318128 rfl))))) rfl) (PV.LcR.take (PV.p_turnC (st' := [(some (.val _)), (some (.val _)), none]) F v21224266 (fun v40484281 => (fun v93674878 => (fun v96384074 => (PV.p_gname (st' := [(some (.val _)), (some (.val _)), (some (.val _))]) (i := 2) v96384074 (by kernel_rfl) (by kernel_rfl) rfl)))) (by kernel_rfl) (fun v6038630 => (fun v74618313 => (fun v25970761 => (PV.e_cmp (PV.p_var (i := 1) v25970761 (by kernel_rfl) rfl) (PV.p_var (i := 2) v25970761 (by kernel_rfl) rfl) (by kernel_rfl) (PV.q_eqI (b := _) v25970761 rfl))))) rfl) (PV.LcR.take (PV.p_turnC (st' := [(some (.val _)), (some (.val _)), none]) F v21224266 (fun v6077964 => (fun v81295875 => (fun v96695223 => (PV.p_gname (st' := [(some (.val _)), (some (.val _)), (some (.val _))]) (i := 2) v96695223 (by kernel_rfl) (by kernel_rfl) rfl)))) (by kernel_rfl) (fun v84545660 => (fun v18532939 => (fun v20427365 => (PV.e_cmp (PV.p_var (i := 1) v20427365 (by kernel_rfl) rfl) (PV.p_var (i := 2) v20427365 (by kernel_rfl) rfl) (by kernel_rfl) (PV.q_eqI (b := _) v20427365 rfl))))) rfl) (PV.LcR.take (PV.p_turnC (st' := [(some (.val _)), (some (.val _)), none]) F v21224266 (fun v10570371 => (fun v90457101 => (fun v42548410 => (PV.p_gname (st' := [(some (.val _)), (some (.val _)), (some (.val _))]) (i := 2) v42548410 (by kernel_rfl) (by kernel_rfl) rfl)))) (by kernel_rfl) (fun v67154669 => (fun v80720931 => (fun v67214540 => (PV.e_cmp (PV.p_var (i := 1) v67214540 (by kernel_rfl) rfl) (PV.p_var (i := 2) v67214540 (by kernel_rfl) rfl) (by kernel_rfl) (PV.q_eqI (b := _) v67214540 rfl))))) rfl) (PV.LcR.take (PV.p_turnC (st' := [(some (.val _)), (some (.val _)), none]) F v21224266 (fun v57606087 => (fun v91946179 => (fun v30763679 => (PV.p_gname (st' := [(some (.val _)), (some (.val _)), (some (.val _))]) (i := 2) v30763679 (by kernel_rfl) (by kernel_rfl) rfl)))) (by kernel_rfl) (fun v62307957 => (fun v90890303 => (fun v31373576 => (PV.e_cmp (PV.p_var (i := 1) v31373576 (by kernel_rfl) rfl) (PV.p_var (i := 2) v31373576 (by kernel_rfl) rfl) (by kernel_rfl) (PV.q_eqI (b := _) v31373576 rfl))))) rfl) (PV.LcR.take (PV.p_turnC (st' := [(some (.val _)), (some (.val _)), none]) F v21224266 (fun v50720411 => (fun v72357904 => (fun v64413284 => (PV.p_gname (st' := [(some (.val _)), (some (.val _)), (some (.val _))]) (i := 2) v64413284 (by kernel_rfl) (by kernel_rfl) rfl)))) (by kernel_rfl) (fun v48162531 => (fun v51522075 => (fun v31466263 => (PV.e_cmp (PV.p_var (i := 1) v31466263 (by kernel_rfl) rfl) (PV.p_var (i := 2) v31466263 (by kernel_rfl) rfl) (by kernel_rfl) (PV.q_eqI (b := _) v31466263 rfl))))) rfl) (PV.LcR.take (PV.p_turnC (st' := [(some (.val _)), (some (.val _)), none]) F v21224266 (fun v70134926 => (fun v10699306 => (fun v35565407 => (PV.p_gname (st' := [(some (.val _)), (some (.val _)), (some (.val _))]) (i := 2) v35565407 (by kernel_rfl) (by kernel_rfl) rfl)))) (by kernel_rfl) (fun v36936920 => (fun v35191381 => (fun v91794362 => (PV.e_cmp (PV.p_var (i := 1) v91794362 (by kernel_rfl) rfl) (PV.p_var (i := 2) v91794362 (by kernel_rfl) rfl) (by kernel_rfl) (PV.q_eqI (b := _) v91794362 rfl))))) rfl) (PV.LcR.take (PV.p_turnC (st' := [(some (.val _)), (some (.val _)), none]) F v21224266 (fun v92267080 => (fun v52949248 => (fun v71201009 => (PV.p_gname (st' := [(some (.val _)), (some (.val _)), (some (.val _))]) (i := 2) v71201009 (by kernel_rfl) (by kernel_rfl) rfl)))) (by kernel_rfl) (fun v90867991 => (fun v46591689 => (fun v1026206 => (PV.e_cmp (PV.p_var (i := 1) v1026206 (by kernel_rfl) rfl) (PV.p_var (i := 2) v1026206 (by kernel_rfl) rfl) (by kernel_rfl) (PV.q_eqI (b := _) v1026206 rfl))))) rfl) (PV.LcR.take (PV.p_turnC (st' := [(some (.val _)), (some (.val _)), none]) F v21224266 (fun v17108772 => (fun v43673350 => (fun v63165646 => (PV.p_gname (st' := [(some (.val _)), (some (.val _)), (some (.val _))]) (i := 2) v63165646 (by kernel_rfl) (by kernel_rfl) rfl)))) (by kernel_rfl) (fun v60056908 => (fun v59483797 => (fun v91954006 => (PV.e_cmp (PV.p_var (i := 1) v91954006 (by kernel_rfl) rfl) (PV.p_var (i := 2) v91954006 (by kernel_rfl) rfl) (by kernel_rfl) (PV.q_eqI (b := _) v91954006 rfl))))) rfl) (PV.LcR.take (PV.p_turnC (st' := [(some (.val _)), (some (.val _)), none]) F v21224266 (fun v86398112 => (fun v22903145 => (fun v82457278 => (PV.p_gname (st' := [(some (.val _)), (some (.val _)), (some (.val _))]) (i := 2) v82457278 (by kernel_rfl) (by kernel_rfl) rfl)))) (by kernel_rfl) (fun v39613253 => (fun v79139300 => (fun v12317804 => (PV.e_cmp (PV.p_var (i := 1) v12317804 (by kernel_rfl) rfl) (PV.p_var (i := 2) v12317804 (by kernel_rfl) rfl) (by kernel_rfl) (PV.q_eqI (b := _) v12317804 rfl))))) rfl) (PV.LcR.take (PV.p_turnC (st' := [(some (.val _)), (some (.val _)), none]) F v21224266 (fun v15579056 => (fun v33018524 => (fun v19805452 => (PV.p_gname (st' := [(some (.val _)), (some (.val _)), (some (.val _))]) (i := 2) v19805452 (by kernel_rfl) (by kernel_rfl) rfl)))) (by kernel_rfl) (fun v7604424 => (fun v50383289 => (fun v58767220 => (PV.e_cmp (PV.p_var (i := 1) v58767220 (by kernel_rfl) rfl) (PV.p_var (i := 2) v58767220 (by kernel_rfl) rfl) (by kernel_rfl) (PV.q_eqI (b := _) v58767220 rfl))))) rfl) (PV.LcR.take (PV.p_turnC (st' := [(some (.val _)), (some (.val _)), none]) F v21224266 (fun v65997641 => (fun v2380346 => (fun v30789723 => (PV.p_gname (st' := [(some (.val _)), (some (.val _)), (some (.val _))]) (i := 2) v30789723 (by kernel_rfl) (by kernel_rfl) rfl)))) (by kernel_rfl) (fun v18211653 => (fun v76090958 => (fun v14092557 => (PV.e_cmp (PV.p_var (i := 1) v14092557 (by kernel_rfl) rfl) (PV.p_var (i := 2) v14092557 (by kernel_rfl) rfl) (by kernel_rfl) (PV.q_eqI (b := _) v14092557 rfl))))) rfl) (PV.LcR.take (PV.p_turnC (st' := [(some (.val _)), (some (.val _)), none]) F v21224266 (fun v70847907 => (fun v5823997 => (fun v31019908 => (PV.p_gname (st' := [(some (.val _)), (some (.val _)), (some (.val _))]) (i := 2) v31019908 (by kernel_rfl) (by kernel_rfl) rfl)))) (by kernel_rfl) (fun v36901561 => (fun v88482746 => (fun v31468816 => (PV.e_cmp (PV.p_var (i := 1) v31468816 (by kernel_rfl) rfl) (PV.p_var (i := 2) v31468816 (by kernel_rfl) rfl) (by kernel_rfl) (PV.q_eqI (b := _) v31468816 rfl))))) rfl) (PV.LcR.take (PV.p_turnC (st' := [(some (.val _)), (some (.val _)), none]) F v21224266 (fun v29027972 => (fun v58000382 => (fun v34450725 => (PV.p_gname (st' := [(some (.val _)), (some (.val _)), (some (.val _))]) (i := 2) v34450725 (by kernel_rfl) (by kernel_rfl) rfl)))) (by kernel_rfl) (fun v17081005 => (fun v81270250 => (fun v90811968 => (PV.e_cmp (PV.p_var (i := 1) v90811968 (by kernel_rfl) rfl) (PV.p_var (i := 2) v90811968 (by kernel_rfl) rfl) (by kernel_rfl) (PV.q_eqI (b := _) v90811968 rfl))))) rfl) (PV.LcR.take (PV.p_turnC (st' := [(some (.val _)), (some (.val _)), none]) F v21224266 (fun v7027288 => (fun v50185971 => (fun v19215167 => (PV.p_gname (st' := [(some (.val _)), (some (.val _)), (some (.val _))]) (i := 2) v19215167 (by kernel_rfl) (by kernel_rfl) rfl)))) (by kernel_rfl) (fun v96406487 => (fun v98923066 => (fun v82619260 => (PV.e_cmp (PV.p_var (i := 1) v82619260 (by kernel_rfl) rfl) (PV.p_var (i := 2) v82619260 (by kernel_rfl) rfl) (by kernel_rfl) (PV.q_eqI (b := _) v82619260 rfl))))) rfl) (PV.LcR.take (PV.p_turnC (st' := [(some (.val _)), (some (.val _)), none]) F v21224266 (fun v26242248 => (fun v8095498 => (fun v50175887 => (PV.p_gname (st' := [(some (.val _)), (some (.val _)), (some (.val _))]) (i := 2) v50175887 (by kernel_rfl) (by kernel_rfl) rfl)))) (by kernel_rfl) (fun v20433742 => (fun v40616098 => (fun v44484948 => (PV.e_cmp (PV.p_var (i := 1) v44484948 (by kernel_rfl) rfl) (PV.p_var (i := 2) v44484948 (by kernel_rfl) rfl) (by kernel_rfl) (PV.q_eqI (b := _) v44484948 rfl))))) rfl) (PV.LcR.take (PV.p_turnC (st' := [(some (.val _)), (some (.val _)), none]) F v21224266 (fun v35499336 => (fun v28815191 => (fun v55045973 => (PV.p_gname (st' := [(some (.val _)), (some (.val _)), (some (.val _))]) (i := 2) v55045973 (by kernel_rfl) (by kernel_rfl) rfl)))) (by kernel_rfl) (fun v95711221 => (fun v16231259 => (fun v1280280 => (PV.e_cmp (PV.p_var (i := 1) v1280280 (by kernel_rfl) rfl) (PV.p_var (i := 2) v1280280 (by kernel_rfl) rfl) (by kernel_rfl) (PV.q_eqI (b := _) v1280280 rfl))))) rfl) (PV.LcR.take (PV.p_turnC (st' := [(some (.val _)), (some (.val _)), none]) F v21224266 (fun v8652995 => (fun v25508512 => (fun v46444298 => (PV.p_gname (st' := [(some (.val _)), (some (.val _)), (some (.val _))]) (i := 2) v46444298 (by kernel_rfl) (by kernel_rfl) rfl)))) (by kernel_rfl) (fun v98687409 => (fun v34115348 => (fun v43573009 => (PV.e_cmp (PV.p_var (i := 1) v43573009 (by kernel_rfl) rfl) (PV.p_var (i := 2) v43573009 (by kernel_rfl) rfl) (by kernel_rfl) (PV.q_eqI (b := _) v43573009 rfl))))) rfl) (PV.LcR.take (PV.p_turnC (st' := [(some (.val _)), (some (.val _)), none]) F v21224266 (fun v67326454 => (fun v89049427 => (fun v86280209 => (PV.p_gname (st' := [(some (.val _)), (some (.val _)), (some (.val _))]) (i := 2) v86280209 (by kernel_rfl) (by kernel_rfl) rfl)))) (by kernel_rfl) (fun v79481109 => (fun v49368894 => (fun v66625624 => (PV.e_cmp (PV.p_var (i := 1) v66625624 (by kernel_rfl) rfl) (PV.p_var (i := 2) v66625624 (by kernel_rfl) rfl) (by kernel_rfl) (PV.q_eqI (b := _) v66625624 rfl))))) rfl) (PV.LcR.take (PV.p_turnC (st' := [(some (.val _)), (some (.val _)), none]) F v21224266 (fun v15145612 => (fun v15995787 => (fun v6554347 => (PV.p_gname (st' := [(some (.val _)), (some (.val _)), (some (.val _))]) (i := 2) v6554347 (by kernel_rfl) (by kernel_rfl) rfl)))) (by kernel_rfl) (fun v71203253 => (fun v84708162 => (fun v7653332 => (PV.e_cmp (PV.p_var (i := 1) v7653332 (by kernel_rfl) rfl) (PV.p_var (i := 2) v7653332 (by kernel_rfl) rfl) (by kernel_rfl) (PV.q_eqI (b := _) v7653332 rfl))))) rfl) (PV.LcR.take (PV.p_turnC (st' := [(some (.val _)), (some (.val _)), none]) F v21224266 (fun v35751143 => (fun v42523759 => (fun v79420706 => (PV.p_gname (st' := [(some (.val _)), (some (.val _)), (some (.val _))]) (i := 2) v79420706 (by kernel_rfl) (by kernel_rfl) rfl)))) (by kernel_rfl) (fun v62534343 => (fun v47989901 => (fun v50044320 => (PV.e_cmp (PV.p_var (i := 1) v50044320 (by kernel_rfl) rfl) (PV.p_var (i := 2) v50044320 (by kernel_rfl) rfl) (by kernel_rfl) (PV.q_eqI (b := _) v50044320 rfl))))) rfl) (PV.LcR.take (PV.p_turnC (st' := [(some (.val _)), (some (.val _)), none]) F v21224266 (fun v21064935 => (fun v49772915 => (fun v46364739 => (PV.p_gname (st' := [(some (.val _)), (some (.val _)), (some (.val _))]) (i := 2) v46364739 (by kernel_rfl) (by kernel_rfl) rfl)))) (by kernel_rfl) (fun v76432505 => (fun v88656308 => (fun v75885141 => (PV.e_cmp (PV.p_var (i := 1) v75885141 (by kernel_rfl) rfl) (PV.p_var (i := 2) v75885141 (by kernel_rfl) rfl) (by kernel_rfl) (PV.q_eqI (b := _) v75885141 rfl))))) rfl) (PV.LcR.take (PV.p_turnC (st' := [(some (.val _)), (some (.val _)), none]) F v21224266 (fun v97204275 => (fun v42820066 => (fun v7901489 => (PV.p_gname (st' := [(some (.val _)), (some (.val _)), (some (.val _))]) (i := 2) v7901489 (by kernel_rfl) (by kernel_rfl) rfl)))) (by kernel_rfl) (fun v49134017 => (fun v98721569 => (fun v83425799 => (PV.e_cmp (PV.p_var (i := 1) v83425799 (by kernel_rfl) rfl) (PV.p_var (i := 2) v83425799 (by kernel_rfl) rfl) (by kernel_rfl) (PV.q_eqI (b := _) v83425799 rfl))))) rfl) (PV.LcR.take (PV.p_turnC (st' := [(some (.val _)), (some (.val _)), none]) F v21224266 (fun v73111171 => (fun v35107499 => (fun v23346493 => (PV.p_gname (st' := [(some (.val _)), (some (.val _)), (some (.val _))]) (i := 2) v23346493 (by kernel_rfl) (by kernel_rfl) rfl)))) (by kernel_rfl) (fun v77482827 => (fun v16438663 => (fun v9711751 => (PV.e_cmp (PV.p_var (i := 1) v9711751 (by kernel_rfl) rfl) (PV.p_var (i := 2) v9711751 (by kernel_rfl) rfl) (by kernel_rfl) (PV.q_eqI (b := _) v9711751 rfl))))) rfl) (PV.LcR.take (PV.p_turnC (st' := [(some (.val _)), (some (.val _)), none]) F v21224266 (fun v91130920 => (fun v14888948 => (fun v51288982 => (PV.p_gname (st' := [(some (.val _)), (some (.val _)), (some (.val _))]) (i := 2) v51288982 (by kernel_rfl) (by kernel_rfl) rfl)))) (by kernel_rfl) (fun v59104151 => (fun v84264654 => (fun v68783101 => (PV.e_cmp (PV.p_var (i := 1) v68783101 (by kernel_rfl) rfl) (PV.p_var (i := 2) v68783101 (by kernel_rfl) rfl) (by kernel_rfl) (PV.q_eqI (b := _) v68783101 rfl))))) rfl) (PV.LcR.take (PV.p_turnC (st' := [(some (.val _)), (some (.val _)), none]) F v21224266 (fun v13050209 => (fun v94996000 => (fun v70789706 => (PV.p_gname (st' := [(some (.val _)), (some (.val _)), (some (.val _))]) (i := 2) v70789706 (by kernel_rfl) (by kernel_rfl) rfl)))) (by kernel_rfl) (fun v43738068 => (fun v93959786 => (fun v51630127 => (PV.e_cmp (PV.p_var (i := 1) v51630127 (by kernel_rfl) rfl) (PV.p_var (i := 2) v51630127 (by kernel_rfl) rfl) (by kernel_rfl) (PV.q_eqI (b := _) v51630127 rfl))))) rfl) (PV.LcR.take (PV.p_turnC (st' := [(some (.val _)), (some (.val _)), none]) F v21224266 (fun v9107898 => (fun v8698765 => (fun v13278277 => (PV.p_gname (st' := [(some (.val _)), (some (.val _)), (some (.val _))]) (i := 2) v13278277 (by kernel_rfl) (by kernel_rfl) rfl)))) (by kernel_rfl) (fun v23412263 => (fun v78530163 => (fun v49040411 => (PV.e_cmp (PV.p_var (i := 1) v49040411 (by kernel_rfl) rfl) (PV.p_var (i := 2) v49040411 (by kernel_rfl) rfl) (by kernel_rfl) (PV.q_eqI (b := _) v49040411 rfl))))) rfl) (PV.LcR.take (PV.p_turnC (st' := [(some (.val _)), (some (.val _)), none]) F v21224266 (fun v11845966 => (fun v62693235 => (fun v64454159 => (PV.p_gname (st' := [(some (.val _)), (some (.val _)), (some (.val _))]) (i := 2) v64454159 (by kernel_rfl) (by kernel_rfl) rfl)))) (by kernel_rfl) (fun v15880225 => (fun v59548418 => (fun v7396389 => (PV.e_cmp (PV.p_var (i := 1) v7396389 (by kernel_rfl) rfl) (PV.p_var (i := 2) v7396389 (by kernel_rfl) rfl) (by kernel_rfl) (PV.q_eqI (b := _) v7396389 rfl))))) rfl) (PV.LcR.take (PV.p_turnC (st' := [(some (.val _)), (some (.val _)), none]) F v21224266 (fun v79875449 => (fun v2006732 => (fun v5913211 => (PV.p_gname (st' := [(some (.val _)), (some (.val _)), (some (.val _))]) (i := 2) v5913211 (by kernel_rfl) (by kernel_rfl) rfl)))) (by kernel_rfl) (fun v30874813 => (fun v31410383 => (fun v38889203 => (PV.e_cmp (PV.p_var (i := 1) v38889203 (by kernel_rfl) rfl) (PV.p_var (i := 2) v38889203 (by kernel_rfl) rfl) (by kernel_rfl) (PV.q_eqI (b := _) v38889203 rfl))))) rfl) (PV.LcR.take (PV.p_turnC (st' := [(some (.val _)), (some (.val _)), none]) F v21224266 (fun v36996738 => (fun v98525794 => (fun v36943385 => (PV.p_gname (st' := [(some (.val _)), (some (.val _)), (some (.val _))]) (i := 2) v36943385 (by kernel_rfl) (by kernel_rfl) rfl)))) (by kernel_rfl) (fun v24286542 => (fun v34701536 => (fun v37885351 => (PV.e_cmp (PV.p_var (i := 1) v37885351 (by kernel_rfl) rfl) (PV.p_var (i := 2) v37885351 (by kernel_rfl) rfl) (by kernel_rfl) (PV.q_eqI (b := _) v37885351 rfl))))) rfl) (PV.LcR.take (PV.p_turnC (st' := [(some (.val _)), (some (.val _)), none]) F v21224266 (fun v63520397 => (fun v87933876 => (fun v96588045 => (PV.p_gname (st' := [(some (.val _)), (some (.val _)), (some (.val _))]) (i := 2) v96588045 (by kernel_rfl) (by kernel_rfl) rfl)))) (by kernel_rfl) (fun v79608831 => (fun v37238034 => (fun v97264312 => (PV.e_cmp (PV.p_var (i := 1) v97264312 (by kernel_rfl) rfl) (PV.p_var (i := 2) v97264312 (by kernel_rfl) rfl) (by kernel_rfl) (PV.q_eqI (b := _) v97264312 rfl))))) rfl) (PV.LcR.take (PV.p_turnC (st' := [(some (.val _)), (some (.val _)), none]) F v21224266 (fun v61450596 => (fun v27369982 => (fun v78055756 => (PV.p_gname (st' := [(some (.val _)), (some (.val _)), (some (.val _))]) (i := 2) v78055756 (by kernel_rfl) (by kernel_rfl) rfl)))) (by kernel_rfl) (fun v3029405 => (fun v13558934 => (fun v35423377 => (PV.e_cmp (PV.p_var (i := 1) v35423377 (by kernel_rfl) rfl) (PV.p_var (i := 2) v35423377 (by kernel_rfl) rfl) (by kernel_rfl) (PV.q_eqI (b := _) v35423377 rfl))))) rfl) (PV.LcR.take (PV.p_turnC (st' := [(some (.val _)), (some (.val _)), none]) F v21224266 (fun v23282517 => (fun v73335072 => (fun v83091110 => (PV.p_gname (st' := [(some (.val _)), (some (.val _)), (some (.val _))]) (i := 2) v83091110 (by kernel_rfl) (by kernel_rfl) rfl)))) (by kernel_rfl) (fun v42341528 => (fun v67646725 => (fun v69420854 => (PV.e_cmp (PV.p_var (i := 1) v69420854 (by kernel_rfl) rfl) (PV.p_var (i := 2) v69420854 (by kernel_rfl) rfl) (by kernel_rfl) (PV.q_eqI (b := _) v69420854 rfl))))) rfl) (PV.LcR.take (PV.p_turnC (st' := [(some (.val _)), (some (.val _)), none]) F v21224266 (fun v5068599 => (fun v8252216 => (fun v79023366 => (PV.p_gname (st' := [(some (.val _)), (some (.val _)), (some (.val _))]) (i := 2) v79023366 (by kernel_rfl) (by kernel_rfl) rfl)))) (by kernel_rfl) (fun v78360039 => (fun v19293731 => (fun v10568550 => (PV.e_cmp (PV.p_var (i := 1) v10568550 (by kernel_rfl) rfl) (PV.p_var (i := 2) v10568550 (by kernel_rfl) rfl) (by kernel_rfl) (PV.q_eqI (b := _) v10568550 rfl))))) rfl) (PV.LcR.nil _))))))))))))))))))))))))))))))))))))))) (by kernel_rfl) rfl) (by kernel_rfl) (PV.q_neD (b := _) F (by kernel_rfl) (by kernel_rfl) rfl)) (congrArg _ h1) PV.sss_nil) (PV.sss_cons (PV.s_ifF (PV.t_w (PV.w_orF (PV.t_not (b' := _) (PV.t_truth (PV.p_callB (id := "isinstance") F (PV.gl_at (i := 2) gl rfl) (blt 8 _ rfl) (by kernel_rfl) (by kernel_rfl) (PV.sa_cons (PV.p_var (i := 0) F (PV.rd_at rd rfl) rfl) (PV.sa_cons (PV.p_cls F (PV.gl_at (i := 3) gl rfl) (cls 37 _ rfl)) PV.sa_nil (by kernel_rfl)) (by kernel_rfl)) (PV.c_isi F (isi _ 37 _ _ hC rfl _))) (by kernel_rfl) rfl trivial) rfl) (congrArg _ h2) (PV.w_one (PV.t_not (b' := false) (PV.t_truth (PV.p_callB (id := "isinstance") F (PV.gl_at (i := 2) gl rfl) (blt 8 _ rfl) (by kernel_rfl) (by kernel_rfl) (PV.sa_cons (PV.p_var (i := 0) F (PV.rd_at rd rfl) rfl) (PV.sa_cons (PV.p_ty (T := "ValueError") F (PV.gl_at (i := 4) gl rfl) (blt 0 _ rfl) (by kernel_rfl)) PV.sa_nil (by kernel_rfl)) (by kernel_rfl)) (PV.c_isi F (isT _ 0 _ "ValueError" hC rfl _))) (by kernel_rfl) rfl trivial) (by kernel_rfl))))) (by kernel_rfl) PV.sss_nil) (PV.sss_cons (PV.s_ifF (PV.t_cmp (PV.p_callB (id := "isinstance") F (PV.gl_at (i := 2) gl rfl) (blt 8 _ rfl) (by kernel_rfl) (by kernel_rfl) (PV.sa_cons (PV.p_var (i := 0) F (PV.rd_at rd rfl) rfl) (PV.sa_cons (PV.p_cls F (PV.gl_at (i := 5) gl rfl) (cls 36 _ rfl)) PV.sa_nil (by kernel_rfl)) (by kernel_rfl)) (PV.c_isi F (isi _ 36 _ _ hC rfl _))) (PV.e_chT PV.se_int (PV.p_var (i := 1) F (PV.rd_at rd rfl) rfl) (PV.q_le (b := _) rfl) (decide_eq_true (by first | with_reducible assumption | omega | (simp_all; done))) PV.se_int (by kernel_rfl) (PV.q_lt (b := _) rfl)) (by kernel_rfl) (PV.q_neD (b := false) F (by kernel_rfl) (by kernel_rfl) h4)) (by kernel_rfl) PV.sss_nil) (PV.sss_cons (PV.s_ifF (PV.t_w (PV.w_orF (PV.t_truth (PV.p_callB (id := "isinstance") F (PV.gl_at (i := 2) gl rfl) (blt 8 _ rfl) (by kernel_rfl) (by kernel_rfl) (PV.sa_cons (PV.p_var (i := 0) F (PV.rd_at rd rfl) rfl) (PV.sa_cons (PV.p_ty (T := "LookupError") F (PV.gl_at (i := 6) gl rfl) (blt 1 _ rfl) (by kernel_rfl)) PV.sa_nil (by kernel_rfl)) (by kernel_rfl)) (PV.c_isi F (isT _ 1 _ "LookupError" hC rfl _))) (by kernel_rfl) rfl trivial) (by kernel_rfl) (PV.w_orF (PV.t_truth (PV.p_callB (id := "isinstance") F (PV.gl_at (i := 2) gl rfl) (blt 8 _ rfl) (by kernel_rfl) (by kernel_rfl) (PV.sa_cons (PV.p_var (i := 0) F (PV.rd_at rd rfl) rfl) (PV.sa_cons (PV.p_ty (T := "TypeError") F (PV.gl_at (i := 7) gl rfl) (blt 2 _ rfl) (by kernel_rfl)) PV.sa_nil (by kernel_rfl)) (by kernel_rfl)) (PV.c_isi F (isT _ 2 _ "TypeError" hC rfl _))) (by kernel_rfl) rfl trivial) (by kernel_rfl) (PV.w_one (PV.t_truth (PV.p_callB (id := "isinstance") F (PV.gl_at (i := 2) gl rfl) (blt 8 _ rfl) (by kernel_rfl) (by kernel_rfl) (PV.sa_cons (PV.p_var (i := 0) F (PV.rd_at rd rfl) rfl) (PV.sa_cons (PV.p_ty (T := "ArithmeticError") F (PV.gl_at (i := 8) gl rfl) (blt 3 _ rfl) (by kernel_rfl)) PV.sa_nil (by kernel_rfl)) (by kernel_rfl)) (PV.c_isi F (isT _ 3 _ "ArithmeticError" hC rfl _))) (by kernel_rfl) rfl trivial))))) (by kernel_rfl) PV.sss_nil) (PV.sss_out (PV.ss_ret (PV.e_andT (PV.e_notT (b' := true) (PV.p_callB (id := "isinstance") F (PV.gl_at (i := 2) gl rfl) (blt 8 _ rfl) (by kernel_rfl) (by kernel_rfl) (PV.sa_cons (PV.p_var (i := 0) F (PV.rd_at rd rfl) rfl) (PV.sa_cons (PV.p_ty (T := "RuntimeError") F (PV.gl_at (i := 9) gl rfl) (blt 4 _ rfl) (by kernel_rfl)) PV.sa_nil (by kernel_rfl)) (by kernel_rfl)) (PV.c_isi F (isT _ 4 _ "RuntimeError" hC rfl _))) rfl trivial (by kernel_rfl)) rfl (by kernel_rfl) trivial (PV.e_one (PV.e_notT (b' := true) (PV.p_callB (id := "isinstance") F (PV.gl_at (i := 2) gl rfl) (blt 8 _ rfl) (by kernel_rfl) (by kernel_rfl) (PV.sa_cons (PV.p_var (i := 0) F (PV.rd_at rd rfl) rfl) (PV.sa_cons (PV.p_ty (T := "AttributeError") F (PV.gl_at (i := 10) gl rfl) (blt 5 _ rfl) (by kernel_rfl)) PV.sa_nil (by kernel_rfl)) (by kernel_rfl)) (PV.c_isi F (isT _ 5 _ "AttributeError" hC rfl _))) rfl trivial (by kernel_rfl))))) (by kernel_rfl)))))) rfl ?_; repeat' first | exact trivial | refine ⟨⟨_, rfl, rfl⟩, ?_⟩)
  · have h4 : (!PyData.eqv (D.bl (kitI i 36)).py (D.bl false).py) = false := by
      rw [h3, show Nat.ble 22 i = false from by
        apply Bool.eq_false_iff.mpr
        intro z
        have := Nat.le_of_ble_eq_true z
        omega, Bool.false_and]
      rfl
    clear h3
    (refine ex_ofS (st0 := [(some (.val _)), (some (.val _)), none]) rfl (PV.sss_cons (PV.s_ifF (PV.t_cmp (PV.p_call (st' := [(some (.val _)), (some (.val _)), none]) (sl := [(.val _)]) F (PV.gl_at (i := 0) gl rfl) dk (by kernel_rfl) (by kernel_rfl) (PV.sa'_val (PV.p_var (i := 0) F (PV.rd_at rd rfl) rfl) PV.sa'_nil (by kernel_rfl)) rfl (K0.ctKin.mk hC) (by kernel_rfl) (by kernel_rfl) (by kernel_rfl) rfl) (PV.p_frz (d := (.lst _)) (PV.p_lc ((Str.ofString "_law_at", 2) :: []) F (by kernel_rfl) rfl (by kernel_rfl) (PV.p_range1 (nn := 36) (items := [(.int 0), (.int 1), (.int 2), (.int 3), (.int 4), (.int 5), (.int 6), (.int 7), (.int 8), (.int 9), (.int 10), (.int 11), (.int 12), (.int 13), (.int 14), (.int 15), (.int 16), (.int 17), (.int 18), (.int 19), (.int 20), (.int 21), (.int 22), (.int 23), (.int 24), (.int 25), (.int 26), (.int 27), (.int 28), (.int 29), (.int 30), (.int 31), (.int 32), (.int 33), (.int 34), (.int 35)]) F (PV.gl_at (i := 1) gl rfl) (blt 9 _ rfl) (by kernel_rfl) (PV.sa_cons PV.se_int PV.sa_nil (by kernel_rfl)) (by decide +kernel) (by decide +kernel) (by kernel_rfl) rfl) (by kernel_rfl) (by kernel_rfl) (fun v14077030 => rfl) (fun v84161161 => (PV.LcR.take (PV.p_turnC (st' := [(some (.val _)), (some (.val _)), none]) F v84161161 (fun v10737919 => (fun v87116722 => (fun v97076064 => (PV.p_gname (st' := [(some (.val _)), (some (.val _)), (some (.val _))]) (i := 2) v97076064 (by kernel_rfl) (by kernel_rfl) rfl)))) (by kernel_rfl) (fun v3228515 => (fun v8425896 => (fun v45899436 => (PV.e_cmp (PV.p_var (i := 1) v45899436 (by kernel_rfl) rfl) (PV.p_var (i := 2) v45899436 (by kernel_rfl) rfl) (by kernel_rfl) (PV.q_eqI (b := _) v45899436 rfl))))) rfl) (PV.LcR.take (PV.p_turnC (st' := [(some (.val _)), (some (.val _)), none]) F v84161161 (fun v55596752 => (fun v28359738 => (fun v87479925 => (PV.p_gname (st' := [(some (.val _)), (some (.val _)), (some (.val _))]) (i := 2) v87479925 (by kernel_rfl) (by kernel_rfl) rfl)))) (by kernel_rfl) (fun v19456002 => (fun v24756315 => (fun v61587301 => (PV.e_cmp (PV.p_var (i := 1) v61587301 (by kernel_rfl) rfl) (PV.p_var (i := 2) v61587301 (by kernel_rfl) rfl) (by kernel_rfl) (PV.q_eqI (b := _) v61587301 rfl))))) rfl) (PV.LcR.take (PV.p_turnC (st' := [(some (.val _)), (some (.val _)), none]) F v84161161 (fun v40824192 => (fun v65962625 => (fun v17232934 => (PV.p_gname (st' := [(some (.val _)), (some (.val _)), (some (.val _))]) (i := 2) v17232934 (by kernel_rfl) (by kernel_rfl) rfl)))) (by kernel_rfl) (fun v74113679 => (fun v9041816 => (fun v60822449 => (PV.e_cmp (PV.p_var (i := 1) v60822449 (by kernel_rfl) rfl) (PV.p_var (i := 2) v60822449 (by kernel_rfl) rfl) (by kernel_rfl) (PV.q_eqI (b := _) v60822449 rfl))))) rfl) (PV.LcR.take (PV.p_turnC (st' := [(some (.val _)), (some (.val _)), none]) F v84161161 (fun v2922373 => (fun v78264292 => (fun v38196831 => (PV.p_gname (st' := [(some (.val _)), (some (.val _)), (some (.val _))]) (i := 2) v38196831 (by kernel_rfl) (by kernel_rfl) rfl)))) (by kernel_rfl) (fun v43008287 => (fun v68727158 => (fun v14985839 => (PV.e_cmp (PV.p_var (i := 1) v14985839 (by kernel_rfl) rfl) (PV.p_var (i := 2) v14985839 (by kernel_rfl) rfl) (by kernel_rfl) (PV.q_eqI (b := _) v14985839 rfl))))) rfl) (PV.LcR.take (PV.p_turnC (st' := [(some (.val _)), (some (.val _)), none]) F v84161161 (fun v73068855 => (fun v88095833 => (fun v5699845 => (PV.p_gname (st' := [(some (.val _)), (some (.val _)), (some (.val _))]) (i := 2) v5699845 (by kernel_rfl) (by kernel_rfl) rfl)))) (by kernel_rfl) (fun v24630112 => (fun v45187942 => (fun v34911565 => (PV.e_cmp (PV.p_var (i := 1) v34911565 (by kernel_rfl) rfl) (PV.p_var (i := 2) v34911565 (by kernel_rfl) rfl) (by kernel_rfl) (PV.q_eqI (b := _) v34911565 rfl))))) rfl) (PV.LcR.take (PV.p_turnC (st' := [(some (.val _)), (some (.val _)), none]) F v84161161 (fun v54712173 => (fun v22968525 => (fun v76495041 => (PV.p_gname (st' := [(some (.val _)), (some (.val _)), (some (.val _))]) (i := 2) v76495041 (by kernel_rfl) (by kernel_rfl) rfl)))) (by kernel_rfl) (fun v78307255 => (fun v67908331 => (fun v24913124 => (PV.e_cmp (PV.p_var (i := 1) v24913124 (by kernel_rfl) rfl) (PV.p_var (i := 2) v24913124 (by kernel_rfl) rfl) (by kernel_rfl) (PV.q_eqI (b := _) v24913124 rfl))))) rfl) (PV.LcR.take (PV.p_turnC (st' := [(some (.val _)), (some (.val _)), none]) F v84161161 (fun v90422865 => (fun v49538035 => (fun v59034621 => (PV.p_gname (st' := [(some (.val _)), (some (.val _)), (some (.val _))]) (i := 2) v59034621 (by kernel_rfl) (by kernel_rfl) rfl)))) (by kernel_rfl) (fun v10370620 => (fun v86000218 => (fun v21884357 => (PV.e_cmp (PV.p_var (i := 1) v21884357 (by kernel_rfl) rfl) (PV.p_var (i := 2) v21884357 (by kernel_rfl) rfl) (by kernel_rfl) (PV.q_eqI (b := _) v21884357 rfl))))) rfl) (PV.LcR.take (PV.p_turnC (st' := [(some (.val _)), (some (.val _)), none]) F v84161161 (fun v23454221 => (fun v99975095 => (fun v64551737 => (PV.p_gname (st' := [(some (.val _)), (some (.val _)), (some (.val _))]) (i := 2) v64551737 (by kernel_rfl) (by kernel_rfl) rfl)))) (by kernel_rfl) (fun v68644058 => (fun v19211140 => (fun v97107678 => (PV.e_cmp (PV.p_var (i := 1) v97107678 (by kernel_rfl) rfl) (PV.p_var (i := 2) v97107678 (by kernel_rfl) rfl) (by kernel_rfl) (PV.q_eqI (b := _) v97107678 rfl))))) rfl) (PV.LcR.take (PV.p_turnC (st' := [(some (.val _)), (some (.val _)), none]) F v84161161 (fun v59444167 => (fun v17508509 => (fun v24463182 => (PV.p_gname (st' := [(some (.val _)), (some (.val _)), (some (.val _))]) (i := 2) v24463182 (by kernel_rfl) (by kernel_rfl) rfl)))) (by kernel_rfl) (fun v67646381 => (fun v63432622 => (fun v76645063 => (PV.e_cmp (PV.p_var (i := 1) v76645063 (by kernel_rfl) rfl) (PV.p_var (i := 2) v76645063 (by kernel_rfl) rfl) (by kernel_rfl) (PV.q_eqI (b := _) v76645063 rfl))))) rfl) (PV.LcR.take (PV.p_turnC (st' := [(some (.val _)), (some (.val _)), none]) F v84161161 (fun v52629904 => (fun v46019824 => (fun v73188212 => (PV.p_gname (st' := [(some (.val _)), (some (.val _)), (some (.val _))]) (i := 2) v73188212 (by kernel_rfl) (by kernel_rfl) rfl)))) (by kernel_rfl) (fun v99920852 => (fun v51815090 => (fun v60827250 => (PV.e_cmp (PV.p_var (i := 1) v60827250 (by kernel_rfl) rfl) (PV.p_var (i := 2) v60827250 (by kernel_rfl) rfl) (by kernel_rfl) (PV.q_eqI (b := _) v60827250 rfl))))) rfl) (PV.LcR.take (PV.p_turnC (st' := [(some (.val _)), (some (.val _)), none]) F v84161161 (fun v10839952 => (fun v82539238 => (fun v85260779 => (PV.p_gname (st' := [(some (.val _)), (some (.val _)), (some (.val _))]) (i := 2) v85260779 (by kernel_rfl) (by kernel_rfl) rfl)))) (by kernel_rfl) (fun v31222381 => (fun v41340240 => (fun v62990424 => (PV.e_cmp (PV.p_var (i := 1) v62990424 (by kernel_rfl) rfl) (PV.p_var (i := 2) v62990424 (by kernel_rfl) rfl) (by kernel_rfl) (PV.q_eqI (b := _) v62990424 rfl))))) rfl) (PV.LcR.take (PV.p_turnC (st' := [(some (.val _)), (some (.val _)), none]) F v84161161 (fun v57209193 => (fun v35856453 => (fun v87400672 => (PV.p_gname (st' := [(some (.val _)), (some (.val _)), (some (.val _))]) (i := 2) v87400672 (by kernel_rfl) (by kernel_rfl) rfl)))) (by kernel_rfl) (fun v29935629 => (fun v60785660 => (fun v61089501 => (PV.e_cmp (PV.p_var (i := 1) v61089501 (by kernel_rfl) rfl) (PV.p_var (i := 2) v61089501 (by kernel_rfl) rfl) (by kernel_rfl) (PV.q_eqI (b := _) v61089501 rfl))))) rfl) (PV.LcR.take (PV.p_turnC (st' := [(some (.val _)), (some (.val _)), none]) F v84161161 (fun v27127790 => (fun v30689211 => (fun v89144064 => (PV.p_gname (st' := [(some (.val _)), (some (.val _)), (some (.val _))]) (i := 2) v89144064 (by kernel_rfl) (by kernel_rfl) rfl)))) (by kernel_rfl) (fun v34199896 => (fun v97667433 => (fun v73399842 => (PV.e_cmp (PV.p_var (i := 1) v73399842 (by kernel_rfl) rfl) (PV.p_var (i := 2) v73399842 (by kernel_rfl) rfl) (by kernel_rfl) (PV.q_eqI (b := _) v73399842 rfl))))) rfl) (PV.LcR.take (PV.p_turnC (st' := [(some (.val _)), (some (.val _)), none]) F v84161161 (fun v46439037 => (fun v14140616 => (fun v24048071 => (PV.p_gname (st' := [(some (.val _)), (some (.val _)), (some (.val _))]) (i := 2) v24048071 (by kernel_rfl) (by kernel_rfl) rfl)))) (by kernel_rfl) (fun v8022800 => (fun v63590934 => (fun v85865069 => (PV.e_cmp (PV.p_var (i := 1) v85865069 (by kernel_rfl) rfl) (PV.p_var (i := 2) v85865069 (by kernel_rfl) rfl) (by kernel_rfl) (PV.q_eqI (b := _) v85865069 rfl))))) rfl) (PV.LcR.take (PV.p_turnC (st' := [(some (.val _)), (some (.val _)), none]) F v84161161 (fun v7569085 => (fun v22433829 => (fun v43521640 => (PV.p_gname (st' := [(some (.val _)), (some (.val _)), (some (.val _))]) (i := 2) v43521640 (by kernel_rfl) (by kernel_rfl) rfl)))) (by kernel_rfl) (fun v27696210 => (fun v27373113 => (fun v57836376 => (PV.e_cmp (PV.p_var (i := 1) v57836376 (by kernel_rfl) rfl) (PV.p_var (i := 2) v57836376 (by kernel_rfl) rfl) (by kernel_rfl) (PV.q_eqI (b := _) v57836376 rfl))))) rfl) (PV.LcR.take (PV.p_turnC (st' := [(some (.val _)), (some (.val _)), none]) F v84161161 (fun v51603083 => (fun v3529643 => (fun v24101781 => (PV.p_gname (st' := [(some (.val _)), (some (.val _)), (some (.val _))]) (i := 2) v24101781 (by kernel_rfl) (by kernel_rfl) rfl)))) (by kernel_rfl) (fun v3487759 => (fun v91673654 => (fun v45271568 => (PV.e_cmp (PV.p_var (i := 1) v45271568 (by kernel_rfl) rfl) (PV.p_var (i := 2) v45271568 (by kernel_rfl) rfl) (by kernel_rfl) (PV.q_eqI (b := _) v45271568 rfl))))) rfl) (PV.LcR.take (PV.p_turnC (st' := [(some (.val _)), (some (.val _)), none]) F v84161161 (fun v64882526 => (fun v43864699 => (fun v35942339 => (PV.p_gname (st' := [(some (.val _)), (some (.val _)), (some (.val _))]) (i := 2) v35942339 (by kernel_rfl) (by kernel_rfl) rfl)))) (by kernel_rfl) (fun v72231003 => (fun v32867731 => (fun v74244627 => (PV.e_cmp (PV.p_var (i := 1) v74244627 (by kernel_rfl) rfl) (PV.p_var (i := 2) v74244627 (by kernel_rfl) rfl) (by kernel_rfl) (PV.q_eqI (b := _) v74244627 rfl))))) rfl) (PV.LcR.take (PV.p_turnC (st' := [(some (.val _)), (some (.val _)), none]) F v84161161 (fun v45098429 => (fun v31995524 => (fun v71397085 => (PV.p_gname (st' := [(some (.val _)), (some (.val _)), (some (.val _))]) (i := 2) v71397085 (by kernel_rfl) (by kernel_rfl) rfl)))) (by kernel_rfl) (fun v15165470 => (fun v24534381 => (fun v40208930 => (PV.e_cmp (PV.p_var (i := 1) v40208930 (by kernel_rfl) rfl) (PV.p_var (i := 2) v40208930 (by kernel_rfl) rfl) (by kernel_rfl) (PV.q_eqI (b := _) v40208930 rfl))))) rfl) (PV.LcR.take (PV.p_turnC (st' := [(some (.val _)), (some (.val _)), none]) F v84161161 (fun v13484430 => (fun v23948659 => (fun v27277376 => (PV.p_gname (st' := [(some (.val _)), (some (.val _)), (some (.val _))]) (i := 2) v27277376 (by kernel_rfl) (by kernel_rfl) rfl)))) (by kernel_rfl) (fun v34838402 => (fun v48957247 => (fun v30332196 => (PV.e_cmp (PV.p_var (i := 1) v30332196 (by kernel_rfl) rfl) (PV.p_var (i := 2) v30332196 (by kernel_rfl) rfl) (by kernel_rfl) (PV.q_eqI (b := _) v30332196 rfl))))) rfl) (PV.LcR.take (PV.p_turnC (st' := [(some (.val _)), (some (.val _)), none]) F v84161161 (fun v2969926 => (fun v6931510 => (fun v8373524 => (PV.p_gname (st' := [(some (.val _)), (some (.val _)), (some (.val _))]) (i := 2) v8373524 (by kernel_rfl) (by kernel_rfl) rfl)))) (by kernel_rfl) (fun v33941365 => (fun v73392118 => (fun v37938370 => (PV.e_cmp (PV.p_var (i := 1) v37938370 (by kernel_rfl) rfl) (PV.p_var (i := 2) v37938370 (by kernel_rfl) rfl) (by kernel_rfl) (PV.q_eqI (b := _) v37938370 rfl))))) rfl) (PV.LcR.take (PV.p_turnC (st' := [(some (.val _)), (some (.val _)), none]) F v84161161 (fun v93532384 => (fun v1775955 => (fun v13025409 => (PV.p_gname (st' := [(some (.val _)), (some (.val _)), (some (.val _))]) (i := 2) v13025409 (by kernel_rfl) (by kernel_rfl) rfl)))) (by kernel_rfl) (fun v1957666 => (fun v43515166 => (fun v47807132 => (PV.e_cmp (PV.p_var (i := 1) v47807132 (by kernel_rfl) rfl) (PV.p_var (i := 2) v47807132 (by kernel_rfl) rfl) (by kernel_rfl) (PV.q_eqI (b := _) v47807132 rfl))))) rfl) (PV.LcR.take (PV.p_turnC (st' := [(some (.val _)), (some (.val _)), none]) F v84161161 (fun v12177873 => (fun v28773653 => (fun v33409144 => (PV.p_gname (st' := [(some (.val _)), (some (.val _)), (some (.val _))]) (i := 2) v33409144 (by kernel_rfl) (by kernel_rfl) rfl)))) (by kernel_rfl) (fun v9583588 => (fun v56833992 => (fun v23205345 => (PV.e_cmp (PV.p_var (i := 1) v23205345 (by kernel_rfl) rfl) (PV.p_var (i := 2) v23205345 (by kernel_rfl) rfl) (by kernel_rfl) (PV.q_eqI (b := _) v23205345 rfl))))) rfl) (PV.LcR.take (PV.p_turnC (st' := [(some (.val _)), (some (.val _)), none]) F v84161161 (fun v23958019 => (fun v98861145 => (fun v37926473 => (PV.p_gname (st' := [(some (.val _)), (some (.val _)), (some (.val _))]) (i := 2) v37926473 (by kernel_rfl) (by kernel_rfl) rfl)))) (by kernel_rfl) (fun v71624545 => (fun v73876830 => (fun v83630780 => (PV.e_cmp (PV.p_var (i := 1) v83630780 (by kernel_rfl) rfl) (PV.p_var (i := 2) v83630780 (by kernel_rfl) rfl) (by kernel_rfl) (PV.q_eqI (b := _) v83630780 rfl))))) rfl) (PV.LcR.take (PV.p_turnC (st' := [(some (.val _)), (some (.val _)), none]) F v84161161 (fun v1322914 => (fun v19037441 => (fun v48425042 => (PV.p_gname (st' := [(some (.val _)), (some (.val _)), (some (.val _))]) (i := 2) v48425042 (by kernel_rfl) (by kernel_rfl) rfl)))) (by kernel_rfl) (fun v39418157 => (fun v65473246 => (fun v85154704 => (PV.e_cmp (PV.p_var (i := 1) v85154704 (by kernel_rfl) rfl) (PV.p_var (i := 2) v85154704 (by kernel_rfl) rfl) (by kernel_rfl) (PV.q_eqI (b := _) v85154704 rfl))))) rfl) (PV.LcR.take (PV.p_turnC (st' := [(some (.val _)), (some (.val _)), none]) F v84161161 (fun v95001773 => (fun v77312223 => (fun v82825951 => (PV.p_gname (st' := [(some (.val _)), (some (.val _)), (some (.val _))]) (i := 2) v82825951 (by kernel_rfl) (by kernel_rfl) rfl)))) (by kernel_rfl) (fun v7766339 => (fun v36153289 => (fun v32323302 => (PV.e_cmp (PV.p_var (i := 1) v32323302 (by kernel_rfl) rfl) (PV.p_var (i := 2) v32323302 (by kernel_rfl) rfl) (by kernel_rfl) (PV.q_eqI (b := _) v32323302 rfl))))) rfl) (PV.LcR.take (PV.p_turnC (st' := [(some (.val _)), (some (.val _)), none]) F v84161161 (fun v51114778 => (fun v2505873 => (fun v95272951 => (PV.p_gname (st' := [(some (.val _)), (some (.val _)), (some (.val _))]) (i := 2) v95272951 (by kernel_rfl) (by kernel_rfl) rfl)))) (by kernel_rfl) (fun v16614147 => (fun v20289570 => (fun v66219723 => (PV.e_cmp (PV.p_var (i := 1) v66219723 (by kernel_rfl) rfl) (PV.p_var (i := 2) v66219723 (by kernel_rfl) rfl) (by kernel_rfl) (PV.q_eqI (b := _) v66219723 rfl))))) rfl) (PV.LcR.take (PV.p_turnC (st' := [(some (.val _)), (some (.val _)), none]) F v84161161 (fun v79306964 => (fun v74031422 => (fun v70845198 => (PV.p_gname (st' := [(some (.val _)), (some (.val _)), (some (.val _))]) (i := 2) v70845198 (by kernel_rfl) (by kernel_rfl) rfl)))) (by kernel_rfl) (fun v50013905 => (fun v3204948 => (fun v71640978 => (PV.e_cmp (PV.p_var (i := 1) v71640978 (by kernel_rfl) rfl) (PV.p_var (i := 2) v71640978 (by kernel_rfl) rfl) (by kernel_rfl) (PV.q_eqI (b := _) v71640978 rfl))))) rfl) (PV.LcR.take (PV.p_turnC (st' := [(some (.val _)), (some (.val _)), none]) F v84161161 (fun v41056371 => (fun v86950829 => (fun v3364966 => (PV.p_gname (st' := [(some (.val _)), (some (.val _)), (some (.val _))]) (i := 2) v3364966 (by kernel_rfl) (by kernel_rfl) rfl)))) (by kernel_rfl) (fun v76271323 => (fun v11256664 => (fun v16155684 => (PV.e_cmp (PV.p_var (i := 1) v16155684 (by kernel_rfl) rfl) (PV.p_var (i := 2) v16155684 (by kernel_rfl) rfl) (by kernel_rfl) (PV.q_eqI (b := _) v16155684 rfl))))) rfl) (PV.LcR.take (PV.p_turnC (st' := [(some (.val _)), (some (.val _)), none]) F v84161161 (fun v46712715 => (fun v91419578 => (fun v85948017 => (PV.p_gname (st' := [(some (.val _)), (some (.val _)), (some (.val _))]) (i := 2) v85948017 (by kernel_rfl) (by kernel_rfl) rfl)))) (by kernel_rfl) (fun v61527745 => (fun v54033043 => (fun v54515705 => (PV.e_cmp (PV.p_var (i := 1) v54515705 (by kernel_rfl) rfl) (PV.p_var (i := 2) v54515705 (by kernel_rfl) rfl) (by kernel_rfl) (PV.q_eqI (b := _) v54515705 rfl))))) rfl) (PV.LcR.take (PV.p_turnC (st' := [(some (.val _)), (some (.val _)), none]) F v84161161 (fun v39641132 => (fun v84310023 => (fun v17167252 => (PV.p_gname (st' := [(some (.val _)), (some (.val _)), (some (.val _))]) (i := 2) v17167252 (by kernel_rfl) (by kernel_rfl) rfl)))) (by kernel_rfl) (fun v14469986 => (fun v37433626 => (fun v76971831 => (PV.e_cmp (PV.p_var (i := 1) v76971831 (by kernel_rfl) rfl) (PV.p_var (i := 2) v76971831 (by kernel_rfl) rfl) (by kernel_rfl) (PV.q_eqI (b := _) v76971831 rfl))))) rfl) (PV.LcR.take (PV.p_turnC (st' := [(some (.val _)), (some (.val _)), none]) F v84161161 (fun v4721169 => (fun v39272672 => (fun v99472468 => (PV.p_gname (st' := [(some (.val _)), (some (.val _)), (some (.val _))]) (i := 2) v99472468 (by kernel_rfl) (by kernel_rfl) rfl)))) (by kernel_rfl) (fun v605846 => (fun v78115668 => (fun v82329171 => (PV.e_cmp (PV.p_var (i := 1) v82329171 (by kernel_rfl) rfl) (PV.p_var (i := 2) v82329171 (by kernel_rfl) rfl) (by kernel_rfl) (PV.q_eqI (b := _) v82329171 rfl))))) rfl) (PV.LcR.take (PV.p_turnC (st' := [(some (.val _)), (some (.val _)), none]) F v84161161 (fun v75038028 => (fun v56396583 => (fun v31645287 => (PV.p_gname (st' := [(some (.val _)), (some (.val _)), (some (.val _))]) (i := 2) v31645287 (by kernel_rfl) (by kernel_rfl) rfl)))) (by kernel_rfl) (fun v68233375 => (fun v64581250 => (fun v11227333 => (PV.e_cmp (PV.p_var (i := 1) v11227333 (by kernel_rfl) rfl) (PV.p_var (i := 2) v11227333 (by kernel_rfl) rfl) (by kernel_rfl) (PV.q_eqI (b := _) v11227333 rfl))))) rfl) (PV.LcR.take (PV.p_turnC (st' := [(some (.val _)), (some (.val _)), none]) F v84161161 (fun v15421277 => (fun v77755848 => (fun v39623026 => (PV.p_gname (st' := [(some (.val _)), (some (.val _)), (some (.val _))]) (i := 2) v39623026 (by kernel_rfl) (by kernel_rfl) rfl)))) (by kernel_rfl) (fun v8662683 => (fun v64482601 => (fun v48354060 => (PV.e_cmp (PV.p_var (i := 1) v48354060 (by kernel_rfl) rfl) (PV.p_var (i := 2) v48354060 (by kernel_rfl) rfl) (by kernel_rfl) (PV.q_eqI (b := _) v48354060 rfl))))) rfl) (PV.LcR.take (PV.p_turnC (st' := [(some (.val _)), (some (.val _)), none]) F v84161161 (fun v11478489 => (fun v31893296 => (fun v83217094 => (PV.p_gname (st' := [(some (.val _)), (some (.val _)), (some (.val _))]) (i := 2) v83217094 (by kernel_rfl) (by kernel_rfl) rfl)))) (by kernel_rfl) (fun v4408390 => (fun v13638556 => (fun v77596399 => (PV.e_cmp (PV.p_var (i := 1) v77596399 (by kernel_rfl) rfl) (PV.p_var (i := 2) v77596399 (by kernel_rfl) rfl) (by kernel_rfl) (PV.q_eqI (b := _) v77596399 rfl))))) rfl) (PV.LcR.take (PV.p_turnC (st' := [(some (.val _)), (some (.val _)), none]) F v84161161 (fun v91873324 => (fun v74474527 => (fun v40405851 => (PV.p_gname (st' := [(some (.val _)), (some (.val _)), (some (.val _))]) (i := 2) v40405851 (by kernel_rfl) (by kernel_rfl) rfl)))) (by kernel_rfl) (fun v4668286 => (fun v66755440 => (fun v1079387 => (PV.e_cmp (PV.p_var (i := 1) v1079387 (by kernel_rfl) rfl) (PV.p_var (i := 2) v1079387 (by kernel_rfl) rfl) (by kernel_rfl) (PV.q_eqI (b := _) v1079387 rfl))))) rfl) (PV.LcR.take (PV.p_turnC (st' := [(some (.val _)), (some (.val _)), none]) F v84161161 (fun v43595053 => (fun v88373284 => (fun v5148463 => (PV.p_gname (st' := [(some (.val _)), (some (.val _)), (some (.val _))]) (i := 2) v5148463 (by kernel_rfl) (by kernel_rfl) rfl)))) (by kernel_rfl) (fun v70201253 => (fun v69003857 => (fun v45740154 => (PV.e_cmp (PV.p_var (i := 1) v45740154 (by kernel_rfl) rfl) (PV.p_var (i := 2) v45740154 (by kernel_rfl) rfl) (by kernel_rfl) (PV.q_eqI (b := _) v45740154 rfl))))) rfl) (PV.LcR.nil _))))))))))))))))))))))))))))))))))))))) (by kernel_rfl) rfl) (by kernel_rfl) (PV.q_neD (b := _) F (by kernel_rfl) (by kernel_rfl) rfl)) (congrArg _ h1) PV.sss_nil) (PV.sss_cons (PV.s_ifF (PV.t_w (PV.w_orF (PV.t_not (b' := _) (PV.t_truth (PV.p_callB (id := "isinstance") F (PV.gl_at (i := 2) gl rfl) (blt 8 _ rfl) (by kernel_rfl) (by kernel_rfl) (PV.sa_cons (PV.p_var (i := 0) F (PV.rd_at rd rfl) rfl) (PV.sa_cons (PV.p_cls F (PV.gl_at (i := 3) gl rfl) (cls 37 _ rfl)) PV.sa_nil (by kernel_rfl)) (by kernel_rfl)) (PV.c_isi F (isi _ 37 _ _ hC rfl _))) (by kernel_rfl) rfl trivial) rfl) (congrArg _ h2) (PV.w_one (PV.t_not (b' := false) (PV.t_truth (PV.p_callB (id := "isinstance") F (PV.gl_at (i := 2) gl rfl) (blt 8 _ rfl) (by kernel_rfl) (by kernel_rfl) (PV.sa_cons (PV.p_var (i := 0) F (PV.rd_at rd rfl) rfl) (PV.sa_cons (PV.p_ty (T := "ValueError") F (PV.gl_at (i := 4) gl rfl) (blt 0 _ rfl) (by kernel_rfl)) PV.sa_nil (by kernel_rfl)) (by kernel_rfl)) (PV.c_isi F (isT _ 0 _ "ValueError" hC rfl _))) (by kernel_rfl) rfl trivial) (by kernel_rfl))))) (by kernel_rfl) PV.sss_nil) (PV.sss_cons (PV.s_ifF (PV.t_cmp (PV.p_callB (id := "isinstance") F (PV.gl_at (i := 2) gl rfl) (blt 8 _ rfl) (by kernel_rfl) (by kernel_rfl) (PV.sa_cons (PV.p_var (i := 0) F (PV.rd_at rd rfl) rfl) (PV.sa_cons (PV.p_cls F (PV.gl_at (i := 5) gl rfl) (cls 36 _ rfl)) PV.sa_nil (by kernel_rfl)) (by kernel_rfl)) (PV.c_isi F (isi _ 36 _ _ hC rfl _))) (PV.e_chF PV.se_int (PV.p_var (i := 1) F (PV.rd_at rd rfl) rfl) (PV.q_le (b := _) rfl) (decide_eq_false (by first | with_reducible assumption | omega | (simp_all; done))) (by kernel_rfl) (by kernel_rfl)) (by kernel_rfl) (PV.q_neD (b := false) F (by kernel_rfl) (by kernel_rfl) h4)) (by kernel_rfl) PV.sss_nil) (PV.sss_cons (PV.s_ifF (PV.t_w (PV.w_orF (PV.t_truth (PV.p_callB (id := "isinstance") F (PV.gl_at (i := 2) gl rfl) (blt 8 _ rfl) (by kernel_rfl) (by kernel_rfl) (PV.sa_cons (PV.p_var (i := 0) F (PV.rd_at rd rfl) rfl) (PV.sa_cons (PV.p_ty (T := "LookupError") F (PV.gl_at (i := 6) gl rfl) (blt 1 _ rfl) (by kernel_rfl)) PV.sa_nil (by kernel_rfl)) (by kernel_rfl)) (PV.c_isi F (isT _ 1 _ "LookupError" hC rfl _))) (by kernel_rfl) rfl trivial) (by kernel_rfl) (PV.w_orF (PV.t_truth (PV.p_callB (id := "isinstance") F (PV.gl_at (i := 2) gl rfl) (blt 8 _ rfl) (by kernel_rfl) (by kernel_rfl) (PV.sa_cons (PV.p_var (i := 0) F (PV.rd_at rd rfl) rfl) (PV.sa_cons (PV.p_ty (T := "TypeError") F (PV.gl_at (i := 7) gl rfl) (blt 2 _ rfl) (by kernel_rfl)) PV.sa_nil (by kernel_rfl)) (by kernel_rfl)) (PV.c_isi F (isT _ 2 _ "TypeError" hC rfl _))) (by kernel_rfl) rfl trivial) (by kernel_rfl) (PV.w_one (PV.t_truth (PV.p_callB (id := "isinstance") F (PV.gl_at (i := 2) gl rfl) (blt 8 _ rfl) (by kernel_rfl) (by kernel_rfl) (PV.sa_cons (PV.p_var (i := 0) F (PV.rd_at rd rfl) rfl) (PV.sa_cons (PV.p_ty (T := "ArithmeticError") F (PV.gl_at (i := 8) gl rfl) (blt 3 _ rfl) (by kernel_rfl)) PV.sa_nil (by kernel_rfl)) (by kernel_rfl)) (PV.c_isi F (isT _ 3 _ "ArithmeticError" hC rfl _))) (by kernel_rfl) rfl trivial))))) (by kernel_rfl) PV.sss_nil) (PV.sss_out (PV.ss_ret (PV.e_andT (PV.e_notT (b' := true) (PV.p_callB (id := "isinstance") F (PV.gl_at (i := 2) gl rfl) (blt 8 _ rfl) (by kernel_rfl) (by kernel_rfl) (PV.sa_cons (PV.p_var (i := 0) F (PV.rd_at rd rfl) rfl) (PV.sa_cons (PV.p_ty (T := "RuntimeError") F (PV.gl_at (i := 9) gl rfl) (blt 4 _ rfl) (by kernel_rfl)) PV.sa_nil (by kernel_rfl)) (by kernel_rfl)) (PV.c_isi F (isT _ 4 _ "RuntimeError" hC rfl _))) rfl trivial (by kernel_rfl)) rfl (by kernel_rfl) trivial (PV.e_one (PV.e_notT (b' := true) (PV.p_callB (id := "isinstance") F (PV.gl_at (i := 2) gl rfl) (blt 8 _ rfl) (by kernel_rfl) (by kernel_rfl) (PV.sa_cons (PV.p_var (i := 0) F (PV.rd_at rd rfl) rfl) (PV.sa_cons (PV.p_ty (T := "AttributeError") F (PV.gl_at (i := 10) gl rfl) (blt 5 _ rfl) (by kernel_rfl)) PV.sa_nil (by kernel_rfl)) (by kernel_rfl)) (PV.c_isi F (isT _ 5 _ "AttributeError" hC rfl _))) rfl trivial (by kernel_rfl))))) (by kernel_rfl)))))) rfl ?_; repeat' first | exact trivial | refine ⟨⟨_, rfl, rfl⟩, ?_⟩)
end
end K0



set_option Elab.async false
set_option linter.all false
set_option maxRecDepth 100000
set_option maxHeartbeats 8000000
namespace K0
open PySem L2 PyProof.Rows PV
/-- a datum that repr shows -/
structure Shw (x : D) : Prop where
  a : x.isPyD = true
  b : x.py.showable = true
  c : x.py.depth ≤ 60
  d : x.py.shown.length ≤ sizeLine
def madeL (a b : D) : List D := partsL a ++ othersL a b
inductive ctAll : Ct
  | mk {a b : D} (s1 : Shw (.lst [a])) (s2 : Shw (.lst [a, b])) : ctAll [.val (.lst [a, b]), .val (.lst (madeL a b))] (.val (.bl true)) []
theorem s0 : Shw (.lst []) := ⟨rfl, by decide +kernel, by decide +kernel, by decide +kernel⟩
/-- a contract that asks for more -/
theorem spOf_mono {K : PySem.W.Frag} {G : Str → Addr} {ct ct' : Ct} (w : ∀ sl r outs, ct' sl r outs → ct sl r outs) {vs : List V} {H : Hp} {Q : VK} {E : XK} (h : SpOf K G ct' vs H Q E) : SpOf K G ct vs H Q E := by
  obtain ⟨F, as, r, outs, h1, h2, h3, h4, h5⟩ := h
  exact ⟨F, as, r, outs, h1, h2, h3, w _ _ _ h4, h5⟩
theorem defOk_mono {W : Wd} {n : Str} {k : Nat} {ct ct' : Ct} (w : ∀ sl r outs, ct' sl r outs → ct sl r outs) (d : DefOk W n k ct) : DefOk W n k ct' := by
  obtain ⟨fa, fd, ps, f1, f2, f3, f4⟩ := d.ex
  exact ⟨fa, fd, ps, ⟨fun vs H Q E h => f1.len vs H Q E (spOf_mono w h), fun A outer s H args us vs Q E hr hg e hb hv h => f1.run A outer s H args us vs Q E hr hg e hb hv (spOf_mono w h)⟩, f2, f3, f4⟩
inductive ctF (C : Str) (fs : List (Str × D)) (p : Int) (ds : List D) : Ct
  | mk : ctF C fs p ds [.val (.err C fs), .val (.int p)] (.own (.lst ds)) []
inductive ctS (C : Str) (fs : List (Str × D)) (p : Int) : Ct
  | mk : ctS C fs p [.val (.err C fs), .val (.int p)] (.val (.bl true)) []
abbrev tgAll : Expr := match sAllRight with
  | .FunctionDef _ _ [.For tg _ _ _ _, _] _ _ _ _ _ _ _ => tg
  | _ => .Constant .none 0 default
abbrev bdAll : List Stmt := match sAllRight with
  | .FunctionDef _ _ [.For _ _ bd _ _, _] _ _ _ _ _ _ _ => bd
  | _ => []
section
variable {W : Wd} {X : Cx} {Z : PV.Env0} {k : Nat} {a b : D}
theorem turnA0 (h : Hd W) {C : Str} {fs : List (Str × D)} {p : Int} {a b m : D} (df : DefOk W (Str.ofString "_law_fields") 1 (ctF C fs p [a])) (ds : DefOk W (Str.ofString "_law_stands_right") 2 (ctS C fs p)) (F : Fr W 2 lAllRight X Z) (hp : p < 29) (s1 : Shw (.lst [a])) {x2 x3 x4 : Option Slot} :
    TurnS X Z tgAll bdAll (.tup [.int p, .err C fs]) [some (.val (.lst [a, b])), some (.val m), x2, x3, x4] (.nx [some (.val (.lst [a, b])), some (.val m), some (.val (.int p)), some (.val (.err C fs)), some (.val (.lst [a]))]) := by
  obtain ⟨a1, b1, c1, d1⟩ := s1
  have blt := h.blt
  have sm := h.sm
  have rd := rdAllRight
  have wr := wrAllRight
  have gl := glAllRight
  clear h
  exact (PV.p_turn (PV.p_gtup F (PV.sgs_cons (PV.p_gname (st' := [(some (.val _)), (some (.val _)), (some (.val _)), _, _]) (i := 2) F (PV.wr_at wr rfl (by kernel_rfl)) (by kernel_rfl) rfl) (PV.sgs_cons (PV.p_gname (st' := [(some (.val _)), (some (.val _)), (some (.val _)), (some (.val _)), _]) (i := 3) F (PV.wr_at wr rfl (by kernel_rfl)) (by kernel_rfl) rfl) PV.sgs_nil (by kernel_rfl)) (by kernel_rfl)) (by kernel_rfl) (by kernel_rfl)) (PV.sss_cons (PV.p_set (st' := [(some (.val _)), (some (.val _)), (some (.val _)), (some (.val _)), (some (.own _))]) (i := 4) (s := (.own _)) F (PV.wr_at wr rfl (by kernel_rfl)) (PV.e_ifT (PV.t_cmp (PV.p_var (i := 2) F (PV.rd_at rd rfl) rfl) PV.se_int (by kernel_rfl) (PV.q_lt (b := _) rfl)) (decide_eq_true (by first | with_reducible assumption | omega | (simp_all; done))) (PV.e_slL (zs := [_]) (PV.p_var (i := 0) F (PV.rd_at rd rfl) rfl) PV.so_none (PV.so_some PV.se_int) rfl)) (by kernel_rfl) (by kernel_rfl) (by kernel_rfl) rfl rfl) (PV.sss_cons (PV.s_ifF (PV.t_w (PV.w_orF (PV.t_cmp (PV.p_callB (id := "repr") F (PV.gl_at (i := 1) gl rfl) (blt 11 _ rfl) (by kernel_rfl) (by kernel_rfl) (PV.sa_cons (PV.p_frz (d := (.lst _)) (PV.p_call (st' := [(some (.val _)), (some (.val _)), (some (.val _)), (some (.val _)), (some (.own _))]) (sl := [(.val _), (.val _)]) F (PV.gl_at (i := 2) gl rfl) df (by kernel_rfl) (by kernel_rfl) (PV.sa'_val (PV.p_var (i := 3) F (PV.rd_at rd rfl) rfl) (PV.sa'_val (PV.p_var (i := 2) F (PV.rd_at rd rfl) rfl) PV.sa'_nil (by kernel_rfl)) (by kernel_rfl)) rfl K0.ctF.mk (by kernel_rfl) (by kernel_rfl) (by kernel_rfl) rfl) (by kernel_rfl) rfl) PV.sa_nil (by kernel_rfl)) (PV.c_repr F sm a1 b1 c1 d1)) (PV.p_callB (id := "repr") F (PV.gl_at (i := 1) gl rfl) (blt 11 _ rfl) (by kernel_rfl) (by kernel_rfl) (PV.sa_cons (PV.p_varO (st' := [(some (.val _)), (some (.val _)), (some (.val _)), (some (.val _)), (some (.val _))]) (d := (.lst _)) (i := 4) F (PV.rd_at rd rfl) rfl (by kernel_rfl) rfl rfl) PV.sa_nil (by kernel_rfl)) (PV.c_repr F sm a1 b1 c1 d1)) (by kernel_rfl) PV.q_neSs) (by kernel_rfl) (PV.w_one (PV.t_not (b' := false) (PV.t_truth (PV.p_call (st' := [(some (.val _)), (some (.val _)), (some (.val _)), (some (.val _)), (some (.val _))]) (sl := [(.val _), (.val _)]) F (PV.gl_at (i := 3) gl rfl) ds (by kernel_rfl) (by kernel_rfl) (PV.sa'_val (PV.p_var (i := 3) F (PV.rd_at rd rfl) rfl) (PV.sa'_val (PV.p_var (i := 2) F (PV.rd_at rd rfl) rfl) PV.sa'_nil (by kernel_rfl)) (by kernel_rfl)) rfl K0.ctS.mk (by kernel_rfl) (by kernel_rfl) (by kernel_rfl) rfl) (by kernel_rfl) rfl trivial) (by kernel_rfl))))) (by kernel_rfl) PV.sss_nil) PV.sss_nil)))
theorem turnB0 (h : Hd W) {C : Str} {fs : List (Str × D)} {p : Int} {a b m : D} (df : DefOk W (Str.ofString "_law_fields") 1 (ctF C fs p [a, b])) (ds : DefOk W (Str.ofString "_law_stands_right") 2 (ctS C fs p)) (F : Fr W 2 lAllRight X Z) (hp0 : 29 ≤ p) (hp : p < 35) (s1 : Shw (.lst [a, b])) {x2 x3 x4 : Option Slot} :
    TurnS X Z tgAll bdAll (.tup [.int p, .err C fs]) [some (.val (.lst [a, b])), some (.val m), x2, x3, x4] (.nx [some (.val (.lst [a, b])), some (.val m), some (.val (.int p)), some (.val (.err C fs)), some (.val (.lst [a, b]))]) := by
  obtain ⟨a1, b1, c1, d1⟩ := s1
  have blt := h.blt
  have sm := h.sm
  have rd := rdAllRight
  have wr := wrAllRight
  have gl := glAllRight
  clear h
  exact (PV.p_turn (PV.p_gtup F (PV.sgs_cons (PV.p_gname (st' := [(some (.val _)), (some (.val _)), (some (.val _)), _, _]) (i := 2) F (PV.wr_at wr rfl (by kernel_rfl)) (by kernel_rfl) rfl) (PV.sgs_cons (PV.p_gname (st' := [(some (.val _)), (some (.val _)), (some (.val _)), (some (.val _)), _]) (i := 3) F (PV.wr_at wr rfl (by kernel_rfl)) (by kernel_rfl) rfl) PV.sgs_nil (by kernel_rfl)) (by kernel_rfl)) (by kernel_rfl) (by kernel_rfl)) (PV.sss_cons (PV.p_set (st' := [(some (.val _)), (some (.val _)), (some (.val _)), (some (.val _)), (some (.val _))]) (i := 4) (s := (.val _)) F (PV.wr_at wr rfl (by kernel_rfl)) (PV.e_ifF (PV.t_cmp (PV.p_var (i := 2) F (PV.rd_at rd rfl) rfl) PV.se_int (by kernel_rfl) (PV.q_lt (b := _) rfl)) (decide_eq_false (by first | with_reducible assumption | omega | (simp_all; done))) (PV.e_ifT (PV.t_cmp (PV.p_var (i := 2) F (PV.rd_at rd rfl) rfl) PV.se_int (by kernel_rfl) (PV.q_lt (b := _) rfl)) (decide_eq_true (by first | with_reducible assumption | omega | (simp_all; done))) (PV.p_var (i := 0) F (PV.rd_at rd rfl) rfl))) (by kernel_rfl) (by kernel_rfl) (by kernel_rfl) rfl rfl) (PV.sss_cons (PV.s_ifF (PV.t_w (PV.w_orF (PV.t_cmp (PV.p_callB (id := "repr") F (PV.gl_at (i := 1) gl rfl) (blt 11 _ rfl) (by kernel_rfl) (by kernel_rfl) (PV.sa_cons (PV.p_frz (d := (.lst _)) (PV.p_call (st' := [(some (.val _)), (some (.val _)), (some (.val _)), (some (.val _)), (some (.val _))]) (sl := [(.val _), (.val _)]) F (PV.gl_at (i := 2) gl rfl) df (by kernel_rfl) (by kernel_rfl) (PV.sa'_val (PV.p_var (i := 3) F (PV.rd_at rd rfl) rfl) (PV.sa'_val (PV.p_var (i := 2) F (PV.rd_at rd rfl) rfl) PV.sa'_nil (by kernel_rfl)) (by kernel_rfl)) rfl K0.ctF.mk (by kernel_rfl) (by kernel_rfl) (by kernel_rfl) rfl) (by kernel_rfl) rfl) PV.sa_nil (by kernel_rfl)) (PV.c_repr F sm a1 b1 c1 d1)) (PV.p_callB (id := "repr") F (PV.gl_at (i := 1) gl rfl) (blt 11 _ rfl) (by kernel_rfl) (by kernel_rfl) (PV.sa_cons (PV.p_var (i := 4) F (PV.rd_at rd rfl) rfl) PV.sa_nil (by kernel_rfl)) (PV.c_repr F sm a1 b1 c1 d1)) (by kernel_rfl) PV.q_neSs) (by kernel_rfl) (PV.w_one (PV.t_not (b' := false) (PV.t_truth (PV.p_call (st' := [(some (.val _)), (some (.val _)), (some (.val _)), (some (.val _)), (some (.val _))]) (sl := [(.val _), (.val _)]) F (PV.gl_at (i := 3) gl rfl) ds (by kernel_rfl) (by kernel_rfl) (PV.sa'_val (PV.p_var (i := 3) F (PV.rd_at rd rfl) rfl) (PV.sa'_val (PV.p_var (i := 2) F (PV.rd_at rd rfl) rfl) PV.sa'_nil (by kernel_rfl)) (by kernel_rfl)) rfl K0.ctS.mk (by kernel_rfl) (by kernel_rfl) (by kernel_rfl) rfl) (by kernel_rfl) rfl trivial) (by kernel_rfl))))) (by kernel_rfl) PV.sss_nil) PV.sss_nil)))
theorem turnC0 (h : Hd W) {C : Str} {fs : List (Str × D)} {p : Int} {a b m : D} (df : DefOk W (Str.ofString "_law_fields") 1 (ctF C fs p [])) (ds : DefOk W (Str.ofString "_law_stands_right") 2 (ctS C fs p)) (F : Fr W 2 lAllRight X Z) (hp : p = 35) {x2 x3 x4 : Option Slot} :
    TurnS X Z tgAll bdAll (.tup [.int p, .err C fs]) [some (.val (.lst [a, b])), some (.val m), x2, x3, x4] (.nx [some (.val (.lst [a, b])), some (.val m), some (.val (.int p)), some (.val (.err C fs)), some (.val (.lst []))]) := by
  obtain ⟨a1, b1, c1, d1⟩ := s0
  subst hp
  have blt := h.blt
  have sm := h.sm
  have rd := rdAllRight
  have wr := wrAllRight
  have gl := glAllRight
  clear h
  exact (PV.p_turn (PV.p_gtup F (PV.sgs_cons (PV.p_gname (st' := [(some (.val _)), (some (.val _)), (some (.val _)), _, _]) (i := 2) F (PV.wr_at wr rfl (by kernel_rfl)) (by kernel_rfl) rfl) (PV.sgs_cons (PV.p_gname (st' := [(some (.val _)), (some (.val _)), (some (.val _)), (some (.val _)), _]) (i := 3) F (PV.wr_at wr rfl (by kernel_rfl)) (by kernel_rfl) rfl) PV.sgs_nil (by kernel_rfl)) (by kernel_rfl)) (by kernel_rfl) (by kernel_rfl)) (PV.sss_cons (PV.p_set (st' := [(some (.val _)), (some (.val _)), (some (.val _)), (some (.val _)), (some (.own _))]) (i := 4) (s := (.own _)) F (PV.wr_at wr rfl (by kernel_rfl)) (PV.e_ifF (PV.t_cmp (PV.p_var (i := 2) F (PV.rd_at rd rfl) rfl) PV.se_int (by kernel_rfl) (PV.q_lt (b := false) (by kernel_rfl))) (by kernel_rfl) (PV.e_ifF (PV.t_cmp (PV.p_var (i := 2) F (PV.rd_at rd rfl) rfl) PV.se_int (by kernel_rfl) (PV.q_lt (b := false) (by kernel_rfl))) (by kernel_rfl) (PV.se_lst PV.sa_nil (Nat.le_of_ble_eq_true (by kernel_rfl))))) (by kernel_rfl) (by kernel_rfl) (by kernel_rfl) rfl rfl) (PV.sss_cons (PV.s_ifF (PV.t_w (PV.w_orF (PV.t_cmp (PV.p_callB (id := "repr") F (PV.gl_at (i := 1) gl rfl) (blt 11 _ rfl) (by kernel_rfl) (by kernel_rfl) (PV.sa_cons (PV.p_frz (d := (.lst _)) (PV.p_call (st' := [(some (.val _)), (some (.val _)), (some (.val _)), (some (.val _)), (some (.own _))]) (sl := [(.val _), (.val _)]) F (PV.gl_at (i := 2) gl rfl) df (by kernel_rfl) (by kernel_rfl) (PV.sa'_val (PV.p_var (i := 3) F (PV.rd_at rd rfl) rfl) (PV.sa'_val (PV.p_var (i := 2) F (PV.rd_at rd rfl) rfl) PV.sa'_nil (by kernel_rfl)) (by kernel_rfl)) rfl (K0.ctF.mk (p := 35)) (by kernel_rfl) (by kernel_rfl) (by kernel_rfl) rfl) (by kernel_rfl) rfl) PV.sa_nil (by kernel_rfl)) (PV.c_repr F sm (by kernel_rfl) (by kernel_rfl) c1 d1)) (PV.p_callB (id := "repr") F (PV.gl_at (i := 1) gl rfl) (blt 11 _ rfl) (by kernel_rfl) (by kernel_rfl) (PV.sa_cons (PV.p_varO (st' := [(some (.val _)), (some (.val _)), (some (.val _)), (some (.val _)), (some (.val _))]) (d := (.lst _)) (i := 4) F (PV.rd_at rd rfl) rfl (by kernel_rfl) rfl rfl) PV.sa_nil (by kernel_rfl)) (PV.c_repr F sm (by kernel_rfl) (by kernel_rfl) c1 d1)) (by kernel_rfl) PV.q_neSs) (by kernel_rfl) (PV.w_one (PV.t_not (b' := false) (PV.t_truth (PV.p_call (st' := [(some (.val _)), (some (.val _)), (some (.val _)), (some (.val _)), (some (.val _))]) (sl := [(.val _), (.val _)]) F (PV.gl_at (i := 3) gl rfl) ds (by kernel_rfl) (by kernel_rfl) (PV.sa'_val (PV.p_var (i := 3) F (PV.rd_at rd rfl) rfl) (PV.sa'_val (PV.p_var (i := 2) F (PV.rd_at rd rfl) rfl) PV.sa'_nil (by kernel_rfl)) (by kernel_rfl)) rfl (K0.ctS.mk (p := 35)) (by kernel_rfl) (by kernel_rfl) (by kernel_rfl) rfl) (by kernel_rfl) rfl trivial) (by kernel_rfl))))) (by kernel_rfl) PV.sss_nil) PV.sss_nil)))
theorem turnA (h : Hd W) {C : Str} {fs : List (Str × D)} {p : Int} {a b m : D} (df : DefOk W (Str.ofString "_law_fields") 1 ctFields) (ds : DefOk W (Str.ofString "_law_stands_right") 2 ctStands) (F : Fr W 2 lAllRight X Z) (hp : p < 29) (s1 : Shw (.lst [a])) (s2 : Shw (.lst [a, b]))
    (c1 : ctFields [.val (.err C fs), .val (.int p)] (.own (.lst [a])) []) (c2 : ctStands [.val (.err C fs), .val (.int p)] (.val (.bl true)) []) {x2 x3 x4 : Option Slot} :
    TurnS X Z tgAll bdAll (.tup [.int p, .err C fs]) [some (.val (.lst [a, b])), some (.val m), x2, x3, x4] (.nx [some (.val (.lst [a, b])), some (.val m), some (.val (.int p)), some (.val (.err C fs)), some (.val (.lst [a]))]) :=
  turnA0 h (defOk_mono (fun _ _ _ c => by cases c; exact c1) df) (defOk_mono (fun _ _ _ c => by cases c; exact c2) ds) F hp s1
theorem turnB (h : Hd W) {C : Str} {fs : List (Str × D)} {p : Int} {a b m : D} (df : DefOk W (Str.ofString "_law_fields") 1 ctFields) (ds : DefOk W (Str.ofString "_law_stands_right") 2 ctStands) (F : Fr W 2 lAllRight X Z) (hp0 : 29 ≤ p) (hp : p < 35) (s1 : Shw (.lst [a])) (s2 : Shw (.lst [a, b]))
    (c1 : ctFields [.val (.err C fs), .val (.int p)] (.own (.lst [a, b])) []) (c2 : ctStands [.val (.err C fs), .val (.int p)] (.val (.bl true)) []) {x2 x3 x4 : Option Slot} :
    TurnS X Z tgAll bdAll (.tup [.int p, .err C fs]) [some (.val (.lst [a, b])), some (.val m), x2, x3, x4] (.nx [some (.val (.lst [a, b])), some (.val m), some (.val (.int p)), some (.val (.err C fs)), some (.val (.lst [a, b]))]) :=
  turnB0 h (defOk_mono (fun _ _ _ c => by cases c; exact c1) df) (defOk_mono (fun _ _ _ c => by cases c; exact c2) ds) F hp0 hp s2
theorem turnC (h : Hd W) {C : Str} {fs : List (Str × D)} {p : Int} {a b m : D} (df : DefOk W (Str.ofString "_law_fields") 1 ctFields) (ds : DefOk W (Str.ofString "_law_stands_right") 2 ctStands) (F : Fr W 2 lAllRight X Z) (hp : p = 35) (s1 : Shw (.lst [a])) (s2 : Shw (.lst [a, b]))
    (c1 : ctFields [.val (.err C fs), .val (.int p)] (.own (.lst [])) []) (c2 : ctStands [.val (.err C fs), .val (.int p)] (.val (.bl true)) []) {x2 x3 x4 : Option Slot} :
    TurnS X Z tgAll bdAll (.tup [.int p, .err C fs]) [some (.val (.lst [a, b])), some (.val m), x2, x3, x4] (.nx [some (.val (.lst [a, b])), some (.val m), some (.val (.int p)), some (.val (.err C fs)), some (.val (.lst []))]) :=
  turnC0 h (defOk_mono (fun _ _ _ c => by cases c; exact c1) df) (defOk_mono (fun _ _ _ c => by cases c; exact c2) ds) F hp
theorem all_for (h : Hd W) (df : DefOk W (Str.ofString "_law_fields") 1 ctFields) (ds : DefOk W (Str.ofString "_law_stands_right") 2 ctStands) (F : Fr W 2 lAllRight X Z) (s1 : Shw (.lst [a])) (s2 : Shw (.lst [a, b])) {m : D} :
    ForR (TurnS X Z tgAll bdAll) (enumD 0 (madeL a b)) [some (.val (.lst [a, b])), some (.val m), none, none, none] (.nx [some (.val (.lst [a, b])), some (.val m), some (.val (.int 35)), some (.val (.err (Str.ofString "Nothing") [])), some (.val (.lst []))]) := by
  refine .nx (turnA h df ds F (by decide +kernel) s1 s2 (.part (i := 0) rfl (by decide +kernel) lookup_here) (.mk (i := 0) rfl (by decide +kernel) rfl)) ?_
  refine .nx (turnA h df ds F (by decide +kernel) s1 s2 (.part (i := 1) rfl (by decide +kernel) lookup_here) (.mk (i := 1) rfl (by decide +kernel) rfl)) ?_
  refine .nx (turnA h df ds F (by decide +kernel) s1 s2 (.part (i := 2) rfl (by decide +kernel) lookup_here) (.mk (i := 2) rfl (by decide +kernel) rfl)) ?_
  refine .nx (turnA h df ds F (by decide +kernel) s1 s2 (.part (i := 3) rfl (by decide +kernel) lookup_here) (.mk (i := 3) rfl (by decide +kernel) rfl)) ?_
  refine .nx (turnA h df ds F (by decide +kernel) s1 s2 (.part (i := 4) rfl (by decide +kernel) lookup_here) (.mk (i := 4) rfl (by decide +kernel) rfl)) ?_
  refine .nx (turnA h df ds F (by decide +kernel) s1 s2 (.part (i := 5) rfl (by decide +kernel) lookup_here) (.mk (i := 5) rfl (by decide +kernel) rfl)) ?_
  refine .nx (turnA h df ds F (by decide +kernel) s1 s2 (.part (i := 6) rfl (by decide +kernel) lookup_here) (.mk (i := 6) rfl (by decide +kernel) rfl)) ?_
  refine .nx (turnA h df ds F (by decide +kernel) s1 s2 (.part (i := 7) rfl (by decide +kernel) lookup_here) (.mk (i := 7) rfl (by decide +kernel) rfl)) ?_
  refine .nx (turnA h df ds F (by decide +kernel) s1 s2 (.part (i := 8) rfl (by decide +kernel) lookup_here) (.mk (i := 8) rfl (by decide +kernel) rfl)) ?_
  refine .nx (turnA h df ds F (by decide +kernel) s1 s2 (.part (i := 9) rfl (by decide +kernel) lookup_here) (.mk (i := 9) rfl (by decide +kernel) rfl)) ?_
  refine .nx (turnA h df ds F (by decide +kernel) s1 s2 (.part (i := 10) rfl (by decide +kernel) lookup_here) (.mk (i := 10) rfl (by decide +kernel) rfl)) ?_
  refine .nx (turnA h df ds F (by decide +kernel) s1 s2 (.part (i := 11) rfl (by decide +kernel) lookup_here) (.mk (i := 11) rfl (by decide +kernel) rfl)) ?_
  refine .nx (turnA h df ds F (by decide +kernel) s1 s2 (.part (i := 12) rfl (by decide +kernel) lookup_here) (.mk (i := 12) rfl (by decide +kernel) rfl)) ?_
  refine .nx (turnA h df ds F (by decide +kernel) s1 s2 (.part (i := 13) rfl (by decide +kernel) lookup_here) (.mk (i := 13) rfl (by decide +kernel) rfl)) ?_
  refine .nx (turnA h df ds F (by decide +kernel) s1 s2 (.part (i := 14) rfl (by decide +kernel) lookup_here) (.mk (i := 14) rfl (by decide +kernel) rfl)) ?_
  refine .nx (turnA h df ds F (by decide +kernel) s1 s2 (.part (i := 15) rfl (by decide +kernel) lookup_here) (.mk (i := 15) rfl (by decide +kernel) rfl)) ?_
  refine .nx (turnA h df ds F (by decide +kernel) s1 s2 (.part (i := 16) rfl (by decide +kernel) lookup_here) (.mk (i := 16) rfl (by decide +kernel) rfl)) ?_
  refine .nx (turnA h df ds F (by decide +kernel) s1 s2 (.part (i := 17) rfl (by decide +kernel) lookup_here) (.mk (i := 17) rfl (by decide +kernel) rfl)) ?_
  refine .nx (turnA h df ds F (by decide +kernel) s1 s2 (.part (i := 18) rfl (by decide +kernel) lookup_here) (.mk (i := 18) rfl (by decide +kernel) rfl)) ?_
  refine .nx (turnA h df ds F (by decide +kernel) s1 s2 (.part (i := 19) rfl (by decide +kernel) lookup_here) (.mk (i := 19) rfl (by decide +kernel) rfl)) ?_
  refine .nx (turnA h df ds F (by decide +kernel) s1 s2 (.part (i := 20) rfl (by decide +kernel) lookup_here) (.mk (i := 20) rfl (by decide +kernel) rfl)) ?_
  refine .nx (turnA h df ds F (by decide +kernel) s1 s2 (.part (i := 21) rfl (by decide +kernel) lookup_here) (.mk (i := 21) rfl (by decide +kernel) rfl)) ?_
  refine .nx (turnA h df ds F (by decide +kernel) s1 s2 (.name (i := 22) rfl (by decide +kernel) (by decide +kernel) lookup_here) (.mk (i := 22) rfl (by decide +kernel) rfl)) ?_
  refine .nx (turnA h df ds F (by decide +kernel) s1 s2 (.name (i := 23) rfl (by decide +kernel) (by decide +kernel) lookup_here) (.mk (i := 23) rfl (by decide +kernel) rfl)) ?_
  refine .nx (turnA h df ds F (by decide +kernel) s1 s2 (.name (i := 24) rfl (by decide +kernel) (by decide +kernel) lookup_here) (.mk (i := 24) rfl (by decide +kernel) rfl)) ?_
  refine .nx (turnA h df ds F (by decide +kernel) s1 s2 (.name (i := 25) rfl (by decide +kernel) (by decide +kernel) lookup_here) (.mk (i := 25) rfl (by decide +kernel) rfl)) ?_
  refine .nx (turnA h df ds F (by decide +kernel) s1 s2 (.name (i := 26) rfl (by decide +kernel) (by decide +kernel) lookup_here) (.mk (i := 26) rfl (by decide +kernel) rfl)) ?_
  refine .nx (turnA h df ds F (by decide +kernel) s1 s2 (.number (i := 27) rfl rfl lookup_here) (.mk (i := 27) rfl (by decide +kernel) rfl)) ?_
  refine .nx (turnA h df ds F (by decide +kernel) s1 s2 (.word (i := 28) rfl rfl lookup_here) (.mk (i := 28) rfl (by decide +kernel) rfl)) ?_
  refine .nx (turnB h df ds F (by decide +kernel) (by decide +kernel) s1 s2 (.pair (i := 29) rfl (by decide +kernel) (by decide +kernel) (lookup_next (by decide +kernel) lookup_here) lookup_here) (.mk (i := 29) rfl (by decide +kernel) rfl)) ?_
  refine .nx (turnB h df ds F (by decide +kernel) (by decide +kernel) s1 s2 (.pair (i := 30) rfl (by decide +kernel) (by decide +kernel) (lookup_next (by decide +kernel) lookup_here) lookup_here) (.mk (i := 30) rfl (by decide +kernel) rfl)) ?_
  refine .nx (turnB h df ds F (by decide +kernel) (by decide +kernel) s1 s2 (.pair (i := 31) rfl (by decide +kernel) (by decide +kernel) (lookup_next (by decide +kernel) lookup_here) lookup_here) (.mk (i := 31) rfl (by decide +kernel) rfl)) ?_
  refine .nx (turnB h df ds F (by decide +kernel) (by decide +kernel) s1 s2 (.most (i := 32) rfl rfl (lookup_next (by decide +kernel) lookup_here) lookup_here) (.mk (i := 32) rfl (by decide +kernel) rfl)) ?_
  refine .nx (turnB h df ds F (by decide +kernel) (by decide +kernel) s1 s2 (.txt (i := 33) rfl rfl (lookup_next (by decide +kernel) lookup_here) lookup_here) (.mk (i := 33) rfl (by decide +kernel) rfl)) ?_
  refine .nx (turnB h df ds F (by decide +kernel) (by decide +kernel) s1 s2 (.lin (i := 34) rfl rfl (lookup_next (by decide +kernel) lookup_here) lookup_here) (.mk (i := 34) rfl (by decide +kernel) rfl)) ?_
  refine .nx (turnC h df ds F rfl s1 s2 (.none rfl) (.mk (i := 35) rfl (by decide +kernel) rfl)) ?_
  exact .nil _
theorem w_all (h : Hd W) (df : DefOk W (Str.ofString "_law_fields") 1 ctFields) (ds : DefOk W (Str.ofString "_law_stands_right") 2 ctStands) (F : Fr W 2 lAllRight X Z) (s1 : Shw (.lst [a])) (s2 : Shw (.lst [a, b])) :
    ∃ st', SSs X Z (defBody sAllRight) (startS nAllRight [.val (.lst [a, b]), .val (.lst (madeL a b))]) (.rt (.val (.bl true)) st') ∧ outsB 0 [.val (.lst [a, b]), .val (.lst (madeL a b))] st' [] := by
  have q := all_for h df ds F s1 s2 (m := .lst (madeL a b))
  have blt := h.blt
  have sm := h.sm
  have rd := rdAllRight
  have wr := wrAllRight
  have gl := glAllRight
  have loop : SS X Z (match sAllRight with
    | .FunctionDef _ _ [s, _] _ _ _ _ _ _ _ => s
    | _ => .Pass default) [some (.val (.lst [a, b])), some (.val (.lst (madeL a b))), none, none, none] (.nx [some (.val (.lst [a, b])), some (.val (.lst (madeL a b))), some (.val (.int 35)), some (.val (.err (Str.ofString "Nothing") [])), some (.val (.lst []))]) := by
    exact p_for F rfl (p_enum F (gl_at (i := 0) gl rfl) (blt 10 _ rfl) (by kernel_rfl) (sa_cons (p_var (i := 1) F (rd_at rd rfl) rfl) sa_nil (by kernel_rfl)) rfl) q (fun x => rfl)
  clear h
  (refine ex_ofS (st0 := [(some (.val _)), (some (.val _)), none, none, none]) rfl (PV.sss_cons loop (PV.sss_out (PV.ss_ret (PV.e_cmp (PV.p_callB (id := "len") F (PV.gl_at (i := 4) gl rfl) (blt 12 _ rfl) (by kernel_rfl) (by kernel_rfl) (PV.sa_cons (PV.p_var (i := 1) F (PV.rd_at rd rfl) rfl) PV.sa_nil (by kernel_rfl)) (PV.c_len (m := 36) (by kernel_rfl))) PV.se_int (by kernel_rfl) (PV.q_eqI (b := true) F (by kernel_rfl)))) (by kernel_rfl))) rfl ?_; repeat' first | exact trivial | refine ⟨⟨_, rfl, rfl⟩, ?_⟩)
end
end K0



set_option Elab.async false
set_option linter.all false
set_option maxRecDepth 100000
set_option maxHeartbeats 8000000
namespace K0
open PySem L2 PyProof.Rows PV
/-! the jug -/
def jugStep (w c : Int) : Int := w * 1229 + (if c < 0 then -c else c).fmod 10000000000000000000000000000000000000000 + 100000000000000000000000000000000000000000 * (if decide (c < 0) = true then 1 else 0)
def jugF (cs : List Int) : Int := (cs.take 40).foldl jugStep 71
inductive ctJug : Ct
  | mk {cs : List Int} : ctJug [.val (.lst (cs.map .int))] (.own (.lst [.int (jugF cs), .int 0])) []
theorem cutD_take (ds : List D) (k : Nat) : PV.cutD ds none (some (k : Int)) = ds.take k := by
  unfold PV.cutD
  rw [HT.sIx_none, HT.sIx_nat, List.drop_zero]
  rw [Nat.sub_zero]
  by_cases h : k ≤ ds.length
  · rw [Nat.min_eq_left h]
  · rw [Nat.min_eq_right (by omega), List.take_of_length_le (Nat.le_refl _), List.take_of_length_le (by omega)]
theorem lt_log {n m : Nat} (h : n < 2 ^ m) (hm : 0 < m) : n.log2 < m := by
  by_cases z : n = 0
  · subst z
    simpa using hm
  · exact (Nat.log2_lt z).mpr h
theorem step_bound {w c : Int} {m : Nat} (hm : 140 ≤ m) (h : w.natAbs < 2 ^ m) : (jugStep w c).natAbs < 2 ^ (m + 12) := by
  have h1 := Int.fmod_nonneg_of_pos (if c < 0 then -c else c) (b := 10000000000000000000000000000000000000000) (by decide)
  have h2 := Int.fmod_lt_of_pos (if c < 0 then -c else c) (b := 10000000000000000000000000000000000000000) (by decide)
  have h3 : (2 : Nat) ^ 140 ≤ 2 ^ m := Nat.pow_le_pow_right (by decide) hm
  have h4 : (2 : Nat) ^ (m + 12) = 4096 * 2 ^ m := by rw [Nat.pow_add]; omega
  have h5 : (1393796574908163946345982392040522594123776 : Nat) = 2 ^ 140 := by decide
  rw [h4]
  unfold jugStep
  generalize (if c < 0 then -c else c).fmod 10000000000000000000000000000000000000000 = x at h1 h2 ⊢
  generalize (2 : Nat) ^ m = M at h h3 ⊢
  generalize (2 : Nat) ^ 140 = T at h3 h5
  split <;> omega
abbrev tgJug : Expr := match sJug with
  | .FunctionDef _ _ [_, .For tg _ _ _ _, _] _ _ _ _ _ _ _ => tg
  | _ => .Constant .none 0 default
abbrev bdJug : List Stmt := match sJug with
  | .FunctionDef _ _ [_, .For _ _ bd _ _, _] _ _ _ _ _ _ _ => bd
  | _ => []
section
variable {W : Wd} {X : Cx} {Z : PV.Env0} {k : Nat} {a b : D}
theorem turn_jug (h : Hd W) (F : Fr W 0 lJug X Z) {s : D} {w c : Int} {s3 : Option Slot} {m : Nat} (hm0 : 140 ≤ m) (hm : m ≤ 900000) (hw : w.natAbs < 2 ^ m) :
    TurnS X Z tgJug bdJug (.int c) [some (.val s), some (.val (.int w)), s3] (.nx [some (.val s), some (.val (.int (jugStep w c))), some (.val (.int c))]) := by
  have h1 : CMulW w 1229 := by
    have q := lt_log hw (by omega)
    have q2 : (1229 : Int).natAbs.log2 = 10 := by decide +kernel
    unfold CMulW
    rw [q2]
    omega
  have h2 : CMulW 100000000000000000000000000000000000000000 (if decide (c < 0) = true then 1 else 0) := by
    unfold CMulW
    split <;> decide +kernel
  have blt := h.blt
  have rd := rdJug
  have wr := wrJug
  have gl := glJug
  clear h
  exact (PV.p_turn (PV.p_gname (st' := [(some (.val _)), (some (.val _)), (some (.val _))]) (i := 2) F (PV.wr_at wr rfl (by kernel_rfl)) (by kernel_rfl) rfl) (PV.sss_cons (PV.p_set (st' := [(some (.val _)), (some (.val _)), (some (.val _))]) (i := 1) (s := (.val _)) F (PV.wr_at wr rfl (by kernel_rfl)) (PV.se_bin (PV.se_bin (PV.se_bin (PV.p_var (i := 1) F (PV.rd_at rd rfl) rfl) PV.se_int (PV.q_mul (m := _) h1 rfl)) (PV.se_bin (PV.p_callB (id := "abs") F (PV.gl_at (i := 0) gl rfl) (blt 6 _ rfl) (by kernel_rfl) (by kernel_rfl) (PV.sa_cons (PV.p_callTy (T := "int") F (PV.gl_at (i := 1) gl rfl) (blt 7 _ rfl) (by kernel_rfl) (by kernel_rfl) (PV.sa_cons (PV.p_var (i := 2) F (PV.rd_at rd rfl) rfl) PV.sa_nil (by kernel_rfl)) PV.co_int) PV.sa_nil (by kernel_rfl)) (PV.c_abs (m := _) rfl)) (PV.se_bin PV.se_int PV.se_int (PV.q_pow (m := 10000000000000000000000000000000000000000) (n := 40) (by decide +kernel) (by kernel_rfl) (by kernel_rfl))) (PV.q_mod (m := _) (by decide +kernel) rfl)) (PV.q_add (m := _) rfl)) (PV.se_bin (PV.se_bin PV.se_int PV.se_int (PV.q_pow (m := 100000000000000000000000000000000000000000) (n := 41) (by decide +kernel) (by kernel_rfl) (by kernel_rfl))) (PV.p_callTy (T := "int") F (PV.gl_at (i := 1) gl rfl) (blt 7 _ rfl) (by kernel_rfl) (by kernel_rfl) (PV.sa_cons (PV.e_cmp (PV.p_var (i := 2) F (PV.rd_at rd rfl) rfl) PV.se_int (by kernel_rfl) (PV.q_lt (b := _) rfl)) PV.sa_nil (by kernel_rfl)) (PV.c_intB (m := _) rfl)) (PV.q_mul (m := _) h2 rfl)) (PV.q_add (m := _) rfl)) (by kernel_rfl) (by kernel_rfl) (by kernel_rfl) rfl rfl) PV.sss_nil))
theorem jug_for (h : Hd W) (F : Fr W 0 lJug X Z) {s : D} : ∀ (cs : List Int) (w : Int) (s3 : Option Slot) (m : Nat), 140 ≤ m → m + 12 * cs.length ≤ 900000 → w.natAbs < 2 ^ m →
    ∃ s3', ForR (TurnS X Z tgJug bdJug) (cs.map .int) [some (.val s), some (.val (.int w)), s3] (.nx [some (.val s), some (.val (.int (cs.foldl jugStep w))), s3'])
  | [], w, s3, m, _, _, _ => ⟨s3, .nil _⟩
  | c :: cs, w, s3, m, h0, h1, h2 => by
    rw [List.length_cons] at h1
    obtain ⟨s3', q⟩ := jug_for h F (s := s) cs (jugStep w c) (some (.val (.int c))) (m + 12) (by omega) (by omega) (step_bound h0 h2)
    exact ⟨s3', .nx (turn_jug h F h0 (by omega) h2) q⟩
theorem w_jug (h : Hd W) (F : Fr W 0 lJug X Z) {cs : List Int} :
    ∃ st', SSs X Z (defBody sJug) (startS nJug [.val (.lst (cs.map .int))]) (.rt (.own (.lst [.int (jugF cs), .int 0])) st') ∧ outsB 0 [.val (.lst (cs.map .int))] st' [] := by
  obtain ⟨s3', q⟩ := jug_for h F (s := .lst (cs.map .int)) (cs.take 40) 71 none 140 (Nat.le_refl _) (by
    have := List.length_take_le 40 cs
    omega) (by decide +kernel)
  have rd := rdJug
  have wr := wrJug
  have gl := glJug
  have loop : SS X Z (match sJug with
    | .FunctionDef _ _ [_, s, _] _ _ _ _ _ _ _ => s
    | _ => .Pass default) [some (.val (.lst (cs.map .int))), some (.val (.int 71)), none] (.nx [some (.val (.lst (cs.map .int))), some (.val (.int (jugF cs))), s3']) := by
    refine p_for F rfl (si_list (p_frz (e_slL (p_var (i := 0) F (by decide +kernel) rfl) so_none (so_some se_int) rfl) rfl rfl)) ?_ (fun x => rfl)
    show ForR _ (PV.cutD (cs.map .int) none (some ((40 : Nat) : Int))) _ _
    rw [cutD_take, ← List.map_take]
    exact q
  clear h
  (refine ex_ofS (st0 := [(some (.val _)), none, none]) rfl (PV.sss_cons (PV.p_set (st' := [(some (.val _)), (some (.val _)), none]) (i := 1) (s := (.val _)) F (PV.wr_at wr rfl (by kernel_rfl)) PV.se_int (by kernel_rfl) (by kernel_rfl) (by kernel_rfl) rfl rfl) (PV.sss_cons loop (PV.sss_out (PV.ss_ret (PV.se_lst (PV.sa_cons (PV.p_var (i := 1) F (PV.rd_at rd rfl) rfl) (PV.sa_cons PV.se_int PV.sa_nil (by kernel_rfl)) (by kernel_rfl)) (Nat.le_of_ble_eq_true (by kernel_rfl)))) (by kernel_rfl)))) rfl ?_; repeat' first | exact trivial | refine ⟨⟨_, rfl, rfl⟩, ?_⟩)
end
/-! pouring -/
def pourN (n k : Int) : Int := if n = 0 then ((1009 * (k + 1) + 3541) ^ 13).fdiv 7 else n
def pourK (n k : Int) : Int := if n = 0 then k + 1 else k
inductive ctPour : Ct
  | mk {n k m : Int} (h0 : 0 ≤ k) (h1 : k ≤ 1000) (hm : CDivG 1 m) : ctPour [.own (.lst [.int n, .int k]), .val (.int m)] (.val (.int ((pourN n k).fmod m))) [.own (.lst [.int ((pourN n k).fdiv m), .int (pourK n k)]), .val .non]
section
variable {W : Wd} {X : Cx} {Z : PV.Env0} {k : Nat} {a b : D}
theorem w_pour (F : Fr W 0 lPour X Z) : ∀ sl r outs, ctPour sl r outs → ∃ st', SSs X Z (defBody sPour) (startS nPour sl) (.rt r st') ∧ outsB 0 sl st' outs := by
  intro sl r outs c
  cases c with
  | mk h0 h1 hm =>
    rename_i n k m
    have hm0 : m ≠ 0 := hm.1
    have rd := rdPour
    have wr := wrPour
    by_cases hn : n = 0
    · subst hn
      have e1 : pourN 0 k = ((1009 * (k + 1) + 3541) ^ 13).fdiv 7 := rfl
      have e2 : pourK 0 k = k + 1 := rfl
      rw [e1, e2]
      have c1 : CMulW 1009 (k + 1) := by
        have q := lt_log (n := (k + 1).natAbs) (m := 20) (by omega) (by decide)
        have q2 : (1009 : Int).natAbs.log2 = 9 := by decide +kernel
        unfold CMulW
        rw [q2]
        omega
      have c2 : CPow (1009 * (k + 1) + 3541) 13 := ⟨by decide, by decide, by
        have e : (2 : Nat) ^ 64 = 18446744073709551616 := by decide
        rw [e]
        omega⟩
      have c3 : CDivG ((1009 * (k + 1) + 3541) ^ 13) 7 := ⟨by decide, by decide +kernel⟩
      have c4 : CDivG (((1009 * (k + 1) + 3541) ^ 13).fdiv 7) m := hm
      (refine ex_ofS (st0 := [(some (.own _)), (some (.val _)), none]) rfl (PV.sss_cons (PV.s_ifT (PV.t_cmp (PV.p_ixO (i := 0) F (PV.rd_at rd rfl) rfl PV.se_int rfl (by kernel_rfl) rfl) PV.se_int (by kernel_rfl) (PV.q_eqI (b := true) F (by kernel_rfl))) (by kernel_rfl) (PV.sss_cons (PV.p_setIx (st' := [(some (.own _)), (some (.val _)), none]) (i := 0) (j := _) F (PV.rd_at rd rfl) (PV.se_bin (PV.p_ixO (i := 0) F (PV.rd_at rd rfl) rfl PV.se_int rfl (by kernel_rfl) rfl) PV.se_int (PV.q_add (m := _) rfl)) rfl PV.se_int rfl rfl (by kernel_rfl) (by kernel_rfl) (by kernel_rfl) rfl) (PV.sss_cons (PV.p_setIx (st' := [(some (.own _)), (some (.val _)), none]) (i := 0) (j := _) F (PV.rd_at rd rfl) (PV.se_bin (PV.se_bin (PV.se_bin (PV.se_bin PV.se_int (PV.p_ixO (i := 0) F (PV.rd_at rd rfl) rfl PV.se_int rfl (by kernel_rfl) rfl) (PV.q_mul (m := _) c1 rfl)) PV.se_int (PV.q_add (m := _) rfl)) PV.se_int (PV.q_pow (m := _) (n := 13) c2 (by kernel_rfl) rfl)) PV.se_int (PV.q_fdiv (m := _) c3 rfl)) rfl PV.se_int rfl rfl (by kernel_rfl) (by kernel_rfl) (by kernel_rfl) rfl) PV.sss_nil))) (PV.sss_cons (PV.p_set (st' := [(some (.own _)), (some (.val _)), (some (.val _))]) (i := 2) (s := (.val _)) F (PV.wr_at wr rfl (by kernel_rfl)) (PV.p_ixO (i := 0) F (PV.rd_at rd rfl) rfl PV.se_int rfl (by kernel_rfl) rfl) (by kernel_rfl) (by kernel_rfl) (by kernel_rfl) rfl rfl) (PV.sss_cons (PV.p_setIx (st' := [(some (.own _)), (some (.val _)), (some (.val _))]) (i := 0) (j := _) F (PV.rd_at rd rfl) (PV.se_bin (PV.p_var (i := 2) F (PV.rd_at rd rfl) rfl) (PV.p_var (i := 1) F (PV.rd_at rd rfl) rfl) (PV.q_fdiv (m := _) c4 rfl)) rfl PV.se_int rfl rfl (by kernel_rfl) (by kernel_rfl) (by kernel_rfl) rfl) (PV.sss_out (PV.ss_ret (PV.se_bin (PV.p_var (i := 2) F (PV.rd_at rd rfl) rfl) (PV.p_var (i := 1) F (PV.rd_at rd rfl) rfl) (PV.q_mod (m := _) hm0 rfl))) (by kernel_rfl))))) rfl ?_; repeat' first | exact trivial | refine ⟨⟨_, rfl, rfl⟩, ?_⟩)
    · have e1 : pourN n k = n := if_neg hn
      have e2 : pourK n k = k := if_neg hn
      rw [e1, e2]
      have c4 : CDivG n m := hm
      (refine ex_ofS (st0 := [(some (.own _)), (some (.val _)), none]) rfl (PV.sss_cons (PV.s_ifF (PV.t_cmp (PV.p_ixO (i := 0) F (PV.rd_at rd rfl) rfl PV.se_int rfl (by kernel_rfl) rfl) PV.se_int (by kernel_rfl) (PV.q_eqI (b := _) F rfl)) (decide_eq_false (by first | with_reducible assumption | omega | (simp_all; done))) PV.sss_nil) (PV.sss_cons (PV.p_set (st' := [(some (.own _)), (some (.val _)), (some (.val _))]) (i := 2) (s := (.val _)) F (PV.wr_at wr rfl (by kernel_rfl)) (PV.p_ixO (i := 0) F (PV.rd_at rd rfl) rfl PV.se_int rfl (by kernel_rfl) rfl) (by kernel_rfl) (by kernel_rfl) (by kernel_rfl) rfl rfl) (PV.sss_cons (PV.p_setIx (st' := [(some (.own _)), (some (.val _)), (some (.val _))]) (i := 0) (j := _) F (PV.rd_at rd rfl) (PV.se_bin (PV.p_var (i := 2) F (PV.rd_at rd rfl) rfl) (PV.p_var (i := 1) F (PV.rd_at rd rfl) rfl) (PV.q_fdiv (m := _) c4 rfl)) rfl PV.se_int rfl rfl (by kernel_rfl) (by kernel_rfl) (by kernel_rfl) rfl) (PV.sss_out (PV.ss_ret (PV.se_bin (PV.p_var (i := 2) F (PV.rd_at rd rfl) rfl) (PV.p_var (i := 1) F (PV.rd_at rd rfl) rfl) (PV.q_mod (m := _) hm0 rfl))) (by kernel_rfl))))) rfl ?_; repeat' first | exact trivial | refine ⟨⟨_, rfl, rfl⟩, ?_⟩)
end
end K0



set_option Elab.async false
set_option linter.all false
set_option maxRecDepth 100000
set_option maxHeartbeats 8000000
namespace K0
open PySem L2 PyProof.Rows PV
abbrev E50 : Int := 100000000000000000000000000000000000000000000000000
abbrev plainL (num : Int) : List D := [.non, .bl true, .int num, .str (Str.ofString "part"), .str (Str.ofString ""), .tup [.int 1, .str (Str.ofString "one.a")], .lst [.int num], .dct [(Sum.inr (Str.ofString "one.b"), .lst [.int 1])], .bl false, .int 0, .str (Str.ofString "one.a")]
abbrev qr (n k m : Int) : Int := (pourN n k).fmod m
abbrev qn (n k m : Int) : Int := (pourN n k).fdiv m
inductive ctLaw : Ct
  | mk {cs : List Int} : ctLaw [.val (.lst (cs.map .int))] (.val (.bl true)) []
/-- what is known of a datum to be shown -/
structure Sm (d : D) : Prop where
  a : d.isPyD = true
  b : d.py.showable = true
  c : d.py.depth ≤ 10
  d : d.py.shown.length ≤ 3000
section
variable {W : Wd} {X : Cx} {Z : PV.Env0} {k : Nat} {a b : D}
theorem w_law1 (h : Hd W) (F : Fr W 3 lLaw X Z) {cs : List Int} {d1 d2 : D}
    (dj : DefOk W (Str.ofString "_law_jug") 1 ctJug) (dp : DefOk W (Str.ofString "_law_pour") 1 ctPour) (dk : DefOk W (Str.ofString "_law_kin") 1 ctKin)
    (da : DefOk W (Str.ofString "_law_parts") 3 ctParts) (da2 : DefOk W (Str.ofString "_law_parts_turned") 3 ctParts) (dt : DefOk W (Str.ofString "_law_others") 3 ctOthers) (dt2 : DefOk W (Str.ofString "_law_others_named") 3 ctOthers)
    (dl : DefOk W (Str.ofString "_law_all_right") 3 ctAll)
    (b1 : 0 ≤ pourK (jugF cs) 0) (c1 : pourK (jugF cs) 0 ≤ 1000) (b2 : 0 ≤ pourK (qn (jugF cs) 0 2) (pourK (jugF cs) 0)) (c2 : pourK (qn (jugF cs) 0 2) (pourK (jugF cs) 0) ≤ 1000)
    (b3 : 0 ≤ pourK (qn (qn (jugF cs) 0 2) (pourK (jugF cs) 0) E50) (pourK (qn (jugF cs) 0 2) (pourK (jugF cs) 0))) (c3 : pourK (qn (qn (jugF cs) 0 2) (pourK (jugF cs) 0) E50) (pourK (qn (jugF cs) 0 2) (pourK (jugF cs) 0)) ≤ 1000)
    (m1 : CMulW 2 (qr (jugF cs) 0 2)) (m2 : CMulW (2 * qr (jugF cs) 0 2 - 1) (qr (qn (jugF cs) 0 2) (pourK (jugF cs) 0) E50))
    (p1 : atI (plainL ((2 * qr (jugF cs) 0 2 - 1) * qr (qn (jugF cs) 0 2) (pourK (jugF cs) 0) E50)) (qr (qn (qn (jugF cs) 0 2) (pourK (jugF cs) 0) E50) (pourK (qn (jugF cs) 0 2) (pourK (jugF cs) 0)) 11) = some d1)
    (p2 : atI (plainL ((2 * qr (jugF cs) 0 2 - 1) * qr (qn (jugF cs) 0 2) (pourK (jugF cs) 0) E50)) (qr (qn (qn (qn (jugF cs) 0 2) (pourK (jugF cs) 0) E50) (pourK (qn (jugF cs) 0 2) (pourK (jugF cs) 0)) 11)
      (pourK (qn (qn (jugF cs) 0 2) (pourK (jugF cs) 0) E50) (pourK (qn (jugF cs) 0 2) (pourK (jugF cs) 0))) 11) = some d2)
    (s1 : Shw (.lst [d1])) (s2 : Shw (.lst [d1, d2])) (t1 : Shw d1) (t2 : Shw d2) :
    ∃ st', SSs X Z (defBody sLaw) (startS nLaw [.val (.lst (cs.map .int))]) (.rt (.val (.bl true)) st') ∧ outsB 0 [.val (.lst (cs.map .int))] st' [] := by
  obtain ⟨u1, u2, u3, u4⟩ := t1
  obtain ⟨v1, v2, v3, v4⟩ := t2
  have cls := h.cls
  have blt := h.blt
  have err := h.err
  have err0 := h.err0
  have fld := h.fld
  have isi := h.isi
  have isT := h.isT
  have sm := h.sm
  have rd := rdLaw
  have wr := wrLaw
  have gl := glLaw
  clear h
  (refine ex_ofS (st0 := [(some (.val _)), none, none, none, none, none, none, none]) rfl (PV.sss_cons (PV.p_set (st' := [(some (.val _)), (some (.own _)), none, none, none, none, none, none]) (i := 1) (s := (.own _)) F (PV.wr_at wr rfl (by kernel_rfl)) (PV.p_call (st' := [(some (.val _)), none, none, none, none, none, none, none]) (sl := [(.val _)]) F (PV.gl_at (i := 0) gl rfl) dj (by kernel_rfl) (by kernel_rfl) (PV.sa'_val (PV.p_var (i := 0) F (PV.rd_at rd rfl) rfl) PV.sa'_nil (by kernel_rfl)) rfl K0.ctJug.mk (by kernel_rfl) (by kernel_rfl) (by kernel_rfl) rfl) (by kernel_rfl) (by kernel_rfl) (by kernel_rfl) rfl rfl) (PV.sss_cons (PV.p_set (st' := [(some (.val _)), (some (.own _)), (some (.val _)), none, none, none, none, none]) (i := 2) (s := (.val _)) F (PV.wr_at wr rfl (by kernel_rfl)) (PV.se_bin (PV.se_bin (PV.se_bin PV.se_int (PV.p_call (st' := [(some (.val _)), (some (.own _)), none, none, none, none, none, none]) (sl := [(.own _), (.val _)]) F (PV.gl_at (i := 1) gl rfl) dp (by kernel_rfl) (by kernel_rfl) (PV.p_arf (i := 1) F (PV.rd_at rd rfl) rfl (PV.sa'_val PV.se_int PV.sa'_nil (by kernel_rfl))) rfl (K0.ctPour.mk (k := 0) (m := 2) (by decide +kernel) (by decide +kernel) (by decide +kernel)) (by kernel_rfl) (by kernel_rfl) (by kernel_rfl) rfl) (PV.q_mul (m := _) m1 rfl)) PV.se_int (PV.q_sub (m := _) rfl)) (PV.p_call (st' := [(some (.val _)), (some (.own _)), none, none, none, none, none, none]) (sl := [(.own _), (.val _)]) F (PV.gl_at (i := 1) gl rfl) dp (by kernel_rfl) (by kernel_rfl) (PV.p_arf (i := 1) F (PV.rd_at rd rfl) rfl (PV.sa'_val (PV.se_bin PV.se_int PV.se_int (PV.q_pow (m := 100000000000000000000000000000000000000000000000000) (n := 50) (by decide +kernel) (by kernel_rfl) (by kernel_rfl))) PV.sa'_nil (by kernel_rfl))) rfl (K0.ctPour.mk (m := 100000000000000000000000000000000000000000000000000) b1 c1 (by decide +kernel)) (by kernel_rfl) (by kernel_rfl) (by kernel_rfl) rfl) (PV.q_mul (m := _) m2 rfl)) (by kernel_rfl) (by kernel_rfl) (by kernel_rfl) rfl rfl) (PV.sss_cons (PV.p_set (st' := [(some (.val _)), (some (.own _)), (some (.val _)), (some (.own _)), none, none, none, none]) (i := 3) (s := (.own _)) F (PV.wr_at wr rfl (by kernel_rfl)) (PV.se_lst (PV.sa_cons PV.se_non (PV.sa_cons PV.se_bl (PV.sa_cons (PV.p_var (i := 2) F (PV.rd_at rd rfl) rfl) (PV.sa_cons PV.se_str (PV.sa_cons PV.se_str (PV.sa_cons (PV.se_tup (PV.sa_cons PV.se_int (PV.sa_cons PV.se_str PV.sa_nil (by kernel_rfl)) (by kernel_rfl)) (Nat.le_of_ble_eq_true (by kernel_rfl))) (PV.sa_cons (PV.p_frz (d := (.lst _)) (PV.se_lst (PV.sa_cons (PV.p_var (i := 2) F (PV.rd_at rd rfl) rfl) PV.sa_nil (by kernel_rfl)) (Nat.le_of_ble_eq_true (by kernel_rfl))) (by kernel_rfl) rfl) (PV.sa_cons (PV.p_frz (d := (.dct _)) (PV.e_dct (m := [(_, (.lst [(.int 1)]))]) (PV.KeysAre.cons PV.KeysAre.nil) (by kernel_rfl) (by kernel_rfl) (by kernel_rfl) F (fun v69081353 => (fun v57135703 => (PV.SEs.cons (PV.p_frz (d := (.lst _)) (PV.se_lst (PV.sa_cons PV.se_int PV.sa_nil (by kernel_rfl)) (Nat.le_of_ble_eq_true (by kernel_rfl))) (by kernel_rfl) rfl) (PV.SEs.nil _)))) rfl) (by kernel_rfl) rfl) (PV.sa_cons PV.se_bl (PV.sa_cons PV.se_int (PV.sa_cons PV.se_str PV.sa_nil (by kernel_rfl)) (by kernel_rfl)) (by kernel_rfl)) (by kernel_rfl)) (by kernel_rfl)) (by kernel_rfl)) (by kernel_rfl)) (by kernel_rfl)) (by kernel_rfl)) (by kernel_rfl)) (by kernel_rfl)) (Nat.le_of_ble_eq_true (by kernel_rfl))) (by kernel_rfl) (by kernel_rfl) (by kernel_rfl) rfl rfl) (PV.sss_cons (PV.p_set (st' := [(some (.val _)), (some (.own _)), (some (.val _)), (some (.own _)), (some (.own _)), none, none, none]) (i := 4) (s := (.own _)) F (PV.wr_at wr rfl (by kernel_rfl)) (PV.se_lst (PV.sa_cons (PV.p_ixO (i := 3) F (PV.rd_at rd rfl) rfl (PV.p_call (st' := [(some (.val _)), (some (.own _)), (some (.val _)), (some (.own _)), none, none, none, none]) (sl := [(.own _), (.val _)]) F (PV.gl_at (i := 1) gl rfl) dp (by kernel_rfl) (by kernel_rfl) (PV.p_arf (i := 1) F (PV.rd_at rd rfl) rfl (PV.sa'_val PV.se_int PV.sa'_nil (by kernel_rfl))) rfl (K0.ctPour.mk (m := 11) b2 c2 (by decide +kernel)) (by kernel_rfl) (by kernel_rfl) (by kernel_rfl) rfl) rfl (by kernel_rfl) p1) (PV.sa_cons (PV.p_ixO (i := 3) F (PV.rd_at rd rfl) rfl (PV.p_call (st' := [(some (.val _)), (some (.own _)), (some (.val _)), (some (.own _)), none, none, none, none]) (sl := [(.own _), (.val _)]) F (PV.gl_at (i := 1) gl rfl) dp (by kernel_rfl) (by kernel_rfl) (PV.p_arf (i := 1) F (PV.rd_at rd rfl) rfl (PV.sa'_val PV.se_int PV.sa'_nil (by kernel_rfl))) rfl (K0.ctPour.mk (m := 11) b3 c3 (by decide +kernel)) (by kernel_rfl) (by kernel_rfl) (by kernel_rfl) rfl) rfl (by kernel_rfl) p2) PV.sa_nil (by kernel_rfl)) (by kernel_rfl)) (Nat.le_of_ble_eq_true (by kernel_rfl))) (by kernel_rfl) (by kernel_rfl) (by kernel_rfl) rfl rfl) (PV.sss_cons (PV.p_par2 (st' := [(some (.val _)), (some (.own _)), (some (.val _)), (some (.own _)), (some (.own _)), (some (.val _)), (some (.val _)), none]) (i := 5) (j := 6) F (by kernel_rfl) (by kernel_rfl) (by kernel_rfl) (PV.sa_cons (PV.p_ixO (i := 4) F (PV.rd_at rd rfl) rfl PV.se_int rfl (by kernel_rfl) rfl) (PV.sa_cons (PV.p_ixO (i := 4) F (PV.rd_at rd rfl) rfl PV.se_int rfl (by kernel_rfl) rfl) PV.sa_nil (by kernel_rfl)) (by kernel_rfl)) (by kernel_rfl) (by kernel_rfl) (by kernel_rfl) rfl) (PV.sss_cons (PV.s_ifF (PV.t_not (b' := false) (PV.t_truth (PV.p_call (st' := [(some (.val _)), (some (.own _)), (some (.val _)), (some (.own _)), (some (.val _)), (some (.val _)), (some (.val _)), none]) (sl := [(.val _), (.val _)]) F (PV.gl_at (i := 2) gl rfl) dl (by kernel_rfl) (by kernel_rfl) (PV.sa'_val (PV.p_varO (st' := [(some (.val _)), (some (.own _)), (some (.val _)), (some (.own _)), (some (.val _)), (some (.val _)), (some (.val _)), none]) (d := (.lst _)) (i := 4) F (PV.rd_at rd rfl) rfl (by kernel_rfl) rfl rfl) (PV.sa'_val (PV.p_frz (d := (.lst _)) (PV.se_bin (PV.p_call (st' := [(some (.val _)), (some (.own _)), (some (.val _)), (some (.own _)), (some (.val _)), (some (.val _)), (some (.val _)), none]) (sl := [(.val _)]) F (PV.gl_at (i := 3) gl rfl) da (by kernel_rfl) (by kernel_rfl) (PV.sa'_val (PV.p_var (i := 5) F (PV.rd_at rd rfl) rfl) PV.sa'_nil (by kernel_rfl)) rfl K0.ctParts.mk (by kernel_rfl) (by kernel_rfl) (by kernel_rfl) rfl) (PV.p_frz (d := (.lst _)) (PV.p_call (st' := [(some (.val _)), (some (.own _)), (some (.val _)), (some (.own _)), (some (.val _)), (some (.val _)), (some (.val _)), none]) (sl := [(.val _), (.val _)]) F (PV.gl_at (i := 4) gl rfl) dt (by kernel_rfl) (by kernel_rfl) (PV.sa'_val (PV.p_var (i := 5) F (PV.rd_at rd rfl) rfl) (PV.sa'_val (PV.p_var (i := 6) F (PV.rd_at rd rfl) rfl) PV.sa'_nil (by kernel_rfl)) (by kernel_rfl)) rfl K0.ctOthers.mk (by kernel_rfl) (by kernel_rfl) (by kernel_rfl) rfl) (by kernel_rfl) rfl) (PV.q_cat (zs := [_, _, _, _, _, _, _, _, _, _, _, _, _, _, _, _, _, _, _, _, _, _, _, _, _, _, _, _, _, _, _, _, _, _, _, _]) (Nat.le_of_ble_eq_true (by kernel_rfl)) rfl)) (by kernel_rfl) rfl) PV.sa'_nil (by kernel_rfl)) (by kernel_rfl)) rfl (K0.ctAll.mk s1 s2) (by kernel_rfl) (by kernel_rfl) (by kernel_rfl) rfl) (by kernel_rfl) rfl trivial) (by kernel_rfl)) (by kernel_rfl) PV.sss_nil) (PV.sss_cons (PV.s_ifF (PV.t_not (b' := false) (PV.t_truth (PV.p_call (st' := [(some (.val _)), (some (.own _)), (some (.val _)), (some (.own _)), (some (.val _)), (some (.val _)), (some (.val _)), none]) (sl := [(.val _), (.val _)]) F (PV.gl_at (i := 2) gl rfl) dl (by kernel_rfl) (by kernel_rfl) (PV.sa'_val (PV.p_var (i := 4) F (PV.rd_at rd rfl) rfl) (PV.sa'_val (PV.p_frz (d := (.lst _)) (PV.se_bin (PV.p_call (st' := [(some (.val _)), (some (.own _)), (some (.val _)), (some (.own _)), (some (.val _)), (some (.val _)), (some (.val _)), none]) (sl := [(.val _)]) F (PV.gl_at (i := 5) gl rfl) da2 (by kernel_rfl) (by kernel_rfl) (PV.sa'_val (PV.p_var (i := 5) F (PV.rd_at rd rfl) rfl) PV.sa'_nil (by kernel_rfl)) rfl K0.ctParts.mk (by kernel_rfl) (by kernel_rfl) (by kernel_rfl) rfl) (PV.p_frz (d := (.lst _)) (PV.p_call (st' := [(some (.val _)), (some (.own _)), (some (.val _)), (some (.own _)), (some (.val _)), (some (.val _)), (some (.val _)), none]) (sl := [(.val _), (.val _)]) F (PV.gl_at (i := 6) gl rfl) dt2 (by kernel_rfl) (by kernel_rfl) (PV.sa'_val (PV.p_var (i := 5) F (PV.rd_at rd rfl) rfl) (PV.sa'_val (PV.p_var (i := 6) F (PV.rd_at rd rfl) rfl) PV.sa'_nil (by kernel_rfl)) (by kernel_rfl)) rfl K0.ctOthers.mk (by kernel_rfl) (by kernel_rfl) (by kernel_rfl) rfl) (by kernel_rfl) rfl) (PV.q_cat (zs := [_, _, _, _, _, _, _, _, _, _, _, _, _, _, _, _, _, _, _, _, _, _, _, _, _, _, _, _, _, _, _, _, _, _, _, _]) (Nat.le_of_ble_eq_true (by kernel_rfl)) rfl)) (by kernel_rfl) rfl) PV.sa'_nil (by kernel_rfl)) (by kernel_rfl)) rfl (K0.ctAll.mk s1 s2) (by kernel_rfl) (by kernel_rfl) (by kernel_rfl) rfl) (by kernel_rfl) rfl trivial) (by kernel_rfl)) (by kernel_rfl) PV.sss_nil) (PV.sss_cons (PV.p_for F (by kernel_rfl) (PV.si_list (PV.p_frz (d := (.lst _)) (PV.se_lst (PV.sa_cons (PV.p_errP (gs := [(_, _)]) F (PV.gl_at (i := 7) gl rfl) (err 35 _ _ rfl) (by kernel_rfl) (by kernel_rfl) (PV.sa_cons (PV.p_var (i := 5) F (PV.rd_at rd rfl) rfl) PV.sa_nil (by kernel_rfl)) (by kernel_rfl) (by kernel_rfl) rfl) (PV.sa_cons (PV.p_errK (gs := [(_, _)]) F (PV.gl_at (i := 7) gl rfl) (err 35 _ _ rfl) (by kernel_rfl) (by kernel_rfl) (PV.sk_cons (PV.p_var (i := 5) F (PV.rd_at rd rfl) rfl) PV.sk_nil) (by kernel_rfl) (by kernel_rfl) rfl) (PV.sa_cons (PV.p_err0 F (PV.gl_at (i := 8) gl rfl) (err0 1 _ rfl)) PV.sa_nil (by kernel_rfl)) (by kernel_rfl)) (by kernel_rfl)) (Nat.le_of_ble_eq_true (by kernel_rfl))) (by kernel_rfl) rfl)) (PV.ForR.nx (PV.p_turn (PV.p_gname (st' := [(some (.val _)), (some (.own _)), (some (.val _)), (some (.own _)), (some (.val _)), (some (.val _)), (some (.val _)), (some (.val _))]) (i := 7) F (PV.wr_at wr rfl (by kernel_rfl)) (by kernel_rfl) rfl) (PV.sss_cons (PV.s_ifF (PV.t_w (PV.w_orF (PV.t_cmp PV.se_bl (PV.p_call (st' := [(some (.val _)), (some (.own _)), (some (.val _)), (some (.own _)), (some (.val _)), (some (.val _)), (some (.val _)), (some (.val _))]) (sl := [(.val _)]) F (PV.gl_at (i := 9) gl rfl) dk (by kernel_rfl) (by kernel_rfl) (PV.sa'_val (PV.p_var (i := 7) F (PV.rd_at rd rfl) rfl) PV.sa'_nil (by kernel_rfl)) rfl (K0.ctKin.mk (i := 36) rfl) (by kernel_rfl) (by kernel_rfl) (by kernel_rfl) rfl) (by kernel_rfl) (PV.q_in (b := false) rfl (by kernel_rfl) (by kernel_rfl) (by kernel_rfl))) (by kernel_rfl) (PV.w_orF (PV.t_not (b' := false) (PV.t_truth (PV.p_callB (id := "isinstance") F (PV.gl_at (i := 10) gl rfl) (blt 8 _ rfl) (by kernel_rfl) (by kernel_rfl) (PV.sa_cons (PV.p_var (i := 7) F (PV.rd_at rd rfl) rfl) (PV.sa_cons (PV.p_cls F (PV.gl_at (i := 8) gl rfl) (cls 37 _ rfl)) PV.sa_nil (by kernel_rfl)) (by kernel_rfl)) (PV.c_isi F (isi 36 37 _ _ rfl rfl _))) (by kernel_rfl) rfl trivial) (by kernel_rfl)) (by kernel_rfl) (PV.w_one (PV.t_not (b' := false) (PV.t_truth (PV.p_callB (id := "isinstance") F (PV.gl_at (i := 10) gl rfl) (blt 8 _ rfl) (by kernel_rfl) (by kernel_rfl) (PV.sa_cons (PV.p_var (i := 7) F (PV.rd_at rd rfl) rfl) (PV.sa_cons (PV.p_ty (T := "ValueError") F (PV.gl_at (i := 11) gl rfl) (blt 0 _ rfl) (by kernel_rfl)) PV.sa_nil (by kernel_rfl)) (by kernel_rfl)) (PV.c_isi F (isT 36 0 _ "ValueError" rfl rfl _))) (by kernel_rfl) rfl trivial) (by kernel_rfl)))))) (by kernel_rfl) PV.sss_nil) PV.sss_nil)) (PV.ForR.nx (PV.p_turn (PV.p_gname (st' := [(some (.val _)), (some (.own _)), (some (.val _)), (some (.own _)), (some (.val _)), (some (.val _)), (some (.val _)), (some (.val _))]) (i := 7) F (PV.wr_at wr rfl (by kernel_rfl)) (by kernel_rfl) rfl) (PV.sss_cons (PV.s_ifF (PV.t_w (PV.w_orF (PV.t_cmp PV.se_bl (PV.p_call (st' := [(some (.val _)), (some (.own _)), (some (.val _)), (some (.own _)), (some (.val _)), (some (.val _)), (some (.val _)), (some (.val _))]) (sl := [(.val _)]) F (PV.gl_at (i := 9) gl rfl) dk (by kernel_rfl) (by kernel_rfl) (PV.sa'_val (PV.p_var (i := 7) F (PV.rd_at rd rfl) rfl) PV.sa'_nil (by kernel_rfl)) rfl (K0.ctKin.mk (i := 36) rfl) (by kernel_rfl) (by kernel_rfl) (by kernel_rfl) rfl) (by kernel_rfl) (PV.q_in (b := false) rfl (by kernel_rfl) (by kernel_rfl) (by kernel_rfl))) (by kernel_rfl) (PV.w_orF (PV.t_not (b' := false) (PV.t_truth (PV.p_callB (id := "isinstance") F (PV.gl_at (i := 10) gl rfl) (blt 8 _ rfl) (by kernel_rfl) (by kernel_rfl) (PV.sa_cons (PV.p_var (i := 7) F (PV.rd_at rd rfl) rfl) (PV.sa_cons (PV.p_cls F (PV.gl_at (i := 8) gl rfl) (cls 37 _ rfl)) PV.sa_nil (by kernel_rfl)) (by kernel_rfl)) (PV.c_isi F (isi 36 37 _ _ rfl rfl _))) (by kernel_rfl) rfl trivial) (by kernel_rfl)) (by kernel_rfl) (PV.w_one (PV.t_not (b' := false) (PV.t_truth (PV.p_callB (id := "isinstance") F (PV.gl_at (i := 10) gl rfl) (blt 8 _ rfl) (by kernel_rfl) (by kernel_rfl) (PV.sa_cons (PV.p_var (i := 7) F (PV.rd_at rd rfl) rfl) (PV.sa_cons (PV.p_ty (T := "ValueError") F (PV.gl_at (i := 11) gl rfl) (blt 0 _ rfl) (by kernel_rfl)) PV.sa_nil (by kernel_rfl)) (by kernel_rfl)) (PV.c_isi F (isT 36 0 _ "ValueError" rfl rfl _))) (by kernel_rfl) rfl trivial) (by kernel_rfl)))))) (by kernel_rfl) PV.sss_nil) PV.sss_nil)) (PV.ForR.nx (PV.p_turn (PV.p_gname (st' := [(some (.val _)), (some (.own _)), (some (.val _)), (some (.own _)), (some (.val _)), (some (.val _)), (some (.val _)), (some (.val _))]) (i := 7) F (PV.wr_at wr rfl (by kernel_rfl)) (by kernel_rfl) rfl) (PV.sss_cons (PV.s_ifF (PV.t_w (PV.w_orF (PV.t_cmp PV.se_bl (PV.p_call (st' := [(some (.val _)), (some (.own _)), (some (.val _)), (some (.own _)), (some (.val _)), (some (.val _)), (some (.val _)), (some (.val _))]) (sl := [(.val _)]) F (PV.gl_at (i := 9) gl rfl) dk (by kernel_rfl) (by kernel_rfl) (PV.sa'_val (PV.p_var (i := 7) F (PV.rd_at rd rfl) rfl) PV.sa'_nil (by kernel_rfl)) rfl (K0.ctKin.mk (i := 37) rfl) (by kernel_rfl) (by kernel_rfl) (by kernel_rfl) rfl) (by kernel_rfl) (PV.q_in (b := false) rfl (by kernel_rfl) (by kernel_rfl) (by kernel_rfl))) (by kernel_rfl) (PV.w_orF (PV.t_not (b' := false) (PV.t_truth (PV.p_callB (id := "isinstance") F (PV.gl_at (i := 10) gl rfl) (blt 8 _ rfl) (by kernel_rfl) (by kernel_rfl) (PV.sa_cons (PV.p_var (i := 7) F (PV.rd_at rd rfl) rfl) (PV.sa_cons (PV.p_cls F (PV.gl_at (i := 8) gl rfl) (cls 37 _ rfl)) PV.sa_nil (by kernel_rfl)) (by kernel_rfl)) (PV.c_isi F (isi 37 37 _ _ rfl rfl _))) (by kernel_rfl) rfl trivial) (by kernel_rfl)) (by kernel_rfl) (PV.w_one (PV.t_not (b' := false) (PV.t_truth (PV.p_callB (id := "isinstance") F (PV.gl_at (i := 10) gl rfl) (blt 8 _ rfl) (by kernel_rfl) (by kernel_rfl) (PV.sa_cons (PV.p_var (i := 7) F (PV.rd_at rd rfl) rfl) (PV.sa_cons (PV.p_ty (T := "ValueError") F (PV.gl_at (i := 11) gl rfl) (blt 0 _ rfl) (by kernel_rfl)) PV.sa_nil (by kernel_rfl)) (by kernel_rfl)) (PV.c_isi F (isT 37 0 _ "ValueError" rfl rfl _))) (by kernel_rfl) rfl trivial) (by kernel_rfl)))))) (by kernel_rfl) PV.sss_nil) PV.sss_nil)) (PV.ForR.nil _)))) (fun v10594030 => rfl)) (PV.sss_out (PV.ss_ret (PV.e_andT (PV.e_cmp (PV.p_callB (id := "repr") F (PV.gl_at (i := 12) gl rfl) (blt 11 _ rfl) (by kernel_rfl) (by kernel_rfl) (PV.sa_cons (PV.p_errF F (PV.p_errP (gs := [(_, _)]) F (PV.gl_at (i := 7) gl rfl) (err 35 _ _ rfl) (by kernel_rfl) (by kernel_rfl) (PV.sa_cons (PV.p_var (i := 5) F (PV.rd_at rd rfl) rfl) PV.sa_nil (by kernel_rfl)) (by kernel_rfl) (by kernel_rfl) rfl) (by kernel_rfl) (fld 35 0 _ _ _ rfl rfl) PV.lookup_here) PV.sa_nil (by kernel_rfl)) (PV.c_repr F sm u1 u2 u3 u4)) (PV.p_callB (id := "repr") F (PV.gl_at (i := 12) gl rfl) (blt 11 _ rfl) (by kernel_rfl) (by kernel_rfl) (PV.sa_cons (PV.p_var (i := 5) F (PV.rd_at rd rfl) rfl) PV.sa_nil (by kernel_rfl)) (PV.c_repr F sm u1 u2 u3 u4)) (by kernel_rfl) PV.q_eqSs) rfl (by kernel_rfl) trivial (PV.e_one (PV.e_cmp (PV.p_callB (id := "repr") F (PV.gl_at (i := 12) gl rfl) (blt 11 _ rfl) (by kernel_rfl) (by kernel_rfl) (PV.sa_cons (PV.p_errF F (PV.p_errK (gs := [(_, _)]) F (PV.gl_at (i := 7) gl rfl) (err 35 _ _ rfl) (by kernel_rfl) (by kernel_rfl) (PV.sk_cons (PV.p_var (i := 6) F (PV.rd_at rd rfl) rfl) PV.sk_nil) (by kernel_rfl) (by kernel_rfl) rfl) (by kernel_rfl) (fld 35 0 _ _ _ rfl rfl) PV.lookup_here) PV.sa_nil (by kernel_rfl)) (PV.c_repr F sm v1 v2 v3 v4)) (PV.p_callB (id := "repr") F (PV.gl_at (i := 12) gl rfl) (blt 11 _ rfl) (by kernel_rfl) (by kernel_rfl) (PV.sa_cons (PV.p_var (i := 6) F (PV.rd_at rd rfl) rfl) PV.sa_nil (by kernel_rfl)) (PV.c_repr F sm v1 v2 v3 v4)) (by kernel_rfl) PV.q_eqSs)))) (by kernel_rfl)))))))))) rfl ?_; repeat' first | exact trivial | refine ⟨⟨_, rfl, rfl⟩, ?_⟩)
end
end K0



set_option Elab.async false
set_option linter.all false
set_option maxRecDepth 100000
set_option maxHeartbeats 4000000
namespace K0
open PySem L2 PyProof.Rows PV
/-! the plain law: what is drawn can be shown -/
theorem shown_lst1 (a : D) : (D.lst [a]).py.shown = listText [a.py.shown] := by
  simp [D.py, D.pyL, PyData.shown, PyData.shownAll]
theorem shown_lst2 (a b : D) : (D.lst [a, b]).py.shown = listText [a.py.shown, b.py.shown] := by
  simp [D.py, D.pyL, PyData.shown, PyData.shownAll]
theorem big (n : Nat) (h : n ≤ 10000) : n ≤ sizeLine := Nat.le_trans h (by decide +kernel)
theorem Sm.shw {a : D} (h : Sm a) : Shw a := ⟨h.a, h.b, by have := h.c; omega, big _ (by have := h.d; omega)⟩
theorem shw1 {a : D} (h : Sm a) : Shw (.lst [a]) := by
  refine ⟨by simp [D.isPyD, D.isPyDL, h.a], by simp [D.py, D.pyL, PyData.showable, PyData.showableAll, h.b], ?_, big _ ?_⟩
  · have := h.c
    simp [D.py, D.pyL, PyData.depth, PyData.depthAll]
    omega
  · rw [shown_lst1]
    have := listText_len_le [a.py.shown]
    have q := h.d
    simp at this
    omega
theorem shw2 {a b : D} (h : Sm a) (h2 : Sm b) : Shw (.lst [a, b]) := by
  refine ⟨by simp [D.isPyD, D.isPyDL, h.a, h2.a], by simp [D.py, D.pyL, PyData.showable, PyData.showableAll, h.b, h2.b], ?_, big _ ?_⟩
  · have := h.c
    have := h2.c
    simp [D.py, D.pyL, PyData.depth, PyData.depthAll]
    omega
  · rw [shown_lst2]
    have := listText_len_le [a.py.shown, b.py.shown]
    have q := h.d
    have q2 := h2.d
    simp at this
    omega
theorem sm_int {i : Int} (h : i.natAbs.log2 < 1000) : Sm (.int i) ∧ (D.int i).py.shown.length ≤ 1921 := by
  have l : (D.int i).py.shown.length ≤ 1921 := by
    have := int_text_len_1921 (i := i) (by omega)
    simpa [D.py, PyData.shown] using this
  exact ⟨⟨rfl, by simp [D.py, PyData.showable]; omega, by simp [D.py, PyData.depth], by omega⟩, l⟩
theorem sm_num1 {i : Int} (h : i.natAbs.log2 < 1000) : Sm (.lst [.int i]) := by
  obtain ⟨s, l⟩ := sm_int h
  refine ⟨rfl, by simp [D.py, D.pyL, PyData.showable, PyData.showableAll]; omega, by simp [D.py, D.pyL, PyData.depth, PyData.depthAll], ?_⟩
  rw [shown_lst1]
  have := listText_len_le [(D.int i).py.shown]
  simp at this
  omega
theorem pick {num i : Int} (hn : num.natAbs.log2 < 1000) (h0 : 0 ≤ i) (h1 : i < 11) : ∃ d, atI (plainL num) i = some d ∧ Sm d := by
  have c : i = 0 ∨ i = 1 ∨ i = 2 ∨ i = 3 ∨ i = 4 ∨ i = 5 ∨ i = 6 ∨ i = 7 ∨ i = 8 ∨ i = 9 ∨ i = 10 := by omega
  rcases c with rfl | rfl | rfl | rfl | rfl | rfl | rfl | rfl | rfl | rfl | rfl
  · exact ⟨_, rfl, by decide +kernel, by decide +kernel, by decide +kernel, by decide +kernel⟩
  · exact ⟨_, rfl, by decide +kernel, by decide +kernel, by decide +kernel, by decide +kernel⟩
  · exact ⟨_, rfl, (sm_int hn).1⟩
  · exact ⟨_, rfl, by decide +kernel, by decide +kernel, by decide +kernel, by decide +kernel⟩
  · exact ⟨_, rfl, by decide +kernel, by decide +kernel, by decide +kernel, by decide +kernel⟩
  · exact ⟨_, rfl, by decide +kernel, by decide +kernel, by decide +kernel, by decide +kernel⟩
  · exact ⟨_, rfl, sm_num1 hn⟩
  · exact ⟨_, rfl, by decide +kernel, by decide +kernel, by decide +kernel, by decide +kernel⟩
  · exact ⟨_, rfl, by decide +kernel, by decide +kernel, by decide +kernel, by decide +kernel⟩
  · exact ⟨_, rfl, by decide +kernel, by decide +kernel, by decide +kernel, by decide +kernel⟩
  · exact ⟨_, rfl, by decide +kernel, by decide +kernel, by decide +kernel, by decide +kernel⟩
theorem kLo (n : Int) {k : Int} (h : 0 ≤ k) : 0 ≤ pourK n k := by
  unfold pourK
  split <;> omega
theorem kHi (n : Int) {k j : Int} (h : k ≤ j) : pourK n k ≤ j + 1 := by
  unfold pourK
  split <;> omega
theorem qLo (n k : Int) {m : Int} (h : 0 < m) : 0 ≤ qr n k m := Int.fmod_nonneg_of_pos _ h
theorem qHi (n k : Int) {m : Int} (h : 0 < m) : qr n k m < m := Int.fmod_lt_of_pos _ h
theorem log_of {n m : Nat} (h : n < 2 ^ m) (hm : 0 < m) : n.log2 < m := lt_log h hm
section
variable {W : Wd} {X : Cx} {Z : PV.Env0}
theorem w_law (h : Hd W) (F : Fr W 3 lLaw X Z) {cs : List Int}
    (dj : DefOk W (Str.ofString "_law_jug") 1 ctJug) (dp : DefOk W (Str.ofString "_law_pour") 1 ctPour) (dk : DefOk W (Str.ofString "_law_kin") 1 ctKin)
    (da : DefOk W (Str.ofString "_law_parts") 3 ctParts) (da2 : DefOk W (Str.ofString "_law_parts_turned") 3 ctParts) (dt : DefOk W (Str.ofString "_law_others") 3 ctOthers) (dt2 : DefOk W (Str.ofString "_law_others_named") 3 ctOthers)
    (dl : DefOk W (Str.ofString "_law_all_right") 3 ctAll) :
    ∃ st', SSs X Z (defBody sLaw) (startS nLaw [.val (.lst (cs.map .int))]) (.rt (.val (.bl true)) st') ∧ outsB 0 [.val (.lst (cs.map .int))] st' [] := by
  have b1 : 0 ≤ pourK (jugF cs) 0 := kLo _ (by decide)
  have c1 := kHi (jugF cs) (k := 0) (j := 0) (by decide)
  have b2 := kLo (qn (jugF cs) 0 2) b1
  have c2 := kHi (qn (jugF cs) 0 2) c1
  have b3 := kLo (qn (qn (jugF cs) 0 2) (pourK (jugF cs) 0) E50) b2
  have c3 := kHi (qn (qn (jugF cs) 0 2) (pourK (jugF cs) 0) E50) c2
  have r1 := qLo (jugF cs) 0 (m := 2) (by decide)
  have r2 := qHi (jugF cs) 0 (m := 2) (by decide)
  have r3 := qLo (qn (jugF cs) 0 2) (pourK (jugF cs) 0) (m := E50) (by decide)
  have r4 := qHi (qn (jugF cs) 0 2) (pourK (jugF cs) 0) (m := E50) (by decide)
  have i1 := qLo (qn (qn (jugF cs) 0 2) (pourK (jugF cs) 0) E50) (pourK (qn (jugF cs) 0 2) (pourK (jugF cs) 0)) (m := 11) (by decide)
  have i2 := qHi (qn (qn (jugF cs) 0 2) (pourK (jugF cs) 0) E50) (pourK (qn (jugF cs) 0 2) (pourK (jugF cs) 0)) (m := 11) (by decide)
  have i3 := qLo (qn (qn (qn (jugF cs) 0 2) (pourK (jugF cs) 0) E50) (pourK (qn (jugF cs) 0 2) (pourK (jugF cs) 0)) 11) (pourK (qn (qn (jugF cs) 0 2) (pourK (jugF cs) 0) E50) (pourK (qn (jugF cs) 0 2) (pourK (jugF cs) 0))) (m := 11) (by decide)
  have i4 := qHi (qn (qn (qn (jugF cs) 0 2) (pourK (jugF cs) 0) E50) (pourK (qn (jugF cs) 0 2) (pourK (jugF cs) 0)) 11) (pourK (qn (qn (jugF cs) 0 2) (pourK (jugF cs) 0) E50) (pourK (qn (jugF cs) 0 2) (pourK (jugF cs) 0))) (m := 11) (by decide)
  have hn : ((2 * qr (jugF cs) 0 2 - 1) * qr (qn (jugF cs) 0 2) (pourK (jugF cs) 0) E50).natAbs.log2 < 1000 := by
    refine log_of ?_ (by decide)
    have e : (2 * qr (jugF cs) 0 2 - 1) = -1 ∨ (2 * qr (jugF cs) 0 2 - 1) = 1 := by omega
    have big : (E50 : Int) < 2 ^ 1000 := by decide +kernel
    have big2 : ((2 : Int) ^ 1000) = ((2 ^ 1000 : Nat) : Int) := by simp
    rw [big2] at big
    generalize (2 : Nat) ^ 1000 = M at big ⊢
    rcases e with e | e <;> rw [e] <;> omega
  obtain ⟨d1, p1, s1⟩ := pick hn i1 i2
  obtain ⟨d2, p2, s2⟩ := pick hn i3 i4
  refine w_law1 h F dj dp dk da da2 dt dt2 dl b1 (by omega) b2 (by omega) b3 (by omega) ?_ ?_ p1 p2 (shw1 s1) (shw2 s1 s2) s1.shw s2.shw
  · have q := lt_log (n := (qr (jugF cs) 0 2).natAbs) (m := 1) (by omega) (by decide)
    have q2 : (2 : Int).natAbs.log2 = 1 := by decide +kernel
    unfold CMulW
    rw [q2]
    omega
  · have q := lt_log (n := (2 * qr (jugF cs) 0 2 - 1).natAbs) (m := 1) (by omega) (by decide)
    have q2 := lt_log (n := (qr (qn (jugF cs) 0 2) (pourK (jugF cs) 0) E50).natAbs) (m := 200) (by
      have big : (E50 : Int) < 2 ^ 200 := by decide +kernel
      have big2 : ((2 : Int) ^ 200) = ((2 ^ 200 : Nat) : Int) := by simp
      rw [big2] at big
      generalize (2 : Nat) ^ 200 = M at big ⊢
      omega) (by decide)
    unfold CMulW
    omega
end
end K0


set_option Elab.async false
set_option linter.all false
set_option maxRecDepth 100000
set_option maxHeartbeats 0
namespace PV
open PySem PySem.Spec L2 PyProof.Rows
open PySem.W (Frag)
/-! the Hook: a Bool of the module's things, and the defs -/
def frP (n : Nat) (g : Addr → Option Obj) : Frag := He.frG g (sysModules :: He.asD g n)
def obsP (chk : Frag → Bool) (fn : List He.DefD) (K : Frag) : Bool × List He.FnW := (chk K && fn.all (He.DefD.ok K), fn.map fun d => He.fnW K d.at_)
def hookP (n : Nat) (chk : Frag → Bool) (fn : List He.DefD) : PySem.W.Hook where
  α := Bool × List He.FnW
  obs := fun s => obsP chk fn (frP n s.heap.get?)
  val := fun _ => (true, fn.map He.DefD.val)
  says := fun _ h => ∃ K : Frag, K.In h ∧ obsP chk fn K = (true, fn.map He.DefD.val)
  of := fun _ _ e => ⟨_, He.frG_in, e⟩
  keeps := fun _ _ _ ⟨K, hK, c⟩ k => ⟨K, PySem.W.Frag.In.keeps hK k, c⟩
def obP (n : Nat) (chk : Frag → Bool) (fn : List He.DefD) (s : PySem.W.SharedT) : Bool × List He.FnW := obsP chk fn (frP n (HandSHeadRun.getT s))
theorem obP_eq {n : Nat} {chk : Frag → Bool} {fn : List He.DefD} (s : PySem.W.SharedT) : obP n chk fn s = (hookP n chk fn).obs s.abs := by
  show obsP chk fn (frP n (HandSHeadRun.getT s)) = obsP chk fn (frP n s.abs.heap.get?)
  rw [show HandSHeadRun.getT s = s.abs.heap.get? from funext (HandSHeadRun.getT_eq s)]
theorem says_chk {chk : Frag → Bool} {fn : List He.DefD} {K : Frag} (c : obsP chk fn K = (true, fn.map He.DefD.val)) : chk K = true := (an (show (chk K && fn.all (He.DefD.ok K)) = true from congrArg (·.1) c)).1
theorem says_def {chk : Frag → Bool} {fn : List He.DefD} {K : Frag} (c : obsP chk fn K = (true, fn.map He.DefD.val)) {i : Nat} {d : He.DefD} (h : fn[i]? = some d) :
    ∃ fd, FunD K d.name d.qual d.params d.body d.scope (d.dvs K) (d.kws K) (He.fAd K d.at_) fd := by
  have c2 := (an (show (chk K && fn.all (He.DefD.ok K)) = true from congrArg (·.1) c)).2
  have e : (fn.map fun d => He.fnW K d.at_)[i]? = (fn.map He.DefD.val)[i]? := by rw [show (fn.map fun d => He.fnW K d.at_) = fn.map He.DefD.val from congrArg (·.2) c]
  rw [List.getElem?_map, List.getElem?_map, h] at e
  exact He.DefD.funD (Option.some.inj e) (List.all_eq_true.mp c2 d (List.mem_of_getElem? h))
end PV
namespace K0
open PySem L2 PyProof.Rows PV
open PySem.W (Frag)
abbrev R : PySem.W.OpenRow := PySem.W.OpenLaw.row PySem.Challenge.rw_alleyes_k00_errors_keep_their_fields
/-- the place of the class at whose body the error's __init__ stands -/
def inits : List (Str × Str × Nat) := []
def gl1 (K : Frag) (n : Str) : Bool := He.eqO (PySem.W.nsIn K mainGlobals n) (some (some (.ref (He.ga K n))))
def fr1 (K : Frag) (n : Str) : Bool := He.eqO (PySem.W.nsIn K mainGlobals n) (some none)
def ini1 (K : Frag) (n : Str) : Bool := decide (PySem.W.findIn K (.ref (He.ga K n)) "__init__" = some (some (.ref (He.ma K (He.ga K n) "__init__")))) && decide (PySem.W.typeIn K (.ref (He.ma K (He.ga K n) "__init__")) = some (.type "function"))
def no1 (K : Frag) (n f : Str) : Bool := decide (PySem.W.findIn K (.ref (He.ga K n)) f = some none)
def kit1 (K : Frag) (i j : Nat) (n m : Str) : Bool := decide (PySem.W.kitOne K (.ref (He.ga K n)) (.ref (He.ga K m)) = some (kitI i j))
def kitT1 (K : Frag) (j : Nat) (n : Str) (T : String) : Bool := decide (PySem.W.kitOne K (.ref (He.ga K n)) (.type T) = some (Nat.beq j 0))
def ex1 (K : Frag) (n : Str) : Bool := PySem.W.excIn K (He.ga K n) [.type "ValueError", .type "Exception", .type "BaseException", .type "object"] "ValueError.__new__" && PySem.W.keepIn K (.ref (He.ga K n))
def chks (K : Frag) : List Bool := [
  smB K, nolB K, clsN.all (gl1 K), bltN.all (fr1 K), clsN.all fun n => errB K (He.ga K n), clsN.all fun n => kitCB K (He.ga K n), err0N.all (ex1 K), errT.all fun p => ini1 K p.1,
  errT.all fun p => p.2.all (no1 K p.1), (clsN.zipIdx.all fun p => clsN.zipIdx.all fun q => kit1 K p.2 q.2 p.1 q.1), (clsN.all fun n => tyN.zipIdx.all fun q => kitT1 K q.2 n q.1)]
def mask : List Bool → Nat
  | [] => 0
  | b :: r => (if b then 1 else 0) + 2 * mask r
end K0


set_option Elab.async false
set_option linter.all false
set_option maxRecDepth 100000
set_option maxHeartbeats 0
namespace K0
open PySem PySem.Spec L2 PyProof.Rows PV
open PySem.W (Frag)
/-! the defs of the text, as the head tells them -/
def cIni (i : Nat) : Stmt := match dS i with
  | .ClassDef _ _ _ (b :: _) _ _ _ _ _ _ _ => b
  | _ => .Pass default
def dfD (n : Str) (i : Nat) : He.DefD := ⟨(n, none), n, n, defArgs (dS i), defBody (dS i), defScope (dS i), [], []⟩
def dfI (n q : Str) (i : Nat) : He.DefD := ⟨(n, some (Str.ofString "__init__")), Str.ofString "__init__", q, defArgs (cIni i), defBody (cIni i), defScope (cIni i), [], []⟩

def fnT : List He.DefD := [
  dfD (Str.ofString "_law_jug") 40,
  dfD (Str.ofString "_law_pour") 41,
  dfD (Str.ofString "_law_parts") 42,
  dfD (Str.ofString "_law_parts_turned") 43,
  dfD (Str.ofString "_law_others") 44,
  dfD (Str.ofString "_law_others_named") 45,
  dfD (Str.ofString "_law_fields") 46,
  dfD (Str.ofString "_law_kin") 47,
  dfD (Str.ofString "_law_stands_right") 48,
  dfD (Str.ofString "_law_all_right") 49,
  dfD (Str.ofString "law") 50,
  dfI (Str.ofString "BadRatio") (Str.ofString "BadRatio.__init__") 2,
  dfI (Str.ofString "BadRow") (Str.ofString "BadRow.__init__") 3,
  dfI (Str.ofString "BadPicture") (Str.ofString "BadPicture.__init__") 4,
  dfI (Str.ofString "BadStep") (Str.ofString "BadStep.__init__") 5,
  dfI (Str.ofString "BadMark") (Str.ofString "BadMark.__init__") 6,
  dfI (Str.ofString "BadScene") (Str.ofString "BadScene.__init__") 7,
  dfI (Str.ofString "BadCone") (Str.ofString "BadCone.__init__") 8,
  dfI (Str.ofString "BadEye") (Str.ofString "BadEye.__init__") 9,
  dfI (Str.ofString "BadEyeRow") (Str.ofString "BadEyeRow.__init__") 10,
  dfI (Str.ofString "BadFlat") (Str.ofString "BadFlat.__init__") 11,
  dfI (Str.ofString "BadFact") (Str.ofString "BadFact.__init__") 12,
  dfI (Str.ofString "BadBook") (Str.ofString "BadBook.__init__") 13,
  dfI (Str.ofString "BadStanding") (Str.ofString "BadStanding.__init__") 14,
  dfI (Str.ofString "BadSaying") (Str.ofString "BadSaying.__init__") 15,
  dfI (Str.ofString "BadSolid") (Str.ofString "BadSolid.__init__") 16,
  dfI (Str.ofString "BadView") (Str.ofString "BadView.__init__") 17,
  dfI (Str.ofString "BadLight") (Str.ofString "BadLight.__init__") 18,
  dfI (Str.ofString "BadNumber") (Str.ofString "BadNumber.__init__") 19,
  dfI (Str.ofString "BadPaper") (Str.ofString "BadPaper.__init__") 20,
  dfI (Str.ofString "BadDesk") (Str.ofString "BadDesk.__init__") 21,
  dfI (Str.ofString "NotPlain") (Str.ofString "NotPlain.__init__") 22,
  dfI (Str.ofString "Unsettled") (Str.ofString "Unsettled.__init__") 23,
  dfI (Str.ofString "NoLabel") (Str.ofString "Missing.__init__") 24,
  dfI (Str.ofString "NoPicture") (Str.ofString "Missing.__init__") 24,
  dfI (Str.ofString "NoName") (Str.ofString "Missing.__init__") 24,
  dfI (Str.ofString "Twice") (Str.ofString "Twice.__init__") 29,
  dfI (Str.ofString "Behind") (Str.ofString "Behind.__init__") 33,
  dfI (Str.ofString "NoFact") (Str.ofString "NoFact.__init__") 28,
  dfI (Str.ofString "Impossible") (Str.ofString "Impossible.__init__") 34,
  dfI (Str.ofString "SamePlace") (Str.ofString "SamePlace.__init__") 30,
  dfI (Str.ofString "TwoPictures") (Str.ofString "TwoPictures.__init__") 31,
  dfI (Str.ofString "NotJoined") (Str.ofString "NotJoined.__init__") 32,
  dfI (Str.ofString "TooMany") (Str.ofString "TooMany.__init__") 36,
  dfI (Str.ofString "BadText") (Str.ofString "BadText.__init__") 37,
  dfI (Str.ofString "BadLine") (Str.ofString "BadLine.__init__") 38,
  dfI (Str.ofString "Missing") (Str.ofString "Missing.__init__") 24]
def defN : List Str := [Str.ofString "_law_jug", Str.ofString "_law_pour", Str.ofString "_law_parts", Str.ofString "_law_parts_turned", Str.ofString "_law_others", Str.ofString "_law_others_named", Str.ofString "_law_fields", Str.ofString "_law_kin", Str.ofString "_law_stands_right", Str.ofString "_law_all_right", Str.ofString "law"]
def chk (K : Frag) : Bool := (chks K).all id && (errT.all fun p => gl1 K p.1 && errB K (He.ga K p.1)) && defN.all (gl1 K)
abbrev hk : PySem.W.Hook := hookP 4 chk fnT
def ob (s : PySem.W.SharedT) : Bool × List He.FnW := obP 4 chk fnT s
theorem ob_eq (s : PySem.W.SharedT) : ob s = hk.obs s.abs := obP_eq s
def loose1 : List Str := [Str.ofString "EyesError", Str.ofString "BadRatio", Str.ofString "BadRow", Str.ofString "BadPicture", Str.ofString "BadStep", Str.ofString "BadMark", Str.ofString "BadScene", Str.ofString "BadCone", Str.ofString "BadEye", Str.ofString "BadEyeRow", Str.ofString "BadFlat", Str.ofString "BadFact", Str.ofString "BadBook", Str.ofString "BadStanding", Str.ofString "BadSaying", Str.ofString "BadSolid", Str.ofString "BadView", Str.ofString "BadLight", Str.ofString "BadNumber", Str.ofString "BadPaper"]
def loose2 : List Str := [Str.ofString "BadDesk", Str.ofString "NotPlain", Str.ofString "Unsettled", Str.ofString "Missing", Str.ofString "NoLabel", Str.ofString "NoPicture", Str.ofString "NoName", Str.ofString "NoFact", Str.ofString "Twice", Str.ofString "SamePlace", Str.ofString "TwoPictures", Str.ofString "NotJoined", Str.ofString "Behind", Str.ofString "Impossible", Str.ofString "Nothing", Str.ofString "TooMany", Str.ofString "BadText", Str.ofString "BadLine"]
def loose3 : List Str := [Str.ofString "_law_jug", Str.ofString "_law_pour", Str.ofString "_law_parts", Str.ofString "_law_parts_turned", Str.ofString "_law_others", Str.ofString "_law_others_named", Str.ofString "_law_fields", Str.ofString "_law_kin", Str.ofString "_law_stands_right", Str.ofString "_law_all_right"]
def loose : List Str := loose1 ++ (loose2 ++ loose3)
theorem run (w : World) : HandSHeadRun.RunEq R (PySem.W.view R.prog [50]) hk ob 20000 loose w := by
  intro os
  kernel_rfl
end K0

set_option Elab.async false
set_option linter.all false
set_option maxRecDepth 100000
set_option maxHeartbeats 4000000
namespace K0
open PySem PySem.Spec L2 PyProof.Rows PV
open PySem.W (Frag)
/-! what the head says, as facts -/
abbrev Says (K : Frag) : Prop := obsP chk fnT K = (true, fnT.map He.DefD.val)
theorem k_chk {K : Frag} (c : Says K) : ((chks K).all id = true ∧ (errT.all fun p => gl1 K p.1 && errB K (He.ga K p.1)) = true) ∧ defN.all (gl1 K) = true := by
  have h := says_chk c
  unfold chk at h
  obtain ⟨h1, h2⟩ := an h
  exact ⟨an h1, h2⟩
structure Ks (K : Frag) : Prop where
  sm : smB K = true
  nol : nolB K = true
  gl : clsN.all (gl1 K) = true
  fr : bltN.all (fr1 K) = true
  er : (clsN.all fun n => errB K (He.ga K n)) = true
  kc : (clsN.all fun n => kitCB K (He.ga K n)) = true
  e0 : err0N.all (ex1 K) = true
  ini : (errT.all fun p => ini1 K p.1) = true
  no : (errT.all fun p => p.2.all (no1 K p.1)) = true
  kit : (clsN.zipIdx.all fun p => clsN.zipIdx.all fun q => kit1 K p.2 q.2 p.1 q.1) = true
  kitT : (clsN.all fun n => tyN.zipIdx.all fun q => kitT1 K q.2 n q.1) = true
  et : (errT.all fun p => gl1 K p.1 && errB K (He.ga K p.1)) = true
  df : defN.all (gl1 K) = true
theorem ks {K : Frag} (c : Says K) : Ks K := by
  obtain ⟨⟨h, h2⟩, h3⟩ := k_chk c
  simp only [chks, List.all_cons, List.all_nil, Bool.and_true, id, Bool.and_eq_true] at h
  obtain ⟨a1, a2, a3, a4, a5, a6, a7, a8, a9, a10, a11⟩ := h
  exact ⟨a1, a2, a3, a4, a5, a6, a7, a8, a9, a10, a11, h2, h3⟩
/-- an error's own __init__ -/
structure Ini (K : Frag) (n : Str) (fs : List Str) : Prop where
  ex : ∃ fd : FuncData, (∀ (P : Program) (w : World) (mg : Str → Option Value) (base : Heap), FnOk P w K mg base CX0 1 (He.fAd K (n, some (Str.ofString "__init__"))) fd ("self" :: fs) (spInit K fs)) ∧
    (∀ us : List Value, us.length = fs.length + 1 → bindArgs fd ⟨us, []⟩ = pure ((("self" : Str) :: fs).zip us)) ∧
    ∀ (a : Value) (ws : List Value), ws.length = fs.length → bindArgs fd ⟨[a], fs.reverse.zip ws⟩ = pure ((("self" : Str) :: fs).zip (a :: ws.reverse))

theorem inT0 {K : Frag} (c : Says K) : Ini K (Str.ofString "BadRatio") [Str.ofString "part"] := by
  obtain ⟨fd, F⟩ := says_def (d := dfI (Str.ofString "BadRatio") (Str.ofString "BadRatio.__init__") 2) c (i := 11) rfl
  have FF : Fun K (Str.ofString "__init__") (Str.ofString "BadRatio.__init__") (cIni 2) (He.fAd K (Str.ofString "BadRatio", some (Str.ofString "__init__"))) fd := fun_of F
  obtain ⟨oc, od, kV, doc, pm, anx, cdv, ctv, osl, rfl, _, _⟩ := FF.ex
  refine ⟨_, fun P w mg base => ok_init1 FF ⟨rfl, rfl, rfl, by decide +kernel, rfl, by decide +kernel, by decide +kernel⟩ rfl (by decide +kernel) (by decide +kernel) (by decide +kernel) (by decide +kernel), fun us hl => ?_, fun a ws hl => ?_⟩
  · match us, hl with
    | [_, _], _ => rfl
  · match ws, hl with
    | [_], _ => rfl
theorem inT1 {K : Frag} (c : Says K) : Ini K (Str.ofString "BadRow") [Str.ofString "part"] := by
  obtain ⟨fd, F⟩ := says_def (d := dfI (Str.ofString "BadRow") (Str.ofString "BadRow.__init__") 3) c (i := 12) rfl
  have FF : Fun K (Str.ofString "__init__") (Str.ofString "BadRow.__init__") (cIni 3) (He.fAd K (Str.ofString "BadRow", some (Str.ofString "__init__"))) fd := fun_of F
  obtain ⟨oc, od, kV, doc, pm, anx, cdv, ctv, osl, rfl, _, _⟩ := FF.ex
  refine ⟨_, fun P w mg base => ok_init1 FF ⟨rfl, rfl, rfl, by decide +kernel, rfl, by decide +kernel, by decide +kernel⟩ rfl (by decide +kernel) (by decide +kernel) (by decide +kernel) (by decide +kernel), fun us hl => ?_, fun a ws hl => ?_⟩
  · match us, hl with
    | [_, _], _ => rfl
  · match ws, hl with
    | [_], _ => rfl
theorem inT2 {K : Frag} (c : Says K) : Ini K (Str.ofString "BadPicture") [Str.ofString "part"] := by
  obtain ⟨fd, F⟩ := says_def (d := dfI (Str.ofString "BadPicture") (Str.ofString "BadPicture.__init__") 4) c (i := 13) rfl
  have FF : Fun K (Str.ofString "__init__") (Str.ofString "BadPicture.__init__") (cIni 4) (He.fAd K (Str.ofString "BadPicture", some (Str.ofString "__init__"))) fd := fun_of F
  obtain ⟨oc, od, kV, doc, pm, anx, cdv, ctv, osl, rfl, _, _⟩ := FF.ex
  refine ⟨_, fun P w mg base => ok_init1 FF ⟨rfl, rfl, rfl, by decide +kernel, rfl, by decide +kernel, by decide +kernel⟩ rfl (by decide +kernel) (by decide +kernel) (by decide +kernel) (by decide +kernel), fun us hl => ?_, fun a ws hl => ?_⟩
  · match us, hl with
    | [_, _], _ => rfl
  · match ws, hl with
    | [_], _ => rfl
theorem inT3 {K : Frag} (c : Says K) : Ini K (Str.ofString "BadStep") [Str.ofString "part"] := by
  obtain ⟨fd, F⟩ := says_def (d := dfI (Str.ofString "BadStep") (Str.ofString "BadStep.__init__") 5) c (i := 14) rfl
  have FF : Fun K (Str.ofString "__init__") (Str.ofString "BadStep.__init__") (cIni 5) (He.fAd K (Str.ofString "BadStep", some (Str.ofString "__init__"))) fd := fun_of F
  obtain ⟨oc, od, kV, doc, pm, anx, cdv, ctv, osl, rfl, _, _⟩ := FF.ex
  refine ⟨_, fun P w mg base => ok_init1 FF ⟨rfl, rfl, rfl, by decide +kernel, rfl, by decide +kernel, by decide +kernel⟩ rfl (by decide +kernel) (by decide +kernel) (by decide +kernel) (by decide +kernel), fun us hl => ?_, fun a ws hl => ?_⟩
  · match us, hl with
    | [_, _], _ => rfl
  · match ws, hl with
    | [_], _ => rfl
theorem inT4 {K : Frag} (c : Says K) : Ini K (Str.ofString "BadMark") [Str.ofString "part"] := by
  obtain ⟨fd, F⟩ := says_def (d := dfI (Str.ofString "BadMark") (Str.ofString "BadMark.__init__") 6) c (i := 15) rfl
  have FF : Fun K (Str.ofString "__init__") (Str.ofString "BadMark.__init__") (cIni 6) (He.fAd K (Str.ofString "BadMark", some (Str.ofString "__init__"))) fd := fun_of F
  obtain ⟨oc, od, kV, doc, pm, anx, cdv, ctv, osl, rfl, _, _⟩ := FF.ex
  refine ⟨_, fun P w mg base => ok_init1 FF ⟨rfl, rfl, rfl, by decide +kernel, rfl, by decide +kernel, by decide +kernel⟩ rfl (by decide +kernel) (by decide +kernel) (by decide +kernel) (by decide +kernel), fun us hl => ?_, fun a ws hl => ?_⟩
  · match us, hl with
    | [_, _], _ => rfl
  · match ws, hl with
    | [_], _ => rfl
theorem inT5 {K : Frag} (c : Says K) : Ini K (Str.ofString "BadScene") [Str.ofString "part"] := by
  obtain ⟨fd, F⟩ := says_def (d := dfI (Str.ofString "BadScene") (Str.ofString "BadScene.__init__") 7) c (i := 16) rfl
  have FF : Fun K (Str.ofString "__init__") (Str.ofString "BadScene.__init__") (cIni 7) (He.fAd K (Str.ofString "BadScene", some (Str.ofString "__init__"))) fd := fun_of F
  obtain ⟨oc, od, kV, doc, pm, anx, cdv, ctv, osl, rfl, _, _⟩ := FF.ex
  refine ⟨_, fun P w mg base => ok_init1 FF ⟨rfl, rfl, rfl, by decide +kernel, rfl, by decide +kernel, by decide +kernel⟩ rfl (by decide +kernel) (by decide +kernel) (by decide +kernel) (by decide +kernel), fun us hl => ?_, fun a ws hl => ?_⟩
  · match us, hl with
    | [_, _], _ => rfl
  · match ws, hl with
    | [_], _ => rfl
theorem inT6 {K : Frag} (c : Says K) : Ini K (Str.ofString "BadCone") [Str.ofString "part"] := by
  obtain ⟨fd, F⟩ := says_def (d := dfI (Str.ofString "BadCone") (Str.ofString "BadCone.__init__") 8) c (i := 17) rfl
  have FF : Fun K (Str.ofString "__init__") (Str.ofString "BadCone.__init__") (cIni 8) (He.fAd K (Str.ofString "BadCone", some (Str.ofString "__init__"))) fd := fun_of F
  obtain ⟨oc, od, kV, doc, pm, anx, cdv, ctv, osl, rfl, _, _⟩ := FF.ex
  refine ⟨_, fun P w mg base => ok_init1 FF ⟨rfl, rfl, rfl, by decide +kernel, rfl, by decide +kernel, by decide +kernel⟩ rfl (by decide +kernel) (by decide +kernel) (by decide +kernel) (by decide +kernel), fun us hl => ?_, fun a ws hl => ?_⟩
  · match us, hl with
    | [_, _], _ => rfl
  · match ws, hl with
    | [_], _ => rfl
theorem inT7 {K : Frag} (c : Says K) : Ini K (Str.ofString "BadEye") [Str.ofString "part"] := by
  obtain ⟨fd, F⟩ := says_def (d := dfI (Str.ofString "BadEye") (Str.ofString "BadEye.__init__") 9) c (i := 18) rfl
  have FF : Fun K (Str.ofString "__init__") (Str.ofString "BadEye.__init__") (cIni 9) (He.fAd K (Str.ofString "BadEye", some (Str.ofString "__init__"))) fd := fun_of F
  obtain ⟨oc, od, kV, doc, pm, anx, cdv, ctv, osl, rfl, _, _⟩ := FF.ex
  refine ⟨_, fun P w mg base => ok_init1 FF ⟨rfl, rfl, rfl, by decide +kernel, rfl, by decide +kernel, by decide +kernel⟩ rfl (by decide +kernel) (by decide +kernel) (by decide +kernel) (by decide +kernel), fun us hl => ?_, fun a ws hl => ?_⟩
  · match us, hl with
    | [_, _], _ => rfl
  · match ws, hl with
    | [_], _ => rfl
theorem inT8 {K : Frag} (c : Says K) : Ini K (Str.ofString "BadEyeRow") [Str.ofString "part"] := by
  obtain ⟨fd, F⟩ := says_def (d := dfI (Str.ofString "BadEyeRow") (Str.ofString "BadEyeRow.__init__") 10) c (i := 19) rfl
  have FF : Fun K (Str.ofString "__init__") (Str.ofString "BadEyeRow.__init__") (cIni 10) (He.fAd K (Str.ofString "BadEyeRow", some (Str.ofString "__init__"))) fd := fun_of F
  obtain ⟨oc, od, kV, doc, pm, anx, cdv, ctv, osl, rfl, _, _⟩ := FF.ex
  refine ⟨_, fun P w mg base => ok_init1 FF ⟨rfl, rfl, rfl, by decide +kernel, rfl, by decide +kernel, by decide +kernel⟩ rfl (by decide +kernel) (by decide +kernel) (by decide +kernel) (by decide +kernel), fun us hl => ?_, fun a ws hl => ?_⟩
  · match us, hl with
    | [_, _], _ => rfl
  · match ws, hl with
    | [_], _ => rfl
theorem inT9 {K : Frag} (c : Says K) : Ini K (Str.ofString "BadFlat") [Str.ofString "part"] := by
  obtain ⟨fd, F⟩ := says_def (d := dfI (Str.ofString "BadFlat") (Str.ofString "BadFlat.__init__") 11) c (i := 20) rfl
  have FF : Fun K (Str.ofString "__init__") (Str.ofString "BadFlat.__init__") (cIni 11) (He.fAd K (Str.ofString "BadFlat", some (Str.ofString "__init__"))) fd := fun_of F
  obtain ⟨oc, od, kV, doc, pm, anx, cdv, ctv, osl, rfl, _, _⟩ := FF.ex
  refine ⟨_, fun P w mg base => ok_init1 FF ⟨rfl, rfl, rfl, by decide +kernel, rfl, by decide +kernel, by decide +kernel⟩ rfl (by decide +kernel) (by decide +kernel) (by decide +kernel) (by decide +kernel), fun us hl => ?_, fun a ws hl => ?_⟩
  · match us, hl with
    | [_, _], _ => rfl
  · match ws, hl with
    | [_], _ => rfl
theorem inT10 {K : Frag} (c : Says K) : Ini K (Str.ofString "BadFact") [Str.ofString "part"] := by
  obtain ⟨fd, F⟩ := says_def (d := dfI (Str.ofString "BadFact") (Str.ofString "BadFact.__init__") 12) c (i := 21) rfl
  have FF : Fun K (Str.ofString "__init__") (Str.ofString "BadFact.__init__") (cIni 12) (He.fAd K (Str.ofString "BadFact", some (Str.ofString "__init__"))) fd := fun_of F
  obtain ⟨oc, od, kV, doc, pm, anx, cdv, ctv, osl, rfl, _, _⟩ := FF.ex
  refine ⟨_, fun P w mg base => ok_init1 FF ⟨rfl, rfl, rfl, by decide +kernel, rfl, by decide +kernel, by decide +kernel⟩ rfl (by decide +kernel) (by decide +kernel) (by decide +kernel) (by decide +kernel), fun us hl => ?_, fun a ws hl => ?_⟩
  · match us, hl with
    | [_, _], _ => rfl
  · match ws, hl with
    | [_], _ => rfl
theorem inT11 {K : Frag} (c : Says K) : Ini K (Str.ofString "BadBook") [Str.ofString "part"] := by
  obtain ⟨fd, F⟩ := says_def (d := dfI (Str.ofString "BadBook") (Str.ofString "BadBook.__init__") 13) c (i := 22) rfl
  have FF : Fun K (Str.ofString "__init__") (Str.ofString "BadBook.__init__") (cIni 13) (He.fAd K (Str.ofString "BadBook", some (Str.ofString "__init__"))) fd := fun_of F
  obtain ⟨oc, od, kV, doc, pm, anx, cdv, ctv, osl, rfl, _, _⟩ := FF.ex
  refine ⟨_, fun P w mg base => ok_init1 FF ⟨rfl, rfl, rfl, by decide +kernel, rfl, by decide +kernel, by decide +kernel⟩ rfl (by decide +kernel) (by decide +kernel) (by decide +kernel) (by decide +kernel), fun us hl => ?_, fun a ws hl => ?_⟩
  · match us, hl with
    | [_, _], _ => rfl
  · match ws, hl with
    | [_], _ => rfl
theorem inT12 {K : Frag} (c : Says K) : Ini K (Str.ofString "BadStanding") [Str.ofString "part"] := by
  obtain ⟨fd, F⟩ := says_def (d := dfI (Str.ofString "BadStanding") (Str.ofString "BadStanding.__init__") 14) c (i := 23) rfl
  have FF : Fun K (Str.ofString "__init__") (Str.ofString "BadStanding.__init__") (cIni 14) (He.fAd K (Str.ofString "BadStanding", some (Str.ofString "__init__"))) fd := fun_of F
  obtain ⟨oc, od, kV, doc, pm, anx, cdv, ctv, osl, rfl, _, _⟩ := FF.ex
  refine ⟨_, fun P w mg base => ok_init1 FF ⟨rfl, rfl, rfl, by decide +kernel, rfl, by decide +kernel, by decide +kernel⟩ rfl (by decide +kernel) (by decide +kernel) (by decide +kernel) (by decide +kernel), fun us hl => ?_, fun a ws hl => ?_⟩
  · match us, hl with
    | [_, _], _ => rfl
  · match ws, hl with
    | [_], _ => rfl
theorem inT13 {K : Frag} (c : Says K) : Ini K (Str.ofString "BadSaying") [Str.ofString "part"] := by
  obtain ⟨fd, F⟩ := says_def (d := dfI (Str.ofString "BadSaying") (Str.ofString "BadSaying.__init__") 15) c (i := 24) rfl
  have FF : Fun K (Str.ofString "__init__") (Str.ofString "BadSaying.__init__") (cIni 15) (He.fAd K (Str.ofString "BadSaying", some (Str.ofString "__init__"))) fd := fun_of F
  obtain ⟨oc, od, kV, doc, pm, anx, cdv, ctv, osl, rfl, _, _⟩ := FF.ex
  refine ⟨_, fun P w mg base => ok_init1 FF ⟨rfl, rfl, rfl, by decide +kernel, rfl, by decide +kernel, by decide +kernel⟩ rfl (by decide +kernel) (by decide +kernel) (by decide +kernel) (by decide +kernel), fun us hl => ?_, fun a ws hl => ?_⟩
  · match us, hl with
    | [_, _], _ => rfl
  · match ws, hl with
    | [_], _ => rfl
theorem inT14 {K : Frag} (c : Says K) : Ini K (Str.ofString "BadSolid") [Str.ofString "part"] := by
  obtain ⟨fd, F⟩ := says_def (d := dfI (Str.ofString "BadSolid") (Str.ofString "BadSolid.__init__") 16) c (i := 25) rfl
  have FF : Fun K (Str.ofString "__init__") (Str.ofString "BadSolid.__init__") (cIni 16) (He.fAd K (Str.ofString "BadSolid", some (Str.ofString "__init__"))) fd := fun_of F
  obtain ⟨oc, od, kV, doc, pm, anx, cdv, ctv, osl, rfl, _, _⟩ := FF.ex
  refine ⟨_, fun P w mg base => ok_init1 FF ⟨rfl, rfl, rfl, by decide +kernel, rfl, by decide +kernel, by decide +kernel⟩ rfl (by decide +kernel) (by decide +kernel) (by decide +kernel) (by decide +kernel), fun us hl => ?_, fun a ws hl => ?_⟩
  · match us, hl with
    | [_, _], _ => rfl
  · match ws, hl with
    | [_], _ => rfl
theorem inT15 {K : Frag} (c : Says K) : Ini K (Str.ofString "BadView") [Str.ofString "part"] := by
  obtain ⟨fd, F⟩ := says_def (d := dfI (Str.ofString "BadView") (Str.ofString "BadView.__init__") 17) c (i := 26) rfl
  have FF : Fun K (Str.ofString "__init__") (Str.ofString "BadView.__init__") (cIni 17) (He.fAd K (Str.ofString "BadView", some (Str.ofString "__init__"))) fd := fun_of F
  obtain ⟨oc, od, kV, doc, pm, anx, cdv, ctv, osl, rfl, _, _⟩ := FF.ex
  refine ⟨_, fun P w mg base => ok_init1 FF ⟨rfl, rfl, rfl, by decide +kernel, rfl, by decide +kernel, by decide +kernel⟩ rfl (by decide +kernel) (by decide +kernel) (by decide +kernel) (by decide +kernel), fun us hl => ?_, fun a ws hl => ?_⟩
  · match us, hl with
    | [_, _], _ => rfl
  · match ws, hl with
    | [_], _ => rfl
theorem inT16 {K : Frag} (c : Says K) : Ini K (Str.ofString "BadLight") [Str.ofString "part"] := by
  obtain ⟨fd, F⟩ := says_def (d := dfI (Str.ofString "BadLight") (Str.ofString "BadLight.__init__") 18) c (i := 27) rfl
  have FF : Fun K (Str.ofString "__init__") (Str.ofString "BadLight.__init__") (cIni 18) (He.fAd K (Str.ofString "BadLight", some (Str.ofString "__init__"))) fd := fun_of F
  obtain ⟨oc, od, kV, doc, pm, anx, cdv, ctv, osl, rfl, _, _⟩ := FF.ex
  refine ⟨_, fun P w mg base => ok_init1 FF ⟨rfl, rfl, rfl, by decide +kernel, rfl, by decide +kernel, by decide +kernel⟩ rfl (by decide +kernel) (by decide +kernel) (by decide +kernel) (by decide +kernel), fun us hl => ?_, fun a ws hl => ?_⟩
  · match us, hl with
    | [_, _], _ => rfl
  · match ws, hl with
    | [_], _ => rfl
theorem inT17 {K : Frag} (c : Says K) : Ini K (Str.ofString "BadNumber") [Str.ofString "part"] := by
  obtain ⟨fd, F⟩ := says_def (d := dfI (Str.ofString "BadNumber") (Str.ofString "BadNumber.__init__") 19) c (i := 28) rfl
  have FF : Fun K (Str.ofString "__init__") (Str.ofString "BadNumber.__init__") (cIni 19) (He.fAd K (Str.ofString "BadNumber", some (Str.ofString "__init__"))) fd := fun_of F
  obtain ⟨oc, od, kV, doc, pm, anx, cdv, ctv, osl, rfl, _, _⟩ := FF.ex
  refine ⟨_, fun P w mg base => ok_init1 FF ⟨rfl, rfl, rfl, by decide +kernel, rfl, by decide +kernel, by decide +kernel⟩ rfl (by decide +kernel) (by decide +kernel) (by decide +kernel) (by decide +kernel), fun us hl => ?_, fun a ws hl => ?_⟩
  · match us, hl with
    | [_, _], _ => rfl
  · match ws, hl with
    | [_], _ => rfl
theorem inT18 {K : Frag} (c : Says K) : Ini K (Str.ofString "BadPaper") [Str.ofString "part"] := by
  obtain ⟨fd, F⟩ := says_def (d := dfI (Str.ofString "BadPaper") (Str.ofString "BadPaper.__init__") 20) c (i := 29) rfl
  have FF : Fun K (Str.ofString "__init__") (Str.ofString "BadPaper.__init__") (cIni 20) (He.fAd K (Str.ofString "BadPaper", some (Str.ofString "__init__"))) fd := fun_of F
  obtain ⟨oc, od, kV, doc, pm, anx, cdv, ctv, osl, rfl, _, _⟩ := FF.ex
  refine ⟨_, fun P w mg base => ok_init1 FF ⟨rfl, rfl, rfl, by decide +kernel, rfl, by decide +kernel, by decide +kernel⟩ rfl (by decide +kernel) (by decide +kernel) (by decide +kernel) (by decide +kernel), fun us hl => ?_, fun a ws hl => ?_⟩
  · match us, hl with
    | [_, _], _ => rfl
  · match ws, hl with
    | [_], _ => rfl
theorem inT19 {K : Frag} (c : Says K) : Ini K (Str.ofString "BadDesk") [Str.ofString "part"] := by
  obtain ⟨fd, F⟩ := says_def (d := dfI (Str.ofString "BadDesk") (Str.ofString "BadDesk.__init__") 21) c (i := 30) rfl
  have FF : Fun K (Str.ofString "__init__") (Str.ofString "BadDesk.__init__") (cIni 21) (He.fAd K (Str.ofString "BadDesk", some (Str.ofString "__init__"))) fd := fun_of F
  obtain ⟨oc, od, kV, doc, pm, anx, cdv, ctv, osl, rfl, _, _⟩ := FF.ex
  refine ⟨_, fun P w mg base => ok_init1 FF ⟨rfl, rfl, rfl, by decide +kernel, rfl, by decide +kernel, by decide +kernel⟩ rfl (by decide +kernel) (by decide +kernel) (by decide +kernel) (by decide +kernel), fun us hl => ?_, fun a ws hl => ?_⟩
  · match us, hl with
    | [_, _], _ => rfl
  · match ws, hl with
    | [_], _ => rfl
theorem inT20 {K : Frag} (c : Says K) : Ini K (Str.ofString "NotPlain") [Str.ofString "part"] := by
  obtain ⟨fd, F⟩ := says_def (d := dfI (Str.ofString "NotPlain") (Str.ofString "NotPlain.__init__") 22) c (i := 31) rfl
  have FF : Fun K (Str.ofString "__init__") (Str.ofString "NotPlain.__init__") (cIni 22) (He.fAd K (Str.ofString "NotPlain", some (Str.ofString "__init__"))) fd := fun_of F
  obtain ⟨oc, od, kV, doc, pm, anx, cdv, ctv, osl, rfl, _, _⟩ := FF.ex
  refine ⟨_, fun P w mg base => ok_init1 FF ⟨rfl, rfl, rfl, by decide +kernel, rfl, by decide +kernel, by decide +kernel⟩ rfl (by decide +kernel) (by decide +kernel) (by decide +kernel) (by decide +kernel), fun us hl => ?_, fun a ws hl => ?_⟩
  · match us, hl with
    | [_, _], _ => rfl
  · match ws, hl with
    | [_], _ => rfl
theorem inT21 {K : Frag} (c : Says K) : Ini K (Str.ofString "Unsettled") [Str.ofString "part"] := by
  obtain ⟨fd, F⟩ := says_def (d := dfI (Str.ofString "Unsettled") (Str.ofString "Unsettled.__init__") 23) c (i := 32) rfl
  have FF : Fun K (Str.ofString "__init__") (Str.ofString "Unsettled.__init__") (cIni 23) (He.fAd K (Str.ofString "Unsettled", some (Str.ofString "__init__"))) fd := fun_of F
  obtain ⟨oc, od, kV, doc, pm, anx, cdv, ctv, osl, rfl, _, _⟩ := FF.ex
  refine ⟨_, fun P w mg base => ok_init1 FF ⟨rfl, rfl, rfl, by decide +kernel, rfl, by decide +kernel, by decide +kernel⟩ rfl (by decide +kernel) (by decide +kernel) (by decide +kernel) (by decide +kernel), fun us hl => ?_, fun a ws hl => ?_⟩
  · match us, hl with
    | [_, _], _ => rfl
  · match ws, hl with
    | [_], _ => rfl
theorem inT22 {K : Frag} (c : Says K) : Ini K (Str.ofString "NoLabel") [Str.ofString "name"] := by
  obtain ⟨fd, F⟩ := says_def (d := dfI (Str.ofString "NoLabel") (Str.ofString "Missing.__init__") 24) c (i := 33) rfl
  have FF : Fun K (Str.ofString "__init__") (Str.ofString "Missing.__init__") (cIni 24) (He.fAd K (Str.ofString "NoLabel", some (Str.ofString "__init__"))) fd := fun_of F
  obtain ⟨oc, od, kV, doc, pm, anx, cdv, ctv, osl, rfl, _, _⟩ := FF.ex
  refine ⟨_, fun P w mg base => ok_init1 FF ⟨rfl, rfl, rfl, by decide +kernel, rfl, by decide +kernel, by decide +kernel⟩ rfl (by decide +kernel) (by decide +kernel) (by decide +kernel) (by decide +kernel), fun us hl => ?_, fun a ws hl => ?_⟩
  · match us, hl with
    | [_, _], _ => rfl
  · match ws, hl with
    | [_], _ => rfl
theorem inT23 {K : Frag} (c : Says K) : Ini K (Str.ofString "NoPicture") [Str.ofString "name"] := by
  obtain ⟨fd, F⟩ := says_def (d := dfI (Str.ofString "NoPicture") (Str.ofString "Missing.__init__") 24) c (i := 34) rfl
  have FF : Fun K (Str.ofString "__init__") (Str.ofString "Missing.__init__") (cIni 24) (He.fAd K (Str.ofString "NoPicture", some (Str.ofString "__init__"))) fd := fun_of F
  obtain ⟨oc, od, kV, doc, pm, anx, cdv, ctv, osl, rfl, _, _⟩ := FF.ex
  refine ⟨_, fun P w mg base => ok_init1 FF ⟨rfl, rfl, rfl, by decide +kernel, rfl, by decide +kernel, by decide +kernel⟩ rfl (by decide +kernel) (by decide +kernel) (by decide +kernel) (by decide +kernel), fun us hl => ?_, fun a ws hl => ?_⟩
  · match us, hl with
    | [_, _], _ => rfl
  · match ws, hl with
    | [_], _ => rfl
theorem inT24 {K : Frag} (c : Says K) : Ini K (Str.ofString "NoName") [Str.ofString "name"] := by
  obtain ⟨fd, F⟩ := says_def (d := dfI (Str.ofString "NoName") (Str.ofString "Missing.__init__") 24) c (i := 35) rfl
  have FF : Fun K (Str.ofString "__init__") (Str.ofString "Missing.__init__") (cIni 24) (He.fAd K (Str.ofString "NoName", some (Str.ofString "__init__"))) fd := fun_of F
  obtain ⟨oc, od, kV, doc, pm, anx, cdv, ctv, osl, rfl, _, _⟩ := FF.ex
  refine ⟨_, fun P w mg base => ok_init1 FF ⟨rfl, rfl, rfl, by decide +kernel, rfl, by decide +kernel, by decide +kernel⟩ rfl (by decide +kernel) (by decide +kernel) (by decide +kernel) (by decide +kernel), fun us hl => ?_, fun a ws hl => ?_⟩
  · match us, hl with
    | [_, _], _ => rfl
  · match ws, hl with
    | [_], _ => rfl
theorem inT25 {K : Frag} (c : Says K) : Ini K (Str.ofString "Twice") [Str.ofString "name"] := by
  obtain ⟨fd, F⟩ := says_def (d := dfI (Str.ofString "Twice") (Str.ofString "Twice.__init__") 29) c (i := 36) rfl
  have FF : Fun K (Str.ofString "__init__") (Str.ofString "Twice.__init__") (cIni 29) (He.fAd K (Str.ofString "Twice", some (Str.ofString "__init__"))) fd := fun_of F
  obtain ⟨oc, od, kV, doc, pm, anx, cdv, ctv, osl, rfl, _, _⟩ := FF.ex
  refine ⟨_, fun P w mg base => ok_init1 FF ⟨rfl, rfl, rfl, by decide +kernel, rfl, by decide +kernel, by decide +kernel⟩ rfl (by decide +kernel) (by decide +kernel) (by decide +kernel) (by decide +kernel), fun us hl => ?_, fun a ws hl => ?_⟩
  · match us, hl with
    | [_, _], _ => rfl
  · match ws, hl with
    | [_], _ => rfl
theorem inT26 {K : Frag} (c : Says K) : Ini K (Str.ofString "Behind") [Str.ofString "name"] := by
  obtain ⟨fd, F⟩ := says_def (d := dfI (Str.ofString "Behind") (Str.ofString "Behind.__init__") 33) c (i := 37) rfl
  have FF : Fun K (Str.ofString "__init__") (Str.ofString "Behind.__init__") (cIni 33) (He.fAd K (Str.ofString "Behind", some (Str.ofString "__init__"))) fd := fun_of F
  obtain ⟨oc, od, kV, doc, pm, anx, cdv, ctv, osl, rfl, _, _⟩ := FF.ex
  refine ⟨_, fun P w mg base => ok_init1 FF ⟨rfl, rfl, rfl, by decide +kernel, rfl, by decide +kernel, by decide +kernel⟩ rfl (by decide +kernel) (by decide +kernel) (by decide +kernel) (by decide +kernel), fun us hl => ?_, fun a ws hl => ?_⟩
  · match us, hl with
    | [_, _], _ => rfl
  · match ws, hl with
    | [_], _ => rfl
theorem inT27 {K : Frag} (c : Says K) : Ini K (Str.ofString "NoFact") [Str.ofString "number"] := by
  obtain ⟨fd, F⟩ := says_def (d := dfI (Str.ofString "NoFact") (Str.ofString "NoFact.__init__") 28) c (i := 38) rfl
  have FF : Fun K (Str.ofString "__init__") (Str.ofString "NoFact.__init__") (cIni 28) (He.fAd K (Str.ofString "NoFact", some (Str.ofString "__init__"))) fd := fun_of F
  obtain ⟨oc, od, kV, doc, pm, anx, cdv, ctv, osl, rfl, _, _⟩ := FF.ex
  refine ⟨_, fun P w mg base => ok_init1 FF ⟨rfl, rfl, rfl, by decide +kernel, rfl, by decide +kernel, by decide +kernel⟩ rfl (by decide +kernel) (by decide +kernel) (by decide +kernel) (by decide +kernel), fun us hl => ?_, fun a ws hl => ?_⟩
  · match us, hl with
    | [_, _], _ => rfl
  · match ws, hl with
    | [_], _ => rfl
theorem inT28 {K : Frag} (c : Says K) : Ini K (Str.ofString "Impossible") [Str.ofString "word"] := by
  obtain ⟨fd, F⟩ := says_def (d := dfI (Str.ofString "Impossible") (Str.ofString "Impossible.__init__") 34) c (i := 39) rfl
  have FF : Fun K (Str.ofString "__init__") (Str.ofString "Impossible.__init__") (cIni 34) (He.fAd K (Str.ofString "Impossible", some (Str.ofString "__init__"))) fd := fun_of F
  obtain ⟨oc, od, kV, doc, pm, anx, cdv, ctv, osl, rfl, _, _⟩ := FF.ex
  refine ⟨_, fun P w mg base => ok_init1 FF ⟨rfl, rfl, rfl, by decide +kernel, rfl, by decide +kernel, by decide +kernel⟩ rfl (by decide +kernel) (by decide +kernel) (by decide +kernel) (by decide +kernel), fun us hl => ?_, fun a ws hl => ?_⟩
  · match us, hl with
    | [_, _], _ => rfl
  · match ws, hl with
    | [_], _ => rfl
theorem inT29 {K : Frag} (c : Says K) : Ini K (Str.ofString "SamePlace") [Str.ofString "one", Str.ofString "other"] := by
  obtain ⟨fd, F⟩ := says_def (d := dfI (Str.ofString "SamePlace") (Str.ofString "SamePlace.__init__") 30) c (i := 40) rfl
  have FF : Fun K (Str.ofString "__init__") (Str.ofString "SamePlace.__init__") (cIni 30) (He.fAd K (Str.ofString "SamePlace", some (Str.ofString "__init__"))) fd := fun_of F
  obtain ⟨oc, od, kV, doc, pm, anx, cdv, ctv, osl, rfl, _, _⟩ := FF.ex
  refine ⟨_, fun P w mg base => ok_init2 FF ⟨rfl, rfl, rfl, by decide +kernel, rfl, by decide +kernel, by decide +kernel⟩ rfl (by decide +kernel) (by decide +kernel) (by decide +kernel) (by decide +kernel) (by decide +kernel) (by decide +kernel) (by decide +kernel), fun us hl => ?_, fun a ws hl => ?_⟩
  · match us, hl with
    | [_, _, _], _ => rfl
  · match ws, hl with
    | [_, _], _ => rfl
theorem inT30 {K : Frag} (c : Says K) : Ini K (Str.ofString "TwoPictures") [Str.ofString "one", Str.ofString "other"] := by
  obtain ⟨fd, F⟩ := says_def (d := dfI (Str.ofString "TwoPictures") (Str.ofString "TwoPictures.__init__") 31) c (i := 41) rfl
  have FF : Fun K (Str.ofString "__init__") (Str.ofString "TwoPictures.__init__") (cIni 31) (He.fAd K (Str.ofString "TwoPictures", some (Str.ofString "__init__"))) fd := fun_of F
  obtain ⟨oc, od, kV, doc, pm, anx, cdv, ctv, osl, rfl, _, _⟩ := FF.ex
  refine ⟨_, fun P w mg base => ok_init2 FF ⟨rfl, rfl, rfl, by decide +kernel, rfl, by decide +kernel, by decide +kernel⟩ rfl (by decide +kernel) (by decide +kernel) (by decide +kernel) (by decide +kernel) (by decide +kernel) (by decide +kernel) (by decide +kernel), fun us hl => ?_, fun a ws hl => ?_⟩
  · match us, hl with
    | [_, _, _], _ => rfl
  · match ws, hl with
    | [_, _], _ => rfl
theorem inT31 {K : Frag} (c : Says K) : Ini K (Str.ofString "NotJoined") [Str.ofString "one", Str.ofString "other"] := by
  obtain ⟨fd, F⟩ := says_def (d := dfI (Str.ofString "NotJoined") (Str.ofString "NotJoined.__init__") 32) c (i := 42) rfl
  have FF : Fun K (Str.ofString "__init__") (Str.ofString "NotJoined.__init__") (cIni 32) (He.fAd K (Str.ofString "NotJoined", some (Str.ofString "__init__"))) fd := fun_of F
  obtain ⟨oc, od, kV, doc, pm, anx, cdv, ctv, osl, rfl, _, _⟩ := FF.ex
  refine ⟨_, fun P w mg base => ok_init2 FF ⟨rfl, rfl, rfl, by decide +kernel, rfl, by decide +kernel, by decide +kernel⟩ rfl (by decide +kernel) (by decide +kernel) (by decide +kernel) (by decide +kernel) (by decide +kernel) (by decide +kernel) (by decide +kernel), fun us hl => ?_, fun a ws hl => ?_⟩
  · match us, hl with
    | [_, _, _], _ => rfl
  · match ws, hl with
    | [_, _], _ => rfl
theorem inT32 {K : Frag} (c : Says K) : Ini K (Str.ofString "TooMany") [Str.ofString "what", Str.ofString "most"] := by
  obtain ⟨fd, F⟩ := says_def (d := dfI (Str.ofString "TooMany") (Str.ofString "TooMany.__init__") 36) c (i := 43) rfl
  have FF : Fun K (Str.ofString "__init__") (Str.ofString "TooMany.__init__") (cIni 36) (He.fAd K (Str.ofString "TooMany", some (Str.ofString "__init__"))) fd := fun_of F
  obtain ⟨oc, od, kV, doc, pm, anx, cdv, ctv, osl, rfl, _, _⟩ := FF.ex
  refine ⟨_, fun P w mg base => ok_init2 FF ⟨rfl, rfl, rfl, by decide +kernel, rfl, by decide +kernel, by decide +kernel⟩ rfl (by decide +kernel) (by decide +kernel) (by decide +kernel) (by decide +kernel) (by decide +kernel) (by decide +kernel) (by decide +kernel), fun us hl => ?_, fun a ws hl => ?_⟩
  · match us, hl with
    | [_, _, _], _ => rfl
  · match ws, hl with
    | [_, _], _ => rfl
theorem inT33 {K : Frag} (c : Says K) : Ini K (Str.ofString "BadText") [Str.ofString "line", Str.ofString "word"] := by
  obtain ⟨fd, F⟩ := says_def (d := dfI (Str.ofString "BadText") (Str.ofString "BadText.__init__") 37) c (i := 44) rfl
  have FF : Fun K (Str.ofString "__init__") (Str.ofString "BadText.__init__") (cIni 37) (He.fAd K (Str.ofString "BadText", some (Str.ofString "__init__"))) fd := fun_of F
  obtain ⟨oc, od, kV, doc, pm, anx, cdv, ctv, osl, rfl, _, _⟩ := FF.ex
  refine ⟨_, fun P w mg base => ok_init2 FF ⟨rfl, rfl, rfl, by decide +kernel, rfl, by decide +kernel, by decide +kernel⟩ rfl (by decide +kernel) (by decide +kernel) (by decide +kernel) (by decide +kernel) (by decide +kernel) (by decide +kernel) (by decide +kernel), fun us hl => ?_, fun a ws hl => ?_⟩
  · match us, hl with
    | [_, _, _], _ => rfl
  · match ws, hl with
    | [_, _], _ => rfl
theorem inT34 {K : Frag} (c : Says K) : Ini K (Str.ofString "BadLine") [Str.ofString "line", Str.ofString "error"] := by
  obtain ⟨fd, F⟩ := says_def (d := dfI (Str.ofString "BadLine") (Str.ofString "BadLine.__init__") 38) c (i := 45) rfl
  have FF : Fun K (Str.ofString "__init__") (Str.ofString "BadLine.__init__") (cIni 38) (He.fAd K (Str.ofString "BadLine", some (Str.ofString "__init__"))) fd := fun_of F
  obtain ⟨oc, od, kV, doc, pm, anx, cdv, ctv, osl, rfl, _, _⟩ := FF.ex
  refine ⟨_, fun P w mg base => ok_init2 FF ⟨rfl, rfl, rfl, by decide +kernel, rfl, by decide +kernel, by decide +kernel⟩ rfl (by decide +kernel) (by decide +kernel) (by decide +kernel) (by decide +kernel) (by decide +kernel) (by decide +kernel) (by decide +kernel), fun us hl => ?_, fun a ws hl => ?_⟩
  · match us, hl with
    | [_, _, _], _ => rfl
  · match ws, hl with
    | [_, _], _ => rfl
theorem inT35 {K : Frag} (c : Says K) : Ini K (Str.ofString "Missing") [Str.ofString "name"] := by
  obtain ⟨fd, F⟩ := says_def (d := dfI (Str.ofString "Missing") (Str.ofString "Missing.__init__") 24) c (i := 46) rfl
  have FF : Fun K (Str.ofString "__init__") (Str.ofString "Missing.__init__") (cIni 24) (He.fAd K (Str.ofString "Missing", some (Str.ofString "__init__"))) fd := fun_of F
  obtain ⟨oc, od, kV, doc, pm, anx, cdv, ctv, osl, rfl, _, _⟩ := FF.ex
  refine ⟨_, fun P w mg base => ok_init1 FF ⟨rfl, rfl, rfl, by decide +kernel, rfl, by decide +kernel, by decide +kernel⟩ rfl (by decide +kernel) (by decide +kernel) (by decide +kernel) (by decide +kernel), fun us hl => ?_, fun a ws hl => ?_⟩
  · match us, hl with
    | [_, _], _ => rfl
  · match ws, hl with
    | [_], _ => rfl
theorem inis {K : Frag} (c : Says K) : ∀ (i : Nat) n fs, errT[i]? = some (n, fs) → Ini K n fs
  | 0, _, _, e => by
    cases e
    exact inT0 c
  | 1, _, _, e => by
    cases e
    exact inT1 c
  | 2, _, _, e => by
    cases e
    exact inT2 c
  | 3, _, _, e => by
    cases e
    exact inT3 c
  | 4, _, _, e => by
    cases e
    exact inT4 c
  | 5, _, _, e => by
    cases e
    exact inT5 c
  | 6, _, _, e => by
    cases e
    exact inT6 c
  | 7, _, _, e => by
    cases e
    exact inT7 c
  | 8, _, _, e => by
    cases e
    exact inT8 c
  | 9, _, _, e => by
    cases e
    exact inT9 c
  | 10, _, _, e => by
    cases e
    exact inT10 c
  | 11, _, _, e => by
    cases e
    exact inT11 c
  | 12, _, _, e => by
    cases e
    exact inT12 c
  | 13, _, _, e => by
    cases e
    exact inT13 c
  | 14, _, _, e => by
    cases e
    exact inT14 c
  | 15, _, _, e => by
    cases e
    exact inT15 c
  | 16, _, _, e => by
    cases e
    exact inT16 c
  | 17, _, _, e => by
    cases e
    exact inT17 c
  | 18, _, _, e => by
    cases e
    exact inT18 c
  | 19, _, _, e => by
    cases e
    exact inT19 c
  | 20, _, _, e => by
    cases e
    exact inT20 c
  | 21, _, _, e => by
    cases e
    exact inT21 c
  | 22, _, _, e => by
    cases e
    exact inT22 c
  | 23, _, _, e => by
    cases e
    exact inT23 c
  | 24, _, _, e => by
    cases e
    exact inT24 c
  | 25, _, _, e => by
    cases e
    exact inT25 c
  | 26, _, _, e => by
    cases e
    exact inT26 c
  | 27, _, _, e => by
    cases e
    exact inT27 c
  | 28, _, _, e => by
    cases e
    exact inT28 c
  | 29, _, _, e => by
    cases e
    exact inT29 c
  | 30, _, _, e => by
    cases e
    exact inT30 c
  | 31, _, _, e => by
    cases e
    exact inT31 c
  | 32, _, _, e => by
    cases e
    exact inT32 c
  | 33, _, _, e => by
    cases e
    exact inT33 c
  | 34, _, _, e => by
    cases e
    exact inT34 c
  | 35, _, _, e => by
    cases e
    exact inT35 c
  | _ + 36, _, _, e => by cases e
end K0


set_option Elab.async false
set_option linter.all false
set_option maxRecDepth 100000
set_option maxHeartbeats 8000000
namespace K0
open PySem PySem.Spec L2 PyProof.Rows PV
open PySem.W (Frag)
theorem zip_at {α : Type} {l : List α} {p : α × Nat → Bool} {i : Nat} {x : α} (h : l.zipIdx.all p = true) (e : l[i]? = some x) : p (x, i) = true := List.all_eq_true.mp h (x, i) (by
  rw [List.mk_mem_zipIdx_iff_getElem?]
  exact e)
theorem hd_of {W : Wd} {h : Heap} (kin : W.K.In h) (ns : h.Ns mainGlobals W.mg) (eG : W.G = He.ga W.K) (c : Says W.K) : Hd W := by
  have S := ks c
  have cls : ∀ (i : Nat) n, clsN[i]? = some n → W.mg n = some (.ref (W.G n)) := fun i n e => by
    rw [eG]
    exact He.glo_ok kin ns (show gl1 W.K n = true from all_at S.gl e)
  have erc : ∀ (i : Nat) n, clsN[i]? = some n → ErrC W.K (W.G n) := fun i n e => by
    rw [eG]
    exact errB_ok (show errB W.K (He.ga W.K n) = true from all_at (p := fun n => errB W.K (He.ga W.K n)) S.er e)
  have kic : ∀ (i : Nat) n, clsN[i]? = some n → KitC W.K (W.G n) := fun i n e => by
    rw [eG]
    exact kitCB_ok (show kitCB W.K (He.ga W.K n) = true from all_at (p := fun n => kitCB W.K (He.ga W.K n)) S.kc e)
  have noF : ∀ (i j : Nat) n fs f, errT[i]? = some (n, fs) → fs[j]? = some f → PySem.W.findIn W.K (.ref (W.G n)) f = some none := fun i j n fs f e e2 => by
    rw [eG]
    have q : fs.all (no1 W.K n) = true := all_at (p := fun p => p.2.all (no1 W.K p.1)) S.no e
    exact of_decide_eq_true (show no1 W.K n f = true from all_at q e2)
  have ert : ∀ (i : Nat) n fs, errT[i]? = some (n, fs) → W.mg n = some (.ref (W.G n)) ∧ ErrC W.K (W.G n) := fun i n fs e => by
    rw [eG]
    obtain ⟨q1, q2⟩ := an (show (gl1 W.K n && errB W.K (He.ga W.K n)) = true from all_at (p := fun p => gl1 W.K p.1 && errB W.K (He.ga W.K p.1)) S.et e)
    exact ⟨He.glo_ok kin ns q1, errB_ok q2⟩
  refine ⟨cls, fun i n e => He.free_ok kin ns (show fr1 W.K n = true from all_at S.fr e), fun i n fs e X Z hX => ?_, fun i n e X Z hX => ?_, fun i j C fs f e e2 => ⟨(ert i C fs e).2, noF i j C fs f e e2⟩, fun i j C cc e e2 fs X Z hX => ?_, fun i j C T e e2 fs X Z hX => ?_, smB_ok S.sm⟩
  · subst hX
    obtain ⟨fd, q1, q2, q3⟩ := (inis c i n fs e).ex
    have qi := an (show ini1 X.K n = true from all_at (p := fun p => ini1 X.K p.1) S.ini e)
    refine ⟨(ert i n fs e).2, (ert i n fs e).1, fun f hf => ?_, He.fAd X.K (n, some (Str.ofString "__init__")), fd, ?_, ?_, q1 _ _ _ _, q2, q3⟩
    · obtain ⟨j, hj⟩ := List.getElem?_of_mem hf
      exact noF i j n fs f e hj
    · rw [show Z.G = He.ga X.K from eG]
      exact of_decide_eq_true qi.1
    · exact of_decide_eq_true qi.2
  · subst hX
    have q := an (show ex1 X.K n = true from all_at S.e0 e)
    have g : X.mg n = some (.ref (Z.G n)) := by
      match i, e with
      | 0, e => exact cls 35 n e
      | 1, e => exact cls 37 n e
      | i + 2, e => cases e
    rw [show Z.G = He.ga X.K from eG] at g
    exact ⟨by rw [show Z.G = He.ga X.K from eG]; exact q.1, by rw [show Z.G = He.ga X.K from eG]; exact g, by rw [show Z.G = He.ga X.K from eG]; exact q.2⟩
  · subst hX
    refine co_isi (t := .ref (Z.G C)) (c := .ref (Z.G cc)) (fun C' fs' z => ?_) (fun C' fs' z => by cases z) (fun C' z => ?_) rfl rfl ?_
    · cases z
      exact erc i C e
    · cases z
      exact kic i C e
    · rw [show Z.G = He.ga X.K from eG]
      exact of_decide_eq_true (show kit1 X.K i j C cc = true from zip_at (p := fun q => kit1 X.K i q.2 C q.1) (zip_at (p := fun p => clsN.zipIdx.all fun q => kit1 X.K p.2 q.2 p.1 q.1) S.kit e) e2)
  · subst hX
    refine co_isi (t := .ref (Z.G C)) (c := .type T) (fun C' fs' z => ?_) (fun C' fs' z => by cases z) (fun C' z => ?_) rfl rfl ?_
    · cases z
      exact erc i C e
    · cases z
      exact kic i C e
    · rw [show Z.G = He.ga X.K from eG]
      exact of_decide_eq_true (show kitT1 X.K j C T = true from zip_at (p := fun q => kitT1 X.K q.2 C q.1) (all_at (p := fun n => tyN.zipIdx.all fun q => kitT1 X.K q.2 n q.1) S.kitT e) e2)
/-! ### the defs, one after the other -/
section
variable {W : Wd} {h : Heap}
structure Bs (W : Wd) : Prop where
  hd : Hd W
  eG : W.G = He.ga W.K
  sy : Says W.K
  gl : ∀ (i : Nat) n, defN[i]? = some n → W.mg n = some (.ref (He.ga W.K n))
theorem bs_of {W : Wd} {h : Heap} (kin : W.K.In h) (ns : h.Ns mainGlobals W.mg) (eG : W.G = He.ga W.K) (c : Says W.K) : Bs W := ⟨hd_of kin ns eG c, eG, c, fun i n e => He.glo_ok kin ns (show gl1 W.K n = true from all_at (ks c).df e)⟩
theorem Bs.fn (B : Bs W) {i j : Nat} {n : Str} (h : fnT[i]? = some (dfD n j)) : ∃ fd, Fun W.K n n (dS j) (He.ga W.K n) fd := by
  obtain ⟨fd, F⟩ := says_def (d := dfD n j) B.sy h
  exact ⟨fd, fun_of F⟩
theorem d_jug (B : Bs W) : DefOk W (Str.ofString "_law_jug") 1 ctJug := by
  obtain ⟨fd, F⟩ := B.fn (i := 0) (j := 40) (n := Str.ofString "_law_jug") rfl
  refine p_def (N := nJug) (ps := pJug) F (B.gl 0 _ rfl) ⟨rfl, rfl, rfl, by decide +kernel, rfl, by decide +kernel, by decide +kernel⟩ (fun _ _ _ _ _ _ us hl => match us, hl with | [_], _ => rfl) (fun sl r outs c => ?_) (by decide +kernel) fun sl r outs c X Z F => ?_
  · cases c
    exact ⟨rfl, rfl⟩
  · cases c
    exact w_jug B.hd F
theorem d_pour (B : Bs W) : DefOk W (Str.ofString "_law_pour") 1 ctPour := by
  obtain ⟨fd, F⟩ := B.fn (i := 1) (j := 41) (n := Str.ofString "_law_pour") rfl
  refine p_def (N := nPour) (ps := pPour) F (B.gl 1 _ rfl) ⟨rfl, rfl, rfl, by decide +kernel, rfl, by decide +kernel, by decide +kernel⟩ (fun _ _ _ _ _ _ us hl => match us, hl with | [_, _], _ => rfl) (fun sl r outs c => ?_) (by decide +kernel) fun sl r outs c X Z F => ?_
  · cases c
    exact ⟨rfl, rfl⟩
  · have e : ioIx 0 sl = [0] := by
      cases c
      rfl
    rw [e] at F
    exact w_pour F _ _ _ c
theorem d_parts (B : Bs W) : DefOk W (Str.ofString "_law_parts") 3 ctParts := by
  obtain ⟨fd, F⟩ := B.fn (i := 2) (j := 42) (n := Str.ofString "_law_parts") rfl
  refine p_def (N := nParts) (ps := pParts) F (B.gl 2 _ rfl) ⟨rfl, rfl, rfl, by decide +kernel, rfl, by decide +kernel, by decide +kernel⟩ (fun _ _ _ _ _ _ us hl => match us, hl with | [_], _ => rfl) (fun sl r outs c => ?_) (by decide +kernel) fun sl r outs c X Z F => ?_
  · cases c
    exact ⟨rfl, rfl⟩
  · cases c
    exact w_parts B.hd F
theorem d_parts2 (B : Bs W) : DefOk W (Str.ofString "_law_parts_turned") 3 ctParts := by
  obtain ⟨fd, F⟩ := B.fn (i := 3) (j := 43) (n := Str.ofString "_law_parts_turned") rfl
  refine p_def (N := nPartsTurned) (ps := pPartsTurned) F (B.gl 3 _ rfl) ⟨rfl, rfl, rfl, by decide +kernel, rfl, by decide +kernel, by decide +kernel⟩ (fun _ _ _ _ _ _ us hl => match us, hl with | [_], _ => rfl) (fun sl r outs c => ?_) (by decide +kernel) fun sl r outs c X Z F => ?_
  · cases c
    exact ⟨rfl, rfl⟩
  · cases c
    exact w_parts2 B.hd F
theorem d_others (B : Bs W) : DefOk W (Str.ofString "_law_others") 3 ctOthers := by
  obtain ⟨fd, F⟩ := B.fn (i := 4) (j := 44) (n := Str.ofString "_law_others") rfl
  refine p_def (N := nOthers) (ps := pOthers) F (B.gl 4 _ rfl) ⟨rfl, rfl, rfl, by decide +kernel, rfl, by decide +kernel, by decide +kernel⟩ (fun _ _ _ _ _ _ us hl => match us, hl with | [_, _], _ => rfl) (fun sl r outs c => ?_) (by decide +kernel) fun sl r outs c X Z F => ?_
  · cases c
    exact ⟨rfl, rfl⟩
  · cases c
    exact w_others B.hd F
theorem d_others2 (B : Bs W) : DefOk W (Str.ofString "_law_others_named") 3 ctOthers := by
  obtain ⟨fd, F⟩ := B.fn (i := 5) (j := 45) (n := Str.ofString "_law_others_named") rfl
  refine p_def (N := nOthersNamed) (ps := pOthersNamed) F (B.gl 5 _ rfl) ⟨rfl, rfl, rfl, by decide +kernel, rfl, by decide +kernel, by decide +kernel⟩ (fun _ _ _ _ _ _ us hl => match us, hl with | [_, _], _ => rfl) (fun sl r outs c => ?_) (by decide +kernel) fun sl r outs c X Z F => ?_
  · cases c
    exact ⟨rfl, rfl⟩
  · cases c
    exact w_others2 B.hd F
theorem d_fields (B : Bs W) : DefOk W (Str.ofString "_law_fields") 1 ctFields := by
  obtain ⟨fd, F⟩ := B.fn (i := 6) (j := 46) (n := Str.ofString "_law_fields") rfl
  refine p_def (N := nFields) (ps := pFields) F (B.gl 6 _ rfl) ⟨rfl, rfl, rfl, by decide +kernel, rfl, by decide +kernel, by decide +kernel⟩ (fun _ _ _ _ _ _ us hl => match us, hl with | [_, _], _ => rfl) (fun sl r outs c => ?_) (by decide +kernel) fun sl r outs c X Z F => ?_
  · cases c <;> exact ⟨rfl, rfl⟩
  · have e : ioIx 0 sl = [] := by
      cases c <;> rfl
    rw [e] at F
    exact w_fields B.hd F _ _ _ c
theorem d_kin (B : Bs W) : DefOk W (Str.ofString "_law_kin") 1 ctKin := by
  obtain ⟨fd, F⟩ := B.fn (i := 7) (j := 47) (n := Str.ofString "_law_kin") rfl
  refine p_def (N := nKin) (ps := pKin) F (B.gl 7 _ rfl) ⟨rfl, rfl, rfl, by decide +kernel, rfl, by decide +kernel, by decide +kernel⟩ (fun _ _ _ _ _ _ us hl => match us, hl with | [_], _ => rfl) (fun sl r outs c => ?_) (by decide +kernel) fun sl r outs c X Z F => ?_
  · cases c
    exact ⟨rfl, rfl⟩
  · cases c with
    | mk hC => exact w_kin B.hd hC F
theorem d_stands (B : Bs W) : DefOk W (Str.ofString "_law_stands_right") 2 ctStands := by
  obtain ⟨fd, F⟩ := B.fn (i := 8) (j := 48) (n := Str.ofString "_law_stands_right") rfl
  refine p_def (N := nStandsRight) (ps := pStandsRight) F (B.gl 8 _ rfl) ⟨rfl, rfl, rfl, by decide +kernel, rfl, by decide +kernel, by decide +kernel⟩ (fun _ _ _ _ _ _ us hl => match us, hl with | [_, _], _ => rfl) (fun sl r outs c => ?_) (by decide +kernel) fun sl r outs c X Z F => ?_
  · cases c
    exact ⟨rfl, rfl⟩
  · cases c with
    | mk hC hi hp =>
      subst hp
      exact w_stands B.hd (d_kin B) hC hi F
theorem d_all (B : Bs W) : DefOk W (Str.ofString "_law_all_right") 3 ctAll := by
  obtain ⟨fd, F⟩ := B.fn (i := 9) (j := 49) (n := Str.ofString "_law_all_right") rfl
  refine p_def (N := nAllRight) (ps := pAllRight) F (B.gl 9 _ rfl) ⟨rfl, rfl, rfl, by decide +kernel, rfl, by decide +kernel, by decide +kernel⟩ (fun _ _ _ _ _ _ us hl => match us, hl with | [_, _], _ => rfl) (fun sl r outs c => ?_) (by decide +kernel) fun sl r outs c X Z F => ?_
  · cases c
    exact ⟨rfl, rfl⟩
  · cases c with
    | mk s1 s2 => exact w_all B.hd (d_fields B) (d_stands B) F s1 s2
theorem d_law (B : Bs W) {fd : FuncData} (F : Fun W.K (Str.ofString "law") (Str.ofString "law") (dS 50) (He.ga W.K (Str.ofString "law")) fd) : FnG W.P W.w W.K W.mg W.base CX0 4 (He.ga W.K (Str.ofString "law")) fd [Str.ofString "_law_script"] (SpOf W.K W.G ctLaw) := by
  refine p_defF (N := nLaw) F ⟨rfl, rfl, rfl, by decide +kernel, rfl, by decide +kernel, by decide +kernel⟩ (fun sl r outs c => ?_) (by decide +kernel) fun sl r outs c X Z F => ?_
  · cases c
    exact ⟨rfl, rfl⟩
  · cases c
    exact w_law B.hd F (d_jug B) (d_pour B) (d_kin B) (d_parts B) (d_parts2 B) (d_others B) (d_others2 B) (d_all B)
end
end K0
open PySem PySem.W PySem.Calls PyProof.Rows
theorem PySem.Challenge.cw_alleyes_k00_errors_keep_their_fields_holds : PySem.Challenge.rw_alleyes_k00_errors_keep_their_fields.Holds := by
  w_on; o_law
  refine HandSHeadRun.head_any (r := K0.R) (q := view K0.R.prog [50]) (H := K0.hk) (ob := K0.ob) (M := 20000) (loose := K0.loose) (d := HandSHeadRun.topDef K0.R.prog 50) (kwd := []) K0.ob_eq (by kernel_rfl) (fun s => by kernel_rfl) K0.run
    (by kernel_rfl) (by kernel_rfl) (by kernel_rfl) (by rfl) (by first | assumption | decide +kernel) (by decide +kernel) ⟨rfl, rfl, rfl, rfl, rfl, by decide +kernel⟩ ?hw ?hc
  case hw => w_witness2
  case hc =>
    refine PV.law_end (l := PySem.Challenge.rw_alleyes_k00_errors_keep_their_fields) (n := 63) (k := 4) (x := Str.ofString "_law_script") (ct := K0.ctLaw) rfl (by decide +kernel) (by kernel_rfl) ⟨rfl, by decide, by decide⟩ (fun w mg fa h Y ns hm0 => ?_) (fun zs _ => .mk)
    obtain ⟨K, kin, c⟩ := Y
    have hm : mg (Str.ofString "law") = some (.ref fa) := by
      rw [← show (HandSHeadRun.topDef K0.R.prog 50).name = Str.ofString "law" by kernel_rfl]
      exact hm0
    have B0 : K0.Bs ⟨PySem.Challenge.rw_alleyes_k00_errors_keep_their_fields.prog, w, K, mg, h, He.ga K⟩ := K0.bs_of kin ns rfl c
    have e := hm.symm.trans (B0.gl 10 _ rfl)
    cases e
    obtain ⟨fd, F⟩ := B0.fn (i := 10) (j := 50) (n := Str.ofString "law") rfl
    refine ⟨K, He.ga K, fd, kin, (K0.ks c).nol, fun s u => ?_, fun base kb nb => ?_⟩
    · obtain ⟨oc, od, kV, doc, pm, anx, cdv, ctv, osl, rfl, _, _⟩ := F.ex
      exact .of_eq rfl
    · exact K0.d_law (W := ⟨PySem.Challenge.rw_alleyes_k00_errors_keep_their_fields.prog, w, K, mg, base, He.ga K⟩) (K0.bs_of kb nb rfl c) F

