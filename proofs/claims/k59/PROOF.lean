import PyProof.Rows.All
import Wide.All
import OpenK.AllK
import Wide.FinOn
import HandS.ForMost
import HandS.TupAny
import HandS.TupMul
import HandS.Wide
import HandS.IsInst
import HandS.TupLe
import HandS.Gcd
import HandS.Zip
import PyProof.ReprRoads
import HandS.Style
import KE.SortData
import KE.KDictCopyH
import PySem.Challenge.RW_pointtally_k59_whole_tallies_with_forms
set_option Elab.async false
set_option linter.all false
set_option maxRecDepth 100000
set_option maxHeartbeats 4000000
/-! DLa: values as trees over the layer's heap: a tuple is the list of its items, lists, dicts and instances stand at addresses in a store. -/
namespace DL
open PySem PySem.Spec PyProof.Rows L2

/-- a value: tuples by value, all that can change by address -/
inductive D where
  | non | bl (b : Bool) | int (i : Int) | str (x : Str) | ref (a : Addr) | ty (n : String) | tup (l : List D) | fz (l : List D)

/-- what stands at an address of the store -/
inductive MO where
  | lst (ds : List D)
  | dK (kvs : List (Key × D))
  | dT (kvs : List (List Key × D))
  | ins (C dx : Addr) (fs : List (Str × D))
  | own (x : Addr)
  | xd (fs : List (Str × D))

abbrev Stt := Addr → Option MO
def ups (S : Stt) (a : Addr) (o : MO) : Stt := fun b => if b = a then some o else S b
theorem ups_same {S : Stt} {a : Addr} {o : MO} : ups S a o a = some o := by unfold ups; rw [if_pos rfl]
theorem ups_ne {S : Stt} {a b : Addr} {o : MO} (h : b ≠ a) : ups S a o b = S b := by unfold ups; rw [if_neg h]
theorem ups_ups {S : Stt} {a : Addr} {o u : MO} : ups (ups S a o) a u = ups S a u := by
  funext b; unfold ups; split <;> rfl
theorem ne_none {S : Stt} {a b : Addr} {o : MO} (h : S a = some o) (h' : S b = none) : a ≠ b := by
  intro e; subst e; rw [h] at h'; cases h'
theorem ne_obj {S : Stt} {a b : Addr} {o u : MO} (h : S a = some o) (h' : S b = some u) (d : o ≠ u) : a ≠ b := by
  intro e; subst e; rw [h] at h'; exact d (Option.some.inj h')

/-! ### how the layer's heap bears trees and the store -/
/-- a list of the written part -/
def Klit (K : PySem.W.Frag) (a : Addr) (xs : List V) : Prop :=
  ∃ (o : Obj) (its : Array Value) (n : Nat), K.lookup a = some o ∧ o.cls = .type "list" ∧ o.dict = none ∧ o.data = .seq its n ∧ its.size ≤ sizeLine ∧ Vals xs its.toList
/-- a list that is read alone -/
def Fzn (K : PySem.W.Frag) (H : Hp) (a : Addr) (xs : List V) : Prop := (∃ o, H a = some (.frz o (.lst xs))) ∨ Klit K a xs
theorem Fzn.sql {K : PySem.W.Frag} {H : Hp} {a : Addr} {xs : List V} (h : Fzn K H a xs) : SqL K H a xs := by
  rcases h with ⟨o, h⟩ | h
  · exact .inl (.inr ⟨o, h⟩)
  · exact .inr h
mutual
def Rep (K : PySem.W.Frag) (H : Hp) : D → V → Prop
  | .non, v => v = .non
  | .bl b, v => v = .bl b
  | .int i, v => v = .int i
  | .str x, v => v = .str x
  | .ref a, v => v = .ref a
  | .ty n, v => v = .ty n
  | .tup l, v => ∃ a xs, v = .ref a ∧ H a = some (.tup xs) ∧ Reps K H l xs
  | .fz l, v => ∃ a xs, v = .ref a ∧ Fzn K H a xs ∧ Reps K H l xs
def Reps (K : PySem.W.Frag) (H : Hp) : List D → List V → Prop
  | [], xs => xs = []
  | d :: ds, xs => ∃ x r, xs = x :: r ∧ Rep K H d x ∧ Reps K H ds r
end
/-- tuples and locked things stay -/
structure Tups (H H' : Hp) : Prop where
  tup : ∀ b xs, H b = some (.tup xs) → H' b = some (.tup xs)
  frz : ∀ b o u, H b = some (.frz o u) → H' b = some (.frz o u)
theorem Tups.refl (H : Hp) : Tups H H := ⟨fun _ _ h => h, fun _ _ _ h => h⟩
theorem Tups.trans {H H1 H2 : Hp} (a : Tups H H1) (b : Tups H1 H2) : Tups H H2 := ⟨fun c xs h => b.tup c xs (a.tup c xs h), fun c o u h => b.frz c o u (a.frz c o u h)⟩
theorem Tups.laid {H : Hp} {p : Addr} {o : HO} (h : H p = none) : Tups H (upd H p o) :=
  ⟨fun b xs e => by rw [upd_ne (ne_of_none e h)]; exact e, fun b o u e => by rw [upd_ne (ne_of_none e h)]; exact e⟩
theorem Tups.write {H : Hp} {p : Addr} {o u : HO} (h : H p = some u) (nt : ∀ xs, u ≠ .tup xs) (nf : ∀ ob z, u ≠ .frz ob z) : Tups H (upd H p o) :=
  ⟨fun b xs e => by rw [upd_ne (fun q => by rw [q, h] at e; exact nt xs (Option.some.inj e))]; exact e,
   fun b ob z e => by rw [upd_ne (fun q => by rw [q, h] at e; exact nf ob z (Option.some.inj e))]; exact e⟩
theorem Fzn.mono {K : PySem.W.Frag} {H H' : Hp} {a : Addr} {xs : List V} (t : Tups H H') (h : Fzn K H a xs) : Fzn K H' a xs := by
  rcases h with ⟨o, h⟩ | h
  · exact .inl ⟨o, t.frz _ _ _ h⟩
  · exact .inr h
section
variable {K : PySem.W.Frag}
mutual
theorem Rep.mono {H H' : Hp} (t : Tups H H') : ∀ {d : D} {v : V}, Rep K H d v → Rep K H' d v
  | .non, _, h => by simpa only [Rep] using h
  | .bl _, _, h => by simpa only [Rep] using h
  | .int _, _, h => by simpa only [Rep] using h
  | .str _, _, h => by simpa only [Rep] using h
  | .ref _, _, h => by simpa only [Rep] using h
  | .ty _, _, h => by simpa only [Rep] using h
  | .tup l, v, h => by
    simp only [Rep] at h ⊢
    obtain ⟨a, xs, e, h1, h2⟩ := h
    exact ⟨a, xs, e, t.tup a xs h1, Reps.mono t h2⟩
  | .fz l, v, h => by
    simp only [Rep] at h ⊢
    obtain ⟨a, xs, e, h1, h2⟩ := h
    exact ⟨a, xs, e, h1.mono t, Reps.mono t h2⟩
theorem Reps.mono {H H' : Hp} (t : Tups H H') : ∀ {ds : List D} {xs : List V}, Reps K H ds xs → Reps K H' ds xs
  | [], _, h => by simpa only [Reps] using h
  | d :: ds, xs, h => by
    simp only [Reps] at h ⊢
    obtain ⟨x, r, e, h1, h2⟩ := h
    exact ⟨x, r, e, Rep.mono t h1, Reps.mono t h2⟩
end
theorem Rep.int_iff {H : Hp} {i : Int} {v : V} : Rep K H (.int i) v ↔ v = .int i := by simp only [Rep]
theorem rep_int {H : Hp} {i : Int} : Rep K H (.int i) (.int i) := by simp only [Rep]
theorem rep_bl {H : Hp} {b : Bool} : Rep K H (.bl b) (.bl b) := by simp only [Rep]
theorem rep_str {H : Hp} {x : Str} : Rep K H (.str x) (.str x) := by simp only [Rep]
theorem rep_non {H : Hp} : Rep K H .non .non := by simp only [Rep]
theorem rep_ref {H : Hp} {a : Addr} : Rep K H (.ref a) (.ref a) := by simp only [Rep]
theorem rep_ty {H : Hp} {n : String} : Rep K H (.ty n) (.ty n) := by simp only [Rep]
theorem rep_tup {H : Hp} {l : List D} {a : Addr} {xs : List V} (h : H a = some (.tup xs)) (r : Reps K H l xs) : Rep K H (.tup l) (.ref a) := by
  simp only [Rep]; exact ⟨a, xs, rfl, h, r⟩
theorem Rep.int {H : Hp} {i : Int} {v : V} (h : Rep K H (.int i) v) : v = .int i := by simpa only [Rep] using h
theorem Rep.bl {H : Hp} {b : Bool} {v : V} (h : Rep K H (.bl b) v) : v = .bl b := by simpa only [Rep] using h
theorem Rep.str {H : Hp} {x : Str} {v : V} (h : Rep K H (.str x) v) : v = .str x := by simpa only [Rep] using h
theorem Rep.non {H : Hp} {v : V} (h : Rep K H .non v) : v = .non := by simpa only [Rep] using h
theorem Rep.ref {H : Hp} {a : Addr} {v : V} (h : Rep K H (.ref a) v) : v = .ref a := by simpa only [Rep] using h
theorem Rep.ty {H : Hp} {n : String} {v : V} (h : Rep K H (.ty n) v) : v = .ty n := by simpa only [Rep] using h
theorem Rep.tup {H : Hp} {l : List D} {v : V} (h : Rep K H (.tup l) v) : ∃ a xs, v = .ref a ∧ H a = some (.tup xs) ∧ Reps K H l xs := by simpa only [Rep] using h
theorem Rep.fz {H : Hp} {l : List D} {v : V} (h : Rep K H (.fz l) v) : ∃ a xs, v = .ref a ∧ Fzn K H a xs ∧ Reps K H l xs := by simpa only [Rep] using h
theorem reps_nil {H : Hp} : Reps K H [] [] := by simp only [Reps]
theorem reps_cons {H : Hp} {d : D} {ds : List D} {x : V} {r : List V} (h : Rep K H d x) (hr : Reps K H ds r) : Reps K H (d :: ds) (x :: r) := by
  simp only [Reps]; exact ⟨x, r, rfl, h, hr⟩
theorem Reps.nil {H : Hp} {xs : List V} (h : Reps K H [] xs) : xs = [] := by simpa only [Reps] using h
theorem Reps.cons {H : Hp} {d : D} {ds : List D} {xs : List V} (h : Reps K H (d :: ds) xs) : ∃ x r, xs = x :: r ∧ Rep K H d x ∧ Reps K H ds r := by simpa only [Reps] using h
theorem Reps.length {H : Hp} : ∀ {ds : List D} {xs : List V}, Reps K H ds xs → xs.length = ds.length
  | [], _, h => by rw [h.nil]; rfl
  | _ :: _, _, h => by
    obtain ⟨x, r, rfl, _, h2⟩ := h.cons
    rw [List.length_cons, List.length_cons, Reps.length h2]
theorem Reps.get {H : Hp} : ∀ {ds : List D} {xs : List V} {i : Nat} {x : V}, Reps K H ds xs → xs[i]? = some x → ∃ d, ds[i]? = some d ∧ Rep K H d x
  | [], _, _, _, h, e => by rw [h.nil] at e; simp at e
  | d :: ds, _, i, x, h, e => by
    obtain ⟨y, r, rfl, h1, h2⟩ := h.cons
    cases i with
    | zero => simp at e; subst e; exact ⟨d, rfl, h1⟩
    | succ i =>
      obtain ⟨d', e1, e2⟩ := Reps.get h2 (i := i) (by simpa using e)
      exact ⟨d', by simpa using e1, e2⟩
theorem Reps.getD {H : Hp} : ∀ {ds : List D} {xs : List V} {i : Nat} {d : D}, Reps K H ds xs → ds[i]? = some d → ∃ x, xs[i]? = some x ∧ Rep K H d x
  | [], _, _, _, _, e => by simp at e
  | d :: ds, _, i, d', h, e => by
    obtain ⟨y, r, rfl, h1, h2⟩ := h.cons
    cases i with
    | zero => simp at e; subst e; exact ⟨y, rfl, h1⟩
    | succ i =>
      obtain ⟨x, e1, e2⟩ := Reps.getD h2 (i := i) (by simpa using e)
      exact ⟨x, by simpa using e1, e2⟩
theorem Reps.append {H : Hp} : ∀ {ds es : List D} {xs ys : List V}, Reps K H ds xs → Reps K H es ys → Reps K H (ds ++ es) (xs ++ ys)
  | [], _, _, _, h, h' => by rw [h.nil]; exact h'
  | _ :: _, _, _, _, h, h' => by
    obtain ⟨x, r, rfl, h1, h2⟩ := h.cons
    exact reps_cons h1 (Reps.append h2 h')
theorem Reps.take {H : Hp} : ∀ {ds : List D} {xs : List V} (n : Nat), Reps K H ds xs → Reps K H (ds.take n) (xs.take n)
  | _, _, 0, _ => by simp only [List.take_zero]; exact reps_nil
  | [], _, _ + 1, h => by rw [h.nil]; exact reps_nil
  | _ :: _, _, n + 1, h => by
    obtain ⟨x, r, rfl, h1, h2⟩ := h.cons
    exact reps_cons h1 (Reps.take n h2)
theorem Reps.drop {H : Hp} : ∀ {ds : List D} {xs : List V} (n : Nat), Reps K H ds xs → Reps K H (ds.drop n) (xs.drop n)
  | _, _, 0, h => h
  | [], _, _ + 1, h => by rw [h.nil]; exact reps_nil
  | _ :: _, _, n + 1, h => by
    obtain ⟨x, r, rfl, h1, h2⟩ := h.cons
    exact Reps.drop n h2
theorem Reps.setR {H : Hp} {d : D} {x : V} (hd : Rep K H d x) : ∀ {ds : List D} {xs : List V} (i : Nat), Reps K H ds xs → Reps K H (ds.set i d) (xs.set i x)
  | [], _, _, h => by rw [h.nil]; exact reps_nil
  | _ :: _, _, 0, h => by
    obtain ⟨y, r, rfl, h1, h2⟩ := h.cons
    exact reps_cons hd h2
  | _ :: _, _, i + 1, h => by
    obtain ⟨y, r, rfl, h1, h2⟩ := h.cons
    exact reps_cons h1 (Reps.setR hd i h2)
theorem reps_ints {H : Hp} : ∀ (ns : List Int), Reps K H (ns.map D.int) (ns.map V.int)
  | [] => reps_nil
  | _ :: r => reps_cons rep_int (reps_ints r)
theorem Reps.ints {H : Hp} : ∀ {ns : List Int} {xs : List V}, Reps K H (ns.map D.int) xs → xs = ns.map V.int
  | [], _, h => h.nil
  | _ :: r, _, h => by
    obtain ⟨x, r', rfl, h1, h2⟩ := h.cons
    rw [h1.int, Reps.ints h2]; rfl

/-- pairs of a dict -/
def RepKv {κ : Type} (K : PySem.W.Frag) (H : Hp) : List (κ × D) → List (κ × V) → Prop
  | [], xs => xs = []
  | p :: ds, xs => ∃ x r, xs = (p.1, x) :: r ∧ Rep K H p.2 x ∧ RepKv K H ds r
theorem RepKv.mono {κ : Type} {H H' : Hp} (t : Tups H H') : ∀ {ds : List (κ × D)} {xs : List (κ × V)}, RepKv K H ds xs → RepKv K H' ds xs
  | [], _, h => h
  | _ :: _, _, h => by
    obtain ⟨x, r, e, h1, h2⟩ := h
    exact ⟨x, r, e, h1.mono t, RepKv.mono t h2⟩
theorem RepKv.length {κ : Type} {H : Hp} : ∀ {ds : List (κ × D)} {xs : List (κ × V)}, RepKv K H ds xs → xs.length = ds.length
  | [], _, h => by rw [show _ = _ from h]; rfl
  | _ :: _, _, h => by
    obtain ⟨x, r, rfl, _, h2⟩ := h
    rw [List.length_cons, List.length_cons, RepKv.length h2]

end

def RepM (K : PySem.W.Frag) (H : Hp) (a : Addr) : MO → Prop
  | .lst ds => ∃ xs, H a = some (.lst xs) ∧ Reps K H ds xs
  | .dK kvs => ∃ xs, H a = some (.dK xs) ∧ RepKv K H kvs xs
  | .dT kvs => ∃ xs, H a = some (.dT xs) ∧ RepKv K H kvs xs
  | .ins C dx fs => ∃ xs, H a = some (.ins C dx xs) ∧ RepKv K H fs xs
  | .own x => H a = some (.own x)
  | .xd fs => ∃ xs, H a = some (.xd xs) ∧ RepKv K H fs xs
/-- the store is borne -/
def Abs (K : PySem.W.Frag) (H : Hp) (S : Stt) : Prop := ∀ a o, S a = some o → RepM K H a o
end DL

/-! DLb: readings over trees, and the layer's judgements under them. -/
namespace DL
open PySem PySem.Spec PyProof.Rows L2
section
variable {K : PySem.W.Frag} {H H' H1 H2 : Hp} {S S1 : Stt} {p a : Addr} {m m' : MO}
theorem RepM.there (h : RepM K H a m) : ∃ o, H a = some o ∧ (∀ xs, o ≠ .tup xs) ∧ ∀ ob z, o ≠ .frz ob z := by
  cases m with
  | lst ds => obtain ⟨xs, e, _⟩ := h; exact ⟨_, e, (fun _ q => nomatch q), fun _ _ q => nomatch q⟩
  | dK ds => obtain ⟨xs, e, _⟩ := h; exact ⟨_, e, (fun _ q => nomatch q), fun _ _ q => nomatch q⟩
  | dT ds => obtain ⟨xs, e, _⟩ := h; exact ⟨_, e, (fun _ q => nomatch q), fun _ _ q => nomatch q⟩
  | ins C dx fs => obtain ⟨xs, e, _⟩ := h; exact ⟨_, e, (fun _ q => nomatch q), fun _ _ q => nomatch q⟩
  | own x => exact ⟨_, h, (fun _ q => nomatch q), fun _ _ q => nomatch q⟩
  | xd fs => obtain ⟨xs, e, _⟩ := h; exact ⟨_, e, (fun _ q => nomatch q), fun _ _ q => nomatch q⟩
theorem RepM.mono (h : RepM K H a m) (t : Tups H H') (e : H' a = H a) : RepM K H' a m := by
  cases m with
  | lst ds => obtain ⟨xs, e', r⟩ := h; exact ⟨xs, e.trans e', r.mono t⟩
  | dK ds => obtain ⟨xs, e', r⟩ := h; exact ⟨xs, e.trans e', r.mono t⟩
  | dT ds => obtain ⟨xs, e', r⟩ := h; exact ⟨xs, e.trans e', r.mono t⟩
  | ins C dx fs => obtain ⟨xs, e', r⟩ := h; exact ⟨xs, e.trans e', r.mono t⟩
  | own x => exact e.trans h
  | xd fs => obtain ⟨xs, e', r⟩ := h; exact ⟨xs, e.trans e', r.mono t⟩
theorem Abs.free (A : Abs K H S) (h : H p = none) : S p = none := by
  cases q : S p with
  | none => rfl
  | some o =>
    obtain ⟨o', e, _⟩ := (A p o q).there
    rw [h] at e; cases e
/-- a thing laid that the store does not tell (a tuple) -/
theorem Abs.hid {o : HO} (A : Abs K H S) (h : H p = none) : Abs K (upd H p o) S := fun b u e => by
  have hb : b ≠ p := fun q => by rw [q, A.free h] at e; cases e
  exact (A b u e).mono (Tups.laid h) (upd_ne hb)
theorem Abs.laid {o : HO} (A : Abs K H S) (h : H p = none) (new : RepM K (upd H p o) p m) : Abs K (upd H p o) (ups S p m) := fun b u e => by
  by_cases hb : b = p
  · subst hb; rw [ups_same] at e; cases e; exact new
  · rw [ups_ne hb] at e
    exact (A b u e).mono (Tups.laid h) (upd_ne hb)
theorem Abs.tups {o : HO} (A : Abs K H S) (e : S p = some m) : Tups H (upd H p o) := by
  obtain ⟨u, h, nt, nf⟩ := (A p m e).there
  exact Tups.write h nt nf
theorem Abs.write {o : HO} (A : Abs K H S) (e : S p = some m) (new : RepM K (upd H p o) p m') : Abs K (upd H p o) (ups S p m') := fun b u q => by
  by_cases hb : b = p
  · subst hb; rw [ups_same] at q; cases q; exact new
  · rw [ups_ne hb] at q
    exact (A b u q).mono (A.tups e) (upd_ne hb)
end

/-! ### readings -/
abbrev Sd := List (Option D)
abbrev DK := D → Stt → Prop
abbrev DTE := Sd → Stt → DK → Prop
abbrev DTT := Sd → Stt → (Bool → Stt → Prop) → Prop
abbrev DTA := Sd → Stt → (List D → Stt → Prop) → Prop
structure DEnds where
  nx : Sd → Stt → Prop
  rt : DK
  bk : Sd → Stt → Prop := fun _ _ => False
  ct : Sd → Stt → Prop := fun _ _ => False
abbrev DTS := DEnds → Sd → Stt → Prop

def RepS (K : PySem.W.Frag) (H : Hp) (σ : L2.St) (σd : Sd) : Prop := σ.length = σd.length ∧ ∀ (i : Nat) (d : D), σd[i]? = some (some d) → ∃ v, σ[i]? = some (some v) ∧ Rep K H d v
theorem RepS.mono {K : PySem.W.Frag} {H H' : Hp} {σ : L2.St} {σd : Sd} (h : RepS K H σ σd) (t : Tups H H') : RepS K H' σ σd :=
  ⟨h.1, fun i d e => let ⟨v, e', r⟩ := h.2 i d e; ⟨v, e', r.mono t⟩⟩
theorem RepS.set {K : PySem.W.Frag} {H : Hp} {σ : L2.St} {σd : Sd} {d : D} {v : V} (h : RepS K H σ σd) (i : Nat) (r : Rep K H d v) : RepS K H (σ.set i (some v)) (σd.set i (some d)) := by
  refine ⟨by simp [h.1], fun j e hj => ?_⟩
  by_cases hi : i = j
  · subst hi
    by_cases hl : i < σd.length
    · rw [List.getElem?_set_self hl] at hj
      cases hj
      exact ⟨v, List.getElem?_set_self (by rw [h.1]; exact hl), r⟩
    · rw [List.getElem?_eq_none (by simpa using hl)] at hj; cases hj
  · rw [List.getElem?_set_ne hi] at hj
    obtain ⟨u, e', r'⟩ := h.2 j e hj
    exact ⟨u, by rw [List.getElem?_set_ne hi]; exact e', r'⟩

def FinD (K : PySem.W.Frag) (H : Hp) (Q' : DK) (Q : VK) : Prop := ∀ (v : V) (H' : Hp) (d : D) (S' : Stt), Tups H H' → Rep K H' d v → Abs K H' S' → Q' d S' → Q v H'
theorem FinD.mono {K : PySem.W.Frag} {H H1 : Hp} {Q' : DK} {Q : VK} (h : FinD K H Q' Q) (t : Tups H H1) : FinD K H1 Q' Q := fun v H' d S' t' => h v H' d S' (t.trans t')
theorem FinD.at {K : PySem.W.Frag} {H : Hp} {Q' : DK} {Q : VK} {v : V} {d : D} {S : Stt} (h : FinD K H Q' Q) (r : Rep K H d v) (A : Abs K H S) (q : Q' d S) : Q v H := h v H d S (Tups.refl H) r A q

def teOf (K : PySem.W.Frag) (t : DTE) : TE := fun σ H Q => ∃ (σd : Sd) (S : Stt) (Q' : DK), RepS K H σ σd ∧ Abs K H S ∧ t σd S Q' ∧ FinD K H Q' Q
def ttOf (K : PySem.W.Frag) (t : DTT) : TT := fun σ H Q => ∃ (σd : Sd) (S : Stt) (Q' : Bool → Stt → Prop), RepS K H σ σd ∧ Abs K H S ∧ t σd S Q' ∧ ∀ b H' S', Tups H H' → Abs K H' S' → Q' b S' → Q b H'
def taOf (K : PySem.W.Frag) (t : DTA) : TA := fun σ H Q => ∃ (σd : Sd) (S : Stt) (Q' : List D → Stt → Prop), RepS K H σ σd ∧ Abs K H S ∧ t σd S Q' ∧ ∀ vs H' ds S', Tups H H' → Reps K H' ds vs → Abs K H' S' → Q' ds S' → Q vs H'
structure EndsOk (K : PySem.W.Frag) (H : Hp) (D' : DEnds) (D : Ends) : Prop where
  nx : ∀ σ' H' σd' S', Tups H H' → RepS K H' σ' σd' → Abs K H' S' → D'.nx σd' S' → D.nx σ' H'
  rt : FinD K H D'.rt D.rt
  bk : ∀ σ' H' σd' S', Tups H H' → RepS K H' σ' σd' → Abs K H' S' → D'.bk σd' S' → D.bk σ' H'
  ct : ∀ σ' H' σd' S', Tups H H' → RepS K H' σ' σd' → Abs K H' S' → D'.ct σd' S' → D.ct σ' H'
theorem EndsOk.mono {K : PySem.W.Frag} {H H1 : Hp} {D' : DEnds} {D : Ends} (h : EndsOk K H D' D) (t : Tups H H1) : EndsOk K H1 D' D :=
  ⟨fun σ' H' σd' S' t' => h.nx σ' H' σd' S' (t.trans t'), h.rt.mono t, fun σ' H' σd' S' t' => h.bk σ' H' σd' S' (t.trans t'), fun σ' H' σd' S' t' => h.ct σ' H' σd' S' (t.trans t')⟩
def tsOf (K : PySem.W.Frag) (t : DTS) : TS := fun D σ H => ∃ (σd : Sd) (S : Stt) (D' : DEnds), RepS K H σ σd ∧ Abs K H S ∧ t D' σd S ∧ EndsOk K H D' D

abbrev DE (X : Cx) (e : Expr) (t : DTE) : Prop := PE X e (teOf X.K t)
abbrev DT (X : Cx) (e : Expr) (t : DTT) : Prop := PT X e (ttOf X.K t)
abbrev DW (X : Cx) (e : Expr) (t : DTT) : Prop := PW X e (ttOf X.K t)
abbrev DA (X : Cx) (es : List Expr) (t : DTA) : Prop := PA X es (taOf X.K t)
abbrev DS (X : Cx) (st : Stmt) (t : DTS) : Prop := PS X st (tsOf X.K t)
abbrev DSs (X : Cx) (st : List Stmt) (t : DTS) : Prop := PSs X st (tsOf X.K t)

section
variable {X : Cx} {e a b c : Expr} {es : List Expr} {st : Stmt} {sts : List Stmt} {pos : Pos}
theorem _root_.L2.PE.weak {t u : TE} (h : PE X e t) (w : ∀ σ H Q, u σ H Q → t σ H Q) : PE X e u := ⟨fun pins s σ H Q I q => h.run pins s σ H Q I (w σ H Q q)⟩
theorem _root_.L2.PT.weak {t u : TT} (h : PT X e t) (w : ∀ σ H Q, u σ H Q → t σ H Q) : PT X e u := ⟨fun pins s σ H Q I q => h.run pins s σ H Q I (w σ H Q q)⟩
theorem _root_.L2.PW.weak {t u : TT} (h : PW X e t) (w : ∀ σ H Q, u σ H Q → t σ H Q) : PW X e u := ⟨fun wh pins s σ H Q I q => h.run wh pins s σ H Q I (w σ H Q q)⟩
theorem _root_.L2.PA.weak {t u : TA} (h : PA X es t) (w : ∀ σ H Q, u σ H Q → t σ H Q) : PA X es u := ⟨fun pos pins s σ H Q I q => h.run pos pins s σ H Q I (w σ H Q q)⟩
theorem _root_.L2.PS.weak {t u : TS} (h : PS X st t) (w : ∀ D σ H, u D σ H → t D σ H) : PS X st u := ⟨fun pins s σ H D I q => h.run pins s σ H D I (w D σ H q)⟩
theorem _root_.L2.PSs.weak {t u : TS} (h : PSs X sts t) (w : ∀ D σ H, u D σ H → t D σ H) : PSs X sts u := ⟨fun pins s σ H D I q => h.run pins s σ H D I (w D σ H q)⟩

/-! ### names, constants -/
def dVar (i : Nat) : DTE := fun σ S Q => ∃ d, σ[i]? = some (some d) ∧ Q d S
def dC (d : D) : DTE := fun _ S Q => Q d S
theorem de_var {i : Nat} {x : Str} (h : PE X (.Name x pos) (tVar i)) : DE X (.Name x pos) (dVar i) := h.weak fun σ H Q ⟨σd, S, Q', hσ, hS, ⟨d, e, q⟩, f⟩ => by
  obtain ⟨v, e', r⟩ := hσ.2 i d e
  exact ⟨v, e', f.at r hS q⟩
theorem de_con {d : D} {v : V} (h : PE X e (tC v)) (r : ∀ H, Rep X.K H d v) : DE X e (dC d) := h.weak fun σ H Q ⟨σd, S, Q', hσ, hS, q, f⟩ => f.at (r H) hS q
theorem de_int {i j pos} : DE X (.Constant (.int i) j pos) (dC (.int i)) := de_con pe_int fun _ => rep_int
theorem de_bl {b j pos} : DE X (.Constant (.bool b) j pos) (dC (.bl b)) := de_con pe_bl fun _ => rep_bl
theorem de_non {j pos} : DE X (.Constant .none j pos) (dC .non) := de_con pe_non fun _ => rep_non
theorem de_str {x j pos} : DE X (.Constant (.str x) j pos) (dC (.str x)) := de_con pe_str fun _ => rep_str

/-! ### operators -/
abbrev DR2 := D → D → Stt → DK → Prop
def RepR2 (K : PySem.W.Frag) (rH : R2) (r : DR2) : Prop := ∀ (H : Hp) (S : Stt) (x y : V) (d e : D) (Q' : DK) (Q : VK), Abs K H S → Rep K H d x → Rep K H e y → r d e S Q' → FinD K H Q' Q → rH x y H Q
def dBin (r : DR2) (ta tb : DTE) : DTE := fun σ S Q => ta σ S fun x S1 => tb σ S1 fun y S2 => r x y S2 Q
theorem bin_of {rH : R2} {r : DR2} {ta tb : DTE} {K : PySem.W.Frag} (hr : RepR2 K rH r) : ∀ σ H Q, teOf K (dBin r ta tb) σ H Q → tOp rH (teOf K ta) (teOf K tb) σ H Q :=
  fun σ H Q ⟨σd, S, Q', hσ, hS, q, f⟩ => ⟨σd, S, _, hσ, hS, q, fun v H1 d S1 T1 R1 A1 q1 => ⟨σd, S1, _, hσ.mono T1, A1, q1, fun u H2 e S2 T2 R2 A2 q2 =>
    hr H2 S2 v u d e Q' Q A2 (R1.mono T2) R2 q2 (f.mono (T1.trans T2))⟩⟩
theorem de_op {op : Operator} {rH : R2} {r : DR2} {ta tb : DTE} (ho : OpR X (binaryOp op) rH) (hr : RepR2 X.K rH r) (ha : DE X a ta) (hb : DE X b tb) : DE X (.BinOp a op b pos) (dBin r ta tb) := (pe_op ho ha hb).weak (bin_of hr)
theorem de_cmp {op : CmpOp} {rH : R2} {r : DR2} {ta tb : DTE} (ho : OpR X (compareOp op) rH) (hr : RepR2 X.K rH r) (ha : DE X a ta) (hb : DE X b tb) (hm : behindInMarks op b = false) : DE X (.Compare a [op] [b] pos) (dBin r ta tb) := (pe_cmpR ho ha hb hm).weak (bin_of hr)
/-- a value as a test: it is a truth value -/
def dB (t : DTE) : DTT := fun σ S Q => t σ S fun x S1 => ∃ k, x = .bl k ∧ Q k S1
theorem b_of {t : DTE} {K : PySem.W.Frag} : ∀ σ H Q, ttOf K (dB t) σ H Q → tB (teOf K t) σ H Q := fun σ H Q ⟨σd, S, Q', hσ, hS, q, f⟩ =>
  ⟨σd, S, _, hσ, hS, q, fun v H' d S' T R A ⟨k, e, q'⟩ => by subst e; exact ⟨k, R.bl, f k H' S' T A q'⟩⟩
theorem dt_cmp {op : CmpOp} {rH : R2} {r : DR2} {ta tb : DTE} (ho : OpR X (compareOp op) rH) (hr : RepR2 X.K rH r) (ha : DE X a ta) (hb : DE X b tb) (hm : behindInMarks op b = false) : DT X (.Compare a [op] [b] pos) (dB (dBin r ta tb)) := by
  refine (pt_cmpR ho ha hb hm).weak fun σ H Q h => ?_
  obtain ⟨σd, S, Q', hσ, hS, q, f⟩ := h
  exact bin_of hr σ H _ ⟨σd, S, _, hσ, hS, q, fun v H' d S' T R A ⟨k, e, q'⟩ => by subst e; exact ⟨k, R.bl, f k H' S' T A q'⟩⟩
theorem dt_val {t : DTE} (h : DE X e t) (he : ∀ whole, isTrue e X.env whole = (do let v ← whole; standAt e.pos; holding [v] (truthy v)) := by intro _; rfl) : DT X e (dB t) := (pt_val h he).weak b_of

def dAnd (t u : DTT) : DTT := fun σ S Q => t σ S fun c S1 => if c = true then u σ S1 Q else Q false S1
def dOr (t u : DTT) : DTT := fun σ S Q => t σ S fun c S1 => if c = true then Q true S1 else u σ S1 Q
def dNot (t : DTT) : DTT := fun σ S Q => t σ S fun c S1 => Q (!c) S1
theorem dw_one_and {t : DTT} (h : DT X a t) : DW X (.BoolOp .And [a] pos) t := pw_and1 h
theorem dw_one_or {t : DTT} (h : DT X a t) : DW X (.BoolOp .Or [a] pos) t := pw_or1 h
theorem dw_and {t u : DTT} (h : DT X a t) (h' : DW X (.BoolOp .And (b :: es) pos) u) : DW X (.BoolOp .And (a :: b :: es) pos) (dAnd t u) :=
  (pw_and h h').weak fun σ H Q ⟨σd, S, Q', hσ, hS, q, f⟩ => ⟨σd, S, _, hσ, hS, q, fun c H1 S1 T1 A1 q1 => by
    cases c with
    | true => exact ⟨σd, S1, Q', hσ.mono T1, A1, q1, fun k H2 S2 T2 => f k H2 S2 (T1.trans T2)⟩
    | false => exact f false H1 S1 T1 A1 q1⟩
theorem dw_or {t u : DTT} (h : DT X a t) (h' : DW X (.BoolOp .Or (b :: es) pos) u) : DW X (.BoolOp .Or (a :: b :: es) pos) (dOr t u) :=
  (pw_or h h').weak fun σ H Q ⟨σd, S, Q', hσ, hS, q, f⟩ => ⟨σd, S, _, hσ, hS, q, fun c H1 S1 T1 A1 q1 => by
    cases c with
    | false => exact ⟨σd, S1, Q', hσ.mono T1, A1, q1, fun k H2 S2 T2 => f k H2 S2 (T1.trans T2)⟩
    | true => exact f true H1 S1 T1 A1 q1⟩
theorem dt_not {t : DTT} (h : DT X a t) : DT X (.UnaryOp .Not a pos) (dNot t) := (pt_not h).weak fun σ H Q ⟨σd, S, Q', hσ, hS, q, f⟩ =>
  ⟨σd, S, _, hσ, hS, q, fun c H1 S1 T1 A1 q1 => f _ H1 S1 T1 A1 q1⟩
/-- .. as values -/
def dAndV (ta tb : DTE) : DTE := fun σ S Q => ta σ S fun x S1 => ∃ c, x = .bl c ∧ if c = true then tb σ S1 Q else Q (.bl false) S1
def dOrV (ta tb : DTE) : DTE := fun σ S Q => ta σ S fun x S1 => ∃ c, x = .bl c ∧ if c = true then Q (.bl true) S1 else tb σ S1 Q
def dNotV (ta : DTE) : DTE := fun σ S Q => ta σ S fun x S1 => ∃ c, x = .bl c ∧ Q (.bl (!c)) S1
theorem de_one {op} {t : DTE} (h : DE X a t) : DE X (.BoolOp op [a] pos) t := pe_one h
theorem de_and {ta tb : DTE} (ha : DE X a ta) (hb : DE X (.BoolOp .And (b :: es) pos) tb) : DE X (.BoolOp .And (a :: b :: es) pos) (dAndV ta tb) :=
  (pe_and ha hb).weak fun σ H Q ⟨σd, S, Q', hσ, hS, q, f⟩ => ⟨σd, S, _, hσ, hS, q, fun v H1 d S1 T1 R1 A1 ⟨c, e, q1⟩ => by
    subst e
    refine ⟨c, R1.bl, ?_⟩
    cases c with
    | true => exact ⟨σd, S1, Q', hσ.mono T1, A1, q1, f.mono T1⟩
    | false => exact f _ H1 _ S1 T1 rep_bl A1 q1⟩
theorem de_or {ta tb : DTE} (ha : DE X a ta) (hb : DE X (.BoolOp .Or (b :: es) pos) tb) : DE X (.BoolOp .Or (a :: b :: es) pos) (dOrV ta tb) :=
  (pe_or ha hb).weak fun σ H Q ⟨σd, S, Q', hσ, hS, q, f⟩ => ⟨σd, S, _, hσ, hS, q, fun v H1 d S1 T1 R1 A1 ⟨c, e, q1⟩ => by
    subst e
    refine ⟨c, R1.bl, ?_⟩
    cases c with
    | false => exact ⟨σd, S1, Q', hσ.mono T1, A1, q1, f.mono T1⟩
    | true => exact f _ H1 _ S1 T1 rep_bl A1 q1⟩
theorem de_not {ta : DTE} (ha : DE X a ta) : DE X (.UnaryOp .Not a pos) (dNotV ta) :=
  (pe_not ha).weak fun σ H Q ⟨σd, S, Q', hσ, hS, q, f⟩ => ⟨σd, S, _, hσ, hS, q, fun v H1 d S1 T1 R1 A1 ⟨c, e, q1⟩ => by
    subst e
    exact ⟨c, R1.bl, f _ H1 _ S1 T1 rep_bl A1 q1⟩⟩
def dIf (t : DTT) (ta tb : DTE) : DTE := fun σ S Q => t σ S fun c S1 => if c = true then ta σ S1 Q else tb σ S1 Q
theorem de_if {t : DTT} {ta tb : DTE} (hc : DT X c t) (ha : DE X a ta) (hb : DE X b tb) : DE X (.IfExp c a b pos) (dIf t ta tb) :=
  (pe_ifExp hc ha hb).weak fun σ H Q ⟨σd, S, Q', hσ, hS, q, f⟩ => ⟨σd, S, _, hσ, hS, q, fun k H1 S1 T1 A1 q1 => by
    cases k with
    | true => exact ⟨σd, S1, Q', hσ.mono T1, A1, q1, f.mono T1⟩
    | false => exact ⟨σd, S1, Q', hσ.mono T1, A1, q1, f.mono T1⟩⟩
/-- a < b < c -/
def dChain (r r' : DR2) (ta tb tc : DTE) : DTE := fun σ S Q => ta σ S fun x S1 => tb σ S1 fun y S2 => r x y S2 fun z S3 => ∃ k, z = .bl k ∧ if k = true then tc σ S3 fun w S4 => r' y w S4 Q else Q (.bl false) S3
theorem chain_of {rH rH' : R2} {r r' : DR2} {ta tb tc : DTE} {K : PySem.W.Frag} (hr : RepR2 K rH r) (hr' : RepR2 K rH' r') :
    ∀ σ H Q, teOf K (dChain r r' ta tb tc) σ H Q → tChain rH rH' (teOf K ta) (teOf K tb) (teOf K tc) σ H Q :=
  fun σ H Q ⟨σd, S, Q', hσ, hS, q, f⟩ => ⟨σd, S, _, hσ, hS, q, fun v H1 d S1 T1 R1 A1 q1 => ⟨σd, S1, _, hσ.mono T1, A1, q1, fun u H2 e S2 T2 R2 A2 q2 =>
    hr H2 S2 v u d e _ _ A2 (R1.mono T2) R2 q2 fun z H3 zd S3 T3 R3 A3 ⟨k, ez, q3⟩ => by
      subst ez
      refine ⟨k, R3.bl, ?_⟩
      cases k with
      | true =>
        exact ⟨σd, S3, _, hσ.mono (T1.trans (T2.trans T3)), A3, q3, fun w H4 wd S4 T4 R4 A4 q4 => hr' H4 S4 u w e wd Q' Q A4 (R2.mono (T3.trans T4)) R4 q4 (f.mono (T1.trans (T2.trans (T3.trans T4))))⟩
      | false => exact f _ H3 _ S3 (T1.trans (T2.trans T3)) rep_bl A3 q3⟩⟩
theorem de_chain {op op' : CmpOp} {rH rH' : R2} {r r' : DR2} {ta tb tc : DTE} (ho : OpR X (compareOp op) rH) (ho' : OpR X (compareOp op') rH') (hr : RepR2 X.K rH r) (hr' : RepR2 X.K rH' r')
    (h : PE X (.Compare a [op, op'] [b, c] pos) (tChain rH rH' (teOf X.K ta) (teOf X.K tb) (teOf X.K tc))) : DE X (.Compare a [op, op'] [b, c] pos) (dChain r r' ta tb tc) := h.weak (chain_of hr hr')
/-- -a -/
def dNeg (ta : DTE) : DTE := fun σ S Q => ta σ S fun x S1 => ∃ i, x = .int i ∧ Q (.int (-i)) S1
theorem de_neg {ta : DTE} (ha : DE X a ta) : DE X (.UnaryOp .USub a pos) (dNeg ta) :=
  (pe_un un_neg ha).weak fun σ H Q ⟨σd, S, Q', hσ, hS, q, f⟩ => ⟨σd, S, _, hσ, hS, q, fun v H1 d S1 T1 R1 A1 ⟨i, e, q1⟩ => by
    subst e
    exact ⟨i, R1.int, f _ H1 _ S1 T1 rep_int A1 q1⟩⟩

/-! ### arguments, displays -/
def dNil : DTA := fun _ S Q => Q [] S
def dCons (t : DTE) (u : DTA) : DTA := fun σ S Q => t σ S fun x S1 => u σ S1 fun xs S2 => Q (x :: xs) S2
theorem da_nil : DA X [] dNil := pa_nil.weak fun σ H Q ⟨σd, S, Q', hσ, hS, q, f⟩ => f [] H [] S (Tups.refl H) reps_nil hS q
theorem da_cons {t : DTE} {u : DTA} (ha : DE X e t) (hr : DA X es u) (hs : starEach (e :: es) X.env = (false, eval e X.env) :: starEach es X.env := by rfl) : DA X (e :: es) (dCons t u) :=
  (pa_cons ha hr hs).weak fun σ H Q ⟨σd, S, Q', hσ, hS, q, f⟩ => ⟨σd, S, _, hσ, hS, q, fun v H1 d S1 T1 R1 A1 q1 => ⟨σd, S1, _, hσ.mono T1, A1, q1, fun vs H2 ds S2 T2 R2 A2 q2 =>
    f (v :: vs) H2 (d :: ds) S2 (T1.trans T2) (reps_cons (R1.mono T2) R2) A2 q2⟩⟩
def dTup (t : DTA) : DTE := fun σ S Q => t σ S fun xs S1 => xs.length ≤ sizeLine ∧ Q (.tup xs) S1
def dLst (t : DTA) : DTE := fun σ S Q => t σ S fun xs S1 => xs.length ≤ sizeLine ∧ ∀ p, S1 p = none → Q (.ref p) (ups S1 p (.lst xs))
theorem new_tup {K : PySem.W.Frag} {H H1 : Hp} {S1 : Stt} {Q' : DK} {Q : VK} {ds : List D} {vs : List V} {p : Addr} (f : FinD K H Q' Q) (T : Tups H H1) (R : Reps K H1 ds vs) (A : Abs K H1 S1) (q : Q' (.tup ds) S1) (hp : H1 p = none) : Q (.ref p) (upd H1 p (.tup vs)) :=
  f _ _ _ S1 (T.trans (Tups.laid hp)) (rep_tup upd_same (R.mono (Tups.laid hp))) (A.hid hp) q
theorem new_lst {K : PySem.W.Frag} {H H1 : Hp} {S1 : Stt} {Q' : DK} {Q : VK} {ds : List D} {vs : List V} {p : Addr} (f : FinD K H Q' Q) (T : Tups H H1) (R : Reps K H1 ds vs) (A : Abs K H1 S1) (q : ∀ p, S1 p = none → Q' (.ref p) (ups S1 p (.lst ds))) (hp : H1 p = none) : Q (.ref p) (upd H1 p (.lst vs)) :=
  f _ _ _ _ (T.trans (Tups.laid hp)) rep_ref (A.laid (m := .lst ds) hp ⟨vs, upd_same, R.mono (Tups.laid hp)⟩) (q p (A.free hp))
theorem de_tup {x1} {t : DTA} (h : DA X es t) : DE X (.Tuple es x1 pos) (dTup t) :=
  (pe_tup h).weak fun σ H Q ⟨σd, S, Q', hσ, hS, q, f⟩ => ⟨σd, S, _, hσ, hS, q, fun vs H1 ds S1 T1 R1 A1 ⟨hl, q1⟩ => ⟨by rw [R1.length]; exact hl, fun p hp => new_tup f T1 R1 A1 q1 hp⟩⟩
theorem de_lst {t : DTA} (h : DA X es t) : DE X (.List es pos) (dLst t) :=
  (pe_lst h).weak fun σ H Q ⟨σd, S, Q', hσ, hS, q, f⟩ => ⟨σd, S, _, hσ, hS, q, fun vs H1 ds S1 T1 R1 A1 ⟨hl, q1⟩ => ⟨by rw [R1.length]; exact hl, fun p hp => new_lst f T1 R1 A1 q1 hp⟩⟩
end
end DL

/-! DLm: tuple * int for every int. -/
namespace DL
open PySem PySem.Spec PyProof.Rows L2
theorem mul_same (l : Addr) (items : Array Value) (n : Nat) (dd : Option Addr) (sl : Array (Option Value)) (x : Int) (u : Tok) (c0 : (decide (x < -(2 ^ 63)) || decide (x ≥ 2 ^ 63)) = false) (c1 : (items.isEmpty || x == 1) = true) :
    Meets (Builtin.«tuple.__mul__» ⟨[.ref l, .int x u], []⟩) (fun _ R s => s.heap.get? l = some { cls := .type "tuple", dict := dd, data := .seq items n, slots := sl } ∧ R (.ok (.ret (Value.ref l))) s) :=
  .of_wp fun prog w A R s h => by
    obtain ⟨hp, g, d, tk, os⟩ := s
    obtain ⟨hl, h⟩ := h
    have f1 := AutoSeq1.idx_int
    wp_walk using wpAny_loadPart' hl
    refine wpAny_ite_false (decide_eq_false (by rw [c0]; exact Bool.false_ne_true)) ?_
    wp_walk using wpAny_loadPart' hl
    exact ⟨_, rfl, h⟩
theorem mul_none (l : Addr) (items : Array Value) (n : Nat) (dd : Option Addr) (sl : Array (Option Value)) (x : Int) (u : Tok) (c0 : (decide (x < -(2 ^ 63)) || decide (x ≥ 2 ^ 63)) = false) (c1 : (items.isEmpty || x == 1) = false) (c2 : (decide (x ≤ 0) || items.isEmpty) = true) :
    Meets (Builtin.«tuple.__mul__» ⟨[.ref l, .int x u], []⟩) (fun _ R s => s.heap.get? l = some { cls := .type "tuple", dict := dd, data := .seq items n, slots := sl } ∧
      R (.ok (.ret (Value.ref s.heap.objs.size))) { s with heap := s.heap.push { cls := Value.type "tuple", data := Data.seq #[] } }) :=
  .of_wp fun prog w A R s h => by
    obtain ⟨hp, g, d, tk, os⟩ := s
    obtain ⟨hl, h⟩ := h
    have f1 := AutoSeq1.idx_int
    wp_walk using wpAny_loadPart' hl
    repeat (first
      | (refine wpAny_ite_false (decide_eq_false (by rw [c0]; exact Bool.false_ne_true)) ?_; wp_walk using wpAny_loadPart' hl)
      | (refine wpAny_ite_false (decide_eq_false (by rw [c1]; exact Bool.false_ne_true)) ?_; wp_walk using wpAny_loadPart' hl)
      | (refine wpAny_ite_true (decide_eq_true (by rw [c2])) ?_; wp_walk using wpAny_loadPart' hl))
    exact ⟨_, rfl, h⟩

def rMulT (K : PySem.W.Frag) : R2 := fun x y H Q => ∃ l k xs, x = .ref l ∧ y = .int k ∧ SqT K H l xs ∧ -1000 ≤ k ∧ k ≤ 1000 ∧ xs.length ≤ 1000 ∧
  (xs = [] ∨ k = 1 → Q (.ref l) H) ∧ (xs ≠ [] → k ≠ 1 → ∀ p, H p = none → Q (.ref p) (upd H p (.tup (List.replicate k.toNat xs).flatten)))
theorem op_mulT {X : Cx} : OpR X (binaryOp .Mult) (rMulT X.K) := by
  intro pins s σ H x y v u Q I rx ry h
  obtain ⟨l, k, xs, e1, e2, hT, h0, h2, hz, q1, q2⟩ := h
  by_cases big : xs ≠ [] ∧ 2 ≤ k
  · exact op_repT pins s σ H x y v u Q I rx ry ⟨l, k, xs, e1, e2, hT, big.1, big.2, h2, hz, q2 big.1 (by omega)⟩
  · subst e1 e2
    cases rx
    obtain ⟨t, rfl⟩ := ry
    obtain ⟨its, r, ⟨⟨cls, dd, data, sl⟩, ho, hc, n, hd⟩, hs⟩ := I.tuple hT
    simp only at hc hd
    subst hc hd
    have hi : its.toArray.isEmpty = xs.isEmpty := by
      cases r <;> rfl
    have c0 : (decide (k < -(2 ^ 63)) || decide (k ≥ 2 ^ 63)) = false := by
      rw [decide_eq_false (by omega), decide_eq_false (by omega)]; rfl
    by_cases sm : xs = [] ∨ k = 1
    · have c1 : (its.toArray.isEmpty || k == 1) = true := by
        rw [hi]
        rcases sm with z | z
        · subst z; rfl
        · subst z; simp
      exact wpAny_binaryOp_repeat_ref (T := "tuple") (U := "int") (by decide) ⟨_, ho, rfl⟩ (fun s' => typeIs_int s' k t) noFill_tuple_mul F.fills_int_mul F.slot_int_rmul repeat_tuple F.slot_int_index.lookup
        (call_meets F.slot_int_rmul (typeIs_int s k t) F.entry_int_rmul (F.args_int_rmul_2 _ _) (int_rmul_tuple k t l its.toArray n dd sl)
          ⟨ho, rfl, ⟨_, ho, rfl⟩, call_meets F.slot_tuple_mul ⟨_, ho, rfl⟩ F.entry_tuple_mul (F.args_tuple_mul_2 _ _) (mul_same l its.toArray n dd sl k t c0 c1) ⟨ho, ⟨.ref l, H, I, rfl, q1 sm⟩⟩⟩)
    · have hne : xs ≠ [] := fun z => sm (.inl z)
      have hk1 : k ≠ 1 := fun z => sm (.inr z)
      have hk : k ≤ 0 := by
        have : ¬ 2 ≤ k := fun z => big ⟨hne, z⟩
        omega
      have c1 : (its.toArray.isEmpty || k == 1) = false := by
        rw [hi]
        cases xs with
        | nil => exact absurd rfl hne
        | cons a b => simp [hk1]
      have c2 : (decide (k ≤ 0) || its.toArray.isEmpty) = true := by rw [decide_eq_true hk]; rfl
      refine wpAny_binaryOp_repeat_ref (T := "tuple") (U := "int") (by decide) ⟨_, ho, rfl⟩ (fun s' => typeIs_int s' k t) noFill_tuple_mul F.fills_int_mul F.slot_int_rmul repeat_tuple F.slot_int_index.lookup
        (call_meets F.slot_int_rmul (typeIs_int s k t) F.entry_int_rmul (F.args_int_rmul_2 _ _) (int_rmul_tuple k t l its.toArray n dd sl)
          ⟨ho, rfl, ⟨_, ho, rfl⟩, call_meets F.slot_tuple_mul ⟨_, ho, rfl⟩ F.entry_tuple_mul (F.args_tuple_mul_2 _ _) (mul_none l its.toArray n dd sl k t c0 c1 c2) ⟨ho, ?_⟩⟩)
      have e0 : (List.replicate k.toNat xs).flatten = [] := by
        rw [show k.toNat = 0 by omega]; rfl
      have q := q2 hne hk1
      rw [e0] at q
      refine ⟨.ref s.heap.objs.size, _, I.laid (t' := s.toks) (o := .tup []) (fun b ob q => Heap.get?_push_of_some _ q) (Nat.le_refl _) ?_, rfl, q _ (I.hok.fresh (Nat.le_refl _))⟩
      exact ⟨Nat.zero_le _, [], .nil, IsTup.new _ _⟩
end DL

/-! DLc: operators, subscripts, slices, built-in calls over trees. -/
namespace DL
open PySem PySem.Spec PyProof.Rows L2
section
variable {K : PySem.W.Frag} {H : Hp} {S : Stt} {X : Cx} {pos p2 : Pos}
theorem Abs.lst {a : Addr} {ds : List D} (A : Abs K H S) (e : S a = some (.lst ds)) : ∃ xs, H a = some (.lst xs) ∧ Reps K H ds xs := A a _ e

/-! ### + and the others -/
def hAdd (K : PySem.W.Frag) : R2 := fun x y H Q => (rI0 (fun i j => .int (i + j)) x y H Q ∨ rCatA K x y H Q) ∨ (rCat x y H Q ∨ ∃ i j, x = .str i ∧ y = .str j ∧ i.length + j.length ≤ sizeLine ∧ Q (.str (i ++ j)) H)
theorem op_addD : OpR X (binaryOp .Add) (hAdd X.K) := (op_add.or op_catA).or (op_cat.or op_add_str)
def rAdd : DR2 := fun d e S Q => match d, e with
  | .int i, .int j => Q (.int (i + j)) S
  | .tup a, .tup b => a.length + b.length ≤ sizeLine ∧ Q (.tup (a ++ b)) S
  | .ref a, .ref b => ∃ xs ys, S a = some (.lst xs) ∧ S b = some (.lst ys) ∧ xs.length + ys.length ≤ sizeLine ∧ ∀ p, S p = none → Q (.ref p) (ups S p (.lst (xs ++ ys)))
  | .str x, .str y => x.length + y.length ≤ sizeLine ∧ Q (.str (x ++ y)) S
  | _, _ => False
theorem rr_add : RepR2 K (hAdd K) rAdd := fun H S x y d e Q' Q A R1 R2 h f => by
  unfold rAdd at h
  split at h
  · rename_i i j
    exact .inl (.inl ⟨i, j, R1.int, R2.int, f.at rep_int A h⟩)
  · rename_i l m
    obtain ⟨a, xs, rfl, h1, r1⟩ := R1.tup
    obtain ⟨b, ys, rfl, h2, r2⟩ := R2.tup
    obtain ⟨hl, q⟩ := h
    refine .inl (.inr ⟨a, b, xs, ys, rfl, rfl, .of h1, .of h2, by rw [r1.length, r2.length]; exact hl, fun e => ?_, fun _ e => ?_, fun _ _ p hp => ?_⟩)
    · subst e
      have := r1.length
      cases l with
      | nil => exact f.at (rep_tup h2 r2) A q
      | cons _ _ => simp at this
    · subst e
      have := r2.length
      cases m with
      | nil => rw [List.append_nil] at q; exact f.at (rep_tup h1 r1) A q
      | cons _ _ => simp at this
    · exact new_tup f (Tups.refl H) (r1.append r2) A q hp
  · obtain ⟨xs, ys, e1, e2, hl, q⟩ := h
    obtain ⟨us, h1, r1⟩ := A.lst e1
    obtain ⟨ws, h2, r2⟩ := A.lst e2
    exact .inr (.inl ⟨_, _, us, ws, R1.ref, R2.ref, h1, h2, by rw [r1.length, r2.length]; exact hl, fun p hp => new_lst f (Tups.refl H) (r1.append r2) A q hp⟩)
  · exact .inr (.inr ⟨_, _, R1.str, R2.str, h.1, f.at rep_str A h.2⟩)
  · exact h.elim
theorem de_add {a b : Expr} {ta tb : DTE} (ha : DE X a ta) (hb : DE X b tb) : DE X (.BinOp a .Add b pos) (dBin rAdd ta tb) := de_op op_addD rr_add ha hb

def rSub : DR2 := fun d e S Q => match d, e with
  | .int i, .int j => Q (.int (i - j)) S
  | _, _ => False
theorem rr_sub : RepR2 K (rI0 fun i j => .int (i - j)) rSub := fun H S x y d e Q' Q A R1 R2 h f => by
  unfold rSub at h
  split at h
  · exact ⟨_, _, R1.int, R2.int, f.at rep_int A h⟩
  · exact h.elim
theorem de_sub {a b : Expr} {ta tb : DTE} (ha : DE X a ta) (hb : DE X b tb) : DE X (.BinOp a .Sub b pos) (dBin rSub ta tb) := de_op op_sub rr_sub ha hb

def MulOk (i j : Int) : Prop := CMul i j ∨ CMulW i j
def hMul (K : PySem.W.Frag) : R2 := fun x y H Q => (rI CMul (fun i j => .int (i * j)) x y H Q ∨ rI CMulW (fun i j => .int (i * j)) x y H Q) ∨ (rMulT K x y H Q ∨ rRep x y H Q)
theorem op_mulD : OpR X (binaryOp .Mult) (hMul X.K) := (op_mul.or op_mulW).or (op_mulT.or op_rep)
def rMul : DR2 := fun d e S Q => match d, e with
  | .int i, .int j => MulOk i j ∧ Q (.int (i * j)) S
  | .tup l, .int k => -1000 ≤ k ∧ k ≤ 1000 ∧ l.length ≤ 1000 ∧ Q (.tup (List.replicate k.toNat l).flatten) S
  | .ref a, .int k => ∃ xs, S a = some (.lst xs) ∧ -1000 ≤ k ∧ k ≤ 1000 ∧ xs.length ≤ 1000 ∧ ∀ p, S p = none → Q (.ref p) (ups S p (.lst (List.replicate k.toNat xs).flatten))
  | _, _ => False
theorem Reps.rep {ds : List D} {xs : List V} (h : Reps K H ds xs) : ∀ k : Nat, Reps K H (List.replicate k ds).flatten (List.replicate k xs).flatten
  | 0 => reps_nil
  | k + 1 => by
    rw [List.replicate_succ, List.replicate_succ, List.flatten_cons, List.flatten_cons]
    exact h.append (Reps.rep h k)
theorem rr_mul : RepR2 K (hMul K) rMul := fun H S x y d e Q' Q A R1 R2 h f => by
  unfold rMul at h
  split at h
  · obtain ⟨m, q⟩ := h
    rcases m with m | m
    · exact .inl (.inl ⟨_, _, R1.int, R2.int, m, f.at rep_int A q⟩)
    · exact .inl (.inr ⟨_, _, R1.int, R2.int, m, f.at rep_int A q⟩)
  · rename_i l k
    obtain ⟨a, xs, rfl, h1, r1⟩ := R1.tup
    obtain ⟨k0, k1, hl, q⟩ := h
    refine .inr (.inl ⟨a, k, xs, rfl, R2.int, .of h1, k0, k1, by rw [r1.length]; exact hl, fun e => ?_, fun _ _ p hp => ?_⟩)
    · refine f.at ?_ A q
      rcases e with e | e
      · subst e
        have z : l = [] := List.eq_nil_of_length_eq_zero (by have := r1.length; simpa using this.symm)
        subst z
        have : (List.replicate k.toNat ([] : List D)).flatten = [] := by simp
        rw [this]
        exact rep_tup h1 reps_nil
      · subst e
        have : (List.replicate (Int.toNat 1) l).flatten = l := by simp
        rw [this]
        exact rep_tup h1 r1
    · exact new_tup f (Tups.refl H) (r1.rep _) A q hp
  · obtain ⟨xs, e1, k0, k1, hl, q⟩ := h
    obtain ⟨us, h1, r1⟩ := A.lst e1
    refine .inr (.inr ⟨_, _, us, R1.ref, R2.int, h1, by omega, by omega, ?_, fun p hp => ?_⟩)
    · rw [r1.length, sizeLine_eq]
      rename_i k
      have : xs.length * k.toNat ≤ 1000 * 1000 := Nat.mul_le_mul hl (by omega)
      omega
    · exact new_lst f (Tups.refl H) (r1.rep _) A q hp
  · exact h.elim
theorem de_mul {a b : Expr} {ta tb : DTE} (ha : DE X a ta) (hb : DE X b tb) : DE X (.BinOp a .Mult b pos) (dBin rMul ta tb) := de_op op_mulD rr_mul ha hb

def rDiv : DR2 := fun d e S Q => match d, e with
  | .int i, .int j => CDivW i j ∧ Q (.int (i / j)) S
  | _, _ => False
theorem rr_div : RepR2 K (rI CDivW fun i j => .int (i / j)) rDiv := fun H S x y d e Q' Q A R1 R2 h f => by
  unfold rDiv at h
  split at h
  · exact ⟨_, _, R1.int, R2.int, h.1, f.at rep_int A h.2⟩
  · exact h.elim
theorem de_div {a b : Expr} {ta tb : DTE} (ha : DE X a ta) (hb : DE X b tb) : DE X (.BinOp a .FloorDiv b pos) (dBin rDiv ta tb) := de_op op_fdivW rr_div ha hb
def rMod : DR2 := fun d e S Q => match d, e with
  | .int i, .int j => 0 < j ∧ Q (.int (i % j)) S
  | _, _ => False
theorem rr_mod : RepR2 K (rI (fun _ j => 0 < j) fun i j => .int (i % j)) rMod := fun H S x y d e Q' Q A R1 R2 h f => by
  unfold rMod at h
  split at h
  · exact ⟨_, _, R1.int, R2.int, h.1, f.at rep_int A h.2⟩
  · exact h.elim
theorem de_mod {a b : Expr} {ta tb : DTE} (ha : DE X a ta) (hb : DE X b tb) : DE X (.BinOp a .Mod b pos) (dBin rMod ta tb) := de_op op_mod rr_mod ha hb
def rPow : DR2 := fun d e S Q => match d, e with
  | .int i, .int j => CPow i j ∧ Q (.int (i ^ j.toNat)) S
  | _, _ => False
theorem rr_pow : RepR2 K (rI CPow fun i j => .int (i ^ j.toNat)) rPow := fun H S x y d e Q' Q A R1 R2 h f => by
  unfold rPow at h
  split at h
  · exact ⟨_, _, R1.int, R2.int, h.1, f.at rep_int A h.2⟩
  · exact h.elim
theorem de_pow {a b : Expr} {ta tb : DTE} (ha : DE X a ta) (hb : DE X b tb) : DE X (.BinOp a .Pow b pos) (dBin rPow ta tb) := de_op op_pow rr_pow ha hb

/-! ### comparisons -/
def lexLtI : List Int → List Int → Bool := HT.lexLt
def rCmp (p : Int → Int → Bool) : DR2 := fun d e S Q => match d, e with
  | .int i, .int j => Q (.bl (p i j)) S
  | _, _ => False
theorem rr_cmp {p : Int → Int → Bool} : RepR2 K (rI0 fun i j => .bl (p i j)) (rCmp p) := fun H S x y d e Q' Q A R1 R2 h f => by
  unfold rCmp at h
  split at h
  · exact ⟨_, _, R1.int, R2.int, f.at rep_bl A h⟩
  · exact h.elim
/-- < of two numbers or of two tuples of numbers -/
def rLt : DR2 := fun d e S Q => match d, e with
  | .int i, .int j => Q (.bl (decide (i < j))) S
  | .tup a, .tup b => ∃ ns ms, a = ns.map D.int ∧ b = ms.map D.int ∧ Q (.bl (HT.lexLt ns ms)) S
  | _, _ => False
theorem rr_lt : RepR2 K (fun x y H Q => rI0 (fun i j => .bl (decide (i < j))) x y H Q ∨ rLtT K x y H Q) rLt := fun H S x y d e Q' Q A R1 R2 h f => by
  unfold rLt at h
  split at h
  · exact .inl ⟨_, _, R1.int, R2.int, f.at rep_bl A h⟩
  · obtain ⟨ns, ms, rfl, rfl, q⟩ := h
    obtain ⟨a, xs, rfl, h1, r1⟩ := R1.tup
    obtain ⟨b, ys, rfl, h2, r2⟩ := R2.tup
    rw [r1.ints] at h1
    rw [r2.ints] at h2
    exact .inr ⟨a, b, ns, ms, rfl, rfl, .of h1, .of h2, f.at rep_bl A q⟩
  · exact h.elim
theorem op_ltD (hu : X.A.units < cLine) : OpR X (compareOp .Lt) (fun x y H Q => rI0 (fun i j => .bl (decide (i < j))) x y H Q ∨ rLtT X.K x y H Q) := op_lt.or (op_ltT hu)
theorem lexAt_le : ∀ (ns ms pre pre' : List Int), pre.length = pre'.length →
    Ob.lexAt (fun j => decide ((pre ++ ns).getD j 0 = (pre' ++ ms).getD j 0)) (fun j => decide ((pre ++ ns).getD j 0 ≤ (pre' ++ ms).getD j 0)) (decide ((pre ++ ns).length ≤ (pre' ++ ms).length)) pre.length (min ns.length ms.length) = lexLeI ns ms
  | [], ms, pre, pre', h => by
    rw [show min ([] : List Int).length ms.length = 0 by simp, Ob.lexAt_zero]
    show decide _ = true
    rw [decide_eq_true_eq, List.length_append, List.length_append, h, List.length_nil]
    omega
  | n :: ns, [], pre, pre', h => by
    rw [show min (n :: ns).length ([] : List Int).length = 0 by simp, Ob.lexAt_zero]
    show decide _ = false
    rw [decide_eq_false_iff_not, List.length_append, List.length_append, h, List.length_nil, List.length_cons]
    omega
  | n :: ns, m :: ms, pre, pre', h => by
    rw [show min (n :: ns).length (m :: ms).length = min ns.length ms.length + 1 by simp only [List.length_cons]; omega, Ob.lexAt_succ]
    have e1 : (pre ++ n :: ns).getD pre.length 0 = n := by simp
    have e2 : (pre' ++ m :: ms).getD pre.length 0 = m := by rw [h]; simp
    simp only [e1, e2]
    show _ = if n = m then lexLeI ns ms else decide (n ≤ m)
    by_cases e : n = m
    · have ih := lexAt_le ns ms (pre ++ [n]) (pre' ++ [m]) (by simp [h])
      simp only [List.append_assoc, List.singleton_append, List.length_append, List.length_singleton] at ih
      simp only [e, decide_true, if_true] at ih ⊢
      rw [← ih]
      simp only [List.length_append, List.length_cons]
    · simp only [e, decide_false, if_false, Bool.false_eq_true]
def rLe : DR2 := fun d e S Q => match d, e with
  | .int i, .int j => Q (.bl (decide (i ≤ j))) S
  | .tup a, .tup b => ∃ ns ms, a = ns.map D.int ∧ b = ms.map D.int ∧ Q (.bl (lexLeI ns ms)) S
  | _, _ => False
theorem rr_le : RepR2 K (fun x y H Q => rI0 (fun i j => .bl (decide (i ≤ j))) x y H Q ∨ rLeT K x y H Q) rLe := fun H S x y d e Q' Q A R1 R2 h f => by
  unfold rLe at h
  split at h
  · exact .inl ⟨_, _, R1.int, R2.int, f.at rep_bl A h⟩
  · obtain ⟨ns, ms, rfl, rfl, q⟩ := h
    obtain ⟨a, xs, rfl, h1, r1⟩ := R1.tup
    obtain ⟨b, ys, rfl, h2, r2⟩ := R2.tup
    rw [r1.ints] at h1
    rw [r2.ints] at h2
    refine .inr ⟨a, b, ns, ms, rfl, rfl, .of h1, .of h2, ?_⟩
    have z := lexAt_le ns ms [] [] rfl
    simp only [List.nil_append, List.length_nil] at z
    rw [z]
    exact f.at rep_bl A q
  · exact h.elim
theorem op_leD (hu : X.A.units < cLine) : OpR X (compareOp .LtE) (fun x y H Q => rI0 (fun i j => .bl (decide (i ≤ j))) x y H Q ∨ rLeT X.K x y H Q) := op_le.or (op_leT hu)

mutual
inductive DPy (S : Stt) : D → PyData → Prop
  | non : DPy S .non .none
  | bl (b : Bool) : DPy S (.bl b) (.bool b)
  | int (i : Int) : DPy S (.int i) (.int i)
  | str (x : Str) : DPy S (.str x) (.str x)
  | tup {l : List D} {ps : List PyData} (h : DPys S l ps) : DPy S (.tup l) (.tuple ps)
  | fz {l : List D} {ps : List PyData} (h : DPys S l ps) : DPy S (.fz l) (.list ps)
  | lst {a : Addr} {l : List D} {ps : List PyData} (e : S a = some (.lst l)) (h : DPys S l ps) : DPy S (.ref a) (.list ps)
inductive DPys (S : Stt) : List D → List PyData → Prop
  | nil : DPys S [] []
  | cons {d : D} {p : PyData} {ds : List D} {ps : List PyData} (h : DPy S d p) (hr : DPys S ds ps) : DPys S (d :: ds) (p :: ps)
end
mutual
theorem DPy.dp (A : Abs K H S) : ∀ {d : D} {p : PyData} {v : V}, DPy S d p → Rep K H d v → Dp K H v p
  | _, _, _, .non, r => by rw [r.non]; exact .non
  | _, _, _, .bl b, r => by rw [r.bl]; exact .bl b
  | _, _, _, .int i, r => by rw [r.int]; exact .int i
  | _, _, _, .str x, r => by rw [r.str]; exact .str x
  | _, _, _, .tup h, r => by
    obtain ⟨a, xs, rfl, h1, r1⟩ := r.tup
    exact .tup (.of h1) (DPys.dp A h r1)
  | _, _, _, .fz h, r => by
    obtain ⟨a, xs, rfl, h1, r1⟩ := r.fz
    exact .lst h1.sql (DPys.dp A h r1)
  | _, _, _, .lst e h, r => by
    obtain ⟨xs, h1, r1⟩ := A.lst e
    rw [r.ref]
    exact .lst (.of h1) (DPys.dp A h r1)
theorem DPys.dp (A : Abs K H S) : ∀ {ds : List D} {ps : List PyData} {xs : List V}, DPys S ds ps → Reps K H ds xs → DpAll K H xs ps
  | _, _, _, .nil, r => by rw [r.nil]; exact .nil
  | _, _, _, .cons h hr, r => by
    obtain ⟨x, ys, rfl, r1, r2⟩ := r.cons
    exact .cons (DPy.dp A h r1) (DPys.dp A hr r2)
end
def rEq : DR2 := fun d e S Q => ∃ p q, DPy S d p ∧ DPy S e q ∧ SeqAt.shaped p = true ∧ SeqAt.shaped q = true ∧ Q (.bl (PyData.eqv p q)) S
def rNe : DR2 := fun d e S Q => ∃ p q, DPy S d p ∧ DPy S e q ∧ SeqAt.shaped p = true ∧ SeqAt.shaped q = true ∧ Q (.bl (!PyData.eqv p q)) S
theorem rr_eq : RepR2 K (rEqD K) rEq := fun H S x y d e Q' Q A R1 R2 ⟨p, q, h1, h2, s1, s2, h⟩ f => ⟨p, q, h1.dp A R1, h2.dp A R2, s1, s2, f.at rep_bl A h⟩
theorem rr_ne : RepR2 K (rNeD K) rNe := fun H S x y d e Q' Q A R1 R2 ⟨p, q, h1, h2, s1, s2, h⟩ f => ⟨p, q, h1.dp A R1, h2.dp A R2, s1, s2, f.at rep_bl A h⟩
def isNonD : D → Bool
  | .non => true
  | _ => false
theorem Rep.isNon {d : D} {v : V} (r : Rep K H d v) : decide (v = .non) = isNonD d := by
  cases d with
  | non => rw [r.non]; rfl
  | bl b => rw [r.bl]; rfl
  | int i => rw [r.int]; rfl
  | str x => rw [r.str]; rfl
  | ref a => rw [r.ref]; rfl
  | ty n => rw [r.ty]; rfl
  | tup l => obtain ⟨a, _, rfl, _⟩ := r.tup; rfl
  | fz l => obtain ⟨a, _, rfl, _⟩ := r.fz; rfl
def rIs : DR2 := fun d e S Q => match e with
  | .non => Q (.bl (isNonD d)) S
  | .bl b => ∃ a, d = .bl a ∧ Q (.bl (decide (a = b))) S
  | _ => False
def rIsNot : DR2 := fun d e S Q => match e with
  | .non => Q (.bl (!isNonD d)) S
  | .bl b => ∃ a, d = .bl a ∧ Q (.bl (!decide (a = b))) S
  | _ => False
theorem rr_is : RepR2 K (fun x y H Q => (y = .non ∧ Q (.bl (decide (x = .non))) H) ∨ ∃ a b, x = .bl a ∧ y = .bl b ∧ Q (.bl (decide (a = b))) H) rIs := fun H S x y d e Q' Q A R1 R2 h f => by
  unfold rIs at h
  split at h
  · exact .inl ⟨R2.non, by rw [R1.isNon]; exact f.at rep_bl A h⟩
  · obtain ⟨a, rfl, q⟩ := h
    exact .inr ⟨_, _, R1.bl, R2.bl, f.at rep_bl A q⟩
  · exact h.elim
theorem rr_isNot : RepR2 K (fun x y H Q => (y = .non ∧ Q (.bl (!decide (x = .non))) H) ∨ ∃ a b, x = .bl a ∧ y = .bl b ∧ Q (.bl (!decide (a = b))) H) rIsNot := fun H S x y d e Q' Q A R1 R2 h f => by
  unfold rIsNot at h
  split at h
  · exact .inl ⟨R2.non, by rw [R1.isNon]; exact f.at rep_bl A h⟩
  · obtain ⟨a, rfl, q⟩ := h
    exact .inr ⟨_, _, R1.bl, R2.bl, f.at rep_bl A q⟩
  · exact h.elim
theorem op_isD : OpR X (compareOp .Is) (fun x y H Q => (y = .non ∧ Q (.bl (decide (x = .non))) H) ∨ ∃ a b, x = .bl a ∧ y = .bl b ∧ Q (.bl (decide (a = b))) H) := op_isN.or op_is_bl
theorem op_isNotD : OpR X (compareOp .IsNot) (fun x y H Q => (y = .non ∧ Q (.bl (!decide (x = .non))) H) ∨ ∃ a b, x = .bl a ∧ y = .bl b ∧ Q (.bl (!decide (a = b))) H) := op_notN.or op_isnot_bl

/-! ### subscripts -/
def keyD : D → Option Key
  | .int i => some (.inl i)
  | .str x => some (.inr x)
  | _ => none
def keysD : List D → Option (List Key)
  | [] => some []
  | d :: ds => match keyD d, keysD ds with
    | some k, some ks => some (k :: ks)
    | _, _ => none
def keyT : D → Option (List Key)
  | .tup l => keysD l
  | _ => none
theorem keyD_rep {d : D} {v : V} {k : Key} (r : Rep K H d v) (h : keyD d = some k) : v = kV k := by
  cases d with
  | int i => cases h; exact r.int
  | str x => cases h; exact r.str
  | _ => cases h
theorem keysD_rep : ∀ {ds : List D} {xs : List V} {ks : List Key}, Reps K H ds xs → keysD ds = some ks → xs = ks.map kV
  | [], _, _, r, h => by cases h; exact r.nil
  | d :: ds, _, ks, r, h => by
    obtain ⟨x, ys, rfl, r1, r2⟩ := r.cons
    unfold keysD at h
    split at h
    · rename_i k ks' e1 e2
      cases h
      rw [keyD_rep r1 e1, keysD_rep r2 e2]; rfl
    · cases h
theorem keyT_rep {d : D} {v : V} {ks : List Key} (r : Rep K H d v) (h : keyT d = some ks) : ∃ b, v = .ref b ∧ H b = some (.tup (ks.map kV)) := by
  cases d with
  | tup l =>
    obtain ⟨b, xs, rfl, h1, r1⟩ := r.tup
    exact ⟨b, rfl, by rw [h1, keysD_rep r1 h]⟩
  | _ => cases h
def valD {κ : Type} [DecidableEq κ] (kvs : List (κ × D)) (k : κ) : Option D := (kvs.find? fun kv => decide (kv.1 = k)).map (·.2)
def putD {κ : Type} [DecidableEq κ] (kvs : List (κ × D)) (k : κ) (d : D) : List (κ × D) :=
  if kvs.any (fun kv => decide (kv.1 = k)) then kvs.map (fun kv => if kv.1 = k then (kv.1, d) else kv) else kvs ++ [(k, d)]
theorem RepKv.val {κ : Type} [DecidableEq κ] : ∀ {kvs : List (κ × D)} {xs : List (κ × V)} {k : κ}, RepKv K H kvs xs → (∀ d, valD kvs k = some d → ∃ v, valV xs k = some v ∧ Rep K H d v) ∧ (valD kvs k = none → valV xs k = none)
  | [], xs, _, r => by
    have e : xs = [] := r
    subst e
    exact ⟨(fun d h => nomatch h), fun _ => rfl⟩
  | p :: kvs, _, k, r => by
    obtain ⟨x, ys, rfl, r1, r2⟩ := r
    have ih := RepKv.val (k := k) r2
    unfold valD valV at ih ⊢
    by_cases e : p.1 = k
    · simp only [List.find?_cons, e, decide_true, Option.map_some]
      exact ⟨(fun d h => by cases h; exact ⟨x, rfl, r1⟩), (fun h => nomatch h)⟩
    · simp only [List.find?_cons, e, decide_false]
      exact ih
theorem RepKv.put {κ : Type} [DecidableEq κ] {kvs : List (κ × D)} {xs : List (κ × V)} (r : RepKv K H kvs xs) (k : κ) {d : D} {v : V} (rd : Rep K H d v) : RepKv K H (putD kvs k d) (putK xs k v) := by
  have any_eq : ∀ {kvs : List (κ × D)} {xs : List (κ × V)}, RepKv K H kvs xs → (xs.any fun kv => decide (kv.1 = k)) = kvs.any fun kv => decide (kv.1 = k) := by
    intro kvs
    induction kvs with
    | nil => intro xs r; have e : xs = [] := r; subst e; rfl
    | cons p kvs ih =>
      intro xs r
      obtain ⟨x, ys, rfl, r1, r2⟩ := r
      rw [List.any_cons, List.any_cons, ih r2]
  have mp : ∀ {kvs : List (κ × D)} {xs : List (κ × V)}, RepKv K H kvs xs → RepKv K H (kvs.map fun kv => if kv.1 = k then (kv.1, d) else kv) (xs.map fun kv => if kv.1 = k then (kv.1, v) else kv) := by
    intro kvs
    induction kvs with
    | nil => intro xs r; have e : xs = [] := r; subst e; rfl
    | cons p kvs ih =>
      intro xs r
      obtain ⟨x, ys, rfl, r1, r2⟩ := r
      rw [List.map_cons, List.map_cons]
      by_cases e : p.1 = k
      · rw [if_pos e, if_pos e]
        exact ⟨v, _, rfl, rd, ih r2⟩
      · rw [if_neg e, if_neg e]
        exact ⟨x, _, rfl, r1, ih r2⟩
  have sn : ∀ {kvs : List (κ × D)} {xs : List (κ × V)}, RepKv K H kvs xs → RepKv K H (kvs ++ [(k, d)]) (xs ++ [(k, v)]) := by
    intro kvs
    induction kvs with
    | nil => intro xs r; have e : xs = [] := r; subst e; exact ⟨v, [], rfl, rd, rfl⟩
    | cons p kvs ih =>
      intro xs r
      obtain ⟨x, ys, rfl, r1, r2⟩ := r
      exact ⟨x, _, rfl, r1, ih r2⟩
  unfold putD putK
  rw [any_eq r]
  split
  · exact mp r
  · exact sn r
theorem Reps.at {ds : List D} {xs : List V} {i : Int} {d : D} (r : Reps K H ds xs) (h : atI ds i = some d) : ∃ v, atI xs i = some v ∧ Rep K H d v := by
  unfold atI at h ⊢
  rw [r.length]
  cases e : ixN ds.length i with
  | none => rw [e] at h; cases h
  | some j =>
    rw [e] at h
    exact r.getD h
def rIxD : R2 := fun x y H Q => ∃ a v, x = .ref a ∧ DGet H a y (some v) ∧ Q v H
theorem ix_dict (hu : X.A.units + 1 < cLine) : IxR X rIxD := by
  intro value slice pins s σ H x y v u Q I rx ry h hs
  obtain ⟨a, w', rfl, g, q⟩ := h
  cases rx
  have hT := dict_typeIs I g
  unfold subscriptTail
  refine wpAny_bind ?_
  rw [getitemInPython_of_ne hT.not_modules]
  refine wpAny_bind (wpAny_specialOf hT PySem.F.slot_dict_getitem.lookup ?_)
  have fin : wpAny (model X.prog X.w) X.A (subscripted slice false (.ref a) u) (fun r s₃ => wpAny (model X.prog X.w) X.A (letTemporaryGo value (.ref a) r >>= fun _ => pure r) (EP X pins σ Q) X.xe s₃) X.xe s := by
    rw [hs]
    exact wpAny_operating (d_getItem hu I g ry fun w2 s3 I3 rw2 => wpAny_bind (wpAny_letTemporaryGo (wpAny_pure ⟨w', H, I3, rw2, q⟩)))
  first
    | exact wpAny_pure (wpAny_bind fin)
    | exact wpAny_bind (wpAny_pure (wpAny_bind fin))
    | exact wpAny_bind fin
def rIx : DR2 := fun d e S Q => match d with
  | .tup l => ∃ i v, e = .int i ∧ atI l i = some v ∧ Q v S
  | .fz l => ∃ i v, e = .int i ∧ atI l i = some v ∧ Q v S
  | .ref a => (∃ l i v, S a = some (.lst l) ∧ e = .int i ∧ atI l i = some v ∧ Q v S) ∨ (∃ kvs k v, S a = some (.dK kvs) ∧ keyD e = some k ∧ valD kvs k = some v ∧ Q v S) ∨ ∃ kvs k v, S a = some (.dT kvs) ∧ keyT e = some k ∧ valD kvs k = some v ∧ Q v S
  | _ => False
theorem rr_ix : RepR2 K (fun x y H Q => L2.rIx K x y H Q ∨ rIxD x y H Q) rIx := fun H S x y d e Q' Q A R1 R2 h f => by
  unfold rIx at h
  split at h
  · obtain ⟨i, v, rfl, e1, q⟩ := h
    obtain ⟨a, xs, rfl, h1, r1⟩ := R1.tup
    obtain ⟨w', e2, r2⟩ := r1.at e1
    exact .inl (.inr (.inl ⟨a, xs, i, w', rfl, R2.int, .of h1, e2, f.at r2 A q⟩))
  · obtain ⟨i, v, rfl, e1, q⟩ := h
    obtain ⟨a, xs, rfl, h1, r1⟩ := R1.fz
    obtain ⟨w', e2, r2⟩ := r1.at e1
    exact .inl (.inl ⟨a, xs, i, w', rfl, R2.int, h1.sql, e2, f.at r2 A q⟩)
  · rcases h with ⟨l, i, v, e0, rfl, e1, q⟩ | ⟨kvs, k, v, e0, ek, e1, q⟩ | ⟨kvs, k, v, e0, ek, e1, q⟩
    · obtain ⟨xs, h1, r1⟩ := A.lst e0
      obtain ⟨w', e2, r2⟩ := r1.at e1
      exact .inl (.inl ⟨_, xs, i, w', R1.ref, R2.int, .of h1, e2, f.at r2 A q⟩)
    · obtain ⟨xs, h1, r1⟩ := A _ _ e0
      obtain ⟨w', e2, r2⟩ := r1.val.1 v e1
      refine .inr ⟨_, w', R1.ref, ?_, f.at r2 A q⟩
      rw [← e2, keyD_rep R2 ek]
      exact DGet.k h1
    · obtain ⟨xs, h1, r1⟩ := A _ _ e0
      obtain ⟨w', e2, r2⟩ := r1.val.1 v e1
      obtain ⟨b, eb, hb⟩ := keyT_rep R2 ek
      refine .inr ⟨_, w', R1.ref, ?_, f.at r2 A q⟩
      rw [← e2, eb]
      exact DGet.t h1 hb
  · exact h.elim
theorem de_ix {a b : Expr} {ta tb : DTE} (hu : X.A.units + 1 < cLine) (ha : DE X a ta) (hb : DE X b tb) (hs : PlainIx b := by exact fun _ _ => rfl) : DE X (.Subscript a b pos) (dBin rIx ta tb) := (pe_ix (ix_seq.or (ix_dict hu)) ha hb hs).weak (bin_of rr_ix)

/-! ### slices -/
abbrev DTO := Sd → Stt → (Option Int → Stt → Prop) → Prop
def toOf (K : PySem.W.Frag) (t : DTO) : TO := fun σ H Q => ∃ (σd : Sd) (S : Stt) (Q' : Option Int → Stt → Prop), RepS K H σ σd ∧ Abs K H S ∧ t σd S Q' ∧ ∀ b H' S', Tups H H' → Abs K H' S' → Q' b S' → Q b H'
abbrev DO (X : Cx) (e : Option Expr) (t : DTO) : Prop := PO X e (toOf X.K t)
theorem _root_.L2.PO.weak {e : Option Expr} {t u : TO} (h : PO X e t) (w : ∀ σ H Q, u σ H Q → t σ H Q) : PO X e u := ⟨fun pins s σ H Q I q => h.run pins s σ H Q I (w σ H Q q)⟩
def dNoPart : DTO := fun _ S Q => Q none S
def dPart (t : DTE) : DTO := fun σ S Q => t σ S fun x S1 => ∃ i, x = .int i ∧ Q (some i) S1
theorem do_none : DO X none dNoPart := po_none.weak fun σ H Q ⟨σd, S, Q', hσ, hS, q, f⟩ => f none H S (Tups.refl H) hS q
theorem do_some {e : Expr} {t : DTE} (h : DE X e t) : DO X (some e) (dPart t) := (po_some h).weak fun σ H Q ⟨σd, S, Q', hσ, hS, q, f⟩ =>
  ⟨σd, S, _, hσ, hS, q, fun v H1 d S1 T1 R1 A1 ⟨i, e, q1⟩ => by subst e; exact ⟨i, R1.int, f _ H1 S1 T1 A1 q1⟩⟩
def cutD {α : Type} (xs : List α) (lo hi : Option Int) : List α := (xs.drop (HT.sIx xs.length 0 lo)).take (HT.sIx xs.length xs.length hi - HT.sIx xs.length 0 lo)
theorem Reps.cut {ds : List D} {xs : List V} (r : Reps K H ds xs) (lo hi : Option Int) : Reps K H (cutD ds lo hi) (cutV xs lo hi) := by
  unfold cutD cutV
  rw [r.length]
  exact (r.drop _).take _
theorem cut_whole {α : Type} {xs : List α} {lo hi : Option Int} (h : HT.sIx xs.length 0 lo = 0 ∧ HT.sIx xs.length xs.length hi = xs.length) : cutD xs lo hi = xs := by
  unfold cutD
  rw [h.1, h.2]
  simp
def rSl (d : D) (lo hi : Option Int) (S : Stt) (Q : DK) : Prop := match d with
  | .tup l => Q (.tup (cutD l lo hi)) S
  | .fz l => ∀ p, S p = none → Q (.ref p) (ups S p (.lst (cutD l lo hi)))
  | .ref a => ∃ l, S a = some (.lst l) ∧ ∀ p, S p = none → Q (.ref p) (ups S p (.lst (cutD l lo hi)))
  | _ => False
theorem sl_any : SlR X (fun x lo hi H Q => rSlL X.K x lo hi H Q ∨ rSlA X.K x lo hi H Q) := sl_list.or sl_tupA
theorem rr_sl {d : D} {v : V} {lo hi : Option Int} {Q' : DK} {Q : VK} (A : Abs K H S) (R : Rep K H d v) (h : rSl d lo hi S Q') (f : FinD K H Q' Q) : rSlL K v lo hi H Q ∨ rSlA K v lo hi H Q := by
  unfold rSl at h
  split at h
  · obtain ⟨a, xs, rfl, h1, r1⟩ := R.tup
    refine .inr ⟨a, xs, rfl, .of h1, fun w' => ?_, fun w' p hp => new_tup f (Tups.refl H) (r1.cut lo hi) A h hp⟩
    rw [r1.length] at w'
    rw [cut_whole w'] at h
    exact f.at (rep_tup h1 r1) A h
  · obtain ⟨a, xs, rfl, h1, r1⟩ := R.fz
    exact .inl ⟨a, xs, rfl, h1.sql, fun p hp => new_lst f (Tups.refl H) (r1.cut lo hi) A h hp⟩
  · obtain ⟨l, e, q⟩ := h
    obtain ⟨xs, h1, r1⟩ := A.lst e
    exact .inl ⟨_, xs, R.ref, .of h1, fun p hp => new_lst f (Tups.refl H) (r1.cut lo hi) A q hp⟩
  · exact h.elim
def dSl (te : DTE) (tl th : DTO) : DTE := fun σ S Q => te σ S fun x S1 => tl σ S1 fun l S2 => th σ S2 fun u S3 => rSl x l u S3 Q
theorem de_sl {e : Expr} {lo hi : Option Expr} {te : DTE} {tl th : DTO} (he : DE X e te) (hl : DO X lo tl) (hh : DO X hi th) : DE X (.Subscript e (.Slice lo hi none p2) pos) (dSl te tl th) :=
  (pe_slice sl_any he hl hh).weak fun σ H Q ⟨σd, S, Q', hσ, hS, q, f⟩ => ⟨σd, S, _, hσ, hS, q, fun v H1 d S1 T1 R1 A1 q1 => ⟨σd, S1, _, hσ.mono T1, A1, q1, fun l H2 S2 T2 A2 q2 => ⟨σd, S2, _, hσ.mono (T1.trans T2), A2, q2, fun u H3 S3 T3 A3 q3 =>
    rr_sl A3 (R1.mono (T2.trans T3)) q3 (f.mono (T1.trans (T2.trans T3)))⟩⟩⟩

/-! ### calls of built-ins -/
abbrev DRC := List D → Stt → DK → Prop
def RepC (K : PySem.W.Frag) (rH : List V → Hp → VK → Prop) (r : DRC) : Prop := ∀ (H : Hp) (S : Stt) (vs : List V) (ds : List D) (Q' : DK) (Q : VK), Abs K H S → Reps K H ds vs → r ds S Q' → FinD K H Q' Q → rH vs H Q
def dCB (r : DRC) (t : DTA) : DTE := fun σ S Q => t σ S fun ds S1 => r ds S1 Q
theorem cb_of {rH : List V → Hp → VK → Prop} {r : DRC} {t : DTA} (hr : RepC K rH r) : ∀ σ H Q, teOf K (dCB r t) σ H Q → tCB rH (taOf K t) σ H Q := fun σ H Q ⟨σd, S, Q', hσ, hS, q, f⟩ =>
  ⟨σd, S, _, hσ, hS, q, fun vs H1 ds S1 T1 R1 A1 q1 => hr H1 S1 vs ds Q' Q A1 R1 q1 (f.mono T1)⟩
theorem de_callB {x : Str} {p : Pos} {e : Expr} {es : List Expr} {id : String} {rH : List V → Hp → VK → Prop} {r : DRC} {t : DTA} (hc : CallR X (.builtin id) rH) (hr : RepC X.K rH r) (hg : Gl X x) (hm : X.mg x = none) (hv : bootBuiltins x = some (.builtin id)) (ha : DA X (e :: es) t)
    (h : PE X (.Call (.Name x p) (e :: es) [] pos) (tCB rH (taOf X.K t))) : DE X (.Call (.Name x p) (e :: es) [] pos) (dCB r t) := h.weak (cb_of hr)
theorem Reps.one {d : D} {vs : List V} (r : Reps K H [d] vs) : ∃ v, vs = [v] ∧ Rep K H d v := by
  obtain ⟨x, ys, rfl, r1, r2⟩ := r.cons
  rw [r2.nil]
  exact ⟨x, rfl, r1⟩
theorem Reps.two {d e : D} {vs : List V} (r : Reps K H [d, e] vs) : ∃ v w', vs = [v, w'] ∧ Rep K H d v ∧ Rep K H e w' := by
  obtain ⟨x, ys, rfl, r1, r2⟩ := r.cons
  obtain ⟨w', rfl, r3⟩ := r2.one
  exact ⟨x, w', rfl, r1, r3⟩
def rLen : DRC := fun ds S Q => ∃ d, ds = [d] ∧ match d with
  | .tup l => Q (.int l.length) S
  | .fz l => Q (.int l.length) S
  | .ref a => ∃ l, S a = some (.lst l) ∧ Q (.int l.length) S
  | .str x => x.length ≤ sizeLine ∧ Q (.int x.length) S
  | _ => False
theorem rc_len : RepC K (fun xs H Q => ∃ x n, xs = [x] ∧ LenV K x H n ∧ Q (.int n) H) rLen := fun H S vs ds Q' Q A R h f => by
  obtain ⟨d, rfl, h⟩ := h
  obtain ⟨v, rfl, r⟩ := R.one
  split at h
  · obtain ⟨a, xs, rfl, h1, r1⟩ := r.tup
    exact ⟨_, _, rfl, .inr ⟨xs, .of h1, rfl⟩, by rw [r1.length]; exact f.at rep_int A h⟩
  · obtain ⟨a, xs, rfl, h1, r1⟩ := r.fz
    exact ⟨_, _, rfl, .inl ⟨xs, h1.sql, rfl⟩, by rw [r1.length]; exact f.at rep_int A h⟩
  · obtain ⟨l, e, q⟩ := h
    obtain ⟨xs, h1, r1⟩ := A.lst e
    rw [r.ref]
    exact ⟨_, _, rfl, .inl ⟨xs, .of h1, rfl⟩, by rw [r1.length]; exact f.at rep_int A q⟩
  · rw [r.str]
    exact ⟨_, _, rfl, ⟨h.1, rfl⟩, f.at rep_int A h.2⟩
  · exact h.elim
/-- tuple(x) -/
def rTupOf : DRC := fun ds S Q => ∃ d, ds = [d] ∧ match d with
  | .tup l => Q (.tup l) S
  | .fz l => Q (.tup l) S
  | .ref a => ∃ l, S a = some (.lst l) ∧ Q (.tup l) S
  | _ => False
theorem rc_tupOf : RepC K (fun xs H Q => ∃ p ys, xs = [.ref p] ∧ ((SqL K H p ys ∧ ∀ l, H l = none → Q (.ref l) (upd H l (.tup ys))) ∨ (SqT K H p ys ∧ Q (.ref p) H))) rTupOf := fun H S vs ds Q' Q A R h f => by
  obtain ⟨d, rfl, h⟩ := h
  obtain ⟨v, rfl, r⟩ := R.one
  split at h
  · obtain ⟨a, xs, rfl, h1, r1⟩ := r.tup
    exact ⟨_, xs, rfl, .inr ⟨.of h1, f.at (rep_tup h1 r1) A h⟩⟩
  · obtain ⟨a, xs, rfl, h1, r1⟩ := r.fz
    exact ⟨_, xs, rfl, .inl ⟨h1.sql, fun p hp => new_tup f (Tups.refl H) r1 A h hp⟩⟩
  · obtain ⟨l, e, q⟩ := h
    obtain ⟨xs, h1, r1⟩ := A.lst e
    rw [r.ref]
    exact ⟨_, xs, rfl, .inl ⟨.of h1, fun p hp => new_tup f (Tups.refl H) r1 A q hp⟩⟩
  · exact h.elim
/-- list(x) -/
def rLstOf : DRC := fun ds S Q => ∃ d, ds = [d] ∧ match d with
  | .tup l => ∀ p, S p = none → Q (.ref p) (ups S p (.lst l))
  | .fz l => ∀ p, S p = none → Q (.ref p) (ups S p (.lst l))
  | .ref a => ∃ l, S a = some (.lst l) ∧ ∀ p, S p = none → Q (.ref p) (ups S p (.lst l))
  | _ => False
theorem rc_lstOf : RepC K (fun xs H Q => ∃ p ys, xs = [.ref p] ∧ (SqL K H p ys ∨ SqT K H p ys) ∧ ∀ l, H l = none → Q (.ref l) (upd H l (.lst ys))) rLstOf := fun H S vs ds Q' Q A R h f => by
  obtain ⟨d, rfl, h⟩ := h
  obtain ⟨v, rfl, r⟩ := R.one
  split at h
  · obtain ⟨a, xs, rfl, h1, r1⟩ := r.tup
    exact ⟨_, xs, rfl, .inr (.of h1), fun p hp => new_lst f (Tups.refl H) r1 A h hp⟩
  · obtain ⟨a, xs, rfl, h1, r1⟩ := r.fz
    exact ⟨_, xs, rfl, .inl h1.sql, fun p hp => new_lst f (Tups.refl H) r1 A h hp⟩
  · obtain ⟨l, e, q⟩ := h
    obtain ⟨xs, h1, r1⟩ := A.lst e
    rw [r.ref]
    exact ⟨_, xs, rfl, .inl (.of h1), fun p hp => new_lst f (Tups.refl H) r1 A q hp⟩
  · exact h.elim
def rInt : DRC := fun ds S Q => ∃ i, ds = [.int i] ∧ Q (.int i) S
theorem rc_int : RepC K (fun xs H Q => (∃ i, xs = [.int i] ∧ Q (.int i) H) ∨ ∃ k, xs = [.bl k] ∧ Q (.int (if k then 1 else 0)) H) rInt := fun H S vs ds Q' Q A R h f => by
  obtain ⟨i, rfl, h⟩ := h
  obtain ⟨v, rfl, r⟩ := R.one
  rw [r.int]
  exact .inl ⟨i, rfl, f.at rep_int A h⟩
def rAbs : DRC := fun ds S Q => ∃ i : Int, ds = [.int i] ∧ Q (.int (i.natAbs : Int)) S
theorem rc_abs : RepC K (fun xs H Q => ∃ i, xs = [.int i] ∧ Q (.int (if i < 0 then -i else i)) H) rAbs := fun H S vs ds Q' Q A R h f => by
  obtain ⟨i, rfl, h⟩ := h
  obtain ⟨v, rfl, r⟩ := R.one
  rw [r.int]
  refine ⟨i, rfl, f.at ?_ A h⟩
  have : (i.natAbs : Int) = if i < 0 then -i else i := by split <;> omega
  rw [this]
  exact rep_int
def rSum : DRC := fun ds S Q => ∃ (a : Addr) (ns : List Int), ds = [.ref a] ∧ S a = some (.lst (ns.map D.int)) ∧ Q (.int ns.sum) S
theorem rc_sum : RepC K (L2.rSum K) rSum := fun H S vs ds Q' Q A R h f => by
  obtain ⟨a, ns, rfl, e, q⟩ := h
  obtain ⟨v, rfl, r⟩ := R.one
  obtain ⟨xs, h1, r1⟩ := A.lst e
  rw [r.ref]
  exact ⟨a, ns, rfl, by rw [← r1.ints]; exact .of h1, f.at rep_int A q⟩
def rMaxL : DRC := fun ds S Q => ∃ (a : Addr) (ns : List Int), ds = [.ref a] ∧ S a = some (.lst (ns.map D.int)) ∧ 0 < ns.length ∧ ∀ m, m ∈ ns → (∀ y, y ∈ ns → y ≤ m) → Q (.int m) S
theorem rc_maxL : RepC K (L2.rMax K) rMaxL := fun H S vs ds Q' Q A R h f => by
  obtain ⟨a, ns, rfl, e, hl, q⟩ := h
  obtain ⟨v, rfl, r⟩ := R.one
  obtain ⟨xs, h1, r1⟩ := A.lst e
  rw [r.ref]
  exact ⟨a, ns, rfl, by rw [← r1.ints]; exact .of h1, hl, fun m h1 h2 => f.at rep_int A (q m h1 h2)⟩
def rMinL : DRC := fun ds S Q => ∃ (a : Addr) (ns : List Int), ds = [.ref a] ∧ S a = some (.lst (ns.map D.int)) ∧ 0 < ns.length ∧ ∀ m, m ∈ ns → (∀ y, y ∈ ns → m ≤ y) → Q (.int m) S
theorem rc_minL : RepC K (L2.rMin K) rMinL := fun H S vs ds Q' Q A R h f => by
  obtain ⟨a, ns, rfl, e, hl, q⟩ := h
  obtain ⟨v, rfl, r⟩ := R.one
  obtain ⟨xs, h1, r1⟩ := A.lst e
  rw [r.ref]
  exact ⟨a, ns, rfl, by rw [← r1.ints]; exact .of h1, hl, fun m h1 h2 => f.at rep_int A (q m h1 h2)⟩
def rMax2 : DRC := fun ds S Q => ∃ i j : Int, ds = [.int i, .int j] ∧ Q (.int (if j > i then j else i)) S
theorem rc_max2 : RepC K (fun xs H Q => ∃ i j, xs = [.int i, .int j] ∧ Q (.int (if j > i then j else i)) H) rMax2 := fun H S vs ds Q' Q A R h f => by
  obtain ⟨i, j, rfl, q⟩ := h
  obtain ⟨v, w', rfl, r1, r2⟩ := R.two
  rw [r1.int, r2.int]
  exact ⟨i, j, rfl, f.at rep_int A q⟩
def rMin2 : DRC := fun ds S Q => ∃ i j : Int, ds = [.int i, .int j] ∧ Q (.int (if j < i then j else i)) S
theorem rc_min2 : RepC K (fun xs H Q => ∃ i j, xs = [.int i, .int j] ∧ Q (.int (if j < i then j else i)) H) rMin2 := fun H S vs ds Q' Q A R h f => by
  obtain ⟨i, j, rfl, q⟩ := h
  obtain ⟨v, w', rfl, r1, r2⟩ := R.two
  rw [r1.int, r2.int]
  exact ⟨i, j, rfl, f.at rep_int A q⟩
def rGcd : DRC := fun ds S Q => ∃ i j : Int, ds = [.int i, .int j] ∧ Q (.int ((Nat.gcd i.natAbs j.natAbs : Nat) : Int)) S
theorem rc_gcd : RepC K L2.rGcd rGcd := fun H S vs ds Q' Q A R h f => by
  obtain ⟨i, j, rfl, q⟩ := h
  obtain ⟨v, w', rfl, r1, r2⟩ := R.two
  rw [r1.int, r2.int]
  exact ⟨i, j, rfl, f.at rep_int A q⟩
/-- the built-in type of a value -/
inductive TyD (S : Stt) : D → String → Prop
  | non : TyD S .non "NoneType"
  | bl (b : Bool) : TyD S (.bl b) "bool"
  | int (i : Int) : TyD S (.int i) "int"
  | str (x : Str) : TyD S (.str x) "str"
  | tup (l : List D) : TyD S (.tup l) "tuple"
  | lst {a : Addr} {l : List D} (e : S a = some (.lst l)) : TyD S (.ref a) "list"
  | dK {a : Addr} {l : List (Key × D)} (e : S a = some (.dK l)) : TyD S (.ref a) "dict"
def rIsi : DRC := fun ds S Q => ∃ d t c b, ds = [d, .ty c] ∧ TyD S d t ∧ kitB t c = some b ∧ Q (.bl b) S
end
end DL

/-! DLd: statements, targets, loops, comprehensions over trees. -/
namespace DL
open PySem PySem.Spec PyProof.Rows L2
section
variable {K : PySem.W.Frag} {H : Hp} {S : Stt} {X : Cx} {pos p2 : Pos} {e c : Expr} {st : Stmt} {sts rest : List Stmt}
def dNext : DTS := fun D σ S => D.nx σ S
def dSeq (t u : DTS) : DTS := fun D σ S => t { D with nx := u D } σ S
theorem dss_nil : DSs X [] dNext := pss_nil.weak fun D σ H ⟨σd, S, D', hσ, hS, q, f⟩ => f.nx σ H σd S (Tups.refl H) hσ hS q
theorem dss_cons {t u : DTS} (h : DS X st t) (h' : DSs X rest u) : DSs X (st :: rest) (dSeq t u) :=
  (pss_cons h h').weak fun D σ H ⟨σd, S, D', hσ, hS, q, f⟩ => ⟨σd, S, _, hσ, hS, q,
    ⟨fun σ' H' σd' S' T R A q' => ⟨σd', S', D', R, A, q', f.mono T⟩, f.rt, f.bk, f.ct⟩⟩
theorem dss_one {t : DTS} (h : DS X st t) : DSs X [st] t := pss_one h
def dBreak : DTS := fun D σ S => D.bk σ S
def dCont : DTS := fun D σ S => D.ct σ S
theorem ds_pass : DS X (.Pass pos) dNext := ps_pass.weak fun D σ H ⟨σd, S, D', hσ, hS, q, f⟩ => f.nx σ H σd S (Tups.refl H) hσ hS q
theorem ds_break : DS X (.Break pos) dBreak := ps_break.weak fun D σ H ⟨σd, S, D', hσ, hS, q, f⟩ => f.bk σ H σd S (Tups.refl H) hσ hS q
theorem ds_cont : DS X (.Continue pos) dCont := ps_continue.weak fun D σ H ⟨σd, S, D', hσ, hS, q, f⟩ => f.ct σ H σd S (Tups.refl H) hσ hS q
def dDrop (t : DTE) : DTS := fun D σ S => t σ S fun _ S1 => D.nx σ S1
theorem ds_expr {t : DTE} (he : DE X e t) (hs : swapsWith e none pos.line X.env = pure false := by rfl) : DS X (.Expr e pos) (dDrop t) :=
  (ps_expr he hs).weak fun D σ H ⟨σd, S, D', hσ, hS, q, f⟩ => ⟨σd, S, _, hσ, hS, q, fun v H1 d S1 T1 R1 A1 q1 => f.nx σ H1 σd S1 T1 (hσ.mono T1) A1 q1⟩
def dRet (t : DTE) : DTS := fun D σ S => t σ S D.rt
theorem ds_ret {t : DTE} (he : DE X e t) : DS X (.Return (some e) pos) (dRet t) :=
  (ps_ret he).weak fun D σ H ⟨σd, S, D', hσ, hS, q, f⟩ => ⟨σd, S, _, hσ, hS, q, f.rt⟩
def dRetN : DTS := fun D _ S => D.rt .non S
theorem ds_retN : DS X (.Return none pos) dRetN := ps_retN.weak fun D σ H ⟨σd, S, D', hσ, hS, q, f⟩ => f.rt.at rep_non hS q
def dIfS (c : DTT) (t u : DTS) : DTS := fun D σ S => c σ S fun b S1 => if b = true then t D σ S1 else u D σ S1
theorem ds_if {a b : List Stmt} {tc : DTT} {t u : DTS} (hc : DT X c tc) (ha : DSs X a t) (hb : DSs X b u) : DS X (.If c a b pos) (dIfS tc t u) :=
  (ps_if hc ha hb).weak fun D σ H ⟨σd, S, D', hσ, hS, q, f⟩ => ⟨σd, S, _, hσ, hS, q, fun k H1 S1 T1 A1 q1 => by
    cases k with
    | true => exact ⟨σd, S1, D', hσ.mono T1, A1, q1, f.mono T1⟩
    | false => exact ⟨σd, S1, D', hσ.mono T1, A1, q1, f.mono T1⟩⟩

/-! ### targets -/
abbrev DTG := D → Sd → Stt → (Sd → Stt → Prop) → Prop
abbrev DTGs := List D → Sd → Stt → (Sd → Stt → Prop) → Prop
def GK (K : PySem.W.Frag) (σ : L2.St) (H : Hp) (is : List Nat) (Q' : Sd → Stt → Prop) (Q : L2.St → Hp → Prop) : Prop :=
  ∀ σ' H' σd' S', Tups H H' → RepS K H' σ' σd' → Abs K H' S' → σ'.length = σ.length → (∀ j, j ∉ is → σ'[j]? = σ[j]?) → Q' σd' S' → Q σ' H'
def tgOf (K : PySem.W.Frag) (g : DTG) (is : List Nat) : TG := fun v σ H Q => ∃ d σd S Q', Rep K H d v ∧ RepS K H σ σd ∧ Abs K H S ∧ g d σd S Q' ∧ GK K σ H is Q' Q
def tgsOf (K : PySem.W.Frag) (g : DTGs) (is : List Nat) : TGs := fun vs σ H Q => ∃ ds σd S Q', Reps K H ds vs ∧ RepS K H σ σd ∧ Abs K H S ∧ g ds σd S Q' ∧ GK K σ H is Q' Q
abbrev DG (X : Cx) (tg : Expr) (g : DTG) (is : List Nat) : Prop := PG X tg (tgOf X.K g is)
abbrev DGs (X : Cx) (ts : List Expr) (g : DTGs) (is : List Nat) : Prop := PGs X ts (tgsOf X.K g is)
theorem _root_.L2.PG.weak {t u : TG} (h : PG X e t) (w : ∀ v σ H Q, u v σ H Q → t v σ H Q) : PG X e u := ⟨fun pins s σ H v uv Q I r q => h.run pins s σ H v uv Q I r (w v σ H Q q)⟩
theorem _root_.L2.PGs.weak {es : List Expr} {t u : TGs} (h : PGs X es t) (w : ∀ v σ H Q, u v σ H Q → t v σ H Q) : PGs X es u := ⟨fun pins s σ H v uv Q I r q => h.run pins s σ H v uv Q I r (w v σ H Q q)⟩
def dgName (i : Nat) : DTG := fun d σ S Q => Q (σ.set i (some d)) S
theorem dg_name {i : Nat} {x : Str} (h : PG X (.Name x pos) (gName i)) : DG X (.Name x pos) (dgName i) [i] :=
  h.weak fun v σ H Q ⟨d, σd, S, Q', r, hσ, hS, q, f⟩ => f _ H _ S (Tups.refl H) (hσ.set i r) hS (by simp) (fun j hj => List.getElem?_set_ne (fun z => hj (by rw [z]; exact List.mem_singleton.mpr rfl))) q
def dgNil : DTGs := fun ds σ S Q => ds = [] ∧ Q σ S
def dgCons (g : DTG) (u : DTGs) : DTGs := fun ds σ S Q => ∃ d r, ds = d :: r ∧ g d σ S fun σ1 S1 => u r σ1 S1 Q
theorem dgs_nil : DGs X [] dgNil [] := pgs_nil.weak fun vs σ H Q ⟨ds, σd, S, Q', r, hσ, hS, ⟨e, q⟩, f⟩ => by
  subst e
  exact ⟨r.nil, f _ H _ S (Tups.refl H) hσ hS rfl (fun _ _ => rfl) q⟩
theorem dgs_cons {es : List Expr} {g : DTG} {u : DTGs} {is js : List Nat} (h : DG X e g is) (h' : DGs X es u js)
    (hs : (assignEach (e :: es) X.env).map (·.2) = assign e X.env :: (assignEach es X.env).map (·.2) := by rfl) : DGs X (e :: es) (dgCons g u) (is ++ js) :=
  (pgs_cons h h' hs).weak fun vs σ H Q ⟨ds, σd, S, Q', r, hσ, hS, ⟨d, dr, e, q⟩, f⟩ => by
    subst e
    obtain ⟨v, vr, rfl, r1, r2⟩ := r.cons
    exact ⟨v, vr, rfl, d, σd, S, _, r1, hσ, hS, q, fun σ1 H1 σd1 S1 T1 R1 A1 l1 k1 q1 => ⟨dr, σd1, S1, Q', r2.mono T1, R1, A1, q1, fun σ2 H2 σd2 S2 T2 R2 A2 l2 k2 q2 =>
      f σ2 H2 σd2 S2 (T1.trans T2) R2 A2 (l2.trans l1) (fun j hj => (k2 j fun z => hj (List.mem_append_right _ z)).trans (k1 j fun z => hj (List.mem_append_left _ z))) q2⟩⟩
def dgTup (n : Nat) (t : DTGs) : DTG := fun d σ S Q => ∃ l, d = .tup l ∧ l.length = n ∧ t l σ S Q
theorem dg_tup {es : List Expr} {k n : Nat} {t : DTGs} {is : List Nat} (h : DGs X es t is) (h' : PG X (.Tuple es k pos) (gTup X.K n (tgsOf X.K t is))) : DG X (.Tuple es k pos) (dgTup n t) is :=
  h'.weak fun v σ H Q ⟨d, σd, S, Q', r, hσ, hS, ⟨l, e, hl, q⟩, f⟩ => by
    subst e
    obtain ⟨a, xs, rfl, h1, r1⟩ := r.tup
    exact ⟨a, xs, rfl, .of h1, by rw [r1.length]; exact hl, l, σd, S, Q', r1, hσ, hS, q, f⟩
/-- o[i] = v -/
abbrev DTSet := D → D → D → Stt → (Stt → Prop) → Prop
def rSet : DTSet := fun o i v S Q => ∃ a, o = .ref a ∧
  ((∃ l k j, S a = some (.lst l) ∧ i = .int k ∧ ixN l.length k = some j ∧ Q (ups S a (.lst (l.set j v)))) ∨
   (∃ kvs k, S a = some (.dK kvs) ∧ keyD i = some k ∧ kvs.length < sizeLine ∧ Q (ups S a (.dK (putD kvs k v)))) ∨
   (∃ kvs k, S a = some (.dT kvs) ∧ keyT i = some k ∧ kvs.length < sizeLine ∧ Q (ups S a (.dT (putD kvs k v)))))
def hSet : TSet := fun o i v H Q => rSetL o i v H Q ∨ ∃ a H', o = .ref a ∧ DPut H a i v H' ∧ Q H'
theorem set_any (hu : X.A.units + 1 < cLine) : PSet X hSet := by
  intro pins s σ H o i v ov iv u Q I r1 r2 r3 h
  rcases h with h | ⟨a, H', rfl, g, q⟩
  · exact set_list pins s σ H o i v ov iv u Q I r1 r2 r3 h
  · cases r1
    exact d_setItem hu I g r2 r3 fun s' I' => ⟨H', I', q⟩
theorem rr_set {o i v : D} {x y z : V} {Q' : Stt → Prop} {Q : Hp → Prop} (A : Abs K H S) (R1 : Rep K H o x) (R2 : Rep K H i y) (R3 : Rep K H v z) (h : rSet o i v S Q') (f : ∀ H' S', Tups H H' → Abs K H' S' → Q' S' → Q H') : hSet x y z H Q := by
  obtain ⟨a, rfl, h⟩ := h
  rw [R1.ref]
  rcases h with ⟨l, k, j, e, rfl, ej, q⟩ | ⟨kvs, k, e, ek, hl, q⟩ | ⟨kvs, k, e, ek, hl, q⟩
  · obtain ⟨xs, h1, r1⟩ := A.lst e
    rw [R2.int]
    exact .inl ⟨a, xs, k, j, rfl, rfl, h1, by rw [r1.length]; exact ej, f _ _ (A.tups e) (A.write (m' := .lst (l.set j v)) e ⟨_, upd_same, (r1.mono (A.tups e)).setR (R3.mono (A.tups e)) j⟩) q⟩
  · obtain ⟨xs, h1, r1⟩ := A _ _ e
    refine .inr ⟨a, _, rfl, ?_, f (upd H a (.dK (putK xs k z))) _ (A.tups e) (A.write (m' := .dK (putD kvs k v)) e ⟨_, upd_same, RepKv.put (r1.mono (A.tups e)) k (R3.mono (A.tups e))⟩) q⟩
    rw [keyD_rep R2 ek]
    exact DPut.k h1 (by rw [r1.length]; exact hl)
  · obtain ⟨xs, h1, r1⟩ := A _ _ e
    obtain ⟨b, eb, hb⟩ := keyT_rep R2 ek
    refine .inr ⟨a, _, rfl, ?_, f (upd H a (.dT (putK xs k z))) _ (A.tups e) (A.write (m' := .dT (putD kvs k v)) e ⟨_, upd_same, RepKv.put (r1.mono (A.tups e)) k (R3.mono (A.tups e))⟩) q⟩
    rw [eb]
    exact DPut.t h1 hb (by rw [r1.length]; exact hl)
def dgSub (to ti : DTE) : DTG := fun v σ S Q => to σ S fun o S1 => ti σ S1 fun i S2 => rSet o i v S2 fun S3 => Q σ S3
theorem dg_sub {o i : Expr} {to ti : DTE} (hu : X.A.units + 1 < cLine) (ho : DE X o to) (hi : DE X i ti)
    (ha : ∀ v, assign (.Subscript o i pos) X.env v = (do
      let ov ← holding [v] (eval o X.env)
      let iv ← holding [v, ov] (eval i X.env)
      standAt pos
      holding [v, ov, iv] (setItem ov iv v)
      release [v, ov, iv] []) := by intro _; rfl) : DG X (.Subscript o i pos) (dgSub to ti) [] :=
  (pg_sub ho hi (set_any hu) ha).weak fun v σ H Q ⟨d, σd, S, Q', r, hσ, hS, q, f⟩ => ⟨σd, S, _, hσ, hS, q, fun x H1 o S1 T1 R1 A1 q1 => ⟨σd, S1, _, hσ.mono T1, A1, q1, fun y H2 i S2 T2 R2 A2 q2 =>
    rr_set A2 (R1.mono T2) R2 (r.mono (T1.trans T2)) q2 fun H3 S3 T3 A3 q3 => f σ H3 σd S3 (T1.trans (T2.trans T3)) (hσ.mono (T1.trans (T2.trans T3))) A3 rfl (fun _ _ => rfl) q3⟩⟩
def dAsg (te : DTE) (g : DTG) : DTS := fun D σ S => te σ S fun x S1 => g x σ S1 D.nx
theorem asg_of {te : DTE} {g : DTG} {is : List Nat} : ∀ D σ H, tsOf K (dAsg te g) D σ H → tAsg (teOf K te) (tgOf K g is) D σ H := fun D σ H ⟨σd, S, D', hσ, hS, q, f⟩ =>
  ⟨σd, S, _, hσ, hS, q, fun v H1 d S1 T1 R1 A1 q1 => ⟨d, σd, S1, _, R1, hσ.mono T1, A1, q1, fun σ2 H2 σd2 S2 T2 R2 A2 _ _ q2 => f.nx σ2 H2 σd2 S2 (T1.trans T2) R2 A2 q2⟩⟩
theorem ds_asg {tg : Expr} {te : DTE} {g : DTG} {is : List Nat} (he : DE X e te) (hg : DG X tg g is) (hs : swapsWithSole [tg] e pos.line X.env = pure false := by rfl) (hw : swappedStores [tg] e X.env = pure none := by rfl)
    (h1 : (assignEach [tg] X.env).map (·.2) = [assign tg X.env] := by rfl) : DS X (.Assign [tg] e pos) (dAsg te g) := (ps_asg he hg hs hw h1).weak asg_of
theorem ds_set {i : Nat} {x : Str} {pos' : Pos} {te : DTE} (h : PS X (.Assign [.Name x pos'] e pos) (tAsg (teOf X.K te) (gName i))) : DS X (.Assign [.Name x pos'] e pos) (dAsg te (dgName i)) :=
  h.weak fun D σ H ⟨σd, S, D', hσ, hS, q, f⟩ => ⟨σd, S, _, hσ, hS, q, fun v H1 d S1 T1 R1 A1 q1 => f.nx _ H1 _ S1 T1 ((hσ.mono T1).set i R1) A1 q1⟩
/-- a, b = x, y with plain local names -/
def dPar (i j : Nat) (ta : DTA) : DTS := fun D σ S => ta σ S fun vs S1 => ∃ v w, vs = [v, w] ∧ D.nx ((σ.set i (some v)).set j (some w)) S1
theorem ds_par {i j : Nat} {ta : DTA} (h : PS X st (tPar i j (taOf X.K ta))) : DS X st (dPar i j ta) :=
  h.weak fun D σ H ⟨σd, S, D', hσ, hS, q, f⟩ => ⟨σd, S, _, hσ, hS, q, fun vs H1 ds S1 T1 R1 A1 ⟨v, w, e, q1⟩ => by
    subst e
    obtain ⟨x, y, rfl, r1, r2⟩ := R1.two
    exact ⟨x, y, rfl, f.nx _ H1 _ S1 T1 (((hσ.mono T1).set i r1).set j r2) A1 q1⟩⟩

/-! ### what is walked -/
structure ItD (K : PySem.W.Frag) (H0 : Hp) (J : It) (items : List D) (G : Stt → Prop) : Prop where
  go : ∀ i H S, Tups H0 H → Abs K H S → G S → i < items.length → J.go i H
  yld : ∀ i H S x H', Tups H0 H → Abs K H S → G S → i < items.length → J.yld i H x H' → ∃ d, items[i]? = some d ∧ Rep K H' d x ∧ Tups H H' ∧ Abs K H' S
  stop : ∀ i H S, Tups H0 H → Abs K H S → G S → items.length ≤ i → J.stop i H
abbrev DTI := Sd → Stt → (List D → (Stt → Prop) → Stt → Prop) → Prop
def tiOf (K : PySem.W.Frag) (wi : DTI) : TI := fun σ H R => ∃ σd S R', RepS K H σ σd ∧ Abs K H S ∧ wi σd S R' ∧ ∀ J H' items G S', Tups H H' → Abs K H' S' → ItD K H' J items G → R' items G S' → R J H'
abbrev DI (X : Cx) (tg iter : Expr) (wi : DTI) : Prop := PI X tg iter (tiOf X.K wi)
theorem _root_.L2.PI.weak {tg iter : Expr} {t u : TI} (h : PI X tg iter t) (w : ∀ σ H R, u σ H R → t σ H R) : PI X tg iter u := ⟨fun pins s σ H R I q => h.run pins s σ H R I (w σ H R q)⟩
def iSeq (K : PySem.W.Frag) (tl : TE) : TI := fun σ H R => tl σ H fun x H1 => ∃ a, x = .ref a ∧ (((∃ xs, SqL K H1 a xs) ∧ R (Itl K a) H1) ∨ ((∃ xs, SqT K H1 a xs) ∧ R (Itt K a) H1))
theorem pi_seq {tg l : Expr} {tl : TE} (hl : PE X l tl) : PI X tg l (iSeq X.K tl) := by
  refine ⟨fun pins s σ H R I h => ?_⟩
  refine thn (hl.run pins s σ H _ I h) fun v s1 ⟨x, H1, I1, r1, a, e, q1⟩ => ?_
  subst e
  cases r1
  have fp : ∀ b ∈ [s1.heap.objs.size], FpOk X pins H1 b := fun b hb => by
    have e : b = s1.heap.objs.size := by simpa using hb
    subst e
    exact I1.fpOk (Nat.le_refl _) (I1.hok.fresh (Nat.le_refl _))
  rcases q1 with ⟨⟨xs, hq⟩, q⟩ | ⟨⟨xs, hq⟩, q⟩
  · obtain ⟨its, rv, p, hz⟩ := I1.list hq
    refine wpAny_pyIter_list p.isList ?_
    exact ⟨s1.heap.objs.size, [s1.heap.objs.size], _, _, H1, rfl, I1.kept (t' := s1.toks) fun b o e => Heap.get?_push_of_some _ e, turn_list a _, ⟨_, Heap.get?_push_size _ rfl, rfl, rfl⟩, fp, q⟩
  · obtain ⟨its, rv, p, hz⟩ := I1.tuple hq
    refine wpAny_pyIter_tuple (show s1.heap.IsTuple a its.toArray from p) ?_
    exact ⟨s1.heap.objs.size, [s1.heap.objs.size], _, _, H1, rfl, I1.kept (t' := s1.toks) fun b o e => Heap.get?_push_of_some _ e, turn_tuple a _, ⟨_, Heap.get?_push_size _ rfl, rfl, rfl⟩, fp, q⟩
theorem sqT_inj {H : Hp} {a : Addr} {xs ys : List V} (h : H a = some (.tup xs)) (hn : ∀ o, H a ≠ some (.frz o (.tup ys))) (q : Rd H a (.tup ys)) : xs = ys := by
  rcases q with q | ⟨o, q⟩
  · rw [h] at q; cases q; rfl
  · exact absurd q (hn o)
theorem itd_tup {a : Addr} {l : List D} {xs : List V} {H0 : Hp} (h : H0 a = some (.tup xs)) (r : Reps K H0 l xs) : ItD K H0 (Itt K a) l (fun _ => True) where
  go := fun i H S T A _ hi => by
    have h1 := T.tup _ _ h
    have hl : i < xs.length := by rw [r.length]; exact hi
    exact ⟨xs, xs[i], .of h1, List.getElem?_eq_getElem hl⟩
  yld := fun i H S x H' T A _ hi ⟨e, y⟩ => by
    subst e
    obtain ⟨d, e1, r1⟩ := (r.mono T).get (y xs (.of (T.tup _ _ h)))
    exact ⟨d, e1, r1, Tups.refl _, A⟩
  stop := fun i H S T A _ hi => ⟨xs, .of (T.tup _ _ h), by rw [r.length]; exact hi⟩
theorem itd_fz {a : Addr} {l : List D} {xs : List V} {H0 : Hp} (h : Fzn K H0 a xs) (r : Reps K H0 l xs) : ItD K H0 (Itl K a) l (fun _ => True) where
  go := fun i H S T A _ hi => by
    have hl : i < xs.length := by rw [r.length]; exact hi
    exact ⟨xs, xs[i], (h.mono T).sql, List.getElem?_eq_getElem hl⟩
  yld := fun i H S x H' T A _ hi ⟨e, y⟩ => by
    subst e
    obtain ⟨d, e1, r1⟩ := (r.mono T).get (y xs (h.mono T).sql)
    exact ⟨d, e1, r1, Tups.refl _, A⟩
  stop := fun i H S T A _ hi => ⟨xs, (h.mono T).sql, by rw [r.length]; exact hi⟩
theorem itd_lst {a : Addr} {l : List D} {H0 : Hp} : ItD K H0 (Itl K a) l (fun S => S a = some (.lst l)) where
  go := fun i H S T A e hi => by
    obtain ⟨xs, h1, r1⟩ := A.lst e
    have hl : i < xs.length := by rw [r1.length]; exact hi
    exact ⟨xs, xs[i], .of h1, List.getElem?_eq_getElem hl⟩
  yld := fun i H S x H' T A e hi ⟨eq, y⟩ => by
    subst eq
    obtain ⟨xs, h1, r1⟩ := A.lst e
    obtain ⟨d, e1, r2⟩ := r1.get (y xs (.of h1))
    exact ⟨d, e1, r2, Tups.refl _, A⟩
  stop := fun i H S T A e hi => by
    obtain ⟨xs, h1, r1⟩ := A.lst e
    exact ⟨xs, .of h1, by rw [r1.length]; exact hi⟩
/-- for x in e -/
def walkD (x : D) (S : Stt) (R : List D → (Stt → Prop) → Stt → Prop) : Prop := match x with
  | .tup l => R l (fun _ => True) S
  | .fz l => R l (fun _ => True) S
  | .ref a => ∃ l, S a = some (.lst l) ∧ R l (fun S => S a = some (.lst l)) S
  | _ => False
def dIter (t : DTE) : DTI := fun σ S R => t σ S fun x S1 => walkD x S1 R
theorem di_iter {tg l : Expr} {t : DTE} (h : DE X l t) : DI X tg l (dIter t) :=
  (pi_seq h).weak fun σ H R ⟨σd, S, R', hσ, hS, q, f⟩ => ⟨σd, S, _, hσ, hS, q, fun v H1 d S1 T1 R1 A1 q1 => by
    unfold walkD at q1
    split at q1
    · obtain ⟨a, xs, rfl, h1, r1⟩ := R1.tup
      exact ⟨a, rfl, .inr ⟨⟨xs, .of h1⟩, f _ H1 _ _ S1 T1 A1 (itd_tup h1 r1) q1⟩⟩
    · obtain ⟨a, xs, rfl, h1, r1⟩ := R1.fz
      exact ⟨a, rfl, .inl ⟨⟨xs, h1.sql⟩, f _ H1 _ _ S1 T1 A1 (itd_fz h1 r1) q1⟩⟩
    · obtain ⟨l, e, q2⟩ := q1
      obtain ⟨xs, h1, r1⟩ := A1.lst e
      exact ⟨_, R1.ref, .inl ⟨⟨xs, .of h1⟩, f _ H1 _ _ S1 T1 A1 itd_lst q2⟩⟩
    · exact q1.elim⟩
def intsD (lo : Int) (n : Nat) : List D := (List.range n).map fun i => .int (lo + (i : Nat))
theorem intsD_length {lo : Int} {n : Nat} : (intsD lo n).length = n := by simp [intsD]
theorem intsD_get {lo : Int} {n i : Nat} (h : i < n) : (intsD lo n)[i]? = some (.int (lo + (i : Nat))) := by simp [intsD, h]
theorem itd_rng {lo : Int} {n : Nat} {H0 : Hp} : ItD K H0 (Itr lo n) (intsD lo n) (fun _ => True) where
  go := fun i H S _ _ _ hi => by rw [intsD_length] at hi; exact hi
  yld := fun i H S x H' _ A _ hi ⟨e, y⟩ => by
    subst e y
    rw [intsD_length] at hi
    exact ⟨_, intsD_get hi, rep_int, Tups.refl _, A⟩
  stop := fun i H S _ _ _ hi => by rw [intsD_length] at hi; exact hi
def dRng1 (t : DTA) : DTI := fun σ S R => t σ S fun ds S1 => ∃ j : Int, ds = [.int j] ∧ -(2 ^ 62) ≤ j ∧ j < 2 ^ 62 ∧ R (intsD 0 j.toNat) (fun _ => True) S1
def dRng2 (t : DTA) : DTI := fun σ S R => t σ S fun ds S1 => ∃ i j : Int, ds = [.int i, .int j] ∧ (-(2 ^ 62) ≤ i ∧ i < 2 ^ 62 ∧ -(2 ^ 62) ≤ j ∧ j < 2 ^ 62) ∧ R (intsD i (j - i).toNat) (fun _ => True) S1
theorem di_rng1 {tg iter : Expr} {t : DTA} (h : PI X tg iter (iRng1 (taOf X.K t))) : DI X tg iter (dRng1 t) :=
  h.weak fun σ H R ⟨σd, S, R', hσ, hS, q, f⟩ => ⟨σd, S, _, hσ, hS, q, fun vs H1 ds S1 T1 R1 A1 ⟨j, e, h1, h2, q1⟩ => by
    subst e
    obtain ⟨v, rfl, r⟩ := R1.one
    rw [r.int]
    exact ⟨j, rfl, h1, h2, f _ H1 _ _ S1 T1 A1 itd_rng q1⟩⟩
theorem di_rng2 {tg iter : Expr} {t : DTA} (h : PI X tg iter (iRng2 (taOf X.K t))) : DI X tg iter (dRng2 t) :=
  h.weak fun σ H R ⟨σd, S, R', hσ, hS, q, f⟩ => ⟨σd, S, _, hσ, hS, q, fun vs H1 ds S1 T1 R1 A1 ⟨i, j, e, h1, q1⟩ => by
    subst e
    obtain ⟨v, w', rfl, r1, r2⟩ := R1.two
    rw [r1.int, r2.int]
    exact ⟨i, j, rfl, h1, f _ H1 _ _ S1 T1 A1 itd_rng q1⟩⟩
/-- zip of two tuples -/
def zipD : List D → List D → List D
  | x :: xs, y :: ys => .tup [x, y] :: zipD xs ys
  | _, _ => []
theorem zipD_length : ∀ xs ys : List D, (zipD xs ys).length = min xs.length ys.length
  | [], ys => by unfold zipD; simp
  | x :: xs, [] => by unfold zipD; simp
  | x :: xs, y :: ys => by unfold zipD; simp only [List.length_cons, zipD_length xs ys]; omega
theorem zipD_get : ∀ {xs ys : List D} {i : Nat} {x y : D}, xs[i]? = some x → ys[i]? = some y → (zipD xs ys)[i]? = some (.tup [x, y])
  | [], _, _, _, _, h, _ => by simp at h
  | _ :: _, [], _, _, _, _, h => by simp at h
  | a :: xs, b :: ys, 0, x, y, h, h' => by simp at h h'; subst h h'; rfl
  | a :: xs, b :: ys, i + 1, x, y, h, h' => by
    unfold zipD
    simpa using zipD_get (i := i) (by simpa using h) (by simpa using h')
theorem itd_zipT {a b : Addr} {l m : List D} {xs ys : List V} {H0 : Hp} (h : H0 a = some (.tup xs)) (r : Reps K H0 l xs) (h' : H0 b = some (.tup ys)) (r' : Reps K H0 m ys) : ItD K H0 (RZ.ItzT K a b) (zipD l m) (fun _ => True) where
  go := fun i H S T A _ hi => by
    rw [zipD_length] at hi
    have hl : i < xs.length := by rw [r.length]; omega
    have hm : i < ys.length := by rw [r'.length]; omega
    exact ⟨xs, ys, xs[i], ys[i], .of (T.tup _ _ h), .of (T.tup _ _ h'), List.getElem?_eq_getElem hl, List.getElem?_eq_getElem hm⟩
  yld := fun i H S x H' T A _ hi ⟨p, x1, x2, e, hp, e', y1, y2⟩ => by
    subst e e'
    obtain ⟨d, e1, r1⟩ := (r.mono T).get (y1 xs (.of (T.tup _ _ h)))
    obtain ⟨d', e2, r2⟩ := (r'.mono T).get (y2 ys (.of (T.tup _ _ h')))
    exact ⟨_, zipD_get e1 e2, rep_tup upd_same (reps_cons (r1.mono (Tups.laid hp)) (reps_cons (r2.mono (Tups.laid hp)) reps_nil)), Tups.laid hp, A.hid hp⟩
  stop := fun i H S T A _ hi => by
    rw [zipD_length] at hi
    refine ⟨xs, ys, .of (T.tup _ _ h), .of (T.tup _ _ h'), ?_⟩
    rw [r.length, r'.length]
    omega
theorem itd_zipL {a b : Addr} {l m : List D} {H0 : Hp} : ItD K H0 (Itz K a b) (zipD l m) (fun S => S a = some (.lst l) ∧ S b = some (.lst m)) where
  go := fun i H S T A ⟨e1, e2⟩ hi => by
    obtain ⟨xs, h, r⟩ := A.lst e1
    obtain ⟨ys, h', r'⟩ := A.lst e2
    rw [zipD_length] at hi
    have hl : i < xs.length := by rw [r.length]; omega
    have hm : i < ys.length := by rw [r'.length]; omega
    exact ⟨xs, ys, xs[i], ys[i], .of h, .of h', List.getElem?_eq_getElem hl, List.getElem?_eq_getElem hm⟩
  yld := fun i H S x H' T A ⟨e1, e2⟩ hi ⟨p, x1, x2, e, hp, e', y1, y2⟩ => by
    subst e e'
    obtain ⟨xs, h, r⟩ := A.lst e1
    obtain ⟨ys, h', r'⟩ := A.lst e2
    obtain ⟨d, e1, r1⟩ := r.get (y1 xs (.of h))
    obtain ⟨d', e2, r2⟩ := r'.get (y2 ys (.of h'))
    exact ⟨_, zipD_get e1 e2, rep_tup upd_same (reps_cons (r1.mono (Tups.laid hp)) (reps_cons (r2.mono (Tups.laid hp)) reps_nil)), Tups.laid hp, A.hid hp⟩
  stop := fun i H S T A ⟨e1, e2⟩ hi => by
    obtain ⟨xs, h, r⟩ := A.lst e1
    obtain ⟨ys, h', r'⟩ := A.lst e2
    rw [zipD_length] at hi
    refine ⟨xs, ys, .of h, .of h', ?_⟩
    rw [r.length, r'.length]
    omega
def dZip (t : DTA) : DTI := fun σ S R => t σ S fun ds S1 => (∃ l m, ds = [.tup l, .tup m] ∧ R (zipD l m) (fun _ => True) S1) ∨
  ∃ a b l m, ds = [.ref a, .ref b] ∧ S1 a = some (.lst l) ∧ S1 b = some (.lst m) ∧ R (zipD l m) (fun S => S a = some (.lst l) ∧ S b = some (.lst m)) S1
theorem di_zip {tg iter : Expr} {t : DTA} (h : PI X tg iter (RZ.iZipA X.K (taOf X.K t))) : DI X tg iter (dZip t) :=
  h.weak fun σ H R ⟨σd, S, R', hσ, hS, q, f⟩ => ⟨σd, S, _, hσ, hS, q, fun vs H1 ds S1 T1 R1 A1 q1 => by
    rcases q1 with ⟨l, m, rfl, q2⟩ | ⟨a, b, l, m, rfl, e1, e2, q2⟩
    · obtain ⟨v, w', rfl, r1, r2⟩ := R1.two
      obtain ⟨a, xs, rfl, h1, r1⟩ := r1.tup
      obtain ⟨b, ys, rfl, h2, r2⟩ := r2.tup
      exact ⟨a, b, xs, ys, rfl, .inr ⟨.of h1, .of h2, f _ H1 _ _ S1 T1 A1 (itd_zipT h1 r1 h2 r2) q2⟩⟩
    · obtain ⟨v, w', rfl, r1, r2⟩ := R1.two
      obtain ⟨xs, h1, s1⟩ := A1.lst e1
      obtain ⟨ys, h2, s2⟩ := A1.lst e2
      rw [r1.ref, r2.ref]
      exact ⟨a, b, xs, ys, rfl, .inl ⟨.of h1, .of h2, f _ H1 _ _ S1 T1 A1 itd_zipL q2⟩⟩⟩

/-! ### for, while -/
def forD (g : DTG) (tb : DTS) (G : Stt → Prop) (En : DEnds) : List D → Sd → Stt → Prop
  | [], σ, S => G S ∧ En.nx σ S
  | d :: ds, σ, S => G S ∧ g d σ S fun σ2 S2 => tb { En with nx := forD g tb G En ds, ct := forD g tb G En ds, bk := En.nx } σ2 S2
def dFor (wi : DTI) (g : DTG) (tb : DTS) : DTS := fun D σ S => wi σ S fun items G S1 => forD g tb G D items σ S1
theorem forD_guard {g : DTG} {tb : DTS} {G : Stt → Prop} {En : DEnds} {l : List D} {σ : Sd} {S : Stt} (h : forD g tb G En l σ S) : G S := by
  cases l with
  | nil => exact h.1
  | cons d ds => exact h.1
theorem ds_for {tg iter : Expr} {body : List Stmt} {wi : DTI} {g : DTG} {tb : DTS} {is : List Nat} (hp : PassesOwn (model X.prog X.w) X.A X.env X.xe) (hc : X.calm = true) (hi : DI X tg iter wi) (hg : DG X tg g is) (hb : DSs X body tb)
    (hs : ∀ x, foldedSetIterable iter X.env x = pure x := by intro _; rfl) : DS X (.For tg iter body [] pos) (dFor wi g tb) := by
  refine (ps_for hp hc hi hg hb hs).weak fun D σ H ⟨σd, S, D', hσ, hS, q, f⟩ => ⟨σd, S, _, hσ, hS, q, fun J H1 items G S1 T1 A1 It r => ?_⟩
  refine ⟨fun i m σ H' => m = items.length - i ∧ i ≤ items.length ∧ Tups H1 H' ∧ ∃ σd S, RepS X.K H' σ σd ∧ Abs X.K H' S ∧ forD g tb G D' (items.drop i) σd S, ⟨items.length, by simp, Nat.zero_le _, Tups.refl _, σd, S1, hσ.mono T1, A1, r⟩, ?_⟩
  rintro i m σ2 H2 ⟨rfl, hi, T2, σd2, S2, R2, A2, q2⟩
  by_cases hlt : i < items.length
  · have e : items.drop i = items[i] :: items.drop (i + 1) := (List.drop_eq_getElem_cons hlt)
    rw [e] at q2
    obtain ⟨gd, q2⟩ := q2
    refine .inr ⟨It.go i H2 S2 T2 A2 gd hlt, fun σ' H' => Tups H1 H' ∧ ∃ σd S, RepS X.K H' σ' σd ∧ Abs X.K H' S ∧ forD g tb G D' (items.drop (i + 1)) σd S,
      fun σ' H' ⟨t, x⟩ => ⟨items.length - (i + 1), by omega, rfl, hlt, t, x⟩, fun x H3 y => ?_⟩
    obtain ⟨d, e1, r3, T3, A3⟩ := It.yld i H2 S2 x H3 T2 A2 gd hlt y
    have ed : items[i] = d := by rw [List.getElem?_eq_getElem hlt] at e1; exact Option.some.inj e1
    rw [ed] at q2
    exact ⟨d, σd2, S2, _, r3, R2.mono T3, A3, q2, fun σ4 H4 σd4 S4 T4 R4 A4 _ _ q4 => ⟨σd4, S4, _, R4, A4, q4,
      ⟨fun σ5 H5 σd5 S5 T5 R5 A5 q5 => ⟨T2.trans (T3.trans (T4.trans T5)), σd5, S5, R5, A5, q5⟩, f.rt.mono (T1.trans (T2.trans (T3.trans T4))),
       fun σ5 H5 σd5 S5 T5 R5 A5 q5 => f.nx σ5 H5 σd5 S5 (T1.trans (T2.trans (T3.trans (T4.trans T5)))) R5 A5 q5,
       fun σ5 H5 σd5 S5 T5 R5 A5 q5 => ⟨T2.trans (T3.trans (T4.trans T5)), σd5, S5, R5, A5, q5⟩⟩⟩⟩
  · have e : items.drop i = [] := List.drop_eq_nil_of_le (by omega)
    rw [e] at q2
    exact .inl ⟨It.stop i H2 S2 T2 A2 q2.1 (by omega), f.nx σ2 H2 σd2 S2 (T1.trans T2) R2 A2 q2.2⟩
def whileD (c : DTT) (tb : DTS) (D : DEnds) : Nat → Sd → Stt → Prop
  | 0, _, _ => False
  | n + 1, σ, S => c σ S fun b S1 => if b = true then tb { D with nx := whileD c tb D n, ct := whileD c tb D n, bk := D.nx } σ S1 else D.nx σ S1
def dWhile (c : DTT) (tb : DTS) : DTS := fun D σ S => ∃ n, whileD c tb D n σ S
theorem ds_while {body : List Stmt} {tc : DTT} {tb : DTS} (hp : PassesOwn (model X.prog X.w) X.A X.env X.xe) (hc : DT X c tc) (hb : DSs X body tb) : DS X (.While c body [] pos) (dWhile tc tb) := by
  refine (ps_while hp hc hb).weak fun D σ H ⟨σd, S, D', hσ, hS, ⟨n, q⟩, f⟩ => ?_
  refine ⟨fun m σ H' => Tups H H' ∧ ∃ σd S, RepS X.K H' σ σd ∧ Abs X.K H' S ∧ whileD tc tb D' m σd S, ⟨n, Tups.refl _, σd, S, hσ, hS, q⟩, ?_⟩
  rintro m σ2 H2 ⟨T2, σd2, S2, R2, A2, q2⟩
  cases m with
  | zero => exact q2.elim
  | succ m =>
    refine ⟨σd2, S2, _, R2, A2, q2, fun b H3 S3 T3 A3 q3 => ?_⟩
    cases b with
    | true =>
      refine ⟨fun σ' H' => Tups H H' ∧ ∃ σd S, RepS X.K H' σ' σd ∧ Abs X.K H' S ∧ whileD tc tb D' m σd S, fun σ' H' h => ⟨m, Nat.lt_succ_self m, h⟩, σd2, S3, _, R2.mono T3, A3, q3, ?_⟩
      exact ⟨fun σ5 H5 σd5 S5 T5 R5 A5 q5 => ⟨T2.trans (T3.trans T5), σd5, S5, R5, A5, q5⟩, f.rt.mono (T2.trans T3), fun σ5 H5 σd5 S5 T5 R5 A5 q5 => f.nx σ5 H5 σd5 S5 (T2.trans (T3.trans T5)) R5 A5 q5,
        fun σ5 H5 σd5 S5 T5 R5 A5 q5 => ⟨T2.trans (T3.trans T5), σd5, S5, R5, A5, q5⟩⟩
    | false => exact f.nx σ2 H3 σd2 S3 (T2.trans T3) (R2.mono T3) A3 q3

/-! ### comprehensions -/
def wipeD (σ : Sd) : List Nat → Sd
  | [] => σ
  | v :: vs => (wipeD σ vs).set v none
theorem wipe_get (σ : L2.St) (i : Nat) : ∀ vs : List Nat, (wipe σ vs)[i]? = if i ∈ vs then (if i < σ.length then some none else none) else σ[i]?
  | [] => by simp [wipe]
  | v :: vs => by
    unfold wipe
    by_cases h : v = i
    · subst h
      by_cases hl : v < σ.length
      · rw [List.getElem?_set_self (by rw [wipe_length]; exact hl)]
        simp [hl]
      · rw [List.getElem?_eq_none (by simp [wipe_length]; omega)]
        simp [hl]
    · rw [List.getElem?_set_ne h, wipe_get σ i vs]
      have : (i ∈ v :: vs) = (i ∈ vs) := by
        refine propext ⟨fun q => ?_, fun q => List.mem_cons_of_mem _ q⟩
        rcases List.mem_cons.mp q with z | z
        · exact absurd z.symm h
        · exact z
      simp only [this]
theorem wipe_same {σ σ' : L2.St} {vs is : List Nat} (hl : σ'.length = σ.length) (hs : ∀ i ∈ is, i ∈ vs) (h : ∀ j, j ∉ is → σ'[j]? = (wipe σ vs)[j]?) : wipe σ' vs = wipe σ vs := by
  refine List.ext_getElem? fun j => ?_
  rw [wipe_get, wipe_get, hl]
  by_cases hj : j ∈ vs
  · rw [if_pos hj, if_pos hj]
  · rw [if_neg hj, if_neg hj, h j fun q => hj (hs j q), wipe_get, if_neg hj]
theorem RepS.wipe {σ : L2.St} {σd : Sd} (h : RepS K H σ σd) : ∀ vs : List Nat, RepS K H (L2.wipe σ vs) (wipeD σd vs)
  | [] => h
  | v :: vs => by
    have ih := RepS.wipe h vs
    refine ⟨by unfold L2.wipe wipeD; simp [ih.1], fun i d e => ?_⟩
    unfold wipeD at e
    by_cases hi : v = i
    · subst hi
      by_cases hl : v < (wipeD σd vs).length
      · rw [List.getElem?_set_self hl] at e; cases e
      · rw [List.getElem?_eq_none (by simpa using hl)] at e; cases e
    · rw [List.getElem?_set_ne hi] at e
      obtain ⟨u, e', r'⟩ := ih.2 i d e
      exact ⟨u, by unfold L2.wipe; rw [List.getElem?_set_ne hi]; exact e', r'⟩
abbrev DTs (X : Cx) (ifs : List Expr) (t : DTT) : Prop := PTs X ifs (ttOf X.K t)
theorem _root_.L2.PTs.weak {ifs : List Expr} {t u : TT} (h : PTs X ifs t) (w : ∀ σ H Q, u σ H Q → t σ H Q) : PTs X ifs u := ⟨fun pins s σ H Q I q => h.run pins s σ H Q I (w σ H Q q)⟩
def dYes : DTT := fun _ S Q => Q true S
theorem dts_nil : DTs X [] dYes := pts_nil.weak fun σ H Q ⟨σd, S, Q', hσ, hS, q, f⟩ => f true H S (Tups.refl H) hS q
theorem dts_one {t : DTT} (h : DT X c t) : DTs X [c] t := pts_one h
def lcD (g : DTG) (tt : DTT) (te : DTE) (σ : Sd) (G : Stt → Prop) (p : Addr) (Q : DK) : List D → Stt → Prop
  | [], S => G S ∧ Q (.ref p) S
  | d :: ds, S => G S ∧ g d σ S fun σ2 S2 => tt σ2 S2 fun b S3 => if b = true then te σ2 S3 fun y S4 => ∃ acc, S4 p = some (.lst acc) ∧ acc.length < sizeLine ∧ lcD g tt te σ G p Q ds (ups S4 p (.lst (acc ++ [y]))) else lcD g tt te σ G p Q ds S3
def dLc (wi : DTI) (g : DTG) (tt : DTT) (te : DTE) (vs : List Nat) : DTE := fun σ S Q => wi σ S fun items G S1 => ∀ p, S1 p = none → lcD g tt te (wipeD σ vs) G p Q items (ups S1 p (.lst []))
theorem lc_of {wi : DTI} {g : DTG} {tt : DTT} {te : DTE} {vs is : List Nat} (hs : ∀ i ∈ is, i ∈ vs) : ∀ σ H Q, teOf K (dLc wi g tt te vs) σ H Q → tLc (tiOf K wi) (tgOf K g is) (ttOf K tt) (teOf K te) vs σ H Q := by
  intro σ H Q ⟨σd, S, Q', hσ, hS, q, f⟩
  refine ⟨σd, S, _, hσ, hS, q, fun J H1 items G S1 T1 A1 It r p hp => ?_⟩
  have r := r p (A1.free hp)
  have hw : RepS K H1 (wipe σ vs) (wipeD σd vs) := (hσ.mono T1).wipe vs
  refine ⟨fun i m H' => m = items.length - i ∧ i ≤ items.length ∧ Tups H1 H' ∧ ∃ S, Abs K H' S ∧ lcD g tt te (wipeD σd vs) G p Q' (items.drop i) S, ⟨items.length, by simp, Nat.zero_le _, Tups.laid hp, _, A1.laid (m := .lst []) hp ⟨[], upd_same, reps_nil⟩, r⟩, ?_⟩
  rintro i m H2 ⟨rfl, hi, T2, S2, A2, q2⟩
  by_cases hlt : i < items.length
  · have e : items.drop i = items[i] :: items.drop (i + 1) := (List.drop_eq_getElem_cons hlt)
    rw [e] at q2
    obtain ⟨gd, q2⟩ := q2
    refine .inr ⟨It.go i H2 S2 T2 A2 gd hlt, fun H' => Tups H1 H' ∧ ∃ S, Abs K H' S ∧ lcD g tt te (wipeD σd vs) G p Q' (items.drop (i + 1)) S, fun H' ⟨t, x⟩ => ⟨items.length - (i + 1), by omega, rfl, hlt, t, x⟩, fun x H3 y => ?_⟩
    obtain ⟨d, e1, r3, T3, A3⟩ := It.yld i H2 S2 x H3 T2 A2 gd hlt y
    have ed : items[i] = d := by rw [List.getElem?_eq_getElem hlt] at e1; exact Option.some.inj e1
    rw [ed] at q2
    have T13 := T2.trans T3
    refine ⟨d, wipeD σd vs, S2, _, r3, hw.mono T13, A3, q2, fun σ4 H4 σd4 S4 T4 R4 A4 l4 k4 q4 => ⟨?_, σd4, S4, _, R4, A4, q4, fun b H5 S5 T5 A5 q5 => ?_⟩⟩
    · exact wipe_same (l4.trans (wipe_length σ vs)) hs k4
    · cases b with
      | true =>
        refine ⟨σd4, S5, _, R4.mono T5, A5, q5, fun v H6 y' S6 T6 R6 A6 ⟨acc, e6, hl6, q6⟩ => ?_⟩
        obtain ⟨xs, h6, r6⟩ := A6.lst e6
        have T16 : Tups H1 H6 := T13.trans (T4.trans (T5.trans T6))
        exact ⟨xs, h6, by rw [r6.length]; exact hl6, T16.trans (A6.tups e6), _, A6.write (m' := .lst (acc ++ [y'])) e6 ⟨_, upd_same, (r6.mono (A6.tups e6)).append (reps_cons (R6.mono (A6.tups e6)) reps_nil)⟩, q6⟩
      | false => exact ⟨T13.trans (T4.trans T5), S5, A5, q5⟩
  · have e : items.drop i = [] := List.drop_eq_nil_of_le (by omega)
    rw [e] at q2
    exact .inl ⟨It.stop i H2 S2 T2 A2 q2.1 (by omega), f _ H2 _ S2 (T1.trans T2) rep_ref A2 q2.2⟩
theorem de_lc {elt tg iter : Expr} {ifs : List Expr} {scope : Scope} {own : List (Str × Nat)} {wi : DTI} {g : DTG} {tt : DTT} {te : DTE} {is : List Nat} (hs : ∀ i ∈ is, i ∈ own.map (·.2))
    (h : PE X (.ListComp elt [⟨tg, iter, ifs, 0⟩] scope pos) (tLc (tiOf X.K wi) (tgOf X.K g is) (ttOf X.K tt) (teOf X.K te) (own.map (·.2)))) : DE X (.ListComp elt [⟨tg, iter, ifs, 0⟩] scope pos) (dLc wi g tt te (own.map (·.2))) := h.weak (lc_of hs)
theorem ds_setLc {i : Nat} {y : Str} {py spos : Pos} {elt tg iter : Expr} {ifs : List Expr} {scope : Scope} {own : List (Str × Nat)} {wi : DTI} {g : DTG} {tt : DTT} {te : DTE} {is : List Nat} (hs : ∀ i ∈ is, i ∈ own.map (·.2))
    (h : PS X (.Assign [.Name y py] (.ListComp elt [⟨tg, iter, ifs, 0⟩] scope pos) spos) (tAsg (tLc (tiOf X.K wi) (tgOf X.K g is) (ttOf X.K tt) (teOf X.K te) (own.map (·.2))) (gName i))) :
    DS X (.Assign [.Name y py] (.ListComp elt [⟨tg, iter, ifs, 0⟩] scope pos) spos) (dAsg (dLc wi g tt te (own.map (·.2))) (dgName i)) :=
  ds_set (h.weak fun D σ H q => lc_of hs σ H _ q)

/-! ### methods -/
def dAppend (to : DTE) (t : DTA) : DTE := fun σ S Q => to σ S fun x S1 => ∃ a, x = .ref a ∧ (∃ l, S1 a = some (.lst l)) ∧ t σ S1 fun xs S2 => ∃ l y, xs = [y] ∧ S2 a = some (.lst l) ∧ l.length < sizeLine ∧ Q .non (ups S2 a (.lst (l ++ [y])))
theorem append_of {to : DTE} {t : DTA} : ∀ σ H Q, teOf K (dAppend to t) σ H Q → tBM K "list" rAppend (teOf K to) (taOf K t) σ H Q := fun σ H Q ⟨σd, S, Q', hσ, hS, q, f⟩ =>
  ⟨σd, S, _, hσ, hS, q, fun v H1 d S1 T1 R1 A1 ⟨a, e, ⟨l, e1⟩, q1⟩ => by
    subst e
    obtain ⟨xs, h1, r1⟩ := A1.lst e1
    rw [R1.ref]
    refine ⟨.inl ⟨rfl, xs, .of h1⟩, σd, S1, _, hσ.mono T1, A1, q1, fun vs H2 ds S2 T2 R2 A2 ⟨l2, y, e2, e3, hl, q2⟩ => ?_⟩
    subst e2
    obtain ⟨v2, rfl, r2⟩ := R2.one
    obtain ⟨ys, h3, r3⟩ := A2.lst e3
    exact ⟨a, ys, v2, rfl, rfl, h3, by rw [r3.length]; exact hl, f _ _ _ _ (T1.trans (T2.trans (A2.tups e3))) rep_non (A2.write (m' := .lst (l2 ++ [y])) e3 ⟨_, upd_same, (r3.mono (A2.tups e3)).append (reps_cons (r2.mono (A2.tups e3)) reps_nil)⟩) q2⟩⟩
theorem de_append {o : Expr} {es : List Expr} {apos cpos : Pos} {to : DTE} {t : DTA} (h : PE X (.Call (.Attribute o "append" apos) es [] cpos) (tBM X.K "list" rAppend (teOf X.K to) (taOf X.K t))) : DE X (.Call (.Attribute o "append" apos) es [] cpos) (dAppend to t) := h.weak append_of
def dExtend (to : DTE) (t : DTA) : DTE := fun σ S Q => to σ S fun x S1 => ∃ a, x = .ref a ∧ (∃ l, S1 a = some (.lst l)) ∧ t σ S1 fun xs S2 => ∃ l b m, xs = [.ref b] ∧ S2 a = some (.lst l) ∧ S2 b = some (.lst m) ∧ l.length + m.length ≤ sizeLine ∧ Q .non (ups S2 a (.lst (l ++ m)))
theorem extend_of {to : DTE} {t : DTA} : ∀ σ H Q, teOf K (dExtend to t) σ H Q → tBM K "list" rExtend (teOf K to) (taOf K t) σ H Q := fun σ H Q ⟨σd, S, Q', hσ, hS, q, f⟩ =>
  ⟨σd, S, _, hσ, hS, q, fun v H1 d S1 T1 R1 A1 ⟨a, e, ⟨l, e1⟩, q1⟩ => by
    subst e
    obtain ⟨xs, h1, r1⟩ := A1.lst e1
    rw [R1.ref]
    refine ⟨.inl ⟨rfl, xs, .of h1⟩, σd, S1, _, hσ.mono T1, A1, q1, fun vs H2 ds S2 T2 R2 A2 ⟨l2, b, m, e2, e3, e4, hl, q2⟩ => ?_⟩
    subst e2
    obtain ⟨v2, rfl, r2⟩ := R2.one
    obtain ⟨ys, h3, r3⟩ := A2.lst e3
    obtain ⟨zs, h4, r4⟩ := A2.lst e4
    rw [r2.ref]
    exact ⟨a, b, ys, zs, rfl, rfl, h3, h4, by rw [r3.length, r4.length]; exact hl, f _ _ _ _ (T1.trans (T2.trans (A2.tups e3))) rep_non (A2.write (m' := .lst (l2 ++ m)) e3 ⟨_, upd_same, (r3.mono (A2.tups e3)).append (r4.mono (A2.tups e3))⟩) q2⟩⟩
theorem de_extend {o : Expr} {es : List Expr} {apos cpos : Pos} {to : DTE} {t : DTA} (h : PE X (.Call (.Attribute o "extend" apos) es [] cpos) (tBM X.K "list" rExtend (teOf X.K to) (taOf X.K t))) : DE X (.Call (.Attribute o "extend" apos) es [] cpos) (dExtend to t) := h.weak extend_of

/-! ### dict displays -/
def kD : Key → D
  | .inl i => .int i
  | .inr x => .str x
def dPairs : List (DTE × DTE) → Sd → Stt → (List (D × D) → Stt → Prop) → Prop
  | [], _, S, Q => Q [] S
  | (tk, tv) :: r, σ, S, Q => tk σ S fun x S1 => tv σ S1 fun y S2 => dPairs r σ S2 fun ps S3 => Q ((x, y) :: ps) S3
def mergeD (kvs more : List (Key × D)) : List (Key × D) := more.foldl (fun acc kv => putD acc kv.1 kv.2) kvs
def dDisp (trs : List (DTE × DTE)) : DTE := fun σ S Q => ∀ p, S p = none → dPairs trs σ (ups S p (.dK [])) fun ps S2 => S2 p = some (.dK []) ∧ ∃ kvs : List (Key × D), ps = kvs.map (fun kv => (kD kv.1, kv.2)) ∧ kvs.length ≤ 15 ∧ Q (.ref p) (ups S2 p (.dK (mergeD [] kvs)))
def RepPs (K : PySem.W.Frag) (H : Hp) : List (D × D) → List (V × V) → Prop
  | [], xs => xs = []
  | p :: ds, xs => ∃ x y r, xs = (x, y) :: r ∧ Rep K H p.1 x ∧ Rep K H p.2 y ∧ RepPs K H ds r
theorem pairs_of {σ : L2.St} {σd : Sd} : ∀ (trs : List (DTE × DTE)) {H : Hp} {S : Stt} {Q' : List (D × D) → Stt → Prop} {Q : List (V × V) → Hp → Prop}, RepS K H σ σd → Abs K H S → dPairs trs σd S Q' →
    (∀ vs H' ds S', Tups H H' → RepPs K H' ds vs → Abs K H' S' → Q' ds S' → Q vs H') → tPairs (trs.map fun t => (teOf K t.1, teOf K t.2)) σ H Q
  | [], H, S, Q', Q, hσ, hS, q, f => f [] H [] S (Tups.refl H) rfl hS q
  | (tk, tv) :: r, H, S, Q', Q, hσ, hS, q, f => ⟨σd, S, _, hσ, hS, q, fun v H1 d S1 T1 R1 A1 q1 => ⟨σd, S1, _, hσ.mono T1, A1, q1, fun u H2 e S2 T2 R2 A2 q2 =>
      pairs_of r (hσ.mono (T1.trans T2)) A2 q2 fun vs H3 ds S3 T3 R3 A3 q3 => f ((v, u) :: vs) H3 ((d, e) :: ds) S3 (T1.trans (T2.trans T3)) ⟨v, u, vs, rfl, R1.mono (T2.trans T3), R2.mono T3, R3⟩ A3 q3⟩⟩
theorem kD_rep {k : Key} {v : V} (r : Rep K H (kD k) v) : v = kV k := by
  cases k with
  | inl i => exact r.int
  | inr x => exact r.str
theorem repPs_kv : ∀ {kvs : List (Key × D)} {vs : List (V × V)}, RepPs K H (kvs.map fun kv => (kD kv.1, kv.2)) vs → ∃ ws : List (Key × V), vs = ws.map (fun kv => (kV kv.1, kv.2)) ∧ RepKv K H kvs ws
  | [], vs, r => ⟨[], by have e : vs = [] := r; subst e; rfl, rfl⟩
  | p :: kvs, vs, r => by
    obtain ⟨x, y, r', rfl, r1, r2, r3⟩ := r
    obtain ⟨ws, rfl, r4⟩ := repPs_kv r3
    exact ⟨(p.1, y) :: ws, by rw [kD_rep r1]; rfl, y, ws, rfl, r2, r4⟩
theorem RepKv.merge : ∀ {more kvs : List (Key × D)} {ms ks : List (Key × V)}, RepKv K H more ms → RepKv K H kvs ks → RepKv K H (mergeD kvs more) (mergeK ks ms)
  | [], kvs, ms, ks, r, r' => by have e : ms = [] := r; subst e; exact r'
  | p :: more, kvs, ms, ks, r, r' => by
    obtain ⟨x, ys, rfl, r1, r2⟩ := r
    show RepKv K H (mergeD (putD kvs p.1 p.2) more) (mergeK (putK ks p.1 x) ys)
    exact RepKv.merge (more := more) (ms := ys) r2 (r'.put p.1 r1)
theorem de_disp {keys : List (Option Expr)} {values : List Expr} {trs : List (DTE × DTE)} (h : PE X (.Dict keys values pos) (tDisp (trs.map fun t => (teOf X.K t.1, teOf X.K t.2)))) : DE X (.Dict keys values pos) (dDisp trs) :=
  h.weak fun σ H Q ⟨σd, S, Q', hσ, hS, q, f⟩ p hp => by
    have q := q p (hS.free hp)
    refine pairs_of trs (hσ.mono (Tups.laid hp)) (hS.laid (m := .dK []) hp ⟨[], upd_same, rfl⟩) q fun vs H2 ds S2 T2 R2 A2 ⟨e, kvs, ek, hl, q2⟩ => ?_
    subst ek
    obtain ⟨ws, rfl, rk⟩ := repPs_kv R2
    obtain ⟨xs, h1, r1⟩ := A2 p _ e
    have ex : xs = [] := r1
    subst ex
    have hlen : ws.length ≤ 15 := by rw [rk.length]; exact hl
    exact ⟨h1, ws, rfl, hlen, f _ _ _ _ ((Tups.laid hp).trans (T2.trans (A2.tups e))) rep_ref (A2.write (m' := .dK (mergeD [] kvs)) e ⟨_, upd_same, RepKv.merge (rk.mono (A2.tups e)) (show RepKv X.K _ [] [] from rfl)⟩) q2⟩
def dNewK : DTE := fun _ S Q => ∀ p, S p = none → Q (.ref p) (ups S p (.dK []))
def dNewT : DTE := fun _ S Q => ∀ p, S p = none → Q (.ref p) (ups S p (.dT []))
theorem de_newK : DE X (.Dict [] [] pos) dNewK := pe_dnewK.weak fun σ H Q ⟨σd, S, Q', hσ, hS, q, f⟩ p hp => f _ _ _ _ (Tups.laid hp) rep_ref (hS.laid (m := .dK []) hp ⟨[], upd_same, rfl⟩) (q p (hS.free hp))
theorem de_newT : DE X (.Dict [] [] pos) dNewT := pe_dnewT.weak fun σ H Q ⟨σd, S, Q', hσ, hS, q, f⟩ p hp => f _ _ _ _ (Tups.laid hp) rep_ref (hS.laid (m := .dT []) hp ⟨[], upd_same, rfl⟩) (q p (hS.free hp))
end
end DL

/-! DLe: defs over trees: promises, bodies, calls. -/
namespace DL
open PySem PySem.Spec PyProof.Rows L2
/-- a def's promise: the arguments, the store, what is wanted of the answer -/
abbrev DSp := List D → Stt → DK → Prop
/-- how a call ends -/
def CED (outer : List Env) (P : Program) (w : World) (K : PySem.W.Frag) (H : Hp) (s : Shared) (Q : DK) (u : Value) (s' : Shared) : Prop :=
  ∃ v H' d S', s'.os = s.os ∧ AllBare s'.gens ∧ Un (frs outer) [] H H' s.heap s'.heap ∧ HOk P w H' s'.heap ∧ RelV v u ∧ Rep K H' d v ∧ Abs K H' S' ∧ Q d S'
def CRD (outer : List Env) (P : Program) (w : World) (K : PySem.W.Frag) (H : Hp) (s : Shared) (Q : DK) (r : Result) (s' : Shared) : Prop :=
  match r with
  | .ok (.ret u) => CED outer P w K H s Q u s'
  | _ => False
section
variable (P : Program) (w : World) (K : PySem.W.Frag) (mg : Str → Option Value) (base : Heap)
structure FnD (k : Nat) (f : Addr) (fd : FuncData) (ps : List Str) (sp : DSp) : Prop where
  len : ∀ ds S Q, sp ds S Q → ds.length = ps.length
  run : ∀ (A : Around) (outer : List Env) (s : Shared) (H : Hp) (args : Args) (us : List Value) (vs : List V) (ds : List D) (S : Stt) (Q : DK), Room k A → A.guards = some [] → Env0 P w K mg base A outer s H → BindsTo s fd args (ps.zip us) →
    Vals vs us → Reps K H ds vs → Abs K H S → sp ds S Q → codeAny (model P w) A (.call (.ref f) args) (CRD outer P w K H s Q) s
/-- what stands at a name of the module: a def that keeps its promise -/
structure Callee (k : Nat) (x : Str) (ps : List Str) (sp : DSp) : Prop where
  ex : ∃ f fd, FnD P w K mg base k f fd ps sp ∧ mg x = some (.ref f) ∧ PySem.W.keepIn K (.ref f) = true ∧ Binds K fd ps []
end
section
variable {P : Program} {w : World} {K : PySem.W.Frag} {mg : Str → Option Value} {base : Heap}
theorem FnD.mono {j k : Nat} {f : Addr} {fd : FuncData} {ps : List Str} {sp : DSp} (F : FnD P w K mg base j f fd ps sp) (h : j ≤ k) : FnD P w K mg base k f fd ps sp :=
  ⟨F.len, fun A outer s H args us vs ds S Q hr => F.run A outer s H args us vs ds S Q (hr.mono h)⟩
theorem Callee.mono {j k : Nat} {x : Str} {ps : List Str} {sp : DSp} (C : Callee P w K mg base j x ps sp) (h : j ≤ k) : Callee P w K mg base k x ps sp := by
  obtain ⟨f, fd, F, r⟩ := C.ex
  exact ⟨f, fd, F.mono h, r⟩
theorem Callee.imp {k : Nat} {x : Str} {ps : List Str} {sp sp' : DSp} (C : Callee P w K mg base k x ps sp) (h : ∀ ds S Q, sp' ds S Q → sp ds S Q) : Callee P w K mg base k x ps sp' := by
  obtain ⟨f, fd, F, r⟩ := C.ex
  exact ⟨f, fd, ⟨fun ds S Q q => F.len ds S Q (h _ _ _ q), fun A outer s H args us vs ds S Q hr hg he hb hv hR hA hs => F.run A outer s H args us vs ds S Q hr hg he hb hv hR hA (h _ _ _ hs)⟩, r⟩
def startD (N : List Str) (ds : List D) : Sd := ds.map some ++ List.replicate (N.length - ds.length) none
theorem start_rep {N : List Str} {H : Hp} {ds : List D} {vs : List V} (r : Reps K H ds vs) : RepS K H (L2.start N vs) (startD N ds) := by
  have hl := r.length
  refine ⟨by unfold L2.start startD; simp [hl], fun i d e => ?_⟩
  unfold startD at e
  unfold L2.start
  by_cases hi : i < ds.length
  · rw [List.getElem?_append_left (by simpa using hi), List.getElem?_map] at e
    rw [List.getElem?_append_left (by simpa [hl] using hi), List.getElem?_map]
    cases q : ds[i]? with
    | none => rw [q] at e; cases e
    | some d' =>
      rw [q] at e
      cases e
      obtain ⟨v, e2, r2⟩ := r.getD q
      exact ⟨v, by rw [e2]; rfl, r2⟩
  · rw [List.getElem?_append_right (by simpa using hi), List.getElem?_replicate] at e
    split at e <;> cases e
/-- a def of the text keeps its promise: by its body's reading -/
theorem fnD_of {k : Nat} {x qual : Str} {st : Stmt} {f : Addr} {fd : FuncData} {N ps : List Str} {sp : DSp} (F : Fun K x qual st f fd) (Sc : FnScope N ps (defScope st)) (len : ∀ ds S Q, sp ds S Q → ds.length = ps.length)
    (hbody : ∀ (cdv : Value) (A : Around) (outer : List Env) (s : Shared) (H : Hp) (ds : List D) (S : Stt) (Q : DK), Room k (A.deeper (envOfC qual (defScope st) s.heap.objs.size f cdv)) → (A.deeper (envOfC qual (defScope st) s.heap.objs.size f cdv)).guards = some [] → sp ds S Q →
      ∃ t, DSs (cxOf CX0 P w K mg base N qual (defScope st) f cdv A outer s H E0).nox (defBody st) t ∧ t { nx := fun _ S' => Q .non S', rt := Q } (startD N ds) S) : FnD P w K mg base (k + 1) f fd ps sp := by
  obtain ⟨oc, od, kV, doc, pm, an, cdv, ct, osl, rfl, lk, hcd⟩ := F.ex
  refine ⟨len, fun A outer s H args us vs ds S Q hr hgd e0 hb rv rd hA hsp => ?_⟩
  have hl : vs.length = ps.length := by rw [rd.length]; exact len _ _ _ hsp
  have KX : K.In s.heap := e0.mod.kin.keeps fun b o e => (e0.bs b o e).1
  have lim : s.heap.NoLimit := e0.mod.nolimit.keeps fun b o e => (e0.bs b o e).1
  refine codeAny_call_function hr.depth (KX _ _ lk) rfl Sc.co Sc.gen rfl (PySem.W.codeRec_of KX hcd) (hb _ _ _ _ ?_)
  refine wpAny_newFunctionEnv_cells Sc.kind (fun ⟨n, v⟩ hy => ?_) fun env he s1 y => ?_
  · rcases Sc.par n (List.of_mem_zip hy).1 with q | q
    · exact .inl q
    · exact .inr ⟨q, PySem.W.cellsFrom_some _ _ _ (.inl q)⟩
  · subst he
    refine ⟨lim.keeps y.toInCall.keep, codeAny_func ?_⟩
    obtain ⟨t, ht, hq⟩ := hbody cdv A outer s H ds S Q (hr.deeper _) hgd hsp
    have I := inv_start (CX := CX0) (E := E0) Sc hr.hd e0 hl rv y
    have ht' := PSs.nox ht
    refine wpAny_mono (ht'.run [] s1 (L2.start N vs) H { nx := fun _ H' => ∃ S', Abs K H' S' ∧ Q .non S', rt := fun v H' => ∃ d S', Rep K H' d v ∧ Abs K H' S' ∧ Q d S' } I
      ⟨startD N ds, S, _, start_rep rd, hA, hq, ⟨fun _ H' _ S' _ _ A' q => ⟨S', A', q⟩, fun v H' d S' _ R' A' q => ⟨d, S', R', A', q⟩, fun _ _ _ _ _ _ _ q => q, fun _ _ _ _ _ _ _ q => q⟩⟩) (fun fl s' hs => ?_) fun e s' hs => ?_
    · cases fl with
      | ret u =>
        obtain ⟨v, σ', H', J, rv', d, S', R', A', q⟩ := hs
        exact ⟨v, H', d, S', J.os, J.bare, J.base, J.hok, rv', R', A', q⟩
      | next =>
        obtain ⟨σ', H', J, S', A', q⟩ := hs
        exact ⟨.non, H', .non, S', J.os, J.bare, J.base, J.hok, rfl, rep_non, A', q⟩
      | brk =>
        obtain ⟨_, _, _, q⟩ := hs
        exact q.elim
      | cont =>
        obtain ⟨_, _, _, q⟩ := hs
        exact q.elim
    · exact wpAny_mono hs (fun _ _ z => z.elim) fun _ _ z => z.elim
theorem callee_of {k : Nat} {x : Str} {st : Stmt} {f : Addr} {fd : FuncData} {N ps : List Str} {sp : DSp} (F : Fun K x x st f fd) (hm : mg x = some (.ref f)) (hb : Binds K fd ps []) (Sc : FnScope N ps (defScope st)) (len : ∀ ds S Q, sp ds S Q → ds.length = ps.length)
    (hbody : ∀ (cdv : Value) (A : Around) (outer : List Env) (s : Shared) (H : Hp) (ds : List D) (S : Stt) (Q : DK), Room k (A.deeper (envOfC x (defScope st) s.heap.objs.size f cdv)) → (A.deeper (envOfC x (defScope st) s.heap.objs.size f cdv)).guards = some [] → sp ds S Q →
      ∃ t, DSs (cxOf CX0 P w K mg base N x (defScope st) f cdv A outer s H E0).nox (defBody st) t ∧ t { nx := fun _ S' => Q .non S', rt := Q } (startD N ds) S) : Callee P w K mg base (k + 1) x ps sp :=
  ⟨f, fd, fnD_of F Sc len hbody, hm, F.kp, hb⟩
end
section
variable {X : Cx}
/-- the callee runs -/
theorem runD {k : Nat} {f : Addr} {fd : FuncData} {ps : List Str} {sp : DSp} {pins : List (Addr × Obj)} {σ : L2.St} {H : Hp} {s : Shared} {us : List Value} {vs : List V} {ds : List D} {S : Stt} {Q : DK} (F : FnD X.prog X.w X.K X.mg X.base k f fd ps sp) (hr : Room k X.A) (hgd : X.A.guards = some [])
    (hb : Binds X.K fd ps []) (I : Inv X pins σ H s) (rv : Vals vs us) (rd : Reps X.K H ds vs) (hA : Abs X.K H S) (h : sp ds S Q) :
    wpAny (model X.prog X.w) X.A (call (.ref f) us) (EP X pins σ fun v H' => ∃ d S', Tups H H' ∧ Rep X.K H' d v ∧ Abs X.K H' S' ∧ Q d S') X.xe s := by
  have hl : (us ++ []).length = ps.length := by rw [List.append_nil, ← rv.length, rd.length]; exact F.len _ _ _ h
  have bt := hb s us I.kIn hl
  rw [List.append_nil] at bt
  refine wpAny_call (codeAny_mono (F.run X.A X.stack s H ⟨us, []⟩ us vs ds S Q hr hgd I.env0 bt rv rd hA h) fun r s' hq => ?_)
  cases r with
  | error e => exact False.elim hq
  | ok fl =>
    cases fl with
    | ret u =>
      obtain ⟨v, H', d, S', os, bare, un, hok, r', R', A', q⟩ := hq
      exact I.after ⟨v, H', os, bare, un, hok, r', d, S', ⟨un.tups, un.frzs⟩, R', A', q⟩
    | next => exact False.elim hq
    | brk => exact False.elim hq
    | cont => exact False.elim hq
def dCall (sp : DSp) (t : DTA) : DTE := fun σ S Q => t σ S fun ds S1 => sp ds S1 Q
theorem de_call {k : Nat} {x : Str} {ps : List Str} {sp : DSp} {p pos : Pos} {e : Expr} {es : List Expr} {t : DTA} (C : Callee X.prog X.w X.K X.mg X.base k x ps sp) (hr : Room k X.A) (hgd : X.A.guards = some []) (hg : Gl X x) (ha : DA X (e :: es) t)
    (hdb : (x == ("__debug__" : Str)) = false := by decide) (he : starEach (e :: es) X.env = (false, eval e X.env) :: starEach es X.env := by rfl) (hpl : (backTo pos (starEach es X.env)).any (·.1) = false := by rfl) :
    DE X (.Call (.Name x p) (e :: es) [] pos) (dCall sp t) := by
  obtain ⟨f, fd, F, hm, hk, hb⟩ := C.ex
  refine ⟨fun pins s σ H Q I h => ?_⟩
  obtain ⟨σd, S, Q', hσ, hS, q, fin⟩ := h
  refine wpAny_Call_Name_kw (ld_glob I hg hm ?_ hdb)
  refine PySem.W.callWith_K (h₀ := X.base) I.ok.mod.kin hk (thn (ha.run pos pins s σ H (fun vs H1 => ∃ ds S1, Tups H H1 ∧ Reps X.K H1 ds vs ∧ Abs X.K H1 S1 ∧ sp ds S1 Q') I ⟨σd, S, _, hσ, hS, q, fun vs H1 ds S1 T R A q1 => ⟨ds, S1, T, R, A, q1⟩⟩) fun us s1 ⟨vs, H1, I1, r, ds, S1, T, R, A, q1⟩ => ⟨I1.kIn, ?_⟩) he hpl
  exact thn (runD F hr hgd hb I1 r R A q1) fun u s2 ⟨v, H2, I2, r2, d, S2, T2, R2, A2, q2⟩ => ⟨v, H2, I2, r2, fin v H2 d S2 (T.trans T2) R2 A2 q2⟩
end
end DL

/-! DLf: isinstance, repr, and the law's own call over trees. -/
namespace DL
open PySem PySem.Spec PyProof.Rows L2
section
variable {K : PySem.W.Frag} {H : Hp} {S : Stt} {X : Cx}
theorem TyD.tyX {d : D} {t : String} {v : V} (A : Abs K H S) (h : TyD S d t) (r : Rep K H d v) : TyX K H v (.type t) := by
  cases h with
  | non => rw [r.non]; exact .base .non
  | bl b => rw [r.bl]; exact .base (.bl b)
  | int i => rw [r.int]; exact .base (.int i)
  | str x => rw [r.str]; exact .base (.str x)
  | tup l => obtain ⟨a, xs, rfl, h1, _⟩ := r.tup; exact .base (.tup h1)
  | lst e => obtain ⟨xs, h1, _⟩ := A.lst e; rw [r.ref]; exact .base (.lst h1)
  | dK e => obtain ⟨xs, h1, _⟩ := A _ _ e; rw [r.ref]; exact .base (.dK h1)
theorem rc_isi : RepC K (L2.rIsi K) rIsi := fun H S vs ds Q' Q A R ⟨d, t, c, b, e, ty, kb, q⟩ f => by
  subst e
  obtain ⟨v, w', rfl, r1, r2⟩ := R.two
  rw [r2.ty]
  exact ⟨v, .ty c, .type t, .type c, b, rfl, .ty c, ty.tyX A r1, kit_ty kb, f.at rep_bl A q⟩
/-- repr(x) of data -/
def hRepr (K : PySem.W.Frag) : List V → Hp → VK → Prop := fun xs H Q => ∃ x pd, xs = [x] ∧ Dp K H x pd ∧ pd.showable = true ∧ pd.hasDict = false ∧ pd.shown.length ≤ sizeLine ∧ pd.depth ≤ 60 ∧ ((∃ a, x = .ref a) ∨ ∃ i, x = .int i) ∧ Q (.str pd.shown) H
theorem call_reprH (hu : X.A.units + 64 < cLine) (hgd : X.A.guards = some []) : CallR X (.builtin "repr") (hRepr X.K) := by
  intro pins s σ H xs us Q I r h
  obtain ⟨x, pd, rfl, dp, hs, hd, hz, hdp, hx, q⟩ := h
  obtain ⟨u, rfl, r1⟩ := vals1 r
  rcases hx with ⟨a, rfl⟩ | ⟨i, rfl⟩
  · obtain ⟨as, rd⟩ := Dp.reads I pd _ _ dp r1
    cases r1
    exact repr_of_reads' rd hs (PyData.noDict_hsm hd) hgd (by omega) (fun _ _ e => e) (fun h' t tk hk => ⟨.str pd.shown, H, I.kept (t' := tk) hk, ⟨t, rfl⟩, q⟩) hz
  · obtain ⟨t, rfl⟩ := r1
    cases dp
    exact PySem.P.repr_of_int (by simpa [PyData.showable] using hs) ⟨.str _, H, I.tok _, ⟨_, rfl⟩, q⟩
def isRefOrInt : D → Bool
  | .tup _ => true
  | .fz _ => true
  | .ref _ => true
  | .int _ => true
  | _ => false
def rRepr : DRC := fun ds S Q => ∃ d pd, ds = [d] ∧ DPy S d pd ∧ pd.showable = true ∧ pd.hasDict = false ∧ pd.shown.length ≤ sizeLine ∧ pd.depth ≤ 60 ∧ isRefOrInt d = true ∧ Q (.str pd.shown) S
theorem rc_repr : RepC K (hRepr K) rRepr := fun H S vs ds Q' Q A R ⟨d, pd, e, dp, hs, hd, hz, hdp, hx, q⟩ f => by
  subst e
  obtain ⟨v, rfl, r⟩ := R.one
  refine ⟨v, pd, rfl, dp.dp A r, hs, hd, hz, hdp, ?_, f.at rep_str A q⟩
  cases d with
  | tup l => obtain ⟨a, _, rfl, _⟩ := r.tup; exact .inl ⟨a, rfl⟩
  | fz l => obtain ⟨a, _, rfl, _⟩ := r.fz; exact .inl ⟨a, rfl⟩
  | ref a => exact .inl ⟨a, r.ref⟩
  | int i => exact .inr ⟨i, r.int⟩
  | _ => cases hx
end

/-! ### the law's call -/
section
variable {P : Program} {w : World} {K : PySem.W.Frag} {mg mb : Str → Option Value} {k : Nat} {fa a : Addr} {fd : FuncData} {x : Str} {sp : DSp} {s₁ : Shared} {vs : List Value} {ns : List Int}
/-- the call at an abstract heap that tells the script alone, or nothing -/
theorem call_core {H : Hp} (KX : K.In s₁.heap) (hns : s₁.heap.Ns mainGlobals mg) (hb : s₁.heap.Ns builtinsNs mb) (hbb : ∀ x : Str, x ≠ "__name__" → mb x = bootBuiltins x) (hlim : s₁.heap.NoLimit) (hg : s₁.gens = #[])
    (ha : s₁.heap.get? a = some { cls := .type "list", data := .seq vs.toArray }) (hr : Room k callerA)
    (F : ∀ base : Heap, K.In base → base.Ns mainGlobals mg → FnD P w K mg base k fa fd [x] sp) (hbind : ∀ (s : Shared) (u : Value), BindsTo s fd ⟨[u], []⟩ [(x, u)])
    (hsp : sp [.fz (ns.map D.int)] (fun _ => none) (fun v _ => v = .bl true))
    (told : ∀ b u, H b = some u → b = a ∧ ∃ o xs, u = .frz o (.lst xs)) (hK : H a ≠ none → K.lookup a = none) (hok : HOk P w H s₁.heap) (hz : Fzn K H a (ns.map V.int)) :
    codeAny (model P w) callerA (.call (.ref fa) ⟨[.ref a], []⟩) (fun r s' => r = .ok (.ret (.bool true)) ∧ OldK s₁.heap s'.heap ∧ s'.os = s₁.os ∧ AllBare s'.gens) s₁ := by
  have free : ∀ {b : Addr} {o : Obj}, s₁.heap.get? b = some o → (∀ es ep, o.data = .dict es ep → H b = none) := fun {b o} e es ep d => by
    cases q : H b with
    | none => rfl
    | some u =>
      obtain ⟨rfl, _⟩ := told b u q
      rw [ha] at e; cases e; cases d
  have lift : ∀ {b : Addr} {m : Str → Option Value}, s₁.heap.Ns b m → (hidT s₁.heap H).Ns b m := fun {b m} h => by
    obtain ⟨o, es, ep, e, d, r⟩ := h
    exact ⟨o, es, ep, hidT_get e (free e es ep d), d, r⟩
  have inK : K.In (hidT s₁.heap H) := fun b o e => hidT_get (KX b o e) (by
    cases q : H b with
    | none => rfl
    | some u =>
      obtain ⟨rfl, _⟩ := told b u q
      have z := hK (by rw [q]; exact fun z => nomatch z)
      rw [e] at z; cases z)
  obtain ⟨mc, l1, l2⟩ := hlim
  have e0 : Env0 P w K mg (hidT s₁.heap H) callerA [] s₁ H := ⟨rfl, ⟨inK, lift hns, ⟨mb, lift hb, hbb⟩, ⟨mc, lift l1, l2⟩⟩, fun b o e => of_hidT e, Nat.le_of_eq (hidT_size _ _), trivial, (fun b z => nomatch z), hok, .of_eq hg⟩
  have rp : Reps K H [.fz (ns.map D.int)] [.ref a] := reps_cons (by simp only [Rep]; exact ⟨a, _, rfl, hz, reps_ints ns⟩) reps_nil
  have run := (F _ inK (lift hns)).run callerA [] s₁ H ⟨[.ref a], []⟩ [.ref a] [.ref a] _ (fun _ => none) _ hr rfl e0 (hbind s₁ (.ref a)) (.cons rfl .nil) rp (fun b o z => nomatch z) hsp
  refine codeAny_mono run fun r s' h => ?_
  cases r with
  | error e => exact h.elim
  | ok fl =>
    cases fl with
    | next => exact h.elim
    | brk => exact h.elim
    | cont => exact h.elim
    | ret u =>
      obtain ⟨v, H', d, S', os, bare, un, hok', rv, rd, _, q⟩ := h
      have q' : d = .bl true := q
      subst q'
      have ev := rd.bl
      subst ev
      have eu : u = Value.bool true := rv
      subst eu
      refine ⟨rfl, OldK.of_keep fun b o e => ?_, os, bare⟩
      cases q : H b with
      | none => exact un.keep b o e q (fun z => nomatch z) fun z => nomatch z
      | some u =>
        obtain ⟨_, ob, xs, rfl⟩ := told b u q
        obtain ⟨e1, _⟩ := hok b _ q
        obtain ⟨e2, _⟩ := hok' b _ (un.frzs b ob _ q)
        rw [e] at e1; cases e1
        exact e2
theorem law_callD (KX : K.In s₁.heap) (hns : s₁.heap.Ns mainGlobals mg) (hb : s₁.heap.Ns builtinsNs mb) (hbb : ∀ x : Str, x ≠ "__name__" → mb x = bootBuiltins x) (hlim : s₁.heap.NoLimit) (hg : s₁.gens = #[])
    (ha : s₁.heap.get? a = some { cls := .type "list", data := .seq vs.toArray }) (hi : IntsAre vs ns) (hl : ns.length ≤ sizeLine) (hr : Room k callerA)
    (F : ∀ base : Heap, K.In base → base.Ns mainGlobals mg → FnD P w K mg base k fa fd [x] sp) (hbind : ∀ (s : Shared) (u : Value), BindsTo s fd ⟨[u], []⟩ [(x, u)])
    (hsp : sp [.fz (ns.map D.int)] (fun _ => none) (fun v _ => v = .bl true)) :
    codeAny (model P w) callerA (.call (.ref fa) ⟨[.ref a], []⟩) (fun r s' => r = .ok (.ret (.bool true)) ∧ OldK s₁.heap s'.heap ∧ s'.os = s₁.os ∧ AllBare s'.gens) s₁ := by
  have rv := vals_ints hi
  cases hk : K.lookup a with
  | some o =>
    have e := KX a o hk
    rw [ha] at e
    cases e
    refine call_core (H := fun _ => none) KX hns hb hbb hlim hg ha hr F hbind hsp (fun b u z => nomatch z) (fun z => absurd rfl z) (fun b u z => nomatch z) (.inr ⟨_, vs.toArray, _, hk, rfl, rfl, rfl, ?_, by simpa using rv⟩)
    rw [List.size_toArray, hi.length]
    exact hl
  | none =>
    refine call_core (H := fun b => if b = a then some (.frz { cls := .type "list", data := .seq vs.toArray } (.lst (ns.map V.int))) else none) KX hns hb hbb hlim hg ha hr F hbind hsp (fun b u z => ?_) (fun _ => hk) (fun b u z => ?_) (.inl ⟨_, if_pos rfl⟩)
    · by_cases q : b = a
      · rw [if_pos q] at z
        cases z
        exact ⟨q, _, _, rfl⟩
      · rw [if_neg q] at z
        cases z
    · by_cases q : b = a
      · have z' := (if_pos q).symm.trans z
        cases z'
        subst q
        exact ⟨ha, by rw [List.length_map]; exact hl, vs, _, rv, ha⟩
      · have z' := (if_neg q).symm.trans z
        cases z'
/-- the goal that the head leaves, from the law's promise -/
theorem walk_ofD {l : PySem.W.OpenLaw} {n k : Nat} {q : Program} {loose : List Str} {XP : (Str → Option Value) → Heap → Prop} {YP : World → Heap → Prop} {d : DefRec} {KP : Params → PySem.W.Frag} {sp : DSp} {x : Str}
    (hn : l.most = some n) (hn2 : n ≤ sizeLine) (hdf : d.params.defaults = []) (hr : Room k callerA) (hY : ∀ (w : World) (h : Heap), YP w h → (KP w.params).In h)
    (F : ∀ (w : World) (mg : Str → Option Value) (fa : Addr) (h : Heap), (KP w.params).In h → h.Ns mainGlobals mg → mg d.name = some (.ref fa) →
      ∃ fd : FuncData, (∀ (s : Shared) (u : Value), BindsTo s fd ⟨[u], []⟩ [(x, u)]) ∧ ∀ base : Heap, (KP w.params).In base → base.Ns mainGlobals mg → FnD l.prog w (KP w.params) mg base k fa fd [x] sp)
    (hsp : ∀ ns : List Int, ns.length ≤ n → sp [.fz (ns.map D.int)] (fun _ => none) (fun v _ => v = .bl true)) :
    PySem.W.WalkO q loose XP YP l.row.toRowW d [] (fun f vs => PySem.call f vs) := by
  refine Att.attach_call hn hdf fun w s₀ s₁ mg mb fa o pm cd doc a vs ns G Y ho hd hcd hmg hobj hints hlen hg => ?_
  obtain ⟨fd, hb, hF⟩ := F w mg fa _ (hY w _ Y) G.T.g hmg
  exact law_callD (hY w _ Y) G.T.g G.T.b G.T.builtins G.T.nolimit hg hobj hints (Nat.le_trans hlen hn2) hr hF hb (hsp ns hlen)
end
end DL

/-! DLg: built-in calls by name; sorted of a dict whose keys are tuples of numbers. -/
namespace DL
open PySem PySem.Spec PyProof.Rows L2
section
variable {X : Cx} {x : Str} {p pos : Pos} {e : Expr} {es : List Expr} {t : DTA} {id T : String} {rH : List V → Hp → VK → Prop} {r : DRC}
theorem de_bi (hc : CallR X (.builtin id) rH) (hr : RepC X.K rH r) (hg : Gl X x) (hm : X.mg x = none) (hv : bootBuiltins x = some (.builtin id)) (ha : DA X (e :: es) t) (hn : x ≠ "__name__" := by decide) (hdb : (x == ("__debug__" : Str)) = false := by decide)
    (he : starEach (e :: es) X.env = (false, eval e X.env) :: starEach es X.env := by rfl) (hpl : (backTo pos (starEach es X.env)).any (·.1) = false := by rfl) : DE X (.Call (.Name x p) (e :: es) [] pos) (dCB r t) := (pe_callB hc hg hm hv ha hn hdb he hpl).weak (cb_of hr)
theorem de_ty (hc : CallR X (.type T) rH) (hr : RepC X.K rH r) (hg : Gl X x) (hm : X.mg x = none) (hv : bootBuiltins x = some (.type T)) (ha : DA X (e :: es) t) (hn : x ≠ "__name__" := by decide) (hdb : (x == ("__debug__" : Str)) = false := by decide)
    (he : starEach (e :: es) X.env = (false, eval e X.env) :: starEach es X.env := by rfl) (hpl : (backTo pos (starEach es X.env)).any (·.1) = false := by rfl) : DE X (.Call (.Name x p) (e :: es) [] pos) (dCB r t) := (pe_callTy hc hg hm hv ha hn hdb he hpl).weak (cb_of hr)
theorem de_bf (hc : CallR X (.builtin id) rH) (hr : RepC X.K rH r) (hg : Gl X x) (hm : X.mg x = some (.builtin id)) (ha : DA X (e :: es) t) (hdb : (x == ("__debug__" : Str)) = false := by decide)
    (he : starEach (e :: es) X.env = (false, eval e X.env) :: starEach es X.env := by rfl) (hpl : (backTo pos (starEach es X.env)).any (·.1) = false := by rfl) : DE X (.Call (.Name x p) (e :: es) [] pos) (dCB r t) := (pe_callBfun hc hg hm ha hdb he hpl).weak (cb_of hr)
/-- a built-in type's name as a value -/
theorem de_tyname {n : String} (hg : Gl X x) (hm : X.mg x = none) (hv : bootBuiltins x = some (.type n)) (hn : x ≠ "__name__" := by decide) (hdb : (x == ("__debug__" : Str)) = false := by decide) : DE X (.Name x p) (dC (.ty n)) :=
  de_con (v := .ty n) (pe_bltn hg hm hv rfl hn hdb) fun _ => rep_ty
def dPar3 (i j l : Nat) (ta : DTA) : DTS := fun En σ S => ta σ S fun vs S1 => ∃ u v w, vs = [u, v, w] ∧ En.nx (((σ.set i (some u)).set j (some v)).set l (some w)) S1
theorem ds_par3 {st : Stmt} {i j l : Nat} {ta : DTA} (h : PS X st (tPar3 i j l (taOf X.K ta))) : DS X st (dPar3 i j l ta) :=
  h.weak fun En σ H ⟨σd, S, D', hσ, hS, q, f⟩ => ⟨σd, S, _, hσ, hS, q, fun vs H1 ds S1 T1 R1 A1 ⟨u, v, w, e, q1⟩ => by
    subst e
    obtain ⟨a, r, rfl, r1, r2⟩ := R1.cons
    obtain ⟨b, c, rfl, r3, r4⟩ := r2.two
    exact ⟨a, b, c, rfl, f.nx _ H1 _ S1 T1 ((((hσ.mono T1).set i r1).set j r3).set l r4) A1 q1⟩⟩
end

/-! ### sorted(d), the keys tuples of numbers -/
section
variable {X : Cx}
/-- one value alone can be sorted, an empty tuple too -/
theorem sorts_one {prog : Program} {w : World} {A : Around} {s : Shared} {v : Value} {as : List Addr} (r : Reads s.heap v (.tuple []) as) (hu : A.units < cLine) : PySem.W.SortsAt prog w A s (PySem.W.dataKind s.heap [.tuple []]) [v] := by
  have hal : PySem.W.AllAlike [.tuple []] := fun d hd d' hd' => by
    rw [List.mem_singleton.mp hd, List.mem_singleton.mp hd']
    simp [PySem.W.alike, PySem.W.alikeAll]
  refine ⟨fun u hu => ?_, tuples' false, fun E x y a b Q ha hb hq => ?_, fun h2 => absurd h2 (by simp)⟩
  · rw [List.mem_singleton.mp hu]
    exact ⟨_, PySem.W.dataKind_some hal (List.mem_singleton.mpr rfl) r⟩
  · obtain ⟨d, as1, hd, ra, rfl⟩ := PySem.W.dataKind_inv ha
    obtain ⟨d', as2, hd', rb, rfl⟩ := PySem.W.dataKind_inv hb
    rw [List.mem_singleton.mp hd] at ra hq
    rw [List.mem_singleton.mp hd'] at rb hq
    have hq' : Q (PySem.W.dataLt (.tuple []) (.tuple [])) s := hq
    cases ra with
    | @tuple l o xs n _ _ h1 h2 h3 h4 =>
      cases rb with
      | @tuple l' o' xs' n' _ _ k1 k2 k3 k4 =>
        rw [PySem.W.dataLt_tuple] at hq'
        have n1 : xs.size = 0 := by simpa using SeqAt.ReadsAll.length _ _ _ h4
        have n2 : xs'.size = 0 := by simpa using SeqAt.ReadsAll.length _ _ _ k4
        exact PySem.W.kat_lt h1 h3 k1 k3 (PySem.W.katLex_alike [] [] 0 _ _ _ _ h4 k4 (by simp [PySem.W.alikeAll]) (by simpa [PyData.depthAll] using hu) (fun hb => absurd hb (by simp)) (by rw [n1, n2]; rfl) hq')
open PySem.W in
theorem keys_each {H : Hp} {h : Heap} {xs : List (List Key × Addr × Value)} : ∀ {kvs : List (List Key × V)} {ns : List (List Int)}, KT H kvs xs → kvs.map (·.1) = ns.map (fun n => n.map Sum.inl) →
    EachIs (fun (v : Value) (n : List Int) => ∃ b, v = .ref b ∧ H b = some (.tup (n.map V.int))) (xs.map fun x => Value.ref x.2.1) ns := by
  intro kvs ns r e
  induction r generalizing ns with
  | nil =>
    cases ns with
    | nil => exact .nil
    | cons _ _ => simp at e
  | @cons p q ps qs hq t ih =>
    cases ns with
    | nil => simp at e
    | cons n ns =>
      simp only [List.map_cons, List.cons.injEq] at e
      refine .cons ⟨q.2.1, rfl, ?_⟩ (ih e.2)
      have h2 := hq.2.1
      rw [e.1, List.map_map] at h2
      exact h2
abbrev tupLe (n m : List Int) : Bool := PySem.W.dataLe false (fun b : List Int => PyData.tuple (b.map .int)) n m
def hSortT (K : PySem.W.Frag) : List V → Hp → VK → Prop := fun xs H Q => ∃ (a : Addr) (kvs : List (List Key × V)) (ns : List (List Int)), xs = [.ref a] ∧ H a = some (.dT kvs) ∧ kvs.map (·.1) = ns.map (fun n => n.map Sum.inl) ∧ ns.length ≤ 1000 ∧ (ns = [] ∨ ns = [[]] ∨ ∀ n ∈ ns, n ≠ []) ∧
  ∀ (p : Addr) (bs : List Addr), H p = none → PySem.W.EachIs (fun b n => H b = some (.tup (n.map V.int))) bs (ns.mergeSort tupLe) → Q (.ref p) (upd H p (.lst (bs.map V.ref)))
theorem sort_nil {prog : Program} {w : World} {A : Around} {s : Shared} : PySem.W.SortsAt prog w A s (PySem.W.dataKind s.heap []) [] :=
  PySem.W.SortsAt.data .nil (fun d hd => nomatch hd) (.inl fun d hd => nomatch hd) (fun d hd => nomatch hd)
open PySem.W in
theorem call_sortT (hcalm : X.calm = true) (hu : X.A.units + 64 < cLine) : CallR X (.builtin "sorted") (hSortT X.K) := by
  intro pins s σ H xs us Q I r q
  obtain ⟨a, kvs, ns, ex, hd, hks, hlen, hne, q⟩ := q
  subst ex
  obtain ⟨u, eu, rx⟩ := vals1 r
  subst eu
  cases rx
  obtain ⟨z, lo, ys, rel, o, es, ep, ho, hx, hdat, hes, his, hn⟩ := dt_of I.hok hd
  have hl1 : kvs.length = ns.length := by simpa using congrArg List.length hks
  have hl2 : ys.length = ns.length := by rw [← hl1]; exact (Paired.length rel).symm
  have hl3 : es.size = ns.length := by
    have := congrArg List.length hes
    simpa [hl2] using this
  have each := keys_each (h := s.heap) rel hks
  refine Calls.call_function_entry kind_sorted plain_sorted entry_sorted (args_sorted1 _) ?_
  unfold Builtin.«sorted»
  refine wpAny_bind (m := checkCount "sorted" 1 1 _) (wpAny_pure ?_)
  refine wpAny_bind (kdu_collect (A := X.A.in1) (KdlSrc.rawDict (es := es) (ep := ep) lo) (I.ok.hd hcalm) ⟨o, ho, hx, hdat⟩ (by rw [hl3, sizeLine_eq]; omega) fun h' tk acc hk hacc => ?_)
  -- the items are the keys
  have hacc2 : acc.toList = ys.map fun x => Value.ref x.2.1 := by
    refine List.ext_getElem? fun j => ?_
    have hsz : acc.size = ys.length := by rw [hacc.1, hl3, hl2]
    by_cases hj : j < ys.length
    · have e1 : acc[j]? = some acc[j] := Array.getElem?_eq_getElem (by rw [hsz]; exact hj)
      obtain ⟨hi, e2⟩ := hacc.2 j _ e1
      have e3 : es.toList[j]? = some es[j] := by rw [Array.getElem?_toList]; exact Array.getElem?_eq_getElem hi
      rw [hes, List.getElem?_map, List.getElem?_eq_getElem hj] at e3
      have e4 : entryOfKey (tupleKind (mixKind X.prog X.w)) ys[j] = es[j] := Option.some.inj e3
      rw [Array.getElem?_toList, e1, e2, ← e4, List.getElem?_map, List.getElem?_eq_getElem hj]
      rfl
    · rw [List.getElem?_eq_none (by simpa [hsz] using hj), List.getElem?_eq_none (by simpa using hj)]
  have I1 : Inv X pins σ H { s with heap := h', toks := tk } := I.kept hk
  have hal : acc.toList.length = ns.length := by rw [hacc2, List.length_map, hl2]
  refine wpAny_bind (wpAny_newList ?_ (by rw [hal, sizeLine_eq]; omega))
  have hoL : (h'.push (seqObj "list" acc.toList.toArray 0)).get? h'.objs.size = some (seqObj "list" acc.toList.toArray 0) := Heap.get?_push_size _ rfl
  show wpAny _ _ _ _ _ { s with heap := h'.push (seqObj "list" acc.toList.toArray 0), toks := tk }
  have eachR : EachIs (fun (v : Value) (n : List Int) => ∃ b, v = .ref b ∧ H b = some (.tup (n.map V.int))) acc.toList ns := by rw [hacc2]; exact each
  have reads : ∀ {b : Addr} {n : List Int}, H b = some (.tup (n.map V.int)) → ∃ as, Reads s.heap (.ref b) (.tuple (n.map .int)) as := fun {b n} hb => by
    have dp : Dp X.K H (.ref b) (.tuple (n.map .int)) := .tup (.of hb) (by
      have all : ∀ l : List Int, DpAll X.K H (l.map V.int) (l.map .int) := fun l => by
        induction l with
        | nil => exact .nil
        | cons a r ih => exact .cons (.int a) ih
      exact all n)
    exact Dp.reads I _ _ _ dp rfl
  have readsL : ∀ (n : List Int) (vs : List Value) (as : List Addr), ReadsAll s.heap vs (n.map .int) as → as = [] := fun n => by
    induction n with
    | nil => intro vs as r; cases r; rfl
    | cons a n ih =>
      intro vs as r
      rw [List.map_cons] at r
      cases r with
      | cons r1 r2 =>
        cases r1
        rw [ih _ _ r2]; rfl
  have kb : ∀ b ob, s.heap.get? b = some ob → (h'.push (seqObj "list" acc.toList.toArray 0)).get? b = some ob := fun b ob e => Heap.get?_push_of_some _ (hk b ob e)
  -- the sort
  have fin : ∀ out : List Value, EachIs (fun (v : Value) (n : List Int) => ∃ b, v = .ref b ∧ H b = some (.tup (n.map V.int))) out (ns.mergeSort tupLe) →
      EP X pins σ Q (.ref h'.objs.size) { s with heap := sortedHeap (h'.push (seqObj "list" acc.toList.toArray 0)) h'.objs.size acc.toList out.toArray, toks := tk } := fun out eo => by
    obtain ⟨e', he'⟩ := sortedHeap_at (out := out.toArray) hoL
    have get : ∀ {out : List Value} {ms : List (List Int)}, EachIs (fun (v : Value) (n : List Int) => ∃ b, v = .ref b ∧ H b = some (.tup (n.map V.int))) out ms → ∃ bs : List Addr, out = bs.map Value.ref ∧ EachIs (fun b n => H b = some (.tup (n.map V.int))) bs ms := by
      intro out ms h
      induction h with
      | nil => exact ⟨[], rfl, .nil⟩
      | @cons v n vs ns h t ih =>
        obtain ⟨b, rfl, hb⟩ := h
        obtain ⟨bs, rfl, h2⟩ := ih
        exact ⟨b :: bs, rfl, .cons hb h2⟩
    obtain ⟨bs, rfl, hbs⟩ := get eo
    have hbl : bs.length = ns.length := by rw [hbs.length, List.length_mergeSort]
    have vr : ∀ bs : List Addr, Vals (bs.map V.ref) (bs.map Value.ref) := fun bs => by
      induction bs with
      | nil => exact .nil
      | cons b r ih => exact .cons rfl ih
    refine ⟨.ref h'.objs.size, upd H h'.objs.size (.lst (bs.map V.ref)), I1.laid (t' := tk) (fun b u e => ?_) (Nat.le_refl _) ⟨by rw [List.length_map, hbl, sizeLine_eq]; omega, _, e', vr bs, he'⟩, rfl, q _ bs (I1.hok.fresh (Nat.le_refl _)) hbs⟩
    have hb : b < h'.objs.size := Heap.lt_size e
    rw [sortedHeap_old (Nat.ne_of_lt hb) (by rw [size_push']; exact Nat.lt_succ_of_lt hb)]
    exact Heap.get?_push_of_some _ e
  have units : X.A.in1.units + 2 < cLine := by
    have : X.A.in1.units = X.A.units + 1 := rfl
    omega
  have sort : wpAny (model X.prog X.w) X.A.in1 (call (.builtin "list.sort") [.ref h'.objs.size]) (fun _ s' => EP X pins σ Q (.ref h'.objs.size) s') X.xe { s with heap := h'.push (seqObj "list" acc.toList.toArray 0), toks := tk } := by
    rcases hne with e0 | e0 | e0
    · subst e0
      have e1 : acc.toList = [] := List.eq_nil_of_length_eq_zero hal
      rw [e1] at hoL fin ⊢
      refine wpAny_call_entry slot_list_sort ⟨_, hoL, rfl⟩ entry_list_sort (list_sort_vals (κ := dataKind (sortingHeap (h'.push (seqObj "list" ([] : List Value).toArray 0)) h'.objs.size []) []) hoL sort_nil (Nat.zero_le _) ⟨.none, rfl, ?_⟩) (args_list_sort _)
      have e2 := fin [] (by rw [show ([] : List (List Int)).mergeSort tupLe = [] by simp]; exact .nil)
      rw [show sortVals (dataKind (sortingHeap (h'.push (seqObj "list" ([] : List Value).toArray 0)) h'.objs.size []) []) false [] [] = [] from List.eq_nil_of_length_eq_zero (sortVals_length false rfl)]
      exact e2
    · subst e0
      obtain ⟨v, e1⟩ : ∃ v, acc.toList = [v] := by
        cases h3 : acc.toList with
        | nil => rw [h3] at hal; cases hal
        | cons v r =>
          rw [h3] at hal
          cases r with
          | nil => exact ⟨v, rfl⟩
          | cons _ _ => simp at hal
      rw [e1] at eachR
      cases eachR with
      | cons hv _ =>
        obtain ⟨b, rfl, hb⟩ := hv
        obtain ⟨as, rd⟩ := reads hb
        rw [e1] at hoL fin kb ⊢
        have hne2 : ∀ c oc, s.heap.get? c = some oc → c ≠ h'.objs.size := fun c oc e => Nat.ne_of_lt (Heap.lt_size (hk c oc e))
        have rd2 : Reads (sortingHeap (h'.push (seqObj "list" [Value.ref b].toArray 0)) h'.objs.size [.ref b]) (.ref b) (.tuple []) as := Reads.keeps (fun c oc e => sortingHeap_old (hne2 c oc e) (kb c oc e)) rd
        have so := sorts_one (prog := X.prog) (w := X.w) (A := X.A.in1.in1) (s := { s with heap := sortingHeap (h'.push (seqObj "list" [Value.ref b].toArray 0)) h'.objs.size [.ref b], toks := tk }) rd2 (by
          have : X.A.in1.in1.units = X.A.units + 1 + 1 := rfl
          omega)
        refine wpAny_call_entry slot_list_sort ⟨_, hoL, rfl⟩ entry_list_sort (list_sort_vals hoL so (by rw [sizeLine_eq]; exact (by decide : 1 ≤ 16777216)) ⟨.none, rfl, ?_⟩) (args_list_sort _)
        have e2 := fin [.ref b] (by rw [show ([[]] : List (List Int)).mergeSort tupLe = [[]] by simp]; exact .cons ⟨b, rfl, hb⟩ .nil)
        have e3 := sortVals_length (κ := dataKind (sortingHeap (h'.push (seqObj "list" [Value.ref b].toArray 0)) h'.objs.size [.ref b]) [.tuple []]) false (ks := [.ref b]) (vs := [Value.ref b]) rfl
        obtain ⟨v', e4⟩ : ∃ v', sortVals (dataKind (sortingHeap (h'.push (seqObj "list" [Value.ref b].toArray 0)) h'.objs.size [.ref b]) [.tuple []]) false [.ref b] [.ref b] = [v'] := by
          match h4 : sortVals (dataKind (sortingHeap (h'.push (seqObj "list" [Value.ref b].toArray 0)) h'.objs.size [.ref b]) [.tuple []]) false [.ref b] [.ref b] with
          | [] => rw [h4] at e3; cases e3
          | [v'] => exact ⟨v', rfl⟩
          | _ :: _ :: _ => rw [h4] at e3; simp at e3
        have e5 : v' = .ref b := by
          have := sortVals_mem (κ := dataKind (sortingHeap (h'.push (seqObj "list" [Value.ref b].toArray 0)) h'.objs.size [.ref b]) [.tuple []]) false (ks := [.ref b]) (vs := [Value.ref b]) (v := v') (by rw [e4]; exact List.mem_singleton.mpr rfl)
          exact List.mem_singleton.mp this
        rw [e4, e5]
        exact e2
    · have er : EachIs (fun (v : Value) (n : List Int) => ∃ as, Reads (h'.push (seqObj "list" acc.toList.toArray 0)) v (.tuple (n.map .int)) as ∧ h'.objs.size ∉ as) acc.toList ns := by
        refine eachR.mono fun v n h => ?_
        obtain ⟨b, ev, hb⟩ := h
        subst ev
        obtain ⟨as, rd⟩ := reads hb
        have e9 : as = [] := by
          cases rd with
          | tuple _ _ _ r4 => exact readsL _ _ _ r4
        exact ⟨as, Reads.keeps kb rd, by rw [e9]; exact List.not_mem_nil⟩
      have hal : AllAlike (ns.map fun n : List Int => PyData.tuple (n.map .int)) := AllAlike.of fun m n => by
        show alike (.tuple _) (.tuple _) = true
        simp only [alike]
        exact alike_ints m n
      have hso : Sortable (ns.map fun n : List Int => PyData.tuple (n.map .int)) := .inl fun d hd => by
        obtain ⟨n, hn, rfl⟩ := List.mem_map.mp hd
        cases n with
        | nil => exact absurd rfl (e0 [] hn)
        | cons x r => exact ⟨.int x, r.map .int, rfl⟩
      refine list_sort_data (enc := fun n : List Int => PyData.tuple (n.map .int)) hoL eachR er hal hso (by rw [sizeLine_eq]; omega) (fun n hn => ?_) fun out _ eo => fin out eo
      have hdep : (PyData.tuple (n.map .int)).depth ≤ 1 := by
        simp only [PyData.depth]
        rw [depth_ints]
        omega
      have hun : X.A.in1.units = X.A.units + 1 := rfl
      omega
  exact wpAny_bind (wpAny_holding (wpAny_mono sort (fun _ s' x => wpAny_pure ⟨_, rfl, x⟩) fun _ _ e => e))
def rSortT : DRC := fun ds S Q => ∃ (a : Addr) (kvs : List (List Key × D)) (ns : List (List Int)), ds = [.ref a] ∧ S a = some (.dT kvs) ∧ kvs.map (·.1) = ns.map (fun n => n.map Sum.inl) ∧ ns.length ≤ 1000 ∧ (ns = [] ∨ ns = [[]] ∨ ∀ n ∈ ns, n ≠ []) ∧
  ∀ p, S p = none → Q (.ref p) (ups S p (.lst ((ns.mergeSort tupLe).map fun n => .tup (n.map D.int))))
theorem kv_keys {κ : Type} {K : PySem.W.Frag} {H : Hp} : ∀ {kvs : List (κ × D)} {xs : List (κ × V)}, RepKv K H kvs xs → xs.map (·.1) = kvs.map (·.1)
  | [], xs, r => by have e : xs = [] := r; subst e; rfl
  | p :: kvs, _, r => by
    obtain ⟨x, ys, rfl, r1, r2⟩ := r
    rw [List.map_cons, List.map_cons, kv_keys r2]
theorem rc_sortT {K : PySem.W.Frag} : RepC K (hSortT K) rSortT := fun H S vs ds Q' Q A R ⟨a, kvs, ns, e, hd, hk, hl, hne, q⟩ f => by
  subst e
  obtain ⟨v, rfl, r⟩ := R.one
  obtain ⟨xs, h1, r1⟩ := A _ _ hd
  rw [r.ref]
  refine ⟨a, xs, ns, rfl, h1, by rw [kv_keys r1]; exact hk, hl, hne, fun p bs hp hbs => new_lst f (Tups.refl H) ?_ A q hp⟩
  have all : ∀ {bs : List Addr} {ms : List (List Int)}, PySem.W.EachIs (fun b n => H b = some (.tup (n.map V.int))) bs ms → Reps K H (ms.map fun n => .tup (n.map D.int)) (bs.map V.ref) := by
    intro bs ms h
    induction h with
    | nil => exact reps_nil
    | cons h t ih => exact reps_cons (rep_tup h (reps_ints _)) ih
  exact all hbs
end
end DL

/-! DLh: how readings over trees are walked: loops and comprehensions by invariants, straight lines by rewriting. -/
namespace DL
open PySem PySem.Spec PyProof.Rows L2
/-- all that stood stands -/
def Ext (S S' : Stt) : Prop := ∀ a o, S a = some o → S' a = some o
theorem Ext.refl (S : Stt) : Ext S S := fun _ _ h => h
theorem Ext.trans {S S1 S2 : Stt} (a : Ext S S1) (b : Ext S1 S2) : Ext S S2 := fun c o h => b c o (a c o h)
theorem Ext.new {S : Stt} {p : Addr} {o : MO} (h : S p = none) : Ext S (ups S p o) := fun b u e => by rw [ups_ne (ne_none e h)]; exact e
theorem Ext.put {S S1 : Stt} {p : Addr} {o : MO} (x : Ext S S1) (h : S p = none) : Ext S (ups S1 p o) := fun b u e => by rw [ups_ne (ne_none e h)]; exact x b u e
theorem Ext.none {S S1 : Stt} {p : Addr} (x : Ext S S1) (h : S1 p = none) : S p = none := by
  cases q : S p with
  | none => rfl
  | some o => rw [x p o q] at h; cases h
theorem ups_old {S : Stt} {p b : Addr} {o u : MO} (h : S p = none) (e : S b = some u) : ups S p o b = some u := by rw [ups_ne (ne_none e h)]; exact e
theorem ups_none {S : Stt} {p b : Addr} {o : MO} (h : ups S p o b = none) : S b = none := by
  unfold ups at h
  by_cases z : b = p
  · rw [if_pos z] at h; cases h
  · rw [if_neg z] at h; exact h
/-- all that stood but what stands at m; m keeps its cells -/
structure ExtB (m : Addr) (S S' : Stt) : Prop where
  old : ∀ a o, a ≠ m → S a = some o → S' a = some o
  kvs : ∀ l, S m = some (.dK l) → ∃ l', S' m = some (.dK l') ∧ valD l' (.inr "cells") = valD l (.inr "cells")
theorem ExtB.refl (m : Addr) (S : Stt) : ExtB m S S := ⟨fun _ _ _ h => h, fun l h => ⟨l, h, rfl⟩⟩
theorem ExtB.trans {m : Addr} {S S1 S2 : Stt} (a : ExtB m S S1) (b : ExtB m S1 S2) : ExtB m S S2 := ⟨fun c o n h => b.old c o n (a.old c o n h), fun l h => by
  obtain ⟨l1, h1, e1⟩ := a.kvs l h
  obtain ⟨l2, h2, e2⟩ := b.kvs l1 h1
  exact ⟨l2, h2, e2.trans e1⟩⟩
theorem Ext.but {m : Addr} {S S' : Stt} (x : Ext S S') : ExtB m S S' := ⟨fun a o _ h => x a o h, fun l h => ⟨l, x _ _ h, rfl⟩⟩
theorem ExtB.put {m p : Addr} {S S1 : Stt} {o : MO} (x : ExtB m S S1) (h : S p = none) : ExtB m S (ups S1 p o) := ⟨fun b u n e => by rw [ups_ne (ne_none e h)]; exact x.old b u n e, fun l e => by
  rw [ups_ne (ne_none e h)]; exact x.kvs l e⟩
theorem ExtB.self {m : Addr} {S S1 : Stt} {l l' : List (Key × D)} (x : ExtB m S S1) (h : S1 m = some (.dK l)) (e : valD l' (.inr "cells") = valD l (.inr "cells")) : ExtB m S (ups S1 m (.dK l')) := ⟨fun b u n e => by rw [ups_ne n]; exact x.old b u n e, fun k hk => by
  obtain ⟨k1, h1, e1⟩ := x.kvs k hk
  rw [h] at h1
  cases h1
  exact ⟨l', ups_same, e.trans e1⟩⟩

/-! ### loops, comprehensions -/
theorem forD_inv {g : DTG} {tb : DTS} {G : Stt → Prop} {En : DEnds} (Inv : Nat → Sd → Stt → Prop) : ∀ (items : List D) (k : Nat) {σ : Sd} {S : Stt}, Inv k σ S → (∀ i σ S, Inv i σ S → G S) →
    (∀ i d σ S (N : Sd → Stt → Prop), items[i]? = some d → Inv (k + i) σ S → (∀ σ' S', Inv (k + i + 1) σ' S' → N σ' S') → g d σ S fun σ2 S2 => tb { En with nx := N, ct := N, bk := En.nx } σ2 S2) →
    (∀ σ S, Inv (k + items.length) σ S → En.nx σ S) → forD g tb G En items σ S
  | [], k, σ, S, h0, hG, _, hd => ⟨hG _ _ _ h0, hd _ _ h0⟩
  | d :: ds, k, σ, S, h0, hG, st, hd => by
    refine ⟨hG _ _ _ h0, st 0 d σ S (forD g tb G En ds) rfl h0 fun σ' S' h => ?_⟩
    refine forD_inv Inv ds (k + 1) h hG (fun i d' σ2 S2 N e hi hN => ?_) fun σ2 S2 h2 => hd σ2 S2 (by rw [show k + (d :: ds).length = k + 1 + ds.length by simp only [List.length_cons]; omega]; exact h2)
    refine st (i + 1) d' σ2 S2 N (by simpa using e) (by rw [show k + (i + 1) = k + 1 + i by omega]; exact hi) fun σ' S' h' => hN σ' S' (by rw [show k + 1 + i + 1 = k + (i + 1) + 1 by omega]; exact h')
theorem for_inv {g : DTG} {tb : DTS} {G : Stt → Prop} {En : DEnds} {items : List D} {σ : Sd} {S : Stt} (Inv : Nat → Sd → Stt → Prop) (h0 : Inv 0 σ S) (hG : ∀ i σ S, Inv i σ S → G S)
    (st : ∀ i d σ S (N : Sd → Stt → Prop), items[i]? = some d → Inv i σ S → (∀ σ' S', Inv (i + 1) σ' S' → N σ' S') → g d σ S fun σ2 S2 => tb { En with nx := N, ct := N, bk := En.nx } σ2 S2)
    (hd : ∀ σ S, Inv items.length σ S → En.nx σ S) : forD g tb G En items σ S :=
  forD_inv Inv items 0 h0 hG (fun i d σ S N e h hN => st i d σ S N e (by simpa using h) fun σ' S' h' => hN σ' S' (by simpa using h')) fun σ S h => hd σ S (by simpa using h)
theorem while_inv {c : DTT} {tb : DTS} {En : DEnds} (Inv : Nat → Sd → Stt → Prop)
    (st : ∀ n σ S (N : Sd → Stt → Prop), Inv n σ S → (∀ m σ' S', m < n → Inv m σ' S' → N σ' S') → c σ S fun b S1 => if b = true then tb { En with nx := N, ct := N, bk := En.nx } σ S1 else En.nx σ S1)
    {n : Nat} {σ : Sd} {S : Stt} (h : Inv n σ S) : dWhile c tb En σ S := by
  have all : ∀ k n σ S, n < k → Inv n σ S → whileD c tb En k σ S := by
    intro k
    induction k with
    | zero => intro n σ S hn; omega
    | succ k ih =>
      intro n σ S hn h
      exact st n σ S (whileD c tb En k) h fun m σ' S' hm h' => ih m σ' S' (by omega) h'
  exact ⟨n + 1, all (n + 1) n σ S (Nat.lt_succ_self n) h⟩
theorem lcD_inv {g : DTG} {tt : DTT} {te : DTE} {σ : Sd} {G : Stt → Prop} {p : Addr} {Q : DK} (Inv : Nat → List D → Stt → Prop) : ∀ (items : List D) (k : Nat) (acc : List D) {S : Stt}, Inv k acc S → (∀ i acc S, Inv i acc S → G S ∧ S p = some (.lst acc)) →
    (∀ i d acc S (K1 : DK) (K2 : Stt → Prop), items[i]? = some d → Inv (k + i) acc S → (∀ y S', S' p = some (.lst acc) → acc.length < sizeLine → Inv (k + i + 1) (acc ++ [y]) (ups S' p (.lst (acc ++ [y]))) → K1 y S') → (∀ S', Inv (k + i + 1) acc S' → K2 S') →
      g d σ S fun σ2 S2 => tt σ2 S2 fun b S3 => if b = true then te σ2 S3 K1 else K2 S3) →
    (∀ acc S, Inv (k + items.length) acc S → Q (.ref p) S) → lcD g tt te σ G p Q items S
  | [], k, acc, S, h0, hG, _, hd => ⟨(hG _ _ _ h0).1, hd _ _ h0⟩
  | d :: ds, k, acc, S, h0, hG, st, hd => by
    have next : ∀ acc S, Inv (k + 1) acc S → lcD g tt te σ G p Q ds S := fun acc S h => by
      refine lcD_inv Inv ds (k + 1) acc h hG (fun i d' acc S K1 K2 e hi h1 h2 => ?_) fun acc S h2 => hd acc S (by rw [show k + (d :: ds).length = k + 1 + ds.length by simp only [List.length_cons]; omega]; exact h2)
      refine st (i + 1) d' acc S K1 K2 (by simpa using e) (by rw [show k + (i + 1) = k + 1 + i by omega]; exact hi) (fun y S' a b c => h1 y S' a b (by rw [show k + 1 + i + 1 = k + (i + 1) + 1 by omega]; exact c)) fun S' c => h2 S' (by rw [show k + 1 + i + 1 = k + (i + 1) + 1 by omega]; exact c)
    exact ⟨(hG _ _ _ h0).1, st 0 d acc S _ _ rfl h0 (fun y S' a b c => ⟨acc, a, b, next _ _ c⟩) fun S' c => next _ _ c⟩
/-- a comprehension whose elements are reckoned without a change of what stood: those that are kept -/
theorem lc_pure {α : Type} {as : List α} {enc f : α → D} {keep : α → Bool} {g : DTG} {tt : DTT} {te : DTE} {σ : Sd} {G : Stt → Prop} {p : Addr} {Q : DK} {S : Stt} (hp : S p = none) (hG : ∀ S', Ext S S' → G S') (hl : as.length ≤ sizeLine)
    (st : ∀ a S1 (K1 : DK) (K2 : Stt → Prop), a ∈ as → Ext S S1 → (keep a = true → ∀ S2, Ext S1 S2 → K1 (f a) S2) → (keep a = false → ∀ S2, Ext S1 S2 → K2 S2) → g (enc a) σ S1 fun σ2 S2 => tt σ2 S2 fun b S3 => if b = true then te σ2 S3 K1 else K2 S3)
    (hd : ∀ S', Ext S S' → S' p = some (.lst ((as.filter keep).map f)) → Q (.ref p) S') : lcD g tt te σ G p Q (as.map enc) (ups S p (.lst [])) := by
  refine lcD_inv (fun i acc S' => Ext S S' ∧ S' p = some (.lst acc) ∧ acc = ((as.take i).filter keep).map f) _ 0 [] ⟨Ext.new hp, ups_same, rfl⟩ (fun i acc S' ⟨x, e, _⟩ => ⟨hG _ x, e⟩) (fun i d acc S1 K1 K2 e ⟨x, e1, ea⟩ h1 h2 => ?_) fun acc S' ⟨x, e, ea⟩ => hd S' x (by
    rw [e, ea, List.length_map, Nat.zero_add, List.take_length])
  rw [List.getElem?_map] at e
  cases ei : as[i]? with
  | none => rw [ei] at e; cases e
  | some a =>
    rw [ei] at e
    cases e
    have hlt : i < as.length := (List.getElem?_eq_some_iff.mp ei).1
    have et : as.take (i + 1) = as.take i ++ [a] := by rw [List.take_add_one, ei]; rfl
    have hacc : acc.length ≤ i := by
      rw [ea, List.length_map]
      exact Nat.le_trans (List.length_filter_le _ _) (by rw [List.length_take]; omega)
    refine st a S1 K1 K2 (List.mem_of_getElem? ei) x (fun hk S2 x2 => ?_) fun hk S2 x2 => ?_
    · refine h1 (f a) S2 (x2 _ _ e1) (by omega) ⟨(x.trans x2).put hp, ups_same, ?_⟩
      rw [show 0 + i + 1 = i + 1 by omega, et, List.filter_append, List.map_append, ea, show 0 + i = i by omega]
      simp [hk]
    · refine h2 S2 ⟨x.trans x2, x2 _ _ e1, ?_⟩
      rw [show 0 + i + 1 = i + 1 by omega, et, List.filter_append, List.map_append, ea, show 0 + i = i by omega]
      simp [hk]
/-- all elements -/
theorem lc_map {α : Type} {as : List α} {enc f : α → D} {g : DTG} {te : DTE} {σ : Sd} {G : Stt → Prop} {p : Addr} {Q : DK} {S : Stt} (hp : S p = none) (hG : ∀ S', Ext S S' → G S') (hl : as.length ≤ sizeLine)
    (st : ∀ a S1 (K1 : DK), a ∈ as → Ext S S1 → (∀ S2, Ext S1 S2 → K1 (f a) S2) → g (enc a) σ S1 fun σ2 S2 => te σ2 S2 K1)
    (hd : ∀ S', Ext S S' → S' p = some (.lst (as.map f)) → Q (.ref p) S') : lcD g dYes te σ G p Q (as.map enc) (ups S p (.lst [])) :=
  lc_pure (keep := fun _ => true) hp hG hl (fun a S1 K1 K2 ha x h1 _ => st a S1 K1 ha x fun S2 x2 => h1 rfl S2 x2) fun S' x e => hd S' x (by rw [e, List.filter_eq_self.mpr (fun _ _ => rfl)])

/-! ### straight lines -/
theorem atI_zero {α : Type} {x : α} {l : List α} : atI (x :: l) 0 = some x := atI_nat (j := 0) rfl
theorem atI_one {α : Type} {x y : α} {l : List α} : atI (x :: y :: l) 1 = some y := atI_nat (j := 1) rfl
theorem ix_t0 {x : D} {l : List D} {S : Stt} {Q : DK} : rIx (.tup (x :: l)) (.int 0) S Q = Q x S := propext ⟨fun ⟨i, v, e, h, q⟩ => by cases e; rw [atI_zero] at h; cases h; exact q, fun q => ⟨0, x, rfl, atI_zero, q⟩⟩
theorem ix_t1 {x y : D} {l : List D} {S : Stt} {Q : DK} : rIx (.tup (x :: y :: l)) (.int 1) S Q = Q y S := propext ⟨fun ⟨i, v, e, h, q⟩ => by cases e; rw [atI_one] at h; cases h; exact q, fun q => ⟨1, y, rfl, atI_one, q⟩⟩
theorem eq_of_py {d e : D} {p q : PyData} {S : Stt} {Q : DK} (h1 : DPy S d p) (h2 : DPy S e q) (s1 : SeqAt.shaped p = true) (s2 : SeqAt.shaped q = true) {b : Bool} (hb : PyData.eqv p q = b) (h : Q (.bl b) S) : rEq d e S Q := ⟨p, q, h1, h2, s1, s2, by rw [hb]; exact h⟩
theorem ne_of_py {d e : D} {p q : PyData} {S : Stt} {Q : DK} (h1 : DPy S d p) (h2 : DPy S e q) (s1 : SeqAt.shaped p = true) (s2 : SeqAt.shaped q = true) {b : Bool} (hb : PyData.eqv p q = b) (h : Q (.bl (!b)) S) : rNe d e S Q := ⟨p, q, h1, h2, s1, s2, by rw [hb]; exact h⟩
theorem shaped_int (i : Int) : SeqAt.shaped (.int i) = true := by simp [SeqAt.shaped, PyData.canLay0, PyData.depth]
theorem shaped_non : SeqAt.shaped .none = true := by simp [SeqAt.shaped, PyData.canLay0, PyData.depth]
theorem eq_int {i j : Int} {S : Stt} {Q : DK} (h : Q (.bl (i == j)) S) : rEq (.int i) (.int j) S Q := eq_of_py (.int i) (.int j) (shaped_int i) (shaped_int j) (by simp [PyData.eqv]) h
theorem ne_int {i j : Int} {S : Stt} {Q : DK} (h : Q (.bl (!(i == j))) S) : rNe (.int i) (.int j) S Q := ne_of_py (.int i) (.int j) (shaped_int i) (shaped_int j) (by simp [PyData.eqv]) h

/-! trees without addresses, as data -/
mutual
def pyD : D → PyData
  | .non => .none
  | .bl b => .bool b
  | .int i => .int i
  | .str x => .str x
  | .ref _ => .none
  | .ty _ => .none
  | .tup l => .tuple (pysD l)
  | .fz l => .list (pysD l)
def pysD : List D → List PyData
  | [] => []
  | d :: ds => pyD d :: pysD ds
end
mutual
/-- no addresses, no texts -/
def pureD : D → Bool
  | .non => true
  | .bl _ => true
  | .int _ => true
  | .str _ => false
  | .ref _ => false
  | .ty _ => false
  | .tup l => puresD l
  | .fz l => puresD l
def puresD : List D → Bool
  | [] => true
  | d :: ds => pureD d && puresD ds
end
mutual
theorem dpy_pure {S : Stt} : ∀ {d : D}, pureD d = true → DPy S d (pyD d)
  | .non, _ => by simp only [pyD]; exact .non
  | .bl b, _ => by simp only [pyD]; exact .bl b
  | .int i, _ => by simp only [pyD]; exact .int i
  | .str x, h => by simp [pureD] at h
  | .ref a, h => by simp [pureD] at h
  | .ty n, h => by simp [pureD] at h
  | .tup l, h => by simp only [pyD]; exact .tup (dpys_pure (by simpa [pureD] using h))
  | .fz l, h => by simp only [pyD]; exact .fz (dpys_pure (by simpa [pureD] using h))
theorem dpys_pure {S : Stt} : ∀ {l : List D}, puresD l = true → DPys S l (pysD l)
  | [], _ => by simp only [pysD]; exact .nil
  | d :: ds, h => by
    simp only [puresD, Bool.and_eq_true] at h
    simp only [pysD]
    exact .cons (dpy_pure h.1) (dpys_pure h.2)
end
mutual
theorem lay_pure : ∀ {d : D}, pureD d = true → (pyD d).canLay0 = true
  | .non, _ => by simp [pyD, PyData.canLay0]
  | .bl b, _ => by simp [pyD, PyData.canLay0]
  | .int i, _ => by simp [pyD, PyData.canLay0]
  | .str x, h => by simp [pureD] at h
  | .ref a, h => by simp [pureD] at h
  | .ty n, h => by simp [pureD] at h
  | .tup l, h => by simp only [pyD, PyData.canLay0]; exact lays_pure (by simpa [pureD] using h)
  | .fz l, h => by simp only [pyD, PyData.canLay0]; exact lays_pure (by simpa [pureD] using h)
theorem lays_pure : ∀ {l : List D}, puresD l = true → PyData.canLayAll0 (pysD l) = true
  | [], _ => by simp [pysD, PyData.canLayAll0]
  | d :: ds, h => by
    simp only [puresD, Bool.and_eq_true] at h
    simp only [pysD, PyData.canLayAll0, Bool.and_eq_true]
    exact ⟨lay_pure h.1, lays_pure h.2⟩
end
mutual
def depD : D → Nat
  | .tup l => depsD l + 1
  | .fz l => depsD l + 1
  | _ => 0
def depsD : List D → Nat
  | [] => 0
  | d :: ds => max (depD d) (depsD ds)
end
mutual
theorem dep_pure : ∀ (d : D), (pyD d).depth = depD d
  | .non => by simp [pyD, PyData.depth, depD]
  | .bl b => by simp [pyD, PyData.depth, depD]
  | .int i => by simp [pyD, PyData.depth, depD]
  | .str x => by simp [pyD, PyData.depth, depD]
  | .ref a => by simp [pyD, PyData.depth, depD]
  | .ty n => by simp [pyD, PyData.depth, depD]
  | .tup l => by simp only [pyD, PyData.depth, depD]; rw [deps_pure l]
  | .fz l => by simp only [pyD, PyData.depth, depD]; rw [deps_pure l]
theorem deps_pure : ∀ (l : List D), PyData.depthAll (pysD l) = depsD l
  | [] => by simp [pysD, PyData.depthAll, depsD]
  | d :: ds => by simp only [pysD, PyData.depthAll, depsD]; rw [dep_pure d, deps_pure ds]
end
theorem shaped_list {l : List D} (h : puresD l = true) (hd : depsD l ≤ 63) : SeqAt.shaped (.list (pysD l)) = true := by
  unfold SeqAt.shaped
  rw [show (PyData.list (pysD l)).canLay0 = true by simp only [PyData.canLay0]; exact lays_pure h, Bool.true_and, decide_eq_true_eq]
  simp only [PyData.depth]
  rw [deps_pure]
  omega
theorem shaped_tuple {l : List D} (h : puresD l = true) (hd : depsD l ≤ 63) : SeqAt.shaped (.tuple (pysD l)) = true := by
  unfold SeqAt.shaped
  rw [show (PyData.tuple (pysD l)).canLay0 = true by simp only [PyData.canLay0]; exact lays_pure h, Bool.true_and, decide_eq_true_eq]
  simp only [PyData.depth]
  rw [deps_pure]
  omega
theorem shaped_nilL : SeqAt.shaped (.list []) = true := shaped_list (l := []) rfl (Nat.zero_le _)
/-- xs == [], xs != [] -/
theorem eq_nilL {a b : Addr} {l : List D} {S : Stt} {Q : DK} (e : S a = some (.lst l)) (e' : S b = some (.lst [])) (h : puresD l = true) (hd : depsD l ≤ 63) (q : Q (.bl l.isEmpty) S) : rEq (.ref a) (.ref b) S Q :=
  eq_of_py (.lst e (dpys_pure h)) (.lst e' .nil) (shaped_list h hd) shaped_nilL (by cases l <;> simp [pysD, PyData.eqv, PyData.eqvAll]) q
theorem ne_nilL {a b : Addr} {l : List D} {S : Stt} {Q : DK} (e : S a = some (.lst l)) (e' : S b = some (.lst [])) (h : puresD l = true) (hd : depsD l ≤ 63) (q : Q (.bl (!l.isEmpty)) S) : rNe (.ref a) (.ref b) S Q :=
  ne_of_py (.lst e (dpys_pure h)) (.lst e' .nil) (shaped_list h hd) shaped_nilL (b := l.isEmpty) (by cases l <;> simp [pysD, PyData.eqv, PyData.eqvAll]) q
theorem pures_ints : ∀ ns : List Int, puresD (ns.map D.int) = true
  | [] => rfl
  | n :: r => by simp only [List.map_cons, puresD, pureD, Bool.true_and]; exact pures_ints r
theorem deps_ints : ∀ ns : List Int, depsD (ns.map D.int) = 0
  | [] => rfl
  | n :: r => by simp only [List.map_cons, depsD, depD]; rw [deps_ints r]; rfl
theorem MulOk.l {i j : Int} (h : i.natAbs < 2 ^ 60) : MulOk i j := .inl (.inl (by omega))
theorem MulOk.r {i j : Int} (h : j.natAbs < 2 ^ 60) : MulOk i j := .inl (.inr (by omega))
end DL

/-! DLi: rewriting rules for straight lines. -/
namespace DL
open PySem PySem.Spec PyProof.Rows L2
theorem xtup_ref {a : Addr} {S : Stt} {Q : DK} : rTupOf [.ref a] S Q = ∃ l, S a = some (.lst l) ∧ Q (.tup l) S := propext ⟨fun ⟨d, e, h⟩ => by cases e; exact h, fun h => ⟨_, rfl, h⟩⟩
theorem xtup_tup {l : List D} {S : Stt} {Q : DK} : rTupOf [.tup l] S Q = Q (.tup l) S := propext ⟨fun ⟨d, e, h⟩ => by cases e; exact h, fun h => ⟨_, rfl, h⟩⟩
theorem xlen_tup {l : List D} {S : Stt} {Q : DK} : rLen [.tup l] S Q = Q (.int l.length) S := propext ⟨fun ⟨d, e, h⟩ => by cases e; exact h, fun h => ⟨_, rfl, h⟩⟩
theorem xlen_ref {a : Addr} {S : Stt} {Q : DK} : rLen [.ref a] S Q = ∃ l, S a = some (.lst l) ∧ Q (.int l.length) S := propext ⟨fun ⟨d, e, h⟩ => by cases e; exact h, fun h => ⟨_, rfl, h⟩⟩
theorem xint_int {i : Int} {S : Stt} {Q : DK} : rInt [.int i] S Q = Q (.int i) S := propext ⟨fun ⟨d, e, h⟩ => by cases e; exact h, fun h => ⟨_, rfl, h⟩⟩
theorem xabs_int {i : Int} {S : Stt} {Q : DK} : rAbs [.int i] S Q = Q (.int (i.natAbs : Int)) S := propext ⟨fun ⟨d, e, h⟩ => by cases e; exact h, fun h => ⟨_, rfl, h⟩⟩
theorem x_tt {α : Sort _} {a b : α} : (if true = true then a else b) = a := rfl
theorem x_ft {α : Sort _} {a b : α} : (if false = true then a else b) = b := rfl
theorem sd1 {N : List Str} {a : D} : startD N [a] = some a :: List.replicate (N.length - 1) none := rfl
theorem sd2 {N : List Str} {a b : D} : startD N [a, b] = some a :: some b :: List.replicate (N.length - 2) none := rfl
theorem sd3 {N : List Str} {a b c : D} : startD N [a, b, c] = some a :: some b :: some c :: List.replicate (N.length - 3) none := rfl
theorem sd4 {N : List Str} {a b c d : D} : startD N [a, b, c, d] = some a :: some b :: some c :: some d :: List.replicate (N.length - 4) none := rfl
theorem ix_at {l : List D} {i : Int} {v : D} {S : Stt} {Q : DK} (e : atI l i = some v) (h : Q v S) : rIx (.tup l) (.int i) S Q := ⟨i, v, rfl, e, h⟩
theorem ix_lst {a : Addr} {l : List D} {i : Int} {v : D} {S : Stt} {Q : DK} (h0 : S a = some (.lst l)) (e : atI l i = some v) (h : Q v S) : rIx (.ref a) (.int i) S Q := .inl ⟨l, i, v, h0, rfl, e, h⟩
theorem ix_dK {a : Addr} {kvs : List (Key × D)} {e : D} {k : Key} {v : D} {S : Stt} {Q : DK} (h0 : S a = some (.dK kvs)) (ek : keyD e = some k) (ev : valD kvs k = some v) (h : Q v S) : rIx (.ref a) e S Q := .inr (.inl ⟨kvs, k, v, h0, ek, ev, h⟩)
theorem ix_dT {a : Addr} {kvs : List (List Key × D)} {e : D} {k : List Key} {v : D} {S : Stt} {Q : DK} (h0 : S a = some (.dT kvs)) (ek : keyT e = some k) (ev : valD kvs k = some v) (h : Q v S) : rIx (.ref a) e S Q := .inr (.inr ⟨kvs, k, v, h0, ek, ev, h⟩)
theorem set_dK {a : Addr} {kvs : List (Key × D)} {e : D} {k : Key} {v : D} {S : Stt} {Q : Stt → Prop} (h0 : S a = some (.dK kvs)) (ek : keyD e = some k) (hl : kvs.length < sizeLine) (h : Q (ups S a (.dK (putD kvs k v)))) : rSet (.ref a) e v S Q := ⟨a, rfl, .inr (.inl ⟨kvs, k, h0, ek, hl, h⟩)⟩
theorem set_dT {a : Addr} {kvs : List (List Key × D)} {e : D} {k : List Key} {v : D} {S : Stt} {Q : Stt → Prop} (h0 : S a = some (.dT kvs)) (ek : keyT e = some k) (hl : kvs.length < sizeLine) (h : Q (ups S a (.dT (putD kvs k v)))) : rSet (.ref a) e v S Q := ⟨a, rfl, .inr (.inr ⟨kvs, k, h0, ek, hl, h⟩)⟩
theorem xi_add {i j : Int} {S : Stt} {Q : DK} : DL.rAdd (.int i) (.int j) S Q = Q (.int (i + j)) S := rfl
theorem xt_add {a b : List D} {S : Stt} {Q : DK} : DL.rAdd (.tup a) (.tup b) S Q = (a.length + b.length ≤ sizeLine ∧ Q (.tup (a ++ b)) S) := rfl
theorem xi_sub {i j : Int} {S : Stt} {Q : DK} : DL.rSub (.int i) (.int j) S Q = Q (.int (i - j)) S := rfl
theorem xi_mul {i j : Int} {S : Stt} {Q : DK} : DL.rMul (.int i) (.int j) S Q = (MulOk i j ∧ Q (.int (i * j)) S) := rfl
theorem xi_mod {i j : Int} {S : Stt} {Q : DK} : DL.rMod (.int i) (.int j) S Q = (0 < j ∧ Q (.int (i % j)) S) := rfl
theorem xi_div {i j : Int} {S : Stt} {Q : DK} : DL.rDiv (.int i) (.int j) S Q = (CDivW i j ∧ Q (.int (i / j)) S) := rfl
theorem xi_cmp {p : Int → Int → Bool} {i j : Int} {S : Stt} {Q : DK} : rCmp p (.int i) (.int j) S Q = Q (.bl (p i j)) S := rfl
theorem xi_lt {i j : Int} {S : Stt} {Q : DK} : DL.rLt (.int i) (.int j) S Q = Q (.bl (decide (i < j))) S := rfl
theorem xi_le {i j : Int} {S : Stt} {Q : DK} : DL.rLe (.int i) (.int j) S Q = Q (.bl (decide (i ≤ j))) S := rfl
theorem xwalk_tup {l : List D} {S : Stt} {R : List D → (Stt → Prop) → Stt → Prop} : walkD (.tup l) S R = R l (fun _ => True) S := rfl
theorem xwalk_ref {a : Addr} {S : Stt} {R : List D → (Stt → Prop) → Stt → Prop} : walkD (.ref a) S R = ∃ l, S a = some (.lst l) ∧ R l (fun S => S a = some (.lst l)) S := rfl
theorem xsl_fz {l : List D} {lo hi : Option Int} {S : Stt} {Q : DK} : DL.rSl (.fz l) lo hi S Q = ∀ p, S p = none → Q (.ref p) (ups S p (.lst (cutD l lo hi))) := rfl
theorem xsl_tup {l : List D} {lo hi : Option Int} {S : Stt} {Q : DK} : DL.rSl (.tup l) lo hi S Q = Q (.tup (cutD l lo hi)) S := rfl
theorem xsl_ref {a : Addr} {lo hi : Option Int} {S : Stt} {Q : DK} : DL.rSl (.ref a) lo hi S Q = ∃ l, S a = some (.lst l) ∧ ∀ p, S p = none → Q (.ref p) (ups S p (.lst (cutD l lo hi))) := rfl
theorem xadd_ref {a b : Addr} {S : Stt} {Q : DK} : DL.rAdd (.ref a) (.ref b) S Q = ∃ xs ys, S a = some (.lst xs) ∧ S b = some (.lst ys) ∧ xs.length + ys.length ≤ sizeLine ∧ ∀ p, S p = none → Q (.ref p) (ups S p (.lst (xs ++ ys))) := rfl
theorem xmul_tup {l : List D} {k : Int} {S : Stt} {Q : DK} : DL.rMul (.tup l) (.int k) S Q = (-1000 ≤ k ∧ k ≤ 1000 ∧ l.length ≤ 1000 ∧ Q (.tup (List.replicate k.toNat l).flatten) S) := rfl
theorem xpow {i j : Int} {S : Stt} {Q : DK} : DL.rPow (.int i) (.int j) S Q = (CPow i j ∧ Q (.int (i ^ j.toNat)) S) := rfl
theorem xisnot_non {d : D} {S : Stt} {Q : DK} : DL.rIsNot d .non S Q = Q (.bl (!isNonD d)) S := rfl
theorem xis_non {d : D} {S : Stt} {Q : DK} : DL.rIs d .non S Q = Q (.bl (isNonD d)) S := rfl
theorem cutD_map {α β : Type} {f : α → β} {xs : List α} {lo hi : Option Int} : cutD (xs.map f) lo hi = (cutD xs lo hi).map f := by
  unfold cutD
  rw [List.length_map, ← List.map_drop, ← List.map_take]
theorem cutD_len {α : Type} {xs : List α} {lo hi : Option Int} : (cutD xs lo hi).length ≤ xs.length := by
  unfold cutD
  rw [List.length_take, List.length_drop]
  omega
theorem xisi {d : D} {c t : String} {b : Bool} {S : Stt} {Q : DK} (h : TyD S d t) (hk : kitB t c = some b) (q : Q (.bl b) S) : rIsi [d, .ty c] S Q := ⟨d, t, c, b, rfl, h, hk, q⟩
theorem for_map {α : Type} {as : List α} {enc : α → D} {g : DTG} {tb : DTS} {G : Stt → Prop} {En : DEnds} {σ : Sd} {S : Stt} (Inv : Nat → Sd → Stt → Prop) (h0 : Inv 0 σ S) (hG : ∀ i σ S, Inv i σ S → G S)
    (st : ∀ i a σ S (N : Sd → Stt → Prop), as[i]? = some a → Inv i σ S → (∀ σ' S', Inv (i + 1) σ' S' → N σ' S') → g (enc a) σ S fun σ2 S2 => tb { En with nx := N, ct := N, bk := En.nx } σ2 S2)
    (hd : ∀ σ S, Inv as.length σ S → En.nx σ S) : forD g tb G En (as.map enc) σ S :=
  for_inv Inv h0 hG (fun i d σ S N e h hN => by
    rw [List.getElem?_map] at e
    cases ea : as[i]? with
    | none => rw [ea] at e; cases e
    | some a =>
      rw [ea] at e
      cases e
      exact st i a σ S N ea h hN) fun σ S h => hd σ S (by rw [List.length_map] at h; exact h)
theorem for_rng {n : Nat} {g : DTG} {tb : DTS} {G : Stt → Prop} {En : DEnds} {σ : Sd} {S : Stt} (Inv : Nat → Sd → Stt → Prop) (h0 : Inv 0 σ S) (hG : ∀ S, G S)
    (st : ∀ i σ S (N : Sd → Stt → Prop), i < n → Inv i σ S → (∀ σ' S', Inv (i + 1) σ' S' → N σ' S') → g (.int (i : Nat)) σ S fun σ2 S2 => tb { En with nx := N, ct := N, bk := En.nx } σ2 S2)
    (hd : ∀ σ S, Inv n σ S → En.nx σ S) : forD g tb G En (intsD 0 n) σ S :=
  for_inv Inv h0 (fun _ _ S _ => hG S) (fun i d σ S N e h hN => by
    have hi : i < n := by
      have := (List.getElem?_eq_some_iff.mp e).1
      rw [intsD_length] at this
      exact this
    rw [intsD_get hi] at e
    cases e
    rw [Int.zero_add]
    exact st i σ S N hi h hN) fun σ S h => hd σ S (by rw [intsD_length] at h; exact h)
/-- a comprehension over a range -/
theorem lc_rng {n : Nat} {f : Nat → D} {keep : Nat → Bool} {g : DTG} {tt : DTT} {te : DTE} {σ : Sd} {G : Stt → Prop} {p : Addr} {Q : DK} {S : Stt} (hp : S p = none) (hG : ∀ S', Ext S S' → G S') (hl : n ≤ sizeLine)
    (st : ∀ i S1 (K1 : DK) (K2 : Stt → Prop), i < n → Ext S S1 → (keep i = true → ∀ S2, Ext S1 S2 → K1 (f i) S2) → (keep i = false → ∀ S2, Ext S1 S2 → K2 S2) → g (.int (i : Nat)) σ S1 fun σ2 S2 => tt σ2 S2 fun b S3 => if b = true then te σ2 S3 K1 else K2 S3)
    (hd : ∀ S', Ext S S' → S' p = some (.lst (((List.range n).filter keep).map f)) → Q (.ref p) S') : lcD g tt te σ G p Q (intsD 0 n) (ups S p (.lst [])) :=
  lc_pure (as := List.range n) (enc := fun i => D.int (0 + (i : Nat))) (f := f) (keep := keep) hp hG (by rw [List.length_range]; exact hl) (fun i S1 K1 K2 hi x h1 h2 => by
    rw [Int.zero_add]
    exact st i S1 K1 K2 (List.mem_range.mp hi) x h1 h2) hd
end DL

/-! SpA: the draws, fractions, forms, tallies of the laws k57, k58, k59: what they are in plain Lean, and what each def promises. -/
namespace LW
open PySem PySem.Spec PyProof.Rows L2 DL

/-! ### the state of the draws -/
def mD (left seed : Int) (c : Addr) (spot : Int) : List (Key × D) := [(.inr "left", .int left), (.inr "seed", .int seed), (.inr "cells", .ref c), (.inr "spot", .int spot)]
structure MAt (S : Stt) (m : Addr) (left seed : Int) (c : Addr) (spot : Int) (cells : List Int) : Prop where
  h : S m = some (.dK (mD left seed c spot))
  cs : S c = some (.lst (cells.map D.int))
  l0 : 0 ≤ left
  s0 : 0 ≤ seed
  s1 : seed < 2147483647
  ne : 0 < cells.length
  cl : cells.length ≤ 1000
  p0 : 0 ≤ spot
def MOk (S : Stt) (m : Addr) (n : Nat) : Prop := ∃ left seed c spot cells, MAt S m left seed c spot cells ∧ spot ≤ (n : Int)
theorem MOk.mono {S : Stt} {m : Addr} {n k : Nat} (h : MOk S m n) (hk : n ≤ k) : MOk S m k := by
  obtain ⟨l, s, c, sp, cs, h, hn⟩ := h
  exact ⟨l, s, c, sp, cs, h, by omega⟩
theorem MOk.ext {S S' : Stt} {m : Addr} {n : Nat} (h : MOk S m n) (x : Ext S S') : MOk S' m n := by
  obtain ⟨l, s, c, sp, cs, h, hn⟩ := h
  exact ⟨l, s, c, sp, cs, ⟨x _ _ h.h, x _ _ h.cs, h.l0, h.s0, h.s1, h.ne, h.cl, h.p0⟩, hn⟩
/-- another list is written -/
theorem MOk.put {S : Stt} {m p : Addr} {n : Nat} {l l' : List D} (h : MOk S m n) (e : S p = none) : MOk (ups S p (.lst l)) m n := h.ext (Ext.new e)
abbrev dmax : Nat := 1125899906842624

def sp_Lbegun : DSp := fun ds S Q => ∃ (ns : List Int) (k : Int), ds = [.fz (ns.map D.int), .int k] ∧ ns.length ≤ 63 ∧ 0 ≤ k ∧ k ≤ 100 ∧ ∀ m S', Ext S S' → S m = none → MOk S' m 0 → Q (.ref m) S'
def sp_Ldraw : DSp := fun ds S Q => ∃ (m : Addr) (b : Int) (n : Nat), ds = [.ref m, .int b] ∧ 0 < b ∧ b.natAbs < 2 ^ 8000 ∧ MOk S m n ∧ n ≤ dmax ∧ ∀ r S', 0 ≤ r → r < b → ExtB m S S' → MOk S' m (n + 1) → Q (.int r) S'
def sp_Lof : DSp := fun ds S Q => ∃ (m a : Addr) (l : List D) (n : Nat), ds = [.ref m, .ref a] ∧ S a = some (.lst l) ∧ 0 < l.length ∧ l.length ≤ 1000 ∧ MOk S m n ∧ n ≤ dmax ∧ ∀ d S', d ∈ l → ExtB m S S' → MOk S' m (n + 1) → Q d S'
def sp_Lsigned : DSp := fun ds S Q => ∃ (m : Addr) (b : Int) (n : Nat), ds = [.ref m, .int b] ∧ 0 ≤ b ∧ b.natAbs + 1 < 2 ^ 8000 ∧ MOk S m n ∧ n + 10 ≤ dmax ∧ ∀ r S', r.natAbs ≤ b.natAbs → ExtB m S S' → MOk S' m (n + 2) → Q (.int r) S'
def sp_Llike : DSp := fun ds S Q => ∃ (d e : D) (p : PyData), ds = [d, e] ∧ DPy S d p ∧ DPy S e p ∧ p.showable = true ∧ p.hasDict = false ∧ p.shown.length ≤ sizeLine ∧ p.depth ≤ 60 ∧ PyData.strOk p.shown = true ∧ isRefOrInt d = true ∧ isRefOrInt e = true ∧ Q (.bl true) S

/-! ### fractions -/
abbrev Fr := Int × Int
def frD (f : Fr) : D := .tup [.int f.1, .int f.2]
def gcdI (a c : Int) : Int := (Nat.gcd a.natAbs c.natAbs : Nat)
def lowF (a c : Int) : Fr := (a / gcdI a c, c / gcdI a c)
def plusF (f g : Fr) : Fr := lowF (f.1 * g.2 + g.1 * f.2) (f.2 * g.2)
def sp_Lgcd : DSp := fun ds S Q => ∃ a c : Int, ds = [.int a, .int c] ∧ Q (.int (gcdI a c)) S
def sp_Llowest : DSp := fun ds S Q => ∃ a c : Int, ds = [.int a, .int c] ∧ 0 < c ∧ c.natAbs < 2 ^ 8000 ∧ Q (frD (lowF a c)) S
def sp_Lplus : DSp := fun ds S Q => ∃ f g : Fr, ds = [frD f, frD g] ∧ 0 < f.2 ∧ 0 < g.2 ∧ f.2.natAbs < 2 ^ 3000 ∧ g.2.natAbs < 2 ^ 3000 ∧ f.1.natAbs < 2 ^ 3000 ∧ g.1.natAbs < 2 ^ 3000 ∧ Q (frD (plusF f g)) S

/-! ### forms -/
abbrev Fm := List Int
def fmD (f : Fm) : D := .tup (f.map D.int)
def dot : List Int → List Int → Int
  | a :: as, b :: bs => a * b + dot as bs
  | _, _ => 0
def fv : Fm → List Int → Int
  | c :: cs, t => c + dot cs t
  | [], _ => 0
def sp_Lform_value : DSp := fun ds S Q => ∃ (f : Fm) (t : List Int), ds = [fmD f, fmD t] ∧ f.length = t.length + 1 ∧ t.length ≤ 100 ∧ (∀ c ∈ f, c.natAbs < 2 ^ 60) ∧ ∀ S', Ext S S' → Q (.int (fv f t)) S'
def FmOk (k B : Nat) (f : Fm) : Prop := f.length = k + 1 ∧ ∀ c ∈ f, c.natAbs ≤ B
def sp_Lform : DSp := fun ds S Q => ∃ (m : Addr) (k B n : Nat), ds = [.ref m, .int k, .int B] ∧ k ≤ 20 ∧ B ≤ 1000 ∧ MOk S m n ∧ n + 100 ≤ dmax ∧ ∀ f S', FmOk k B f → ExtB m S S' → MOk S' m (n + 100) → Q (fmD f) S'

/-! ### polynomials in steps, terms, tallies -/
abbrev Mo := Fr × List Int
def moD (q : Mo) : D := .tup [frD q.1, fmD q.2]
def poD (p : List Mo) : D := .tup (p.map moD)
structure Tm where
  rows : List Fm
  gates : List (Int × Fm)
  steps : List (Int × Fm)
  poly : List Mo
def prD (p : Int × Fm) : D := .tup [.int p.1, fmD p.2]
def tmD (t : Tm) : D := .tup [.tup (t.rows.map fmD), .tup (t.gates.map prD), .tup (t.steps.map prD), poD t.poly]
def taD (ts : List Tm) : D := .tup (ts.map tmD)
/-- a fraction in lowest terms, not 0 -/
structure FrOk (f : Fr) : Prop where
  pos : 0 < f.2
  ne : f.1 ≠ 0
  low : Nat.gcd f.1.natAbs f.2.natAbs = 1
structure MoOk (m nb db eb : Nat) (q : Mo) : Prop where
  fr : FrOk q.1
  num : q.1.1.natAbs ≤ nb
  den : q.1.2.natAbs ≤ db
  len : q.2.length = m
  nn : ∀ e ∈ q.2, 0 ≤ e
  sum : q.2.sum ≤ (eb : Int)
structure PoOk (m nb db eb jb : Nat) (p : List Mo) : Prop where
  mo : ∀ q ∈ p, MoOk m nb db eb q
  len : p.length ≤ jb
  asc : p.Pairwise fun q r => lexLeI r.2 q.2 = false
structure PrOk (k B lo : Nat) (p : Int × Fm) : Prop where
  lo : (lo : Int) ≤ p.1
  hi : p.1 ≤ 1000
  fm : FmOk k B p.2
structure TmOk (k B nb db eb jb : Nat) (t : Tm) : Prop where
  rows : ∀ f ∈ t.rows, FmOk k B f
  gates : ∀ p ∈ t.gates, PrOk k B 2 p
  steps : ∀ p ∈ t.steps, PrOk k B 1 p
  rl : t.rows.length ≤ 100
  gl : t.gates.length ≤ 100
  sl : t.steps.length ≤ 100
  poly : PoOk t.steps.length nb db eb jb t.poly
/-- what is drawn: entries to 9, at most three terms, degrees to 3 -/
abbrev TmDrawn (k : Nat) (t : Tm) : Prop := TmOk k 9 9 6 3 3 t
def sp_Lpoly : DSp := fun ds S Q => ∃ (m : Addr) (many n : Nat), ds = [.ref m, .int many, .int 3] ∧ many ≤ 20 ∧ MOk S m n ∧ n + 1000 ≤ dmax ∧ ∀ p S', PoOk many 9 6 3 3 p → ExtB m S S' → MOk S' m (n + 1000) → Q (poD p) S'
def sp_Lterm : DSp := fun ds S Q => ∃ (m : Addr) (k n : Nat), ds = [.ref m, .int k] ∧ k ≤ 10 ∧ MOk S m n ∧ n + 10000 ≤ dmax ∧ ∀ t S', TmDrawn k t → t.steps.length ≤ 3 → ExtB m S S' → MOk S' m (n + 10000) → Q (tmD t) S'
def sp_Ltally : DSp := fun ds S Q => ∃ (m : Addr) (k n : Nat), ds = [.ref m, .int k] ∧ k ≤ 10 ∧ MOk S m n ∧ n + 100000 ≤ dmax ∧ ∀ ts S', (∀ t ∈ ts, TmDrawn k t ∧ t.steps.length ≤ 3) → ts.length ≤ 3 → ExtB m S S' → MOk S' m (n + 100000) → Q (taD ts) S'
/-- points whose entries are below 2 ^ pb -/
def sp_LchoicesB (pb : Nat) : DSp := fun ds S Q => ∃ (m : Addr) (k c n : Nat), ds = [.ref m, .int k, .int c] ∧ k ≤ 10 ∧ c ≤ 10 ∧ MOk S m n ∧ n + 10000 ≤ dmax ∧
  ∀ (a : Addr) (ps : List (List Int)) (S' : Stt), (∀ p ∈ ps, p.length = k ∧ ∀ x ∈ p, x.natAbs < 2 ^ pb) → ps.length = c → ExtB m S S' → S a = none → MOk S' m (n + 10000) → S' a = some (.lst (ps.map fmD)) → Q (.ref a) S'

/-! ### values -/
def powTop : Int → List Int → List Int → Int
  | t, e :: es, x :: xs => powTop (t * x ^ e.toNat) es xs
  | t, _, _ => t
def polyF (p : List Mo) (xs : List Int) : Fr := p.foldl (fun tot q => plusF tot (lowF (powTop q.1.1 q.2 xs) q.1.2)) (0, 1)
def termOn (t : Tm) (p : List Int) : Bool := (t.rows.all fun f => decide (0 ≤ fv f p)) && t.gates.all fun g => decide (fv g.2 p % g.1 = 0)
def stepsAt (t : Tm) (p : List Int) : List Int := t.steps.map fun s => fv s.2 p / s.1
def worthF (ts : List Tm) (p : List Int) : Fr := ts.foldl (fun tot t => if termOn t p then plusF tot (polyF t.poly (stepsAt t p)) else tot) (0, 1)
/-- a fraction within n and d binary figures -/
def FrB (n d : Nat) (f : Fr) : Prop := f.1.natAbs ≤ 2 ^ n ∧ 0 < f.2 ∧ f.2.natAbs ≤ 2 ^ d
def sp_Lpoly_value : DSp := fun ds S Q => ∃ (p : List Mo) (xs : List Int) (a : Addr) (m nb db eb jb vb : Nat), ds = [poD p, .ref a] ∧ S a = some (.lst (xs.map D.int)) ∧ PoOk m (2 ^ nb) (2 ^ db) eb jb p ∧ xs.length = m ∧ m ≤ 100 ∧ (∀ x ∈ xs, x.natAbs ≤ 2 ^ vb) ∧
  nb + eb * vb ≤ 1000 ∧ eb ≤ 1000 ∧ (db + 1) * jb ≤ 500 ∧ jb ≤ 100 ∧ Q (frD (polyF p xs)) S
/-- the bounds under which worth is asked -/
structure WOk (k B nb db eb jb vb : Nat) (ts : List Tm) (p : List Int) : Prop where
  tm : ∀ t ∈ ts, TmOk k B (2 ^ nb) (2 ^ db) eb jb t
  bd : B < 2 ^ 60
  len : p.length = k
  kb : k ≤ 100
  vals : ∀ t ∈ ts, ∀ s ∈ t.steps, (fv s.2 p).natAbs ≤ 2 ^ vb
  n1 : nb + eb * vb ≤ 1000
  n2 : eb ≤ 1000
  n3 : (db + 1) * jb ≤ 100
  n4 : jb ≤ 100
  n5 : ts.length ≤ 5
def sp_Lworth : DSp := fun ds S Q => ∃ (ts : List Tm) (p : List Int) (k B nb db eb jb vb : Nat), ds = [taD ts, fmD p] ∧ WOk k B nb db eb jb vb ts p ∧ ∀ S', Ext S S' → Q (frD (worthF ts p)) S'

/-! ### the judge, of values that are right -/
def sp_Lis_int : DSp := fun ds S Q => ∃ i : Int, ds = [.int i] ∧ Q (.bl true) S
def sp_Lis_form : DSp := fun ds S Q => ∃ (f : Fm) (k B : Nat), ds = [fmD f, .int k] ∧ FmOk k B f ∧ k ≤ 100 ∧ ∀ S', Ext S S' → Q (.bl true) S'
def sp_Lare_forms : DSp := fun ds S Q => ∃ (fs : List Fm) (k B : Nat), ds = [.tup (fs.map fmD), .int k] ∧ (∀ f ∈ fs, FmOk k B f) ∧ fs.length ≤ 100 ∧ k ≤ 100 ∧ ∀ S', Ext S S' → Q (.bl true) S'
def sp_Lare_pairs : DSp := fun ds S Q => ∃ (ps : List (Int × Fm)) (k B lo : Nat), ds = [.tup (ps.map prD), .int k, .int lo] ∧ (∀ p ∈ ps, PrOk k B lo p) ∧ ps.length ≤ 100 ∧ k ≤ 100 ∧ ∀ S', Ext S S' → Q (.bl true) S'
def sp_Lis_poly : DSp := fun ds S Q => ∃ (p : List Mo) (m nb db eb jb : Nat), ds = [poD p, .int m] ∧ PoOk m nb db eb jb p ∧ m ≤ 100 ∧ jb ≤ 1000 ∧ ∀ S', Ext S S' → Q (.bl true) S'
def sp_Lis_term : DSp := fun ds S Q => ∃ (t : Tm) (k B nb db eb jb : Nat), ds = [tmD t, .int k] ∧ TmOk k B nb db eb jb t ∧ k ≤ 100 ∧ jb ≤ 1000 ∧ ∀ S', Ext S S' → Q (.bl true) S'
def sp_Lbreach : DSp := fun ds S Q => ∃ (ts : List Tm) (k B nb db eb jb : Nat), ds = [taD ts, .int k] ∧ (∀ t ∈ ts, TmOk k B nb db eb jb t) ∧ ts.length ≤ 100 ∧ k ≤ 100 ∧ jb ≤ 1000 ∧ ∀ S', Ext S S' → Q .non S'
def sp_law : DSp := fun ds S Q => ∃ ns : List Int, ds = [.fz (ns.map D.int)] ∧ ns.length ≤ 63 ∧ ∀ S', Q (.bl true) S'
end LW

/-! Sp59: forms put into forms and tallies. -/
namespace LW
open PySem PySem.Spec PyProof.Rows L2 DL
abbrev sp_Lchoices : DSp := sp_LchoicesB 30
def sumFm (a b : Fm) : Fm := List.zipWith (· + ·) a b
def timesFm (f : Fm) (n : Int) : Fm := f.map (n * ·)
def putStep (acc : Fm) (p : Int × Fm) : Fm := sumFm acc (timesFm p.2 p.1)
def putFm (f : Fm) (fs : List Fm) (n : Nat) : Fm := (f.tail.zip fs).foldl putStep (f.head?.getD 0 :: List.replicate n 0)
def putTm (fs : List Fm) (n : Nat) (t : Tm) : Tm := ⟨t.rows.map fun f => putFm f fs n, t.gates.map fun p => (p.1, putFm p.2 fs n), t.steps.map fun p => (p.1, putFm p.2 fs n), t.poly⟩
def sp_form_sum : DSp := fun ds S Q => ∃ a b : Fm, ds = [fmD a, fmD b] ∧ a.length ≤ 1000 ∧ b.length ≤ 1000 ∧ ∀ S', Ext S S' → Q (fmD (sumFm a b)) S'
def sp_form_times : DSp := fun ds S Q => ∃ (f : Fm) (n : Int), ds = [fmD f, .int n] ∧ f.length ≤ 1000 ∧ n.natAbs < 2 ^ 60 ∧ ∀ S', Ext S S' → Q (fmD (timesFm f n)) S'
/-- forms that may be put in -/
structure PutOk (fs : List Fm) (n : Nat) : Prop where
  len : fs.length ≤ 100
  nb : n ≤ 100
  each : ∀ f ∈ fs, f.length = n + 1
def InOk (fs : List Fm) (f : Fm) : Prop := f.length = fs.length + 1 ∧ ∀ c ∈ f, c.natAbs < 2 ^ 60
def sp_put_in : DSp := fun ds S Q => ∃ (f : Fm) (fs : List Fm) (n : Nat), ds = [fmD f, .tup (fs.map fmD), .int n] ∧ PutOk fs n ∧ InOk fs f ∧ ∀ S', Ext S S' → Q (fmD (putFm f fs n)) S'
def sp_put_in_pairs : DSp := fun ds S Q => ∃ (ps : List (Int × Fm)) (fs : List Fm) (n : Nat), ds = [.tup (ps.map prD), .tup (fs.map fmD), .int n] ∧ PutOk fs n ∧ (∀ p ∈ ps, InOk fs p.2) ∧ ps.length ≤ 1000 ∧ ∀ S', Ext S S' → Q (.tup ((ps.map fun p => (p.1, putFm p.2 fs n)).map prD)) S'
def sp_put_in_tally : DSp := fun ds S Q => ∃ (ts : List Tm) (fs : List Fm) (n : Nat), ds = [taD ts, .tup (fs.map fmD), .int n] ∧ PutOk fs n ∧ (∀ t ∈ ts, (∀ f ∈ t.rows, InOk fs f) ∧ (∀ p ∈ t.gates, InOk fs p.2) ∧ (∀ p ∈ t.steps, InOk fs p.2) ∧ t.rows.length ≤ 1000 ∧ t.gates.length ≤ 1000 ∧ t.steps.length ≤ 1000) ∧ ts.length ≤ 1000 ∧
  ∀ S', Ext S S' → Q (taD (ts.map (putTm fs n))) S'
def sp_Lforms : DSp := fun ds S Q => ∃ (m : Addr) (c k n : Nat), ds = [.ref m, .int c, .int k] ∧ c ≤ 10 ∧ k ≤ 10 ∧ MOk S m n ∧ n + 10000 ≤ dmax ∧ ∀ (fs : List Fm) (S' : Stt), fs.length = c → (∀ f ∈ fs, FmOk k 12 f) → ExtB m S S' → MOk S' m (n + 10000) → Q (.tup (fs.map fmD)) S'
end LW

namespace LW
open PySem PySem.Spec PyProof.Rows L2 DL
def topS (i : Nat) : Stmt := PySem.Challenge.pw_pointtally_k59_whole_tallies_with_forms.main.body.getD i (.Pass ⟨0, 0, 0, 0⟩)
structure Bt (mg : Str → Option Value) : Prop where
  abs : mg "abs" = none
  bool : mg "bool" = none
  int : mg "int" = none
  isinstance : mg "isinstance" = none
  len : mg "len" = none
  range : mg "range" = none
  repr : mg "repr" = none
  sorted : mg "sorted" = none
  sum : mg "sum" = none
  tuple : mg "tuple" = none
  zip : mg "zip" = none
abbrev s_form_sum : Stmt := topS 1
abbrev n_form_sum : List Str := ["one", "other", "a", "b"]
abbrev p_form_sum : List Str := ["one", "other"]
theorem sc_form_sum : FnScope n_form_sum p_form_sum (defScope s_form_sum) := ⟨rfl, rfl, rfl, by decide +kernel, rfl, by decide +kernel, by decide +kernel⟩
abbrev s_form_times : Stmt := topS 2
abbrev n_form_times : List Str := ["form", "n", "c"]
abbrev p_form_times : List Str := ["form", "n"]
theorem sc_form_times : FnScope n_form_times p_form_times (defScope s_form_times) := ⟨rfl, rfl, rfl, by decide +kernel, rfl, by decide +kernel, by decide +kernel⟩
abbrev s_Lbegun : Stmt := topS 8
abbrev n_Lbegun : List Str := ["script", "k_so", "cells", "great", "seed", "cell"]
abbrev p_Lbegun : List Str := ["script", "k_so"]
theorem sc_Lbegun : FnScope n_Lbegun p_Lbegun (defScope s_Lbegun) := ⟨rfl, rfl, rfl, by decide +kernel, rfl, by decide +kernel, by decide +kernel⟩
abbrev s_Ldraw : Stmt := topS 9
abbrev n_Ldraw : List Str := ["m", "bound", "spot", "cells", "extra", "cell", "blend", "found"]
abbrev p_Ldraw : List Str := ["m", "bound"]
theorem sc_Ldraw : FnScope n_Ldraw p_Ldraw (defScope s_Ldraw) := ⟨rfl, rfl, rfl, by decide +kernel, rfl, by decide +kernel, by decide +kernel⟩
abbrev s_Llike : Stmt := topS 11
abbrev n_Llike : List Str := ["got", "due"]
abbrev p_Llike : List Str := ["got", "due"]
theorem sc_Llike : FnScope n_Llike p_Llike (defScope s_Llike) := ⟨rfl, rfl, rfl, by decide +kernel, rfl, by decide +kernel, by decide +kernel⟩
abbrev s_Lgcd : Stmt := topS 12
abbrev n_Lgcd : List Str := ["a", "c"]
abbrev p_Lgcd : List Str := ["a", "c"]
theorem sc_Lgcd : FnScope n_Lgcd p_Lgcd (defScope s_Lgcd) := ⟨rfl, rfl, rfl, by decide +kernel, rfl, by decide +kernel, by decide +kernel⟩
abbrev s_Lform_value : Stmt := topS 15
abbrev n_Lform_value : List Str := ["form", "t", "i"]
abbrev p_Lform_value : List Str := ["form", "t"]
theorem sc_Lform_value : FnScope n_Lform_value p_Lform_value (defScope s_Lform_value) := ⟨rfl, rfl, rfl, by decide +kernel, rfl, by decide +kernel, by decide +kernel⟩
abbrev s_Lis_int : Stmt := topS 24
abbrev n_Lis_int : List Str := ["x"]
abbrev p_Lis_int : List Str := ["x"]
theorem sc_Lis_int : FnScope n_Lis_int p_Lis_int (defScope s_Lis_int) := ⟨rfl, rfl, rfl, by decide +kernel, rfl, by decide +kernel, by decide +kernel⟩
abbrev s_put_in : Stmt := topS 3
abbrev n_put_in : List Str := ["form", "forms", "n", "found", "c", "one"]
abbrev p_put_in : List Str := ["form", "forms", "n"]
theorem sc_put_in : FnScope n_put_in p_put_in (defScope s_put_in) := ⟨rfl, rfl, rfl, by decide +kernel, rfl, by decide +kernel, by decide +kernel⟩
abbrev s_Lof : Stmt := topS 10
abbrev n_Lof : List Str := ["m", "some"]
abbrev p_Lof : List Str := ["m", "some"]
theorem sc_Lof : FnScope n_Lof p_Lof (defScope s_Lof) := ⟨rfl, rfl, rfl, by decide +kernel, rfl, by decide +kernel, by decide +kernel⟩
abbrev s_Llowest : Stmt := topS 13
abbrev n_Llowest : List Str := ["a", "c", "part"]
abbrev p_Llowest : List Str := ["a", "c"]
theorem sc_Llowest : FnScope n_Llowest p_Llowest (defScope s_Llowest) := ⟨rfl, rfl, rfl, by decide +kernel, rfl, by decide +kernel, by decide +kernel⟩
abbrev s_Lsigned : Stmt := topS 18
abbrev n_Lsigned : List Str := ["m", "most", "number"]
abbrev p_Lsigned : List Str := ["m", "most"]
theorem sc_Lsigned : FnScope n_Lsigned p_Lsigned (defScope s_Lsigned) := ⟨rfl, rfl, rfl, by decide +kernel, rfl, by decide +kernel, by decide +kernel⟩
abbrev s_Lis_form : Stmt := topS 25
abbrev n_Lis_form : List Str := ["value_so", "many", "x"]
abbrev p_Lis_form : List Str := ["value_so", "many"]
theorem sc_Lis_form : FnScope n_Lis_form p_Lis_form (defScope s_Lis_form) := ⟨rfl, rfl, rfl, by decide +kernel, rfl, by decide +kernel, by decide +kernel⟩
abbrev s_Lis_poly : Stmt := topS 28
abbrev n_Lis_poly : List Str := ["value_so", "many", "ahead", "pair", "fraction_so", "exponents", "x"]
abbrev p_Lis_poly : List Str := ["value_so", "many"]
theorem sc_Lis_poly : FnScope n_Lis_poly p_Lis_poly (defScope s_Lis_poly) := ⟨rfl, rfl, rfl, by decide +kernel, rfl, by decide +kernel, by decide +kernel⟩
abbrev s_put_in_pairs : Stmt := topS 5
abbrev n_put_in_pairs : List Str := ["pairs", "forms", "n", "part", "form"]
abbrev p_put_in_pairs : List Str := ["pairs", "forms", "n"]
theorem sc_put_in_pairs : FnScope n_put_in_pairs p_put_in_pairs (defScope s_put_in_pairs) := ⟨rfl, rfl, rfl, by decide +kernel, rfl, by decide +kernel, by decide +kernel⟩
abbrev s_Lplus : Stmt := topS 14
abbrev n_Lplus : List Str := ["f", "g"]
abbrev p_Lplus : List Str := ["f", "g"]
theorem sc_Lplus : FnScope n_Lplus p_Lplus (defScope s_Lplus) := ⟨rfl, rfl, rfl, by decide +kernel, rfl, by decide +kernel, by decide +kernel⟩
abbrev s_Lform : Stmt := topS 19
abbrev n_Lform : List Str := ["m", "many", "most", "i"]
abbrev p_Lform : List Str := ["m", "many", "most"]
theorem sc_Lform : FnScope n_Lform p_Lform (defScope s_Lform) := ⟨rfl, rfl, rfl, by decide +kernel, rfl, by decide +kernel, by decide +kernel⟩
abbrev s_Lpoly : Stmt := topS 20
abbrev n_Lpoly : List Str := ["m", "many", "most", "lot", "step", "exponents", "left", "i", "top", "e", "key"]
abbrev p_Lpoly : List Str := ["m", "many", "most"]
theorem sc_Lpoly : FnScope n_Lpoly p_Lpoly (defScope s_Lpoly) := ⟨rfl, rfl, rfl, by decide +kernel, rfl, by decide +kernel, by decide +kernel⟩
abbrev s_Lchoices : Stmt := topS 23
abbrev n_Lchoices : List Str := ["m", "k_so", "count", "found", "step", "i"]
abbrev p_Lchoices : List Str := ["m", "k_so", "count"]
theorem sc_Lchoices : FnScope n_Lchoices p_Lchoices (defScope s_Lchoices) := ⟨rfl, rfl, rfl, by decide +kernel, rfl, by decide +kernel, by decide +kernel⟩
abbrev s_Lare_forms : Stmt := topS 26
abbrev n_Lare_forms : List Str := ["value_so", "many", "x"]
abbrev p_Lare_forms : List Str := ["value_so", "many"]
theorem sc_Lare_forms : FnScope n_Lare_forms p_Lare_forms (defScope s_Lare_forms) := ⟨rfl, rfl, rfl, by decide +kernel, rfl, by decide +kernel, by decide +kernel⟩
abbrev s_Lare_pairs : Stmt := topS 27
abbrev n_Lare_pairs : List Str := ["value_so", "many", "least", "pair"]
abbrev p_Lare_pairs : List Str := ["value_so", "many", "least"]
theorem sc_Lare_pairs : FnScope n_Lare_pairs p_Lare_pairs (defScope s_Lare_pairs) := ⟨rfl, rfl, rfl, by decide +kernel, rfl, by decide +kernel, by decide +kernel⟩
abbrev s_put_in_tally : Stmt := topS 6
abbrev n_put_in_tally : List Str := ["tally", "forms", "n", "found", "rows", "gates", "steps", "poly", "inner", "row"]
abbrev p_put_in_tally : List Str := ["tally", "forms", "n"]
theorem sc_put_in_tally : FnScope n_put_in_tally p_put_in_tally (defScope s_put_in_tally) := ⟨rfl, rfl, rfl, by decide +kernel, rfl, by decide +kernel, by decide +kernel⟩
abbrev s_Lpoly_value : Stmt := topS 16
abbrev n_Lpoly_value : List Str := ["poly", "some", "total", "fraction_so", "exponents", "top", "i", "step"]
abbrev p_Lpoly_value : List Str := ["poly", "some"]
theorem sc_Lpoly_value : FnScope n_Lpoly_value p_Lpoly_value (defScope s_Lpoly_value) := ⟨rfl, rfl, rfl, by decide +kernel, rfl, by decide +kernel, by decide +kernel⟩
abbrev s_Lterm : Stmt := topS 21
abbrev n_Lterm : List Str := ["m", "k_so", "rows", "gates", "steps", "step"]
abbrev p_Lterm : List Str := ["m", "k_so"]
theorem sc_Lterm : FnScope n_Lterm p_Lterm (defScope s_Lterm) := ⟨rfl, rfl, rfl, by decide +kernel, rfl, by decide +kernel, by decide +kernel⟩
abbrev s_Lis_term : Stmt := topS 29
abbrev n_Lis_term : List Str := ["value_so", "k_so", "rows", "gates", "steps", "poly"]
abbrev p_Lis_term : List Str := ["value_so", "k_so"]
theorem sc_Lis_term : FnScope n_Lis_term p_Lis_term (defScope s_Lis_term) := ⟨rfl, rfl, rfl, by decide +kernel, rfl, by decide +kernel, by decide +kernel⟩
abbrev s_Lforms : Stmt := topS 31
abbrev n_Lforms : List Str := ["m", "count", "many", "found", "word", "step", "form", "place", "c", "i"]
abbrev p_Lforms : List Str := ["m", "count", "many"]
theorem sc_Lforms : FnScope n_Lforms p_Lforms (defScope s_Lforms) := ⟨rfl, rfl, rfl, by decide +kernel, rfl, by decide +kernel, by decide +kernel⟩
abbrev s_Lworth : Stmt := topS 17
abbrev n_Lworth : List Str := ["tally_so", "p", "total", "rows", "gates", "steps", "poly", "low", "off", "some", "row", "n", "form"]
abbrev p_Lworth : List Str := ["tally_so", "p"]
theorem sc_Lworth : FnScope n_Lworth p_Lworth (defScope s_Lworth) := ⟨rfl, rfl, rfl, by decide +kernel, rfl, by decide +kernel, by decide +kernel⟩
abbrev s_Ltally : Stmt := topS 22
abbrev n_Ltally : List Str := ["m", "k_so", "step"]
abbrev p_Ltally : List Str := ["m", "k_so"]
theorem sc_Ltally : FnScope n_Ltally p_Ltally (defScope s_Ltally) := ⟨rfl, rfl, rfl, by decide +kernel, rfl, by decide +kernel, by decide +kernel⟩
abbrev s_Lbreach : Stmt := topS 30
abbrev n_Lbreach : List Str := ["value_so", "k_so", "wrong", "i"]
abbrev p_Lbreach : List Str := ["value_so", "k_so"]
theorem sc_Lbreach : FnScope n_Lbreach p_Lbreach (defScope s_Lbreach) := ⟨rfl, rfl, rfl, by decide +kernel, rfl, by decide +kernel, by decide +kernel⟩
abbrev s_law : Stmt := topS 32
abbrev n_law : List Str := ["script", "turn", "m", "k_so", "many", "further", "tally_so", "forms_so", "told", "q", "again_so", "both", "p", "form"]
abbrev p_law : List Str := ["script"]
theorem sc_law : FnScope n_law p_law (defScope s_law) := ⟨rfl, rfl, rfl, by decide +kernel, rfl, by decide +kernel, by decide +kernel⟩
def t_form_sum : DTS :=
  (dRet (dCB rTupOf (dCons (dLc (dZip (dCons (dVar 0) (dCons (dVar 1) dNil))) (dgTup 2 (dgCons (dgName 2) (dgCons (dgName 3) dgNil))) dYes (dBin rAdd (dVar 2) (dVar 3)) [2, 3]) dNil)))
def t_form_times : DTS :=
  (dRet (dCB rTupOf (dCons (dLc (dIter (dVar 0)) (dgName 2) dYes (dBin rMul (dVar 1) (dVar 2)) [2]) dNil)))
def t_Lbegun : DTS :=
  (dSeq (dAsg (dBin rAdd (dSl (dVar 0) (dPart (dVar 1)) dNoPart) (dSl (dVar 0) dNoPart (dPart (dVar 1)))) (dgName 2))
  (dSeq (dAsg (dLc (dIter (dVar 2)) (dgName 5) (dB (dBin (rCmp fun i j => decide (j ≤ i)) (dVar 5) (dBin rPow (dC (.int 10)) (dC (.int 18))))) (dVar 5) [5]) (dgName 3))
  (dSeq (dAsg (dBin rAdd (dC (.int 71)) (dVar 1)) (dgName 4))
  (dSeq (dFor (dIter (dVar 2)) (dgName 5) (dAsg (dBin rMod (dCB rInt (dCons (dBin rAdd (dBin rMul (dVar 4) (dC (.int 48271))) (dVar 5)) dNil)) (dC (.int 2147483647))) (dgName 4)))
  (dRet (dDisp [((dC (.str "left")), (dIf (dB (dBin rNe (dVar 3) (dLst dNil))) (dBin rIx (dVar 3) (dC (.int 0))) (dC (.int 0)))), ((dC (.str "seed")), (dVar 4)), ((dC (.str "cells")), (dBin rAdd (dVar 2) (dLst (dCons (dBin rAdd (dBin rMul (dC (.int 53)) (dVar 1)) (dC (.int 11))) dNil)))), ((dC (.str "spot")), (dC (.int 0)))]))))))
def t_Ldraw : DTS :=
  (dSeq (dIfS (dB (dBin (rCmp fun i j => decide (j < i)) (dBin rIx (dVar 0) (dC (.str "left"))) (dC (.int 0)))) (dSeq (dAsg (dBin rMod (dCB rInt (dCons (dBin rIx (dVar 0) (dC (.str "left"))) dNil)) (dVar 1)) (dgName 7))
  (dSeq (dAsg (dBin rDiv (dBin rIx (dVar 0) (dC (.str "left"))) (dVar 1)) (dgSub (dVar 0) (dC (.str "left"))))
  (dRet (dVar 7)))) dNext)
  (dSeq (dAsg (dBin rIx (dVar 0) (dC (.str "spot"))) (dgName 2))
  (dSeq (dAsg (dBin rAdd (dVar 2) (dC (.int 1))) (dgSub (dVar 0) (dC (.str "spot"))))
  (dSeq (dPar 3 4 (dCons (dBin rIx (dVar 0) (dC (.str "cells"))) (dCons (dBin rAdd (dBin rIx (dVar 0) (dC (.str "seed"))) (dBin rMul (dBin rMul (dC (.int 40503)) (dVar 2)) (dVar 2))) dNil)))
  (dSeq (dAsg (dBin rIx (dVar 3) (dBin rMod (dCB rInt (dCons (dVar 2) dNil)) (dCB rLen (dCons (dVar 3) dNil)))) (dgName 5))
  (dSeq (dAsg (dBin rMod (dCB rInt (dCons (dBin rAdd (dBin rMul (dVar 5) (dBin rAdd (dBin rMul (dC (.int 2)) (dVar 2)) (dC (.int 3)))) (dVar 4)) dNil)) (dC (.int 2147483647))) (dgName 6))
  (dSeq (dAsg (dBin rMod (dCB rInt (dCons (dBin rAdd (dBin rAdd (dBin rMul (dVar 6) (dVar 6)) (dBin rMul (dC (.int 69621)) (dVar 2))) (dBin rIx (dVar 0) (dC (.str "seed")))) dNil)) (dC (.int 2147483629))) (dgName 6))
  (dRet (dBin rMod (dBin rDiv (dBin rMod (dCB rInt (dCons (dBin rAdd (dBin rMul (dVar 6) (dC (.int 48271))) (dVar 2)) dNil)) (dC (.int 2147483647))) (dC (.int 11))) (dVar 1))))))))))
def t_Llike : DTS :=
  (dRet (dBin rEq (dCB rRepr (dCons (dVar 0) dNil)) (dCB rRepr (dCons (dVar 1) dNil))))
def t_Lgcd : DTS :=
  (dSeq (dPar 0 1 (dCons (dCB rAbs (dCons (dVar 0) dNil)) (dCons (dCB rAbs (dCons (dVar 1) dNil)) dNil)))
  (dSeq (dWhile (dB (dBin rNe (dVar 1) (dC (.int 0)))) (dPar 0 1 (dCons (dVar 1) (dCons (dBin rMod (dCB rInt (dCons (dVar 0) dNil)) (dVar 1)) dNil))))
  (dRet (dVar 0))))
def t_Lform_value : DTS :=
  (dRet (dBin rAdd (dBin rIx (dVar 0) (dC (.int 0))) (dCB rSum (dCons (dLc (dRng1 (dCons (dCB rLen (dCons (dVar 1) dNil)) dNil)) (dgName 2) dYes (dBin rMul (dBin rIx (dVar 0) (dBin rAdd (dC (.int 1)) (dVar 2))) (dBin rIx (dVar 1) (dVar 2))) [2]) dNil))))
def t_Lis_int : DTS :=
  (dRet (dAndV (dCB rIsi (dCons (dVar 0) (dCons (dC (.ty "int")) dNil))) (dNotV (dCB rIsi (dCons (dVar 0) (dCons (dC (.ty "bool")) dNil))))))
def t_put_in : DTS :=
  (dSeq (dAsg (dBin rAdd (dTup (dCons (dBin rIx (dVar 0) (dC (.int 0))) dNil)) (dBin rMul (dTup (dCons (dC (.int 0)) dNil)) (dVar 2))) (dgName 3))
  (dSeq (dFor (dZip (dCons (dSl (dVar 0) (dPart (dC (.int 1))) dNoPart) (dCons (dVar 1) dNil))) (dgTup 2 (dgCons (dgName 4) (dgCons (dgName 5) dgNil))) (dAsg (dCall sp_form_sum (dCons (dVar 3) (dCons (dCall sp_form_times (dCons (dVar 5) (dCons (dVar 4) dNil))) dNil))) (dgName 3)))
  (dRet (dVar 3))))
def t_Lof : DTS :=
  (dRet (dBin rIx (dVar 1) (dCall sp_Ldraw (dCons (dVar 0) (dCons (dCB rLen (dCons (dVar 1) dNil)) dNil)))))
def t_Llowest : DTS :=
  (dSeq (dAsg (dIf (dB (dBin (rCmp fun i j => decide (j < i)) (dVar 1) (dC (.int 0)))) (dCall sp_Lgcd (dCons (dVar 0) (dCons (dVar 1) dNil))) (dNeg (dCall sp_Lgcd (dCons (dVar 0) (dCons (dVar 1) dNil))))) (dgName 2))
  (dRet (dTup (dCons (dBin rDiv (dVar 0) (dVar 2)) (dCons (dBin rDiv (dVar 1) (dVar 2)) dNil)))))
def t_Lsigned : DTS :=
  (dSeq (dAsg (dCall sp_Ldraw (dCons (dVar 0) (dCons (dBin rAdd (dVar 1) (dC (.int 1))) dNil))) (dgName 2))
  (dRet (dIf (dB (dBin rEq (dCall sp_Ldraw (dCons (dVar 0) (dCons (dC (.int 2)) dNil))) (dC (.int 0)))) (dVar 2) (dNeg (dVar 2)))))
def t_Lis_form : DTS :=
  (dSeq (dIfS (dOr (dNot (dB (dCB rIsi (dCons (dVar 0) (dCons (dC (.ty "tuple")) dNil))))) (dB (dBin rNe (dCB rLen (dCons (dVar 0) dNil)) (dBin rAdd (dVar 1) (dC (.int 1)))))) (dRet (dC (.bl false))) dNext)
  (dRet (dBin rEq (dLc (dIter (dVar 0)) (dgName 2) (dNot (dB (dCall sp_Lis_int (dCons (dVar 2) dNil)))) (dVar 2) [2]) (dLst dNil))))
def t_Lis_poly : DTS :=
  (dSeq (dIfS (dNot (dB (dCB rIsi (dCons (dVar 0) (dCons (dC (.ty "tuple")) dNil))))) (dRet (dC (.bl false))) dNext)
  (dSeq (dAsg (dC .non) (dgName 2))
  (dSeq (dFor (dIter (dVar 0)) (dgName 3) (dSeq (dIfS (dOr (dNot (dB (dCB rIsi (dCons (dVar 3) (dCons (dC (.ty "tuple")) dNil))))) (dB (dBin rNe (dCB rLen (dCons (dVar 3) dNil)) (dC (.int 2))))) (dRet (dC (.bl false))) dNext)
  (dSeq (dAsg (dVar 3) (dgTup 2 (dgCons (dgName 4) (dgCons (dgName 5) dgNil))))
  (dSeq (dIfS (dOr (dNot (dB (dCB rIsi (dCons (dVar 4) (dCons (dC (.ty "tuple")) dNil))))) (dB (dBin rNe (dCB rLen (dCons (dVar 4) dNil)) (dC (.int 2))))) (dRet (dC (.bl false))) dNext)
  (dSeq (dIfS (dOr (dB (dBin rNe (dLc (dIter (dVar 4)) (dgName 6) (dNot (dB (dCall sp_Lis_int (dCons (dVar 6) dNil)))) (dVar 6) [6]) (dLst dNil))) (dOr (dB (dBin rLt (dBin rIx (dVar 4) (dC (.int 1))) (dC (.int 1)))) (dB (dBin rEq (dBin rIx (dVar 4) (dC (.int 0))) (dC (.int 0)))))) (dRet (dC (.bl false))) dNext)
  (dSeq (dIfS (dB (dBin rNe (dCall sp_Lgcd (dCons (dBin rIx (dVar 4) (dC (.int 0))) (dCons (dBin rIx (dVar 4) (dC (.int 1))) dNil))) (dC (.int 1)))) (dRet (dC (.bl false))) dNext)
  (dSeq (dIfS (dOr (dNot (dB (dCB rIsi (dCons (dVar 5) (dCons (dC (.ty "tuple")) dNil))))) (dB (dBin rNe (dCB rLen (dCons (dVar 5) dNil)) (dVar 1)))) (dRet (dC (.bl false))) dNext)
  (dSeq (dIfS (dB (dBin rNe (dLc (dIter (dVar 5)) (dgName 6) (dOr (dNot (dB (dCall sp_Lis_int (dCons (dVar 6) dNil)))) (dB (dBin rLt (dVar 6) (dC (.int 0))))) (dVar 6) [6]) (dLst dNil))) (dRet (dC (.bl false))) dNext)
  (dSeq (dIfS (dAnd (dB (dBin rIsNot (dVar 2) (dC .non))) (dB (dBin rLe (dVar 5) (dVar 2)))) (dRet (dC (.bl false))) dNext)
  (dAsg (dVar 5) (dgName 2)))))))))))
  (dRet (dC (.bl true))))))
def t_put_in_pairs : DTS :=
  (dRet (dCB rTupOf (dCons (dLc (dIter (dVar 0)) (dgTup 2 (dgCons (dgName 3) (dgCons (dgName 4) dgNil))) dYes (dTup (dCons (dVar 3) (dCons (dCall sp_put_in (dCons (dVar 4) (dCons (dVar 1) (dCons (dVar 2) dNil)))) dNil))) [3, 4]) dNil)))
def t_Lplus : DTS :=
  (dRet (dCall sp_Llowest (dCons (dBin rAdd (dBin rMul (dBin rIx (dVar 0) (dC (.int 0))) (dBin rIx (dVar 1) (dC (.int 1)))) (dBin rMul (dBin rIx (dVar 1) (dC (.int 0))) (dBin rIx (dVar 0) (dC (.int 1))))) (dCons (dBin rMul (dBin rIx (dVar 0) (dC (.int 1))) (dBin rIx (dVar 1) (dC (.int 1)))) dNil))))
def t_Lform : DTS :=
  (dRet (dCB rTupOf (dCons (dLc (dRng1 (dCons (dBin rAdd (dVar 1) (dC (.int 1))) dNil)) (dgName 3) dYes (dCall sp_Lsigned (dCons (dVar 0) (dCons (dVar 2) dNil))) [3]) dNil)))
def t_Lpoly : DTS :=
  (dSeq (dAsg dNewT (dgName 3))
  (dSeq (dFor (dRng1 (dCons (dCall sp_Ldraw (dCons (dVar 0) (dCons (dC (.int 4)) dNil))) dNil)) (dgName 4) (dSeq (dPar 5 6 (dCons (dLst dNil) (dCons (dVar 2) dNil)))
  (dSeq (dFor (dRng1 (dCons (dVar 1) dNil)) (dgName 7) (dSeq (dAsg (dCall sp_Ldraw (dCons (dVar 0) (dCons (dBin rAdd (dVar 6) (dC (.int 1))) dNil))) (dgName 9))
  (dSeq (dDrop (dAppend (dVar 5) (dCons (dVar 9) dNil)))
  (dAsg (dBin rSub (dVar 6) (dVar 9)) (dgName 6)))))
  (dSeq (dAsg (dBin rAdd (dC (.int 1)) (dCall sp_Ldraw (dCons (dVar 0) (dCons (dC (.int 9)) dNil)))) (dgName 8))
  (dAsg (dCall sp_Llowest (dCons (dIf (dB (dBin rEq (dCall sp_Ldraw (dCons (dVar 0) (dCons (dC (.int 2)) dNil))) (dC (.int 0)))) (dVar 8) (dNeg (dVar 8))) (dCons (dBin rAdd (dC (.int 1)) (dCall sp_Ldraw (dCons (dVar 0) (dCons (dC (.int 6)) dNil)))) dNil))) (dgSub (dVar 3) (dCB rTupOf (dCons (dVar 5) dNil))))))))
  (dRet (dCB rTupOf (dCons (dLc (dIter (dCB rSortT (dCons (dVar 3) dNil))) (dgName 10) dYes (dTup (dCons (dBin rIx (dVar 3) (dVar 10)) (dCons (dVar 10) dNil))) [10]) dNil)))))
def t_Lchoices : DTS :=
  (dSeq (dAsg (dLst dNil) (dgName 3))
  (dSeq (dFor (dRng1 (dCons (dVar 2) dNil)) (dgName 4) (dDrop (dAppend (dVar 3) (dCons (dCB rTupOf (dCons (dLc (dRng1 (dCons (dVar 1) dNil)) (dgName 5) dYes (dCall sp_Lsigned (dCons (dVar 0) (dCons (dCall sp_Lof (dCons (dVar 0) (dCons (dLst (dCons (dC (.int 3)) (dCons (dC (.int 12)) (dCons (dC (.int 12)) (dCons (dBin rPow (dC (.int 10)) (dC (.int 9))) dNil))))) dNil))) dNil))) [5]) dNil)) dNil))))
  (dRet (dVar 3))))
def t_Lare_forms : DTS :=
  (dRet (dAndV (dCB rIsi (dCons (dVar 0) (dCons (dC (.ty "tuple")) dNil))) (dBin rEq (dLc (dIter (dVar 0)) (dgName 2) (dNot (dB (dCall sp_Lis_form (dCons (dVar 2) (dCons (dVar 1) dNil))))) (dVar 2) [2]) (dLst dNil))))
def t_Lare_pairs : DTS :=
  (dSeq (dIfS (dNot (dB (dCB rIsi (dCons (dVar 0) (dCons (dC (.ty "tuple")) dNil))))) (dRet (dC (.bl false))) dNext)
  (dSeq (dFor (dIter (dVar 0)) (dgName 3) (dSeq (dIfS (dOr (dNot (dB (dCB rIsi (dCons (dVar 3) (dCons (dC (.ty "tuple")) dNil))))) (dOr (dB (dBin rNe (dCB rLen (dCons (dVar 3) dNil)) (dC (.int 2)))) (dNot (dB (dCall sp_Lis_int (dCons (dBin rIx (dVar 3) (dC (.int 0))) dNil)))))) (dRet (dC (.bl false))) dNext)
  (dIfS (dOr (dB (dBin rLt (dBin rIx (dVar 3) (dC (.int 0))) (dVar 2))) (dNot (dB (dCall sp_Lis_form (dCons (dBin rIx (dVar 3) (dC (.int 1))) (dCons (dVar 1) dNil)))))) (dRet (dC (.bl false))) dNext)))
  (dRet (dC (.bl true)))))
def t_put_in_tally : DTS :=
  (dSeq (dAsg (dLst dNil) (dgName 3))
  (dSeq (dFor (dIter (dVar 0)) (dgTup 4 (dgCons (dgName 4) (dgCons (dgName 5) (dgCons (dgName 6) (dgCons (dgName 7) dgNil))))) (dSeq (dAsg (dCB rTupOf (dCons (dLc (dIter (dVar 4)) (dgName 9) dYes (dCall sp_put_in (dCons (dVar 9) (dCons (dVar 1) (dCons (dVar 2) dNil)))) [9]) dNil)) (dgName 8))
  (dDrop (dAppend (dVar 3) (dCons (dTup (dCons (dVar 8) (dCons (dCall sp_put_in_pairs (dCons (dVar 5) (dCons (dVar 1) (dCons (dVar 2) dNil)))) (dCons (dCall sp_put_in_pairs (dCons (dVar 6) (dCons (dVar 1) (dCons (dVar 2) dNil)))) (dCons (dVar 7) dNil))))) dNil)))))
  (dRet (dCB rTupOf (dCons (dVar 3) dNil)))))
def t_Lpoly_value : DTS :=
  (dSeq (dAsg (dTup (dCons (dC (.int 0)) (dCons (dC (.int 1)) dNil))) (dgName 2))
  (dSeq (dFor (dIter (dVar 0)) (dgTup 2 (dgCons (dgName 3) (dgCons (dgName 4) dgNil))) (dSeq (dAsg (dBin rIx (dVar 3) (dC (.int 0))) (dgName 5))
  (dSeq (dFor (dRng1 (dCons (dCB rLen (dCons (dVar 4) dNil)) dNil)) (dgName 6) (dFor (dRng1 (dCons (dBin rIx (dVar 4) (dVar 6)) dNil)) (dgName 7) (dAsg (dBin rMul (dVar 5) (dBin rIx (dVar 1) (dVar 6))) (dgName 5))))
  (dAsg (dCall sp_Lplus (dCons (dVar 2) (dCons (dCall sp_Llowest (dCons (dVar 5) (dCons (dBin rIx (dVar 3) (dC (.int 1))) dNil))) dNil))) (dgName 2)))))
  (dRet (dVar 2))))
def t_Lterm : DTS :=
  (dSeq (dAsg (dCB rTupOf (dCons (dLc (dRng1 (dCons (dCall sp_Ldraw (dCons (dVar 0) (dCons (dC (.int 3)) dNil))) dNil)) (dgName 5) dYes (dCall sp_Lform (dCons (dVar 0) (dCons (dVar 1) (dCons (dC (.int 7)) dNil)))) [5]) dNil)) (dgName 2))
  (dSeq (dAsg (dCB rTupOf (dCons (dLc (dRng1 (dCons (dCall sp_Lof (dCons (dVar 0) (dCons (dLst (dCons (dC (.int 0)) (dCons (dC (.int 0)) (dCons (dC (.int 1)) (dCons (dC (.int 2)) dNil))))) dNil))) dNil)) (dgName 5) dYes (dTup (dCons (dBin rAdd (dC (.int 2)) (dCall sp_Ldraw (dCons (dVar 0) (dCons (dC (.int 4)) dNil)))) (dCons (dCall sp_Lform (dCons (dVar 0) (dCons (dVar 1) (dCons (dC (.int 9)) dNil)))) dNil))) [5]) dNil)) (dgName 3))
  (dSeq (dAsg (dCB rTupOf (dCons (dLc (dRng1 (dCons (dCall sp_Ldraw (dCons (dVar 0) (dCons (dC (.int 4)) dNil))) dNil)) (dgName 5) dYes (dTup (dCons (dBin rAdd (dC (.int 1)) (dCall sp_Ldraw (dCons (dVar 0) (dCons (dC (.int 5)) dNil)))) (dCons (dCall sp_Lform (dCons (dVar 0) (dCons (dVar 1) (dCons (dC (.int 9)) dNil)))) dNil))) [5]) dNil)) (dgName 4))
  (dRet (dTup (dCons (dVar 2) (dCons (dVar 3) (dCons (dVar 4) (dCons (dCall sp_Lpoly (dCons (dVar 0) (dCons (dCB rLen (dCons (dVar 4) dNil)) (dCons (dC (.int 3)) dNil)))) dNil)))))))))
def t_Lis_term : DTS :=
  (dSeq (dIfS (dOr (dNot (dB (dCB rIsi (dCons (dVar 0) (dCons (dC (.ty "tuple")) dNil))))) (dB (dBin rNe (dCB rLen (dCons (dVar 0) dNil)) (dC (.int 4))))) (dRet (dC (.bl false))) dNext)
  (dSeq (dAsg (dVar 0) (dgTup 4 (dgCons (dgName 2) (dgCons (dgName 3) (dgCons (dgName 4) (dgCons (dgName 5) dgNil))))))
  (dSeq (dIfS (dOr (dNot (dB (dCall sp_Lare_forms (dCons (dVar 2) (dCons (dVar 1) dNil))))) (dNot (dB (dCall sp_Lare_pairs (dCons (dVar 3) (dCons (dVar 1) (dCons (dC (.int 2)) dNil))))))) (dRet (dC (.bl false))) dNext)
  (dRet (dAndV (dCall sp_Lare_pairs (dCons (dVar 4) (dCons (dVar 1) (dCons (dC (.int 1)) dNil)))) (dCall sp_Lis_poly (dCons (dVar 5) (dCons (dCB rLen (dCons (dVar 4) dNil)) dNil))))))))
def t_Lforms : DTS :=
  (dSeq (dPar 3 4 (dCons (dLst dNil) (dCons (dCall sp_Ldraw (dCons (dVar 0) (dCons (dC (.int 4)) dNil))) dNil)))
  (dSeq (dFor (dRng1 (dCons (dVar 1) dNil)) (dgName 5) (dSeq (dAsg (dCall sp_Lform (dCons (dVar 0) (dCons (dVar 2) (dCons (dC (.int 6)) dNil)))) (dgName 6))
  (dSeq (dIfS (dAnd (dB (dBin rEq (dVar 4) (dC (.int 0)))) (dB (dBin (rCmp fun i j => decide (j < i)) (dVar 2) (dC (.int 0))))) (dSeq (dAsg (dCall sp_Ldraw (dCons (dVar 0) (dCons (dVar 2) dNil))) (dgName 7))
  (dAsg (dBin rAdd (dTup (dCons (dC (.int 0)) dNil)) (dCB rTupOf (dCons (dLc (dRng1 (dCons (dVar 2) dNil)) (dgName 9) dYes (dIf (dB (dBin rEq (dVar 9) (dVar 7))) (dC (.int 1)) (dC (.int 0))) [9]) dNil))) (dgName 6))) dNext)
  (dSeq (dIfS (dB (dBin rEq (dVar 4) (dC (.int 1)))) (dAsg (dBin rAdd (dTup (dCons (dBin rIx (dVar 6) (dC (.int 0))) dNil)) (dBin rMul (dTup (dCons (dC (.int 0)) dNil)) (dVar 2))) (dgName 6)) dNext)
  (dSeq (dIfS (dB (dBin rEq (dVar 4) (dC (.int 2)))) (dAsg (dCB rTupOf (dCons (dLc (dIter (dVar 6)) (dgName 8) dYes (dBin rMul (dC (.int 2)) (dVar 8)) [8]) dNil)) (dgName 6)) dNext)
  (dDrop (dAppend (dVar 3) (dCons (dVar 6) dNil))))))))
  (dRet (dCB rTupOf (dCons (dVar 3) dNil)))))
def t_Lworth : DTS :=
  (dSeq (dAsg (dTup (dCons (dC (.int 0)) (dCons (dC (.int 1)) dNil))) (dgName 2))
  (dSeq (dFor (dIter (dVar 0)) (dgTup 4 (dgCons (dgName 3) (dgCons (dgName 4) (dgCons (dgName 5) (dgCons (dgName 6) dgNil))))) (dSeq (dAsg (dLc (dIter (dVar 3)) (dgName 10) (dB (dBin rLt (dCall sp_Lform_value (dCons (dVar 10) (dCons (dVar 1) dNil))) (dC (.int 0)))) (dVar 10) [10]) (dgName 7))
  (dSeq (dAsg (dLc (dIter (dVar 4)) (dgTup 2 (dgCons (dgName 11) (dgCons (dgName 12) dgNil))) (dB (dBin rNe (dBin rMod (dCB rInt (dCons (dCall sp_Lform_value (dCons (dVar 12) (dCons (dVar 1) dNil))) dNil)) (dVar 11)) (dC (.int 0)))) (dC (.int 1)) [11, 12]) (dgName 8))
  (dIfS (dAnd (dB (dBin rEq (dVar 7) (dLst dNil))) (dB (dBin rEq (dVar 8) (dLst dNil)))) (dSeq (dAsg (dLc (dIter (dVar 5)) (dgTup 2 (dgCons (dgName 11) (dgCons (dgName 12) dgNil))) dYes (dBin rDiv (dCall sp_Lform_value (dCons (dVar 12) (dCons (dVar 1) dNil))) (dVar 11)) [11, 12]) (dgName 9))
  (dAsg (dCall sp_Lplus (dCons (dVar 2) (dCons (dCall sp_Lpoly_value (dCons (dVar 6) (dCons (dVar 9) dNil))) dNil))) (dgName 2))) dNext))))
  (dRet (dVar 2))))
def t_Ltally : DTS :=
  (dRet (dCB rTupOf (dCons (dLc (dRng1 (dCons (dCall sp_Ldraw (dCons (dVar 0) (dCons (dC (.int 4)) dNil))) dNil)) (dgName 2) dYes (dCall sp_Lterm (dCons (dVar 0) (dCons (dVar 1) dNil))) [2]) dNil)))
def t_Lbreach : DTS :=
  (dSeq (dIfS (dNot (dB (dCB rIsi (dCons (dVar 0) (dCons (dC (.ty "tuple")) dNil))))) (dRet (dNeg (dC (.int 1)))) dNext)
  (dSeq (dAsg (dLc (dRng1 (dCons (dCB rLen (dCons (dVar 0) dNil)) dNil)) (dgName 3) (dNot (dB (dCall sp_Lis_term (dCons (dBin rIx (dVar 0) (dVar 3)) (dCons (dVar 1) dNil))))) (dVar 3) [3]) (dgName 2))
  (dRet (dIf (dB (dBin rNe (dVar 2) (dLst dNil))) (dBin rIx (dVar 2) (dC (.int 0))) (dC .non)))))
def t_law : DTS :=
  (dSeq (dFor (dRng1 (dCons (dC (.int 3)) dNil)) (dgName 1) (dSeq (dAsg (dCall sp_Lbegun (dCons (dVar 0) (dCons (dVar 1) dNil))) (dgName 2))
  (dSeq (dPar3 3 4 5 (dCons (dCall sp_Ldraw (dCons (dVar 2) (dCons (dC (.int 4)) dNil))) (dCons (dCall sp_Ldraw (dCons (dVar 2) (dCons (dC (.int 4)) dNil))) (dCons (dCall sp_Ldraw (dCons (dVar 2) (dCons (dC (.int 4)) dNil))) dNil))))
  (dSeq (dAsg (dCall sp_Ltally (dCons (dVar 2) (dCons (dVar 3) dNil))) (dgName 6))
  (dSeq (dAsg (dCall sp_Lforms (dCons (dVar 2) (dCons (dVar 3) (dCons (dVar 4) dNil)))) (dgName 7))
  (dSeq (dAsg (dCall sp_put_in_tally (dCons (dVar 6) (dCons (dVar 7) (dCons (dVar 4) dNil)))) (dgName 8))
  (dSeq (dIfS (dB (dBin rIsNot (dCall sp_Lbreach (dCons (dVar 8) (dCons (dVar 4) dNil))) (dC .non))) (dRet (dC (.bl false))) dNext)
  (dSeq (dFor (dIter (dCall sp_Lchoices (dCons (dVar 2) (dCons (dVar 4) (dCons (dC (.int 6)) dNil))))) (dgName 9) (dSeq (dAsg (dCB rTupOf (dCons (dLc (dIter (dVar 7)) (dgName 13) dYes (dCall sp_Lform_value (dCons (dVar 13) (dCons (dVar 9) dNil))) [13]) dNil)) (dgName 12))
  (dIfS (dNot (dB (dCall sp_Llike (dCons (dCall sp_Lworth (dCons (dVar 8) (dCons (dVar 9) dNil))) (dCons (dCall sp_Lworth (dCons (dVar 6) (dCons (dVar 12) dNil))) dNil))))) (dRet (dC (.bl false))) dNext)))
  (dSeq (dAsg (dCall sp_Lforms (dCons (dVar 2) (dCons (dVar 4) (dCons (dVar 5) dNil)))) (dgName 10))
  (dSeq (dAsg (dCall sp_put_in_tally (dCons (dVar 8) (dCons (dVar 10) (dCons (dVar 5) dNil)))) (dgName 11))
  (dSeq (dIfS (dB (dBin rIsNot (dCall sp_Lbreach (dCons (dVar 11) (dCons (dVar 5) dNil))) (dC .non))) (dRet (dC (.bl false))) dNext)
  (dFor (dIter (dCall sp_Lchoices (dCons (dVar 2) (dCons (dVar 5) (dCons (dC (.int 4)) dNil))))) (dgName 9) (dSeq (dAsg (dCB rTupOf (dCons (dLc (dIter (dVar 10)) (dgName 13) dYes (dCall sp_Lform_value (dCons (dVar 13) (dCons (dVar 9) dNil))) [13]) dNil)) (dgName 12))
  (dSeq (dAsg (dCB rTupOf (dCons (dLc (dIter (dVar 7)) (dgName 13) dYes (dCall sp_Lform_value (dCons (dVar 13) (dCons (dVar 12) dNil))) [13]) dNil)) (dgName 12))
  (dIfS (dNot (dB (dCall sp_Llike (dCons (dCall sp_Lworth (dCons (dVar 11) (dCons (dVar 9) dNil))) (dCons (dCall sp_Lworth (dCons (dVar 6) (dCons (dVar 12) dNil))) dNil))))) (dRet (dC (.bl false))) dNext)))))))))))))))
  (dRet (dBin rIs (dCall sp_Lbreach (dCons (dCall sp_put_in_tally (dCons (dTup dNil) (dCons (dTup dNil) (dCons (dC (.int 2)) dNil)))) (dCons (dC (.int 2)) dNil))) (dC .non))))
end LW

namespace LW
open PySem PySem.Spec PyProof.Rows L2 DL
theorem atI_in {l : List D} {i : Int} (h0 : 0 ≤ i) (h1 : i < l.length) : ∃ v, atI l i = some v ∧ v ∈ l := by
  obtain ⟨j, rfl⟩ : ∃ j : Nat, i = j := ⟨i.toNat, by omega⟩
  have hj : j < l.length := by omega
  exact ⟨l[j], atI_nat (List.getElem?_eq_getElem hj), List.getElem_mem hj⟩
theorem atI_map {α : Type} {f : α → D} {l : List α} {i : Nat} {x : α} (h : l[i]? = some x) : atI (l.map f) (i : Int) = some (f x) := atI_nat (by rw [List.getElem?_map, h]; rfl)
theorem szl {n : Nat} (h : n ≤ 16777216) : n ≤ sizeLine := by unfold sizeLine; omega
theorem szlt {n : Nat} (h : n < 16777216) : n < sizeLine := by unfold sizeLine; omega
theorem MOk.ex {S : Stt} {m : Addr} {n : Nat} (h : MOk S m n) : ∃ l, S m = some (.dK l) := by
  obtain ⟨_, _, _, _, _, z, _⟩ := h
  exact ⟨_, z.h⟩
/-- what was new when the draws stood may be written later -/
theorem MOk.late {S S1 : Stt} {m p : Addr} {n k : Nat} {o : MO} (h : MOk S m n) (hp : S p = none) (x : ExtB m S S1) (h1 : MOk S1 m k) : MOk (ups S1 p o) m k := by
  obtain ⟨l, s, c, sp, cs, M, hn⟩ := h
  obtain ⟨l1, s1, c1, sp1, cs1, M1, hn1⟩ := h1
  obtain ⟨k', e1, e2⟩ := x.kvs _ M.h
  have pm : m ≠ p := ne_none M.h hp
  have pc : c ≠ p := ne_none M.cs hp
  rw [M1.h] at e1
  cases e1
  have ec : c1 = c := by
    have e3 : some (D.ref c1) = some (D.ref c) := e2
    cases e3
    rfl
  subst ec
  exact ⟨l1, s1, c1, sp1, cs1, ⟨by rw [ups_ne pm]; exact M1.h, by rw [ups_ne pc]; exact M1.cs, M1.l0, M1.s0, M1.s1, M1.ne, M1.cl, M1.p0⟩, hn1⟩
/-- a comprehension whose elements are drawn -/
theorem lc_mok {α : Type} {items : List D} {ok : α → Prop} {enc : α → D} {m p : Addr} {n c : Nat} {g : DTG} {te : DTE} {σ : Sd} {G : Stt → Prop} {S : Stt} {Q : DK} (hp : S p = none) (hm : MOk S m n) (hG : ∀ S1, ExtB m S S1 → G S1) (hl : items.length ≤ sizeLine)
    (st : ∀ i d S1 (K1 : DK), items[i]? = some d → i < items.length → ExtB m S S1 → MOk S1 m (n + c * i) → (∀ y S2, ok y → ExtB m S1 S2 → MOk S2 m (n + c * i + c) → K1 (enc y) S2) → g d σ S1 fun σ2 S2 => te σ2 S2 K1)
    (hd : ∀ (l : List α) S', l.length = items.length → (∀ y ∈ l, ok y) → ExtB m S S' → MOk S' m (n + c * items.length) → S' p = some (.lst (l.map enc)) → Q (.ref p) S') : lcD g dYes te σ G p Q items (ups S p (.lst [])) := by
  have pm : p ≠ m := fun e => by subst e; obtain ⟨o, ho⟩ := hm.ex; rw [hp] at ho; cases ho
  refine lcD_inv (fun i acc S' => ExtB m S S' ∧ MOk S' m (n + c * i) ∧ S' p = some (.lst acc) ∧ ∃ l : List α, acc = l.map enc ∧ l.length = i ∧ ∀ y ∈ l, ok y) _ 0 [] ⟨(ExtB.refl m S).put hp, hm.ext (Ext.new hp), ups_same, [], rfl, rfl, fun _ h => nomatch h⟩ (fun i acc S' ⟨x, _, e, _⟩ => ⟨hG _ x, e⟩) (fun i d acc S1 K1 K2 e ⟨x, hm1, e1, l, ea, el, ho⟩ h1 h2 => ?_) fun acc S' ⟨x, hm1, e, l, ea, el, ho⟩ => ?_
  · have hlt : i < items.length := (List.getElem?_eq_some_iff.mp e).1
    refine st i d S1 _ e hlt x (by simpa using hm1) fun y S2 oy x2 hm2 => ?_
    have e2 : S2 p = some (.lst acc) := x2.old _ _ pm e1
    have x12 := x.trans x2
    refine h1 (enc y) S2 e2 (Nat.lt_of_lt_of_le (by rw [ea, List.length_map, el]; omega) hl) ⟨x12.put hp, hm.late hp x12 (by rw [Nat.zero_add, Nat.mul_succ, ← Nat.add_assoc]; exact hm2), ups_same, l ++ [y], by rw [ea, List.map_append]; rfl, by simp [el], fun z hz => ?_⟩
    rcases List.mem_append.mp hz with h | h
    · exact ho z h
    · simp at h; subst h; exact oy
  · rw [Nat.zero_add] at hm1 el
    exact hd l S' el ho x hm1 (by rw [e, ea])
theorem len_Lgcd : ∀ ds S Q, sp_Lgcd ds S Q → ds.length = p_Lgcd.length := fun ds S Q ⟨_, _, e, _⟩ => by subst e; rfl
theorem run_Lgcd {ds : List D} {S : Stt} {Q : DK} (h : sp_Lgcd ds S Q) : t_Lgcd { nx := fun _ S2 => Q .non S2, rt := Q } (startD n_Lgcd ds) S := by
  obtain ⟨a, c, rfl, q⟩ := h
  unfold t_Lgcd
  simp only [dSeq, dAsg, dRet, dDrop, dIfS, dPar, dPar3, dgName, dgTup, dgCons, dgNil, dBin, dVar, dC, dCB, dCons, dNil, dB, dIf, dNeg, dTup, dLst, dCall, dFor, dIter, dRng1, dLc, dAppend, dNext, dAnd, dOr, dNot, dAndV, dNotV, dgSub, dSl, dPart, dNoPart, wipeD, dZip, dNewT, dNewK, sd1, sd2, sd3, sd4, List.getElem?_cons_succ, List.getElem?_cons_zero, Option.some.injEq, exists_eq_left', List.set_cons_succ, List.set_cons_zero, List.replicate_succ, List.replicate_zero, Nat.reduceAdd, Nat.reduceSub, xi_add, xt_add, xi_sub, xi_mod, xi_div, xi_cmp, xi_mul, xi_lt, xi_le, xsl_fz, xsl_tup, xsl_ref, xadd_ref, xmul_tup, xpow, xisnot_non, xis_non, xtup_ref, xtup_tup, xlen_tup, xlen_ref, xint_int, xabs_int, ix_t0, ix_t1, D.bl.injEq, D.int.injEq, D.tup.injEq, D.ref.injEq, List.length_cons, List.length_nil, List.cons.injEq, and_true, true_and, and_assoc, exists_and_left, x_tt, x_ft, reduceIte, Bool.false_eq_true, Bool.not_true, Bool.not_false, xwalk_tup, xwalk_ref]
  refine while_inv (fun n σ S' => S' = S ∧ ∃ x y : Nat, σ = [some (.int x), some (.int y)] ∧ y = n ∧ Nat.gcd x y = Nat.gcd a.natAbs c.natAbs) (fun n σ S' N ⟨eS, x, y, eσ, ey, eg⟩ hN => ?_) (n := c.natAbs) ⟨rfl, _, _, rfl, rfl, rfl⟩
  subst eS eσ ey
  simp only [dSeq, dAsg, dRet, dDrop, dIfS, dPar, dPar3, dgName, dgTup, dgCons, dgNil, dBin, dVar, dC, dCB, dCons, dNil, dB, dIf, dNeg, dTup, dLst, dCall, dFor, dIter, dRng1, dLc, dAppend, dNext, dAnd, dOr, dNot, dAndV, dNotV, dgSub, dSl, dPart, dNoPart, wipeD, dZip, dNewT, dNewK, sd1, sd2, sd3, sd4, List.getElem?_cons_succ, List.getElem?_cons_zero, Option.some.injEq, exists_eq_left', List.set_cons_succ, List.set_cons_zero, List.replicate_succ, List.replicate_zero, Nat.reduceAdd, Nat.reduceSub, xi_add, xt_add, xi_sub, xi_mod, xi_div, xi_cmp, xi_mul, xi_lt, xi_le, xsl_fz, xsl_tup, xsl_ref, xadd_ref, xmul_tup, xpow, xisnot_non, xis_non, xtup_ref, xtup_tup, xlen_tup, xlen_ref, xint_int, xabs_int, ix_t0, ix_t1, D.bl.injEq, D.int.injEq, D.tup.injEq, D.ref.injEq, List.length_cons, List.length_nil, List.cons.injEq, and_true, true_and, and_assoc, exists_and_left, x_tt, x_ft, reduceIte, Bool.false_eq_true, Bool.not_true, Bool.not_false, xwalk_tup, xwalk_ref]
  refine ne_int ⟨_, rfl, ?_⟩
  by_cases h : y = 0
  · subst h
    rw [Nat.gcd_zero_right] at eg
    simp only [dSeq, dAsg, dRet, dDrop, dIfS, dPar, dPar3, dgName, dgTup, dgCons, dgNil, dBin, dVar, dC, dCB, dCons, dNil, dB, dIf, dNeg, dTup, dLst, dCall, dFor, dIter, dRng1, dLc, dAppend, dNext, dAnd, dOr, dNot, dAndV, dNotV, dgSub, dSl, dPart, dNoPart, wipeD, dZip, dNewT, dNewK, sd1, sd2, sd3, sd4, List.getElem?_cons_succ, List.getElem?_cons_zero, Option.some.injEq, exists_eq_left', List.set_cons_succ, List.set_cons_zero, List.replicate_succ, List.replicate_zero, Nat.reduceAdd, Nat.reduceSub, xi_add, xt_add, xi_sub, xi_mod, xi_div, xi_cmp, xi_mul, xi_lt, xi_le, xsl_fz, xsl_tup, xsl_ref, xadd_ref, xmul_tup, xpow, xisnot_non, xis_non, xtup_ref, xtup_tup, xlen_tup, xlen_ref, xint_int, xabs_int, ix_t0, ix_t1, D.bl.injEq, D.int.injEq, D.tup.injEq, D.ref.injEq, List.length_cons, List.length_nil, List.cons.injEq, and_true, true_and, and_assoc, exists_and_left, x_tt, x_ft, reduceIte, Bool.false_eq_true, Bool.not_true, Bool.not_false, xwalk_tup, xwalk_ref, Int.natCast_zero, beq_self_eq_true]
    unfold gcdI at q
    rw [← eg] at q
    exact q
  · have e : ((y : Int) == 0) = false := by simp; omega
    rw [e]
    simp only [dSeq, dAsg, dRet, dDrop, dIfS, dPar, dPar3, dgName, dgTup, dgCons, dgNil, dBin, dVar, dC, dCB, dCons, dNil, dB, dIf, dNeg, dTup, dLst, dCall, dFor, dIter, dRng1, dLc, dAppend, dNext, dAnd, dOr, dNot, dAndV, dNotV, dgSub, dSl, dPart, dNoPart, wipeD, dZip, dNewT, dNewK, sd1, sd2, sd3, sd4, List.getElem?_cons_succ, List.getElem?_cons_zero, Option.some.injEq, exists_eq_left', List.set_cons_succ, List.set_cons_zero, List.replicate_succ, List.replicate_zero, Nat.reduceAdd, Nat.reduceSub, xi_add, xt_add, xi_sub, xi_mod, xi_div, xi_cmp, xi_mul, xi_lt, xi_le, xsl_fz, xsl_tup, xsl_ref, xadd_ref, xmul_tup, xpow, xisnot_non, xis_non, xtup_ref, xtup_tup, xlen_tup, xlen_ref, xint_int, xabs_int, ix_t0, ix_t1, D.bl.injEq, D.int.injEq, D.tup.injEq, D.ref.injEq, List.length_cons, List.length_nil, List.cons.injEq, and_true, true_and, and_assoc, exists_and_left, x_tt, x_ft, reduceIte, Bool.false_eq_true, Bool.not_true, Bool.not_false, xwalk_tup, xwalk_ref]
    refine ⟨by omega, hN (x % y) _ _ (Nat.mod_lt _ (by omega)) ⟨rfl, y, x % y, by simp, rfl, ?_⟩⟩
    rw [← eg, Nat.gcd_comm y, Nat.gcd_comm x, ← Nat.gcd_rec]
theorem len_Llowest : ∀ ds S Q, sp_Llowest ds S Q → ds.length = p_Llowest.length := fun ds S Q ⟨_, _, e, _⟩ => by subst e; rfl
theorem gcdI_pos {a c : Int} (h : 0 < c) : 0 < gcdI a c := by
  unfold gcdI
  have := Nat.gcd_pos_of_pos_right (m := a.natAbs) (n := c.natAbs) (by omega)
  omega
theorem gcdI_le {a c : Int} (h : 0 < c) : (gcdI a c).natAbs ≤ c.natAbs := by
  unfold gcdI
  rw [Int.natAbs_natCast]
  exact Nat.le_of_dvd (by omega) (Nat.gcd_dvd_right _ _)
theorem run_Llowest {ds : List D} {S : Stt} {Q : DK} (h : sp_Llowest ds S Q) : t_Llowest { nx := fun _ S2 => Q .non S2, rt := Q } (startD n_Llowest ds) S := by
  obtain ⟨a, c, rfl, hc, hb, q⟩ := h
  unfold t_Llowest
  simp only [dSeq, dAsg, dRet, dDrop, dIfS, dPar, dPar3, dgName, dgTup, dgCons, dgNil, dBin, dVar, dC, dCB, dCons, dNil, dB, dIf, dNeg, dTup, dLst, dCall, dFor, dIter, dRng1, dLc, dAppend, dNext, dAnd, dOr, dNot, dAndV, dNotV, dgSub, dSl, dPart, dNoPart, wipeD, dZip, dNewT, dNewK, sd1, sd2, sd3, sd4, List.getElem?_cons_succ, List.getElem?_cons_zero, Option.some.injEq, exists_eq_left', List.set_cons_succ, List.set_cons_zero, List.replicate_succ, List.replicate_zero, Nat.reduceAdd, Nat.reduceSub, xi_add, xt_add, xi_sub, xi_mod, xi_div, xi_cmp, xi_mul, xi_lt, xi_le, xsl_fz, xsl_tup, xsl_ref, xadd_ref, xmul_tup, xpow, xisnot_non, xis_non, xtup_ref, xtup_tup, xlen_tup, xlen_ref, xint_int, xabs_int, ix_t0, ix_t1, D.bl.injEq, D.int.injEq, D.tup.injEq, D.ref.injEq, List.length_cons, List.length_nil, List.cons.injEq, and_true, true_and, and_assoc, exists_and_left, x_tt, x_ft, reduceIte, Bool.false_eq_true, Bool.not_true, Bool.not_false, xwalk_tup, xwalk_ref]
  rw [decide_eq_true hc]
  simp only [x_tt]
  have w : CDivW 0 (gcdI a c) := wide_div (gcdI_pos hc) (Nat.lt_of_le_of_lt (gcdI_le hc) hb) (by omega) (by omega)
  refine ⟨a, c, rfl, ?_⟩
  simp only [dSeq, dAsg, dRet, dDrop, dIfS, dPar, dPar3, dgName, dgTup, dgCons, dgNil, dBin, dVar, dC, dCB, dCons, dNil, dB, dIf, dNeg, dTup, dLst, dCall, dFor, dIter, dRng1, dLc, dAppend, dNext, dAnd, dOr, dNot, dAndV, dNotV, dgSub, dSl, dPart, dNoPart, wipeD, dZip, dNewT, dNewK, sd1, sd2, sd3, sd4, List.getElem?_cons_succ, List.getElem?_cons_zero, Option.some.injEq, exists_eq_left', List.set_cons_succ, List.set_cons_zero, List.replicate_succ, List.replicate_zero, Nat.reduceAdd, Nat.reduceSub, xi_add, xt_add, xi_sub, xi_mod, xi_div, xi_cmp, xi_mul, xi_lt, xi_le, xsl_fz, xsl_tup, xsl_ref, xadd_ref, xmul_tup, xpow, xisnot_non, xis_non, xtup_ref, xtup_tup, xlen_tup, xlen_ref, xint_int, xabs_int, ix_t0, ix_t1, D.bl.injEq, D.int.injEq, D.tup.injEq, D.ref.injEq, List.length_cons, List.length_nil, List.cons.injEq, and_true, true_and, and_assoc, exists_and_left, x_tt, x_ft, reduceIte, Bool.false_eq_true, Bool.not_true, Bool.not_false, xwalk_tup, xwalk_ref]
  exact ⟨w, w, szl (by omega), q⟩
theorem len_Lplus : ∀ ds S Q, sp_Lplus ds S Q → ds.length = p_Lplus.length := fun ds S Q ⟨_, _, e, _⟩ => by subst e; rfl
theorem mulW {i j : Int} (h : i.natAbs < 2 ^ 3000) (g : j.natAbs < 2 ^ 3000) : MulOk i j := by
  refine .inr ?_
  have a := PySem.Flt.log2_lt_of (by omega) h
  have b := PySem.Flt.log2_lt_of (by omega) g
  unfold CMulW
  omega
theorem mul_lt6 {f g : Int} (b1 : f.natAbs < 2 ^ 3000) (b2 : g.natAbs < 2 ^ 3000) : (f * g).natAbs < 2 ^ 8000 := by
  rw [Int.natAbs_mul]
  refine Nat.lt_of_lt_of_le (Nat.mul_lt_mul_of_lt_of_le b1 (Nat.le_of_lt b2) (Nat.two_pow_pos _)) ?_
  rw [← Nat.pow_add]
  exact Nat.pow_le_pow_right (by omega) (by omega)
theorem run_Lplus {ds : List D} {S : Stt} {Q : DK} (h : sp_Lplus ds S Q) : t_Lplus { nx := fun _ S2 => Q .non S2, rt := Q } (startD n_Lplus ds) S := by
  obtain ⟨f, g, rfl, f0, g0, f2, g2, f1, g1, q⟩ := h
  unfold t_Lplus frD
  simp only [dSeq, dAsg, dRet, dDrop, dIfS, dPar, dPar3, dgName, dgTup, dgCons, dgNil, dBin, dVar, dC, dCB, dCons, dNil, dB, dIf, dNeg, dTup, dLst, dCall, dFor, dIter, dRng1, dLc, dAppend, dNext, dAnd, dOr, dNot, dAndV, dNotV, dgSub, dSl, dPart, dNoPart, wipeD, dZip, dNewT, dNewK, sd1, sd2, sd3, sd4, List.getElem?_cons_succ, List.getElem?_cons_zero, Option.some.injEq, exists_eq_left', List.set_cons_succ, List.set_cons_zero, List.replicate_succ, List.replicate_zero, Nat.reduceAdd, Nat.reduceSub, xi_add, xt_add, xi_sub, xi_mod, xi_div, xi_cmp, xi_mul, xi_lt, xi_le, xsl_fz, xsl_tup, xsl_ref, xadd_ref, xmul_tup, xpow, xisnot_non, xis_non, xtup_ref, xtup_tup, xlen_tup, xlen_ref, xint_int, xabs_int, ix_t0, ix_t1, D.bl.injEq, D.int.injEq, D.tup.injEq, D.ref.injEq, List.length_cons, List.length_nil, List.cons.injEq, and_true, true_and, and_assoc, exists_and_left, x_tt, x_ft, reduceIte, Bool.false_eq_true, Bool.not_true, Bool.not_false, xwalk_tup, xwalk_ref]
  exact ⟨mulW f1 g2, mulW g1 f2, mulW f2 g2, _, _, rfl, Int.mul_pos f0 g0, mul_lt6 f2 g2, q⟩
theorem len_Ldraw : ∀ ds S Q, sp_Ldraw ds S Q → ds.length = p_Ldraw.length := fun ds S Q ⟨_, _, _, e, _⟩ => by subst e; rfl
theorem val_left {l s sp : Int} {c : Addr} : valD (mD l s c sp) (.inr "left") = some (.int l) := rfl
theorem val_seed {l s sp : Int} {c : Addr} : valD (mD l s c sp) (.inr "seed") = some (.int s) := rfl
theorem val_cells {l s sp : Int} {c : Addr} : valD (mD l s c sp) (.inr "cells") = some (.ref c) := rfl
theorem val_spot {l s sp : Int} {c : Addr} : valD (mD l s c sp) (.inr "spot") = some (.int sp) := rfl
theorem put_left {l s sp r : Int} {c : Addr} : putD (mD l s c sp) (.inr "left") (.int r) = mD r s c sp := rfl
theorem put_spot {l s sp r : Int} {c : Addr} : putD (mD l s c sp) (.inr "spot") (.int r) = mD l s c r := rfl
theorem lenD {l s sp : Int} {c : Addr} : (mD l s c sp).length < sizeLine := szlt (Nat.lt_of_le_of_lt (show 4 ≤ 4 by omega) (by omega))
theorem run_Ldraw {ds : List D} {S : Stt} {Q : DK} (h : sp_Ldraw ds S Q) : t_Ldraw { nx := fun _ S2 => Q .non S2, rt := Q } (startD n_Ldraw ds) S := by
  obtain ⟨m, b, n, rfl, b0, bb, ⟨left, seed, c, spot, cells, M, hs⟩, hn, q⟩ := h
  have mc : c ≠ m := fun e => by subst e; have z := M.h; rw [M.cs] at z; cases z
  have bm := mc
  unfold t_Ldraw
  simp only [dSeq, dAsg, dRet, dDrop, dIfS, dPar, dPar3, dgName, dgTup, dgCons, dgNil, dBin, dVar, dC, dCB, dCons, dNil, dB, dIf, dNeg, dTup, dLst, dCall, dFor, dIter, dRng1, dLc, dAppend, dNext, dAnd, dOr, dNot, dAndV, dNotV, dgSub, dSl, dPart, dNoPart, wipeD, dZip, dNewT, dNewK, sd1, sd2, sd3, sd4, List.getElem?_cons_succ, List.getElem?_cons_zero, Option.some.injEq, exists_eq_left', List.set_cons_succ, List.set_cons_zero, List.replicate_succ, List.replicate_zero, Nat.reduceAdd, Nat.reduceSub, xi_add, xt_add, xi_sub, xi_mod, xi_div, xi_cmp, xi_mul, xi_lt, xi_le, xsl_fz, xsl_tup, xsl_ref, xadd_ref, xmul_tup, xpow, xisnot_non, xis_non, xtup_ref, xtup_tup, xlen_tup, xlen_ref, xint_int, xabs_int, ix_t0, ix_t1, D.bl.injEq, D.int.injEq, D.tup.injEq, D.ref.injEq, List.length_cons, List.length_nil, List.cons.injEq, and_true, true_and, and_assoc, exists_and_left, x_tt, x_ft, reduceIte, Bool.false_eq_true, Bool.not_true, Bool.not_false, xwalk_tup, xwalk_ref]
  refine ix_dK M.h rfl val_left ?_
  simp only [dSeq, dAsg, dRet, dDrop, dIfS, dPar, dPar3, dgName, dgTup, dgCons, dgNil, dBin, dVar, dC, dCB, dCons, dNil, dB, dIf, dNeg, dTup, dLst, dCall, dFor, dIter, dRng1, dLc, dAppend, dNext, dAnd, dOr, dNot, dAndV, dNotV, dgSub, dSl, dPart, dNoPart, wipeD, dZip, dNewT, dNewK, sd1, sd2, sd3, sd4, List.getElem?_cons_succ, List.getElem?_cons_zero, Option.some.injEq, exists_eq_left', List.set_cons_succ, List.set_cons_zero, List.replicate_succ, List.replicate_zero, Nat.reduceAdd, Nat.reduceSub, xi_add, xt_add, xi_sub, xi_mod, xi_div, xi_cmp, xi_mul, xi_lt, xi_le, xsl_fz, xsl_tup, xsl_ref, xadd_ref, xmul_tup, xpow, xisnot_non, xis_non, xtup_ref, xtup_tup, xlen_tup, xlen_ref, xint_int, xabs_int, ix_t0, ix_t1, D.bl.injEq, D.int.injEq, D.tup.injEq, D.ref.injEq, List.length_cons, List.length_nil, List.cons.injEq, and_true, true_and, and_assoc, exists_and_left, x_tt, x_ft, reduceIte, Bool.false_eq_true, Bool.not_true, Bool.not_false, xwalk_tup, xwalk_ref]
  by_cases h : 0 < left
  · rw [decide_eq_true h]
    simp only [dSeq, dAsg, dRet, dDrop, dIfS, dPar, dPar3, dgName, dgTup, dgCons, dgNil, dBin, dVar, dC, dCB, dCons, dNil, dB, dIf, dNeg, dTup, dLst, dCall, dFor, dIter, dRng1, dLc, dAppend, dNext, dAnd, dOr, dNot, dAndV, dNotV, dgSub, dSl, dPart, dNoPart, wipeD, dZip, dNewT, dNewK, sd1, sd2, sd3, sd4, List.getElem?_cons_succ, List.getElem?_cons_zero, Option.some.injEq, exists_eq_left', List.set_cons_succ, List.set_cons_zero, List.replicate_succ, List.replicate_zero, Nat.reduceAdd, Nat.reduceSub, xi_add, xt_add, xi_sub, xi_mod, xi_div, xi_cmp, xi_mul, xi_lt, xi_le, xsl_fz, xsl_tup, xsl_ref, xadd_ref, xmul_tup, xpow, xisnot_non, xis_non, xtup_ref, xtup_tup, xlen_tup, xlen_ref, xint_int, xabs_int, ix_t0, ix_t1, D.bl.injEq, D.int.injEq, D.tup.injEq, D.ref.injEq, List.length_cons, List.length_nil, List.cons.injEq, and_true, true_and, and_assoc, exists_and_left, x_tt, x_ft, reduceIte, Bool.false_eq_true, Bool.not_true, Bool.not_false, xwalk_tup, xwalk_ref]
    refine ix_dK M.h rfl val_left ?_
    simp only [dSeq, dAsg, dRet, dDrop, dIfS, dPar, dPar3, dgName, dgTup, dgCons, dgNil, dBin, dVar, dC, dCB, dCons, dNil, dB, dIf, dNeg, dTup, dLst, dCall, dFor, dIter, dRng1, dLc, dAppend, dNext, dAnd, dOr, dNot, dAndV, dNotV, dgSub, dSl, dPart, dNoPart, wipeD, dZip, dNewT, dNewK, sd1, sd2, sd3, sd4, List.getElem?_cons_succ, List.getElem?_cons_zero, Option.some.injEq, exists_eq_left', List.set_cons_succ, List.set_cons_zero, List.replicate_succ, List.replicate_zero, Nat.reduceAdd, Nat.reduceSub, xi_add, xt_add, xi_sub, xi_mod, xi_div, xi_cmp, xi_mul, xi_lt, xi_le, xsl_fz, xsl_tup, xsl_ref, xadd_ref, xmul_tup, xpow, xisnot_non, xis_non, xtup_ref, xtup_tup, xlen_tup, xlen_ref, xint_int, xabs_int, ix_t0, ix_t1, D.bl.injEq, D.int.injEq, D.tup.injEq, D.ref.injEq, List.length_cons, List.length_nil, List.cons.injEq, and_true, true_and, and_assoc, exists_and_left, x_tt, x_ft, reduceIte, Bool.false_eq_true, Bool.not_true, Bool.not_false, xwalk_tup, xwalk_ref]
    refine ⟨b0, ix_dK M.h rfl val_left ?_⟩
    simp only [dSeq, dAsg, dRet, dDrop, dIfS, dPar, dPar3, dgName, dgTup, dgCons, dgNil, dBin, dVar, dC, dCB, dCons, dNil, dB, dIf, dNeg, dTup, dLst, dCall, dFor, dIter, dRng1, dLc, dAppend, dNext, dAnd, dOr, dNot, dAndV, dNotV, dgSub, dSl, dPart, dNoPart, wipeD, dZip, dNewT, dNewK, sd1, sd2, sd3, sd4, List.getElem?_cons_succ, List.getElem?_cons_zero, Option.some.injEq, exists_eq_left', List.set_cons_succ, List.set_cons_zero, List.replicate_succ, List.replicate_zero, Nat.reduceAdd, Nat.reduceSub, xi_add, xt_add, xi_sub, xi_mod, xi_div, xi_cmp, xi_mul, xi_lt, xi_le, xsl_fz, xsl_tup, xsl_ref, xadd_ref, xmul_tup, xpow, xisnot_non, xis_non, xtup_ref, xtup_tup, xlen_tup, xlen_ref, xint_int, xabs_int, ix_t0, ix_t1, D.bl.injEq, D.int.injEq, D.tup.injEq, D.ref.injEq, List.length_cons, List.length_nil, List.cons.injEq, and_true, true_and, and_assoc, exists_and_left, x_tt, x_ft, reduceIte, Bool.false_eq_true, Bool.not_true, Bool.not_false, xwalk_tup, xwalk_ref]
    refine ⟨wide_div b0 bb (by omega) (by omega), set_dK M.h rfl lenD ?_⟩
    rw [put_left]
    exact q _ _ (Int.emod_nonneg _ (by omega)) (Int.emod_lt_of_pos _ b0) ((ExtB.refl m S).self M.h rfl) ⟨_, _, _, _, _, ⟨ups_same, by rw [ups_ne mc]; exact M.cs, Int.ediv_nonneg M.l0 (by omega), M.s0, M.s1, M.ne, M.cl, M.p0⟩, by omega⟩
  · rw [decide_eq_false h]
    simp only [dSeq, dAsg, dRet, dDrop, dIfS, dPar, dPar3, dgName, dgTup, dgCons, dgNil, dBin, dVar, dC, dCB, dCons, dNil, dB, dIf, dNeg, dTup, dLst, dCall, dFor, dIter, dRng1, dLc, dAppend, dNext, dAnd, dOr, dNot, dAndV, dNotV, dgSub, dSl, dPart, dNoPart, wipeD, dZip, dNewT, dNewK, sd1, sd2, sd3, sd4, List.getElem?_cons_succ, List.getElem?_cons_zero, Option.some.injEq, exists_eq_left', List.set_cons_succ, List.set_cons_zero, List.replicate_succ, List.replicate_zero, Nat.reduceAdd, Nat.reduceSub, xi_add, xt_add, xi_sub, xi_mod, xi_div, xi_cmp, xi_mul, xi_lt, xi_le, xsl_fz, xsl_tup, xsl_ref, xadd_ref, xmul_tup, xpow, xisnot_non, xis_non, xtup_ref, xtup_tup, xlen_tup, xlen_ref, xint_int, xabs_int, ix_t0, ix_t1, D.bl.injEq, D.int.injEq, D.tup.injEq, D.ref.injEq, List.length_cons, List.length_nil, List.cons.injEq, and_true, true_and, and_assoc, exists_and_left, x_tt, x_ft, reduceIte, Bool.false_eq_true, Bool.not_true, Bool.not_false, xwalk_tup, xwalk_ref]
    refine ix_dK M.h rfl val_spot ?_
    simp only [dSeq, dAsg, dRet, dDrop, dIfS, dPar, dPar3, dgName, dgTup, dgCons, dgNil, dBin, dVar, dC, dCB, dCons, dNil, dB, dIf, dNeg, dTup, dLst, dCall, dFor, dIter, dRng1, dLc, dAppend, dNext, dAnd, dOr, dNot, dAndV, dNotV, dgSub, dSl, dPart, dNoPart, wipeD, dZip, dNewT, dNewK, sd1, sd2, sd3, sd4, List.getElem?_cons_succ, List.getElem?_cons_zero, Option.some.injEq, exists_eq_left', List.set_cons_succ, List.set_cons_zero, List.replicate_succ, List.replicate_zero, Nat.reduceAdd, Nat.reduceSub, xi_add, xt_add, xi_sub, xi_mod, xi_div, xi_cmp, xi_mul, xi_lt, xi_le, xsl_fz, xsl_tup, xsl_ref, xadd_ref, xmul_tup, xpow, xisnot_non, xis_non, xtup_ref, xtup_tup, xlen_tup, xlen_ref, xint_int, xabs_int, ix_t0, ix_t1, D.bl.injEq, D.int.injEq, D.tup.injEq, D.ref.injEq, List.length_cons, List.length_nil, List.cons.injEq, and_true, true_and, and_assoc, exists_and_left, x_tt, x_ft, reduceIte, Bool.false_eq_true, Bool.not_true, Bool.not_false, xwalk_tup, xwalk_ref]
    refine set_dK M.h rfl lenD ?_
    rw [put_spot]
    have e1 : ups S m (.dK (mD left seed c (spot + 1))) m = some (.dK (mD left seed c (spot + 1))) := ups_same
    have e2 : ups S m (.dK (mD left seed c (spot + 1))) c = some (.lst (cells.map D.int)) := by rw [ups_ne mc]; exact M.cs
    refine ix_dK e1 rfl val_cells ?_
    refine ix_dK e1 rfl val_seed ?_
    simp only [dSeq, dAsg, dRet, dDrop, dIfS, dPar, dPar3, dgName, dgTup, dgCons, dgNil, dBin, dVar, dC, dCB, dCons, dNil, dB, dIf, dNeg, dTup, dLst, dCall, dFor, dIter, dRng1, dLc, dAppend, dNext, dAnd, dOr, dNot, dAndV, dNotV, dgSub, dSl, dPart, dNoPart, wipeD, dZip, dNewT, dNewK, sd1, sd2, sd3, sd4, List.getElem?_cons_succ, List.getElem?_cons_zero, Option.some.injEq, exists_eq_left', List.set_cons_succ, List.set_cons_zero, List.replicate_succ, List.replicate_zero, Nat.reduceAdd, Nat.reduceSub, xi_add, xt_add, xi_sub, xi_mod, xi_div, xi_cmp, xi_mul, xi_lt, xi_le, xsl_fz, xsl_tup, xsl_ref, xadd_ref, xmul_tup, xpow, xisnot_non, xis_non, xtup_ref, xtup_tup, xlen_tup, xlen_ref, xint_int, xabs_int, ix_t0, ix_t1, D.bl.injEq, D.int.injEq, D.tup.injEq, D.ref.injEq, List.length_cons, List.length_nil, List.cons.injEq, and_true, true_and, and_assoc, exists_and_left, x_tt, x_ft, reduceIte, Bool.false_eq_true, Bool.not_true, Bool.not_false, xwalk_tup, xwalk_ref]
    have p0 := M.p0
    have sb : spot < 1125899906842625 := by unfold dmax at hn; omega
    refine ⟨.l (by omega), .r (by omega), _, e2, ?_⟩
    have hcl : 0 < ((cells.map D.int).length : Int) := by have := M.ne; simp; omega
    refine ⟨hcl, ?_⟩
    obtain ⟨v, hv, hi⟩ := atI_in (l := cells.map D.int) (Int.emod_nonneg spot (by omega)) (Int.emod_lt_of_pos spot hcl)
    obtain ⟨x, hx, rfl⟩ := List.mem_map.mp hi
    refine ix_lst e2 hv ?_
    simp only [dSeq, dAsg, dRet, dDrop, dIfS, dPar, dPar3, dgName, dgTup, dgCons, dgNil, dBin, dVar, dC, dCB, dCons, dNil, dB, dIf, dNeg, dTup, dLst, dCall, dFor, dIter, dRng1, dLc, dAppend, dNext, dAnd, dOr, dNot, dAndV, dNotV, dgSub, dSl, dPart, dNoPart, wipeD, dZip, dNewT, dNewK, sd1, sd2, sd3, sd4, List.getElem?_cons_succ, List.getElem?_cons_zero, Option.some.injEq, exists_eq_left', List.set_cons_succ, List.set_cons_zero, List.replicate_succ, List.replicate_zero, Nat.reduceAdd, Nat.reduceSub, xi_add, xt_add, xi_sub, xi_mod, xi_div, xi_cmp, xi_mul, xi_lt, xi_le, xsl_fz, xsl_tup, xsl_ref, xadd_ref, xmul_tup, xpow, xisnot_non, xis_non, xtup_ref, xtup_tup, xlen_tup, xlen_ref, xint_int, xabs_int, ix_t0, ix_t1, D.bl.injEq, D.int.injEq, D.tup.injEq, D.ref.injEq, List.length_cons, List.length_nil, List.cons.injEq, and_true, true_and, and_assoc, exists_and_left, x_tt, x_ft, reduceIte, Bool.false_eq_true, Bool.not_true, Bool.not_false, xwalk_tup, xwalk_ref]
    refine ⟨.l (by omega), .r (by omega), by omega, ?_⟩
    generalize hbl : (x * (2 * spot + 3) + (seed + 40503 * spot * spot)) % 2147483647 = bl
    have b1 : 0 ≤ bl := by omega
    have b2 : bl < 2147483647 := by omega
    refine ⟨.l (by omega), .l (by omega), ?_⟩
    refine ix_dK e1 rfl val_seed ?_
    simp only [dSeq, dAsg, dRet, dDrop, dIfS, dPar, dPar3, dgName, dgTup, dgCons, dgNil, dBin, dVar, dC, dCB, dCons, dNil, dB, dIf, dNeg, dTup, dLst, dCall, dFor, dIter, dRng1, dLc, dAppend, dNext, dAnd, dOr, dNot, dAndV, dNotV, dgSub, dSl, dPart, dNoPart, wipeD, dZip, dNewT, dNewK, sd1, sd2, sd3, sd4, List.getElem?_cons_succ, List.getElem?_cons_zero, Option.some.injEq, exists_eq_left', List.set_cons_succ, List.set_cons_zero, List.replicate_succ, List.replicate_zero, Nat.reduceAdd, Nat.reduceSub, xi_add, xt_add, xi_sub, xi_mod, xi_div, xi_cmp, xi_mul, xi_lt, xi_le, xsl_fz, xsl_tup, xsl_ref, xadd_ref, xmul_tup, xpow, xisnot_non, xis_non, xtup_ref, xtup_tup, xlen_tup, xlen_ref, xint_int, xabs_int, ix_t0, ix_t1, D.bl.injEq, D.int.injEq, D.tup.injEq, D.ref.injEq, List.length_cons, List.length_nil, List.cons.injEq, and_true, true_and, and_assoc, exists_and_left, x_tt, x_ft, reduceIte, Bool.false_eq_true, Bool.not_true, Bool.not_false, xwalk_tup, xwalk_ref]
    refine ⟨by omega, .r (by omega), by omega, ⟨by omega, by rw [show (11 : Int).natAbs = 11 from rfl]; decide⟩, b0, ?_⟩
    exact q _ _ (Int.emod_nonneg _ (by omega)) (Int.emod_lt_of_pos _ b0) ((ExtB.refl m S).self M.h rfl) ⟨_, _, _, _, _, ⟨e1, e2, M.l0, M.s0, M.s1, M.ne, M.cl, by omega⟩, by omega⟩
theorem len_Lof : ∀ ds S Q, sp_Lof ds S Q → ds.length = p_Lof.length := fun ds S Q ⟨_, _, _, _, e, _⟩ => by subst e; rfl
theorem run_Lof {ds : List D} {S : Stt} {Q : DK} (h : sp_Lof ds S Q) : t_Lof { nx := fun _ S2 => Q .non S2, rt := Q } (startD n_Lof ds) S := by
  obtain ⟨m, a, l, n, rfl, hs, l0, l1, M, hn, q⟩ := h
  have am : a ≠ m := fun e => by subst e; obtain ⟨_, _, _, _, _, z, _⟩ := M; have z := z.h; rw [hs] at z; cases z
  unfold t_Lof
  simp only [dSeq, dAsg, dRet, dDrop, dIfS, dPar, dPar3, dgName, dgTup, dgCons, dgNil, dBin, dVar, dC, dCB, dCons, dNil, dB, dIf, dNeg, dTup, dLst, dCall, dFor, dIter, dRng1, dLc, dAppend, dNext, dAnd, dOr, dNot, dAndV, dNotV, dgSub, dSl, dPart, dNoPart, wipeD, dZip, dNewT, dNewK, sd1, sd2, sd3, sd4, List.getElem?_cons_succ, List.getElem?_cons_zero, Option.some.injEq, exists_eq_left', List.set_cons_succ, List.set_cons_zero, List.replicate_succ, List.replicate_zero, Nat.reduceAdd, Nat.reduceSub, xi_add, xt_add, xi_sub, xi_mod, xi_div, xi_cmp, xi_mul, xi_lt, xi_le, xsl_fz, xsl_tup, xsl_ref, xadd_ref, xmul_tup, xpow, xisnot_non, xis_non, xtup_ref, xtup_tup, xlen_tup, xlen_ref, xint_int, xabs_int, ix_t0, ix_t1, D.bl.injEq, D.int.injEq, D.tup.injEq, D.ref.injEq, List.length_cons, List.length_nil, List.cons.injEq, and_true, true_and, and_assoc, exists_and_left, x_tt, x_ft, reduceIte, Bool.false_eq_true, Bool.not_true, Bool.not_false, xwalk_tup, xwalk_ref]
  refine ⟨_, hs, m, _, n, rfl, by omega, Nat.lt_of_le_of_lt (by omega) (show 1000 < 2 ^ 8000 from Nat.lt_of_lt_of_le (by decide : 1000 < 2 ^ 10) (Nat.pow_le_pow_right (by omega) (by omega))), M, hn, fun r S' r0 r1 x M' => ?_⟩
  obtain ⟨v, hv, hi⟩ := atI_in r0 r1
  exact ix_lst (x.old _ _ am hs) hv (q v S' hi x M')
theorem len_Lsigned : ∀ ds S Q, sp_Lsigned ds S Q → ds.length = p_Lsigned.length := fun ds S Q ⟨_, _, _, e, _⟩ => by subst e; rfl
theorem lt8000 {n : Nat} (h : n < 2 ^ 60) : n < 2 ^ 8000 := Nat.lt_of_lt_of_le h (Nat.pow_le_pow_right (by omega) (by omega))
theorem run_Lsigned {ds : List D} {S : Stt} {Q : DK} (h : sp_Lsigned ds S Q) : t_Lsigned { nx := fun _ S2 => Q .non S2, rt := Q } (startD n_Lsigned ds) S := by
  obtain ⟨m, b, n, rfl, b0, bb, M, hn, q⟩ := h
  unfold t_Lsigned
  simp only [dSeq, dAsg, dRet, dDrop, dIfS, dPar, dPar3, dgName, dgTup, dgCons, dgNil, dBin, dVar, dC, dCB, dCons, dNil, dB, dIf, dNeg, dTup, dLst, dCall, dFor, dIter, dRng1, dLc, dAppend, dNext, dAnd, dOr, dNot, dAndV, dNotV, dgSub, dSl, dPart, dNoPart, wipeD, dZip, dNewT, dNewK, sd1, sd2, sd3, sd4, List.getElem?_cons_succ, List.getElem?_cons_zero, Option.some.injEq, exists_eq_left', List.set_cons_succ, List.set_cons_zero, List.replicate_succ, List.replicate_zero, Nat.reduceAdd, Nat.reduceSub, xi_add, xt_add, xi_sub, xi_mod, xi_div, xi_cmp, xi_mul, xi_lt, xi_le, xsl_fz, xsl_tup, xsl_ref, xadd_ref, xmul_tup, xpow, xisnot_non, xis_non, xtup_ref, xtup_tup, xlen_tup, xlen_ref, xint_int, xabs_int, ix_t0, ix_t1, D.bl.injEq, D.int.injEq, D.tup.injEq, D.ref.injEq, List.length_cons, List.length_nil, List.cons.injEq, and_true, true_and, and_assoc, exists_and_left, x_tt, x_ft, reduceIte, Bool.false_eq_true, Bool.not_true, Bool.not_false, xwalk_tup, xwalk_ref]
  unfold dmax at hn
  refine ⟨m, _, n, rfl, by omega, Nat.lt_of_le_of_lt (by omega) bb, M, by unfold dmax; omega, fun r S1 r0 r1 x1 M1 => ?_⟩
  refine ⟨m, _, _, rfl, by omega, lt8000 (by decide), M1, by unfold dmax; omega, fun e S2 e0 e1 x2 M2 => ?_⟩
  refine eq_int ⟨_, rfl, ?_⟩
  cases e == 0 with
  | true => exact q _ _ (by omega) (x1.trans x2) M2
  | false => exact ⟨_, rfl, q _ _ (by omega) (x1.trans x2) M2⟩
end LW

namespace LW
open PySem PySem.Spec PyProof.Rows L2 DL
theorem len_Lbegun : ∀ ds S Q, sp_Lbegun ds S Q → ds.length = p_Lbegun.length := fun ds S Q ⟨_, _, e, _⟩ => by subst e; rfl
theorem run_Lbegun {ds : List D} {S : Stt} {Q : DK} (h : sp_Lbegun ds S Q) : t_Lbegun { nx := fun _ S2 => Q .non S2, rt := Q } (startD n_Lbegun ds) S := by
  obtain ⟨ns, k, rfl, hl, k0, k1, q⟩ := h
  unfold t_Lbegun
  simp only [dSeq, dAsg, dRet, dDrop, dIfS, dPar, dPar3, dgName, dgTup, dgCons, dgNil, dBin, dVar, dC, dCB, dCons, dNil, dB, dIf, dNeg, dTup, dLst, dCall, dFor, dIter, dRng1, dLc, dAppend, dNext, dAnd, dOr, dNot, dAndV, dNotV, dgSub, dSl, dPart, dNoPart, wipeD, dZip, dNewT, dNewK, sd1, sd2, sd3, sd4, List.getElem?_cons_succ, List.getElem?_cons_zero, Option.some.injEq, exists_eq_left', List.set_cons_succ, List.set_cons_zero, List.replicate_succ, List.replicate_zero, Nat.reduceAdd, Nat.reduceSub, xi_add, xt_add, xi_sub, xi_mod, xi_div, xi_cmp, xi_mul, xi_lt, xi_le, xsl_fz, xsl_tup, xsl_ref, xadd_ref, xmul_tup, xpow, xisnot_non, xis_non, xtup_ref, xtup_tup, xlen_tup, xlen_ref, xint_int, xabs_int, ix_t0, ix_t1, D.bl.injEq, D.int.injEq, D.tup.injEq, D.ref.injEq, List.length_cons, List.length_nil, List.cons.injEq, and_true, true_and, and_assoc, exists_and_left, x_tt, x_ft, reduceIte, Bool.false_eq_true, Bool.not_true, Bool.not_false, xwalk_tup, xwalk_ref]
  intro p1 h1 p2 h2
  refine ⟨_, ups_old h2 ups_same, _, ups_same, ?_, fun p3 h3 => ?_⟩
  · have a := cutD_len (xs := ns.map D.int) (lo := some k) (hi := none)
    have b := cutD_len (xs := ns.map D.int) (lo := none) (hi := some k)
    rw [List.length_map] at a b
    exact szl (by omega)
  refine ⟨_, ups_same, fun p4 h4 => ?_⟩
  rw [cutD_map] at h2
  rw [cutD_map, cutD_map] at h3
  rw [cutD_map, cutD_map, ← List.map_append] at h4 ⊢
  generalize hcs : cutD ns (some k) none ++ cutD ns none (some k) = cs at h4 ⊢
  have lcs : cs.length ≤ 126 := by
    have a := cutD_len (xs := ns) (lo := some k) (hi := none)
    have b := cutD_len (xs := ns) (lo := none) (hi := some k)
    rw [← hcs, List.length_append]
    omega
  have x3 : Ext S (ups (ups (ups S p1 (.lst ((cutD ns (some k) none).map D.int))) p2 (.lst ((cutD ns none (some k)).map D.int))) p3 (.lst (cs.map D.int))) := ((Ext.new h1).trans (Ext.new h2)).trans (Ext.new h3)
  generalize eS3 : (ups (ups (ups S p1 (.lst ((cutD ns (some k) none).map D.int))) p2 (.lst ((cutD ns none (some k)).map D.int))) p3 (.lst (cs.map D.int))) = S3 at x3 h4 ⊢
  have hp3 : S3 p3 = some (.lst (cs.map D.int)) := by rw [← eS3, ups_same]
  have h4' : S3 p4 = none := h4
  refine lc_pure (enc := D.int) (f := D.int) (keep := fun i => decide ((10 : Int) ^ (18 : Int).toNat ≤ i)) h4' (fun S' x => x _ _ hp3) (szl (by omega)) (fun i S1 K1 K2 hi x1 q1 q2 => ?_) fun S4 x4 h5 => ?_
  · simp only [dSeq, dAsg, dRet, dDrop, dIfS, dPar, dPar3, dgName, dgTup, dgCons, dgNil, dBin, dVar, dC, dCB, dCons, dNil, dB, dIf, dNeg, dTup, dLst, dCall, dFor, dIter, dRng1, dLc, dAppend, dNext, dAnd, dOr, dNot, dAndV, dNotV, dgSub, dSl, dPart, dNoPart, wipeD, dZip, dNewT, dNewK, sd1, sd2, sd3, sd4, List.getElem?_cons_succ, List.getElem?_cons_zero, Option.some.injEq, exists_eq_left', List.set_cons_succ, List.set_cons_zero, List.replicate_succ, List.replicate_zero, Nat.reduceAdd, Nat.reduceSub, xi_add, xt_add, xi_sub, xi_mod, xi_div, xi_cmp, xi_mul, xi_lt, xi_le, xsl_fz, xsl_tup, xsl_ref, xadd_ref, xmul_tup, xpow, xisnot_non, xis_non, xtup_ref, xtup_tup, xlen_tup, xlen_ref, xint_int, xabs_int, ix_t0, ix_t1, D.bl.injEq, D.int.injEq, D.tup.injEq, D.ref.injEq, List.length_cons, List.length_nil, List.cons.injEq, and_true, true_and, and_assoc, exists_and_left, x_tt, x_ft, reduceIte, Bool.false_eq_true, Bool.not_true, Bool.not_false, xwalk_tup, xwalk_ref]
    refine ⟨⟨by omega, by omega, by decide⟩, ?_⟩
    cases hb : decide ((10 : Int) ^ (18 : Int).toNat ≤ i) with
    | true => simp only [dSeq, dAsg, dRet, dDrop, dIfS, dPar, dPar3, dgName, dgTup, dgCons, dgNil, dBin, dVar, dC, dCB, dCons, dNil, dB, dIf, dNeg, dTup, dLst, dCall, dFor, dIter, dRng1, dLc, dAppend, dNext, dAnd, dOr, dNot, dAndV, dNotV, dgSub, dSl, dPart, dNoPart, wipeD, dZip, dNewT, dNewK, sd1, sd2, sd3, sd4, List.getElem?_cons_succ, List.getElem?_cons_zero, Option.some.injEq, exists_eq_left', List.set_cons_succ, List.set_cons_zero, List.replicate_succ, List.replicate_zero, Nat.reduceAdd, Nat.reduceSub, xi_add, xt_add, xi_sub, xi_mod, xi_div, xi_cmp, xi_mul, xi_lt, xi_le, xsl_fz, xsl_tup, xsl_ref, xadd_ref, xmul_tup, xpow, xisnot_non, xis_non, xtup_ref, xtup_tup, xlen_tup, xlen_ref, xint_int, xabs_int, ix_t0, ix_t1, D.bl.injEq, D.int.injEq, D.tup.injEq, D.ref.injEq, List.length_cons, List.length_nil, List.cons.injEq, and_true, true_and, and_assoc, exists_and_left, x_tt, x_ft, reduceIte, Bool.false_eq_true, Bool.not_true, Bool.not_false, xwalk_tup, xwalk_ref]; exact q1 hb _ (Ext.refl _)
    | false => simp only [dSeq, dAsg, dRet, dDrop, dIfS, dPar, dPar3, dgName, dgTup, dgCons, dgNil, dBin, dVar, dC, dCB, dCons, dNil, dB, dIf, dNeg, dTup, dLst, dCall, dFor, dIter, dRng1, dLc, dAppend, dNext, dAnd, dOr, dNot, dAndV, dNotV, dgSub, dSl, dPart, dNoPart, wipeD, dZip, dNewT, dNewK, sd1, sd2, sd3, sd4, List.getElem?_cons_succ, List.getElem?_cons_zero, Option.some.injEq, exists_eq_left', List.set_cons_succ, List.set_cons_zero, List.replicate_succ, List.replicate_zero, Nat.reduceAdd, Nat.reduceSub, xi_add, xt_add, xi_sub, xi_mod, xi_div, xi_cmp, xi_mul, xi_lt, xi_le, xsl_fz, xsl_tup, xsl_ref, xadd_ref, xmul_tup, xpow, xisnot_non, xis_non, xtup_ref, xtup_tup, xlen_tup, xlen_ref, xint_int, xabs_int, ix_t0, ix_t1, D.bl.injEq, D.int.injEq, D.tup.injEq, D.ref.injEq, List.length_cons, List.length_nil, List.cons.injEq, and_true, true_and, and_assoc, exists_and_left, x_tt, x_ft, reduceIte, Bool.false_eq_true, Bool.not_true, Bool.not_false, xwalk_tup, xwalk_ref]; exact q2 hb _ (Ext.refl _)
  refine ⟨_, x4 _ _ hp3, ?_⟩
  refine for_inv (fun i σ S' => S' = S4 ∧ ∃ (s : Int) (o : Option D), σ = [some (.fz (ns.map D.int)), some (.int k), some (.ref p3), some (.ref p4), some (.int s), o] ∧ 0 ≤ s ∧ s < 2147483647) ⟨rfl, _, _, rfl, by omega, by omega⟩ (fun i σ S' ⟨e, _⟩ => by rw [e]; exact x4 _ _ hp3) (fun i d σ S' N e ⟨eS, s, o, eσ, s0, s1⟩ hN => ?_) fun σ S' ⟨eS, s, o, eσ, s0, s1⟩ => ?_
  · subst eS eσ
    rw [List.getElem?_map] at e
    cases ec : cs[i]? with
    | none => rw [ec] at e; cases e
    | some x =>
      rw [ec] at e
      cases e
      simp only [dSeq, dAsg, dRet, dDrop, dIfS, dPar, dPar3, dgName, dgTup, dgCons, dgNil, dBin, dVar, dC, dCB, dCons, dNil, dB, dIf, dNeg, dTup, dLst, dCall, dFor, dIter, dRng1, dLc, dAppend, dNext, dAnd, dOr, dNot, dAndV, dNotV, dgSub, dSl, dPart, dNoPart, wipeD, dZip, dNewT, dNewK, sd1, sd2, sd3, sd4, List.getElem?_cons_succ, List.getElem?_cons_zero, Option.some.injEq, exists_eq_left', List.set_cons_succ, List.set_cons_zero, List.replicate_succ, List.replicate_zero, Nat.reduceAdd, Nat.reduceSub, xi_add, xt_add, xi_sub, xi_mod, xi_div, xi_cmp, xi_mul, xi_lt, xi_le, xsl_fz, xsl_tup, xsl_ref, xadd_ref, xmul_tup, xpow, xisnot_non, xis_non, xtup_ref, xtup_tup, xlen_tup, xlen_ref, xint_int, xabs_int, ix_t0, ix_t1, D.bl.injEq, D.int.injEq, D.tup.injEq, D.ref.injEq, List.length_cons, List.length_nil, List.cons.injEq, and_true, true_and, and_assoc, exists_and_left, x_tt, x_ft, reduceIte, Bool.false_eq_true, Bool.not_true, Bool.not_false, xwalk_tup, xwalk_ref]
      exact ⟨.r (by omega), by omega, hN _ _ ⟨rfl, _, _, rfl, by omega, by omega⟩⟩
  subst eS eσ
  simp only [dSeq, dAsg, dRet, dDrop, dIfS, dPar, dPar3, dgName, dgTup, dgCons, dgNil, dBin, dVar, dC, dCB, dCons, dNil, dB, dIf, dNeg, dTup, dLst, dCall, dFor, dIter, dRng1, dLc, dAppend, dNext, dAnd, dOr, dNot, dAndV, dNotV, dgSub, dSl, dPart, dNoPart, wipeD, dZip, dNewT, dNewK, sd1, sd2, sd3, sd4, List.getElem?_cons_succ, List.getElem?_cons_zero, Option.some.injEq, exists_eq_left', List.set_cons_succ, List.set_cons_zero, List.replicate_succ, List.replicate_zero, Nat.reduceAdd, Nat.reduceSub, xi_add, xt_add, xi_sub, xi_mod, xi_div, xi_cmp, xi_mul, xi_lt, xi_le, xsl_fz, xsl_tup, xsl_ref, xadd_ref, xmul_tup, xpow, xisnot_non, xis_non, xtup_ref, xtup_tup, xlen_tup, xlen_ref, xint_int, xabs_int, ix_t0, ix_t1, D.bl.injEq, D.int.injEq, D.tup.injEq, D.ref.injEq, List.length_cons, List.length_nil, List.cons.injEq, and_true, true_and, and_assoc, exists_and_left, x_tt, x_ft, reduceIte, Bool.false_eq_true, Bool.not_true, Bool.not_false, xwalk_tup, xwalk_ref, dDisp, dPairs]
  intro p5 h6
  refine ⟨szl (by omega), fun p6 h7 => ?_⟩
  have n56 : p5 ≠ p6 := fun e => by subst e; rw [ups_same] at h7; cases h7
  have h4s : S' p4 = some (.lst ((cs.filter fun i => decide ((10 : Int) ^ (18 : Int).toNat ≤ i)).map D.int)) := h5
  have n45 : p4 ≠ p5 := fun e => by subst e; rw [h4s] at h6; cases h6
  have h7' : S' p6 = none := by rw [← h7, ups_ne (Ne.symm n56)]
  have n46 : p4 ≠ p6 := fun e => by subst e; rw [h4s] at h7'; cases h7'
  have n35 : p3 ≠ p5 := fun e => by subst e; rw [x4 _ _ hp3] at h6; cases h6
  have n36 : p3 ≠ p6 := fun e => by subst e; rw [x4 _ _ hp3] at h7'; cases h7'
  generalize hgr : (cs.filter fun i => decide ((10 : Int) ^ (18 : Int).toNat ≤ i)) = gr at h4s
  refine ne_nilL (l := gr.map D.int) (by rw [ups_ne n46, ups_ne n45]; exact h4s) ups_same (pures_ints _) (by rw [deps_ints]; omega) ?_
  have rest : ∀ left : Int, 0 ≤ left → ∀ p7, ups (ups S' p5 (.dK [])) p6 (.lst []) p7 = none → True → ∀ S8, S8 = ups (ups (ups S' p5 (.dK [])) p6 (.lst [])) p7 (.lst [.int (53 * k + 11)]) → ∃ xs, S8 p3 = some (.lst xs) ∧ ∃ ys, S8 p7 = some (.lst ys) ∧ xs.length + ys.length ≤ sizeLine ∧ ∀ p, S8 p = none → (ups S8 p (.lst (xs ++ ys))) p5 = some (.dK []) ∧ ∃ kvs : List (Key × D), [(D.str "left", D.int left), (D.str "seed", D.int s), (D.str "cells", D.ref p), (D.str "spot", D.int 0)] = kvs.map (fun kv => (kD kv.1, kv.2)) ∧ kvs.length ≤ 15 ∧ Q (.ref p5) (ups (ups S8 p (.lst (xs ++ ys))) p5 (.dK (mergeD [] kvs))) := by
    intro left l0 p7 h8 _ S8 e8
    subst e8
    have n57 : p5 ≠ p7 := fun e => by subst e; rw [ups_ne n56, ups_same] at h8; cases h8
    have n67 : p6 ≠ p7 := fun e => by subst e; rw [ups_same] at h8; cases h8
    have h8' : S' p7 = none := by rw [← h8, ups_ne (Ne.symm n67), ups_ne (Ne.symm n57)]
    have n37 : p3 ≠ p7 := fun e => by subst e; rw [x4 _ _ hp3] at h8'; cases h8'
    refine ⟨cs.map D.int, by rw [ups_ne n37, ups_ne n36, ups_ne n35]; exact x4 _ _ hp3, [.int (53 * k + 11)], ups_same, szl (by simp; omega), fun p8 h9 => ?_⟩
    have n58 : p5 ≠ p8 := fun e => by subst e; rw [ups_ne n57, ups_ne n56, ups_same] at h9; cases h9
    have n78 : p7 ≠ p8 := fun e => by subst e; rw [ups_same] at h9; cases h9
    have n68 : p6 ≠ p8 := fun e => by subst e; rw [ups_ne n67, ups_same] at h9; cases h9
    have h9' : S' p8 = none := by rw [← h9, ups_ne (Ne.symm n78), ups_ne (Ne.symm n68), ups_ne (Ne.symm n58)]
    refine ⟨by rw [ups_ne n58, ups_ne n57, ups_ne n56, ups_same], [(.inr "left", .int left), (.inr "seed", .int s), (.inr "cells", .ref p8), (.inr "spot", .int 0)], rfl, by simp, ?_⟩
    have xS : Ext S S' := x3.trans x4
    have s5 : S p5 = none := xS.none h6
    refine q p5 _ (fun b u e => ?_) s5 ⟨left, s, p8, 0, cs ++ [53 * k + 11], ⟨ups_same, ?_, l0, s0, s1, by simp, by simp; omega, by omega⟩, by omega⟩
    · have e' : S' b = some u := xS b u e
      have ne : ∀ {r}, S' r = none → b ≠ r := fun hr h => by subst h; rw [e'] at hr; cases hr
      rw [ups_ne (ne h6), ups_ne (ne h9'), ups_ne (ne h8'), ups_ne (ne h7'), ups_ne (ne h6)]
      exact e'
    · rw [ups_ne (Ne.symm n58), ups_same, List.map_append]
      rfl
  cases gr with
  | nil =>
    simp only [List.map_nil, List.isEmpty_nil, dSeq, dAsg, dRet, dDrop, dIfS, dPar, dPar3, dgName, dgTup, dgCons, dgNil, dBin, dVar, dC, dCB, dCons, dNil, dB, dIf, dNeg, dTup, dLst, dCall, dFor, dIter, dRng1, dLc, dAppend, dNext, dAnd, dOr, dNot, dAndV, dNotV, dgSub, dSl, dPart, dNoPart, wipeD, dZip, dNewT, dNewK, sd1, sd2, sd3, sd4, List.getElem?_cons_succ, List.getElem?_cons_zero, Option.some.injEq, exists_eq_left', List.set_cons_succ, List.set_cons_zero, List.replicate_succ, List.replicate_zero, Nat.reduceAdd, Nat.reduceSub, xi_add, xt_add, xi_sub, xi_mod, xi_div, xi_cmp, xi_mul, xi_lt, xi_le, xsl_fz, xsl_tup, xsl_ref, xadd_ref, xmul_tup, xpow, xisnot_non, xis_non, xtup_ref, xtup_tup, xlen_tup, xlen_ref, xint_int, xabs_int, ix_t0, ix_t1, D.bl.injEq, D.int.injEq, D.tup.injEq, D.ref.injEq, List.length_cons, List.length_nil, List.cons.injEq, and_true, true_and, and_assoc, exists_and_left, x_tt, x_ft, reduceIte, Bool.false_eq_true, Bool.not_true, Bool.not_false, xwalk_tup, xwalk_ref]
    refine ⟨.l (by decide), szl (by omega), fun p7 h8 => ?_⟩
    exact rest 0 (by omega) p7 h8 trivial _ rfl
  | cons g gs =>
    simp only [List.map_cons, List.isEmpty_cons, dSeq, dAsg, dRet, dDrop, dIfS, dPar, dPar3, dgName, dgTup, dgCons, dgNil, dBin, dVar, dC, dCB, dCons, dNil, dB, dIf, dNeg, dTup, dLst, dCall, dFor, dIter, dRng1, dLc, dAppend, dNext, dAnd, dOr, dNot, dAndV, dNotV, dgSub, dSl, dPart, dNoPart, wipeD, dZip, dNewT, dNewK, sd1, sd2, sd3, sd4, List.getElem?_cons_succ, List.getElem?_cons_zero, Option.some.injEq, exists_eq_left', List.set_cons_succ, List.set_cons_zero, List.replicate_succ, List.replicate_zero, Nat.reduceAdd, Nat.reduceSub, xi_add, xt_add, xi_sub, xi_mod, xi_div, xi_cmp, xi_mul, xi_lt, xi_le, xsl_fz, xsl_tup, xsl_ref, xadd_ref, xmul_tup, xpow, xisnot_non, xis_non, xtup_ref, xtup_tup, xlen_tup, xlen_ref, xint_int, xabs_int, ix_t0, ix_t1, D.bl.injEq, D.int.injEq, D.tup.injEq, D.ref.injEq, List.length_cons, List.length_nil, List.cons.injEq, and_true, true_and, and_assoc, exists_and_left, x_tt, x_ft, reduceIte, Bool.false_eq_true, Bool.not_true, Bool.not_false, xwalk_tup, xwalk_ref]
    have g0 : (10 : Int) ^ (18 : Int).toNat ≤ g := by
      have z : g ∈ cs.filter fun i => decide ((10 : Int) ^ (18 : Int).toNat ≤ i) := by rw [hgr]; exact List.mem_cons_self
      exact of_decide_eq_true (List.mem_filter.mp z).2
    refine ix_lst (by rw [ups_ne n46, ups_ne n45]; exact h4s) (by rw [List.map_cons]; exact atI_zero) ?_
    refine ⟨.l (by decide), szl (by omega), fun p7 h8 => ?_⟩
    exact rest g (by have : (0 : Int) ≤ 10 ^ (18 : Int).toNat := by decide
                     omega) p7 h8 trivial _ rfl
theorem len_Lform : ∀ ds S Q, sp_Lform ds S Q → ds.length = p_Lform.length := fun ds S Q ⟨_, _, _, _, e, _⟩ => by subst e; rfl
theorem run_Lform {ds : List D} {S : Stt} {Q : DK} (h : sp_Lform ds S Q) : t_Lform { nx := fun _ S2 => Q .non S2, rt := Q } (startD n_Lform ds) S := by
  obtain ⟨m, k, B, n, rfl, hk, hB, M, hn, q⟩ := h
  unfold dmax at hn
  unfold t_Lform
  simp only [dSeq, dAsg, dRet, dDrop, dIfS, dPar, dPar3, dgName, dgTup, dgCons, dgNil, dBin, dVar, dC, dCB, dCons, dNil, dB, dIf, dNeg, dTup, dLst, dCall, dFor, dIter, dRng1, dLc, dAppend, dNext, dAnd, dOr, dNot, dAndV, dNotV, dgSub, dSl, dPart, dNoPart, wipeD, dZip, dNewT, dNewK, sd1, sd2, sd3, sd4, List.getElem?_cons_succ, List.getElem?_cons_zero, Option.some.injEq, exists_eq_left', List.set_cons_succ, List.set_cons_zero, List.replicate_succ, List.replicate_zero, Nat.reduceAdd, Nat.reduceSub, xi_add, xt_add, xi_sub, xi_mod, xi_div, xi_cmp, xi_mul, xi_lt, xi_le, xsl_fz, xsl_tup, xsl_ref, xadd_ref, xmul_tup, xpow, xisnot_non, xis_non, xtup_ref, xtup_tup, xlen_tup, xlen_ref, xint_int, xabs_int, ix_t0, ix_t1, D.bl.injEq, D.int.injEq, D.tup.injEq, D.ref.injEq, List.length_cons, List.length_nil, List.cons.injEq, and_true, true_and, and_assoc, exists_and_left, x_tt, x_ft, reduceIte, Bool.false_eq_true, Bool.not_true, Bool.not_false, xwalk_tup, xwalk_ref]
  refine ⟨by omega, by omega, fun p hp => ?_⟩
  have el : (intsD 0 ((k : Int) + 1).toNat).length = k + 1 := by rw [intsD_length]; omega
  refine lc_mok (ok := fun c : Int => c.natAbs ≤ B) (enc := D.int) (m := m) (n := n) (c := 2) hp M (fun _ _ => trivial) (szl (by omega)) (fun i d S1 K1 e hi x hM h1 => ?_) fun l S' hl ho x hM hs => ?_
  · simp only [dSeq, dAsg, dRet, dDrop, dIfS, dPar, dPar3, dgName, dgTup, dgCons, dgNil, dBin, dVar, dC, dCB, dCons, dNil, dB, dIf, dNeg, dTup, dLst, dCall, dFor, dIter, dRng1, dLc, dAppend, dNext, dAnd, dOr, dNot, dAndV, dNotV, dgSub, dSl, dPart, dNoPart, wipeD, dZip, dNewT, dNewK, sd1, sd2, sd3, sd4, List.getElem?_cons_succ, List.getElem?_cons_zero, Option.some.injEq, exists_eq_left', List.set_cons_succ, List.set_cons_zero, List.replicate_succ, List.replicate_zero, Nat.reduceAdd, Nat.reduceSub, xi_add, xt_add, xi_sub, xi_mod, xi_div, xi_cmp, xi_mul, xi_lt, xi_le, xsl_fz, xsl_tup, xsl_ref, xadd_ref, xmul_tup, xpow, xisnot_non, xis_non, xtup_ref, xtup_tup, xlen_tup, xlen_ref, xint_int, xabs_int, ix_t0, ix_t1, D.bl.injEq, D.int.injEq, D.tup.injEq, D.ref.injEq, List.length_cons, List.length_nil, List.cons.injEq, and_true, true_and, and_assoc, exists_and_left, x_tt, x_ft, reduceIte, Bool.false_eq_true, Bool.not_true, Bool.not_false, xwalk_tup, xwalk_ref]
    rw [el] at hi
    exact ⟨m, B, _, rfl, by omega, Nat.lt_of_le_of_lt (by omega) (lt8000 (show 1001 < 2 ^ 60 by decide)), hM, by unfold dmax; omega, fun r S2 hr x2 M2 => h1 r S2 (by omega) x2 M2⟩
  · simp only [dSeq, dAsg, dRet, dDrop, dIfS, dPar, dPar3, dgName, dgTup, dgCons, dgNil, dBin, dVar, dC, dCB, dCons, dNil, dB, dIf, dNeg, dTup, dLst, dCall, dFor, dIter, dRng1, dLc, dAppend, dNext, dAnd, dOr, dNot, dAndV, dNotV, dgSub, dSl, dPart, dNoPart, wipeD, dZip, dNewT, dNewK, sd1, sd2, sd3, sd4, List.getElem?_cons_succ, List.getElem?_cons_zero, Option.some.injEq, exists_eq_left', List.set_cons_succ, List.set_cons_zero, List.replicate_succ, List.replicate_zero, Nat.reduceAdd, Nat.reduceSub, xi_add, xt_add, xi_sub, xi_mod, xi_div, xi_cmp, xi_mul, xi_lt, xi_le, xsl_fz, xsl_tup, xsl_ref, xadd_ref, xmul_tup, xpow, xisnot_non, xis_non, xtup_ref, xtup_tup, xlen_tup, xlen_ref, xint_int, xabs_int, ix_t0, ix_t1, D.bl.injEq, D.int.injEq, D.tup.injEq, D.ref.injEq, List.length_cons, List.length_nil, List.cons.injEq, and_true, true_and, and_assoc, exists_and_left, x_tt, x_ft, reduceIte, Bool.false_eq_true, Bool.not_true, Bool.not_false, xwalk_tup, xwalk_ref]
    refine ⟨_, hs, ?_⟩
    rw [el] at hl hM
    exact q l S' ⟨hl, ho⟩ x (hM.mono (by omega))
theorem len_Lform_value : ∀ ds S Q, sp_Lform_value ds S Q → ds.length = p_Lform_value.length := fun ds S Q ⟨_, _, e, _⟩ => by subst e; rfl
theorem dot_sum : ∀ (a t : List Int), a.length = t.length → ((List.range t.length).map fun i => a.getD i 0 * t.getD i 0).sum = dot a t
  | [], [], _ => rfl
  | a :: as, t :: ts, h => by
    rw [List.length_cons, List.range_succ_eq_map, List.map_cons, List.map_map, List.sum_cons]
    have ih := dot_sum as ts (by simpa using h)
    rw [dot, ← ih]
    rfl
theorem run_Lform_value {ds : List D} {S : Stt} {Q : DK} (h : sp_Lform_value ds S Q) : t_Lform_value { nx := fun _ S2 => Q .non S2, rt := Q } (startD n_Lform_value ds) S := by
  obtain ⟨f, t, rfl, hl, ht, hc, q⟩ := h
  cases f with
  | nil => simp at hl
  | cons c0 f =>
  have hl' : f.length = t.length := by simpa using hl
  unfold t_Lform_value fmD
  simp only [dSeq, dAsg, dRet, dDrop, dIfS, dPar, dPar3, dgName, dgTup, dgCons, dgNil, dBin, dVar, dC, dCB, dCons, dNil, dB, dIf, dNeg, dTup, dLst, dCall, dFor, dIter, dRng1, dLc, dAppend, dNext, dAnd, dOr, dNot, dAndV, dNotV, dgSub, dSl, dPart, dNoPart, wipeD, dZip, dNewT, dNewK, sd1, sd2, sd3, sd4, List.getElem?_cons_succ, List.getElem?_cons_zero, Option.some.injEq, exists_eq_left', List.set_cons_succ, List.set_cons_zero, List.replicate_succ, List.replicate_zero, Nat.reduceAdd, Nat.reduceSub, xi_add, xt_add, xi_sub, xi_mod, xi_div, xi_cmp, xi_mul, xi_lt, xi_le, xsl_fz, xsl_tup, xsl_ref, xadd_ref, xmul_tup, xpow, xisnot_non, xis_non, xtup_ref, xtup_tup, xlen_tup, xlen_ref, xint_int, xabs_int, ix_t0, ix_t1, D.bl.injEq, D.int.injEq, D.tup.injEq, D.ref.injEq, List.length_cons, List.length_nil, List.cons.injEq, and_true, true_and, and_assoc, exists_and_left, x_tt, x_ft, reduceIte, Bool.false_eq_true, Bool.not_true, Bool.not_false, xwalk_tup, xwalk_ref, List.map_cons]
  rw [List.length_map]
  refine ⟨by omega, by omega, fun p hp => ?_⟩
  rw [show ((t.length : Int)).toNat = t.length from Int.toNat_natCast _]
  refine lc_map (as := List.range t.length) (enc := fun i => D.int (0 + (i : Nat))) (f := fun i => D.int (f.getD i 0 * t.getD i 0)) hp (fun _ _ => trivial) (szl (by rw [List.length_range]; omega)) (fun i S1 K1 hi x1 h1 => ?_) fun S1 x1 h1 => ?_
  · have hi' : i < t.length := List.mem_range.mp hi
    simp only [dSeq, dAsg, dRet, dDrop, dIfS, dPar, dPar3, dgName, dgTup, dgCons, dgNil, dBin, dVar, dC, dCB, dCons, dNil, dB, dIf, dNeg, dTup, dLst, dCall, dFor, dIter, dRng1, dLc, dAppend, dNext, dAnd, dOr, dNot, dAndV, dNotV, dgSub, dSl, dPart, dNoPart, wipeD, dZip, dNewT, dNewK, sd1, sd2, sd3, sd4, List.getElem?_cons_succ, List.getElem?_cons_zero, Option.some.injEq, exists_eq_left', List.set_cons_succ, List.set_cons_zero, List.replicate_succ, List.replicate_zero, Nat.reduceAdd, Nat.reduceSub, xi_add, xt_add, xi_sub, xi_mod, xi_div, xi_cmp, xi_mul, xi_lt, xi_le, xsl_fz, xsl_tup, xsl_ref, xadd_ref, xmul_tup, xpow, xisnot_non, xis_non, xtup_ref, xtup_tup, xlen_tup, xlen_ref, xint_int, xabs_int, ix_t0, ix_t1, D.bl.injEq, D.int.injEq, D.tup.injEq, D.ref.injEq, List.length_cons, List.length_nil, List.cons.injEq, and_true, true_and, and_assoc, exists_and_left, x_tt, x_ft, reduceIte, Bool.false_eq_true, Bool.not_true, Bool.not_false, xwalk_tup, xwalk_ref]
    have e1 : f[i]? = some (f.getD i 0) := by simp [List.getElem?_eq_getElem (show i < f.length by omega)]
    have e2 : t[i]? = some (t.getD i 0) := by simp [List.getElem?_eq_getElem hi']
    refine ix_at (v := .int (f.getD i 0)) (by
      rw [show (1 : Int) + (0 + (i : Nat)) = ((i + 1 : Nat) : Int) by omega]
      exact atI_nat (by rw [List.getElem?_cons_succ, List.getElem?_map, e1]; rfl)) ?_
    refine ix_at (v := .int (t.getD i 0)) (by
      rw [show (0 : Int) + (i : Nat) = (i : Int) by omega]
      exact atI_map e2) ?_
    simp only [dSeq, dAsg, dRet, dDrop, dIfS, dPar, dPar3, dgName, dgTup, dgCons, dgNil, dBin, dVar, dC, dCB, dCons, dNil, dB, dIf, dNeg, dTup, dLst, dCall, dFor, dIter, dRng1, dLc, dAppend, dNext, dAnd, dOr, dNot, dAndV, dNotV, dgSub, dSl, dPart, dNoPart, wipeD, dZip, dNewT, dNewK, sd1, sd2, sd3, sd4, List.getElem?_cons_succ, List.getElem?_cons_zero, Option.some.injEq, exists_eq_left', List.set_cons_succ, List.set_cons_zero, List.replicate_succ, List.replicate_zero, Nat.reduceAdd, Nat.reduceSub, xi_add, xt_add, xi_sub, xi_mod, xi_div, xi_cmp, xi_mul, xi_lt, xi_le, xsl_fz, xsl_tup, xsl_ref, xadd_ref, xmul_tup, xpow, xisnot_non, xis_non, xtup_ref, xtup_tup, xlen_tup, xlen_ref, xint_int, xabs_int, ix_t0, ix_t1, D.bl.injEq, D.int.injEq, D.tup.injEq, D.ref.injEq, List.length_cons, List.length_nil, List.cons.injEq, and_true, true_and, and_assoc, exists_and_left, x_tt, x_ft, reduceIte, Bool.false_eq_true, Bool.not_true, Bool.not_false, xwalk_tup, xwalk_ref]
    exact ⟨.l (hc _ (List.mem_cons_of_mem _ (List.mem_of_getElem? e1))), h1 _ (Ext.refl _)⟩
  · refine ⟨p, (List.range t.length).map fun i => f.getD i 0 * t.getD i 0, rfl, by rw [h1, List.map_map]; rfl, ?_⟩
    simp only [dSeq, dAsg, dRet, dDrop, dIfS, dPar, dPar3, dgName, dgTup, dgCons, dgNil, dBin, dVar, dC, dCB, dCons, dNil, dB, dIf, dNeg, dTup, dLst, dCall, dFor, dIter, dRng1, dLc, dAppend, dNext, dAnd, dOr, dNot, dAndV, dNotV, dgSub, dSl, dPart, dNoPart, wipeD, dZip, dNewT, dNewK, sd1, sd2, sd3, sd4, List.getElem?_cons_succ, List.getElem?_cons_zero, Option.some.injEq, exists_eq_left', List.set_cons_succ, List.set_cons_zero, List.replicate_succ, List.replicate_zero, Nat.reduceAdd, Nat.reduceSub, xi_add, xt_add, xi_sub, xi_mod, xi_div, xi_cmp, xi_mul, xi_lt, xi_le, xsl_fz, xsl_tup, xsl_ref, xadd_ref, xmul_tup, xpow, xisnot_non, xis_non, xtup_ref, xtup_tup, xlen_tup, xlen_ref, xint_int, xabs_int, ix_t0, ix_t1, D.bl.injEq, D.int.injEq, D.tup.injEq, D.ref.injEq, List.length_cons, List.length_nil, List.cons.injEq, and_true, true_and, and_assoc, exists_and_left, x_tt, x_ft, reduceIte, Bool.false_eq_true, Bool.not_true, Bool.not_false, xwalk_tup, xwalk_ref]
    rw [dot_sum f t hl']
    exact q S1 x1
end LW

/-! PM: bounds of fractions, polynomials, worths in plain Lean. -/
namespace LW
open PySem PySem.Spec PyProof.Rows L2 DL
theorem gcdI_pos' {a c : Int} (h : 0 < c) : 0 < gcdI a c := by
  unfold gcdI
  have := Nat.gcd_pos_of_pos_right (m := a.natAbs) (n := c.natAbs) (by omega)
  omega
theorem gcdI_dvd_r (a c : Int) : gcdI a c ∣ c := by
  unfold gcdI
  exact Int.natAbs_dvd_natAbs.mp (by rw [Int.natAbs_natCast]; exact Nat.gcd_dvd_right _ _)
theorem gcdI_dvd_l (a c : Int) : gcdI a c ∣ a := by
  unfold gcdI
  exact Int.natAbs_dvd_natAbs.mp (by rw [Int.natAbs_natCast]; exact Nat.gcd_dvd_left _ _)
theorem lowF_b {a c : Int} {n d : Nat} (h : 0 < c) (ha : a.natAbs ≤ 2 ^ n) (hc : c.natAbs ≤ 2 ^ d) : FrB n d (lowF a c) := by
  refine ⟨Nat.le_trans (Int.natAbs_ediv_le_natAbs _ _) ha, ?_, Nat.le_trans (Int.natAbs_ediv_le_natAbs _ _) hc⟩
  exact Int.ediv_pos_of_pos_of_dvd h (Int.le_of_lt (gcdI_pos' h)) (gcdI_dvd_r a c)
theorem FrB.weak {n d n' d' : Nat} {f : Fr} (h : FrB n d f) (hn : n ≤ n') (hd : d ≤ d') : FrB n' d' f := ⟨Nat.le_trans h.1 (Nat.pow_le_pow_right (by omega) hn), h.2.1, Nat.le_trans h.2.2 (Nat.pow_le_pow_right (by omega) hd)⟩
theorem frB0 (n d : Nat) : FrB n d (0, 1) := ⟨by simp, by simp, by simpa using Nat.one_le_two_pow⟩
theorem mul_b {a b : Int} {n m : Nat} (h : a.natAbs ≤ 2 ^ n) (g : b.natAbs ≤ 2 ^ m) : (a * b).natAbs ≤ 2 ^ (n + m) := by
  rw [Int.natAbs_mul, Nat.pow_add]
  exact Nat.mul_le_mul h g
theorem plusF_b {f g : Fr} {n1 d1 n2 d2 k : Nat} (hf : FrB n1 d1 f) (hg : FrB n2 d2 g) (h1 : n1 + d2 ≤ k) (h2 : n2 + d1 ≤ k) : FrB (k + 1) (d1 + d2) (plusF f g) := by
  refine lowF_b (Int.mul_pos hf.2.1 hg.2.1) ?_ (mul_b hf.2.2 hg.2.2)
  have a := Nat.le_trans (mul_b hf.1 hg.2.2) (Nat.pow_le_pow_right (by omega) h1)
  have b := Nat.le_trans (mul_b hg.1 hf.2.2) (Nat.pow_le_pow_right (by omega) h2)
  have c := Int.natAbs_add_le (f.1 * g.2) (g.1 * f.2)
  rw [Nat.pow_succ]
  omega
def sumN (l : List Int) : Nat := (l.map Int.toNat).sum
theorem sumN_cons {x : Int} {l : List Int} : sumN (x :: l) = x.toNat + sumN l := by simp [sumN]
theorem sumN_sum : ∀ {l : List Int}, (∀ x ∈ l, 0 ≤ x) → (sumN l : Int) = l.sum
  | [], _ => rfl
  | x :: l, h => by
    rw [sumN_cons, List.sum_cons]
    have ih := sumN_sum (l := l) fun y hy => h y (List.mem_cons_of_mem _ hy)
    have := h x List.mem_cons_self
    omega
theorem pow_b {x : Int} {v : Nat} (h : x.natAbs ≤ 2 ^ v) (j : Nat) : (x ^ j).natAbs ≤ 2 ^ (v * j) := by
  rw [Int.natAbs_pow, Nat.pow_mul]
  exact Nat.pow_le_pow_left h j
theorem powTop_b {v : Nat} : ∀ {es xs : List Int} {t : Int} {b : Nat}, (∀ x ∈ xs, x.natAbs ≤ 2 ^ v) → t.natAbs ≤ 2 ^ b → (powTop t es xs).natAbs ≤ 2 ^ (b + v * sumN es)
  | [], xs, t, b, _, h => by unfold powTop; simpa [sumN] using h
  | e :: es, [], t, b, _, h => by
    unfold powTop
    exact Nat.le_trans h (Nat.pow_le_pow_right (by omega) (by omega))
  | e :: es, x :: xs, t, b, hx, h => by
    unfold powTop
    have ih := powTop_b (es := es) (xs := xs) (t := t * x ^ e.toNat) (b := b + v * e.toNat) (fun y hy => hx y (List.mem_cons_of_mem _ hy)) (mul_b h (pow_b (hx x List.mem_cons_self) _))
    rw [sumN_cons, Nat.mul_add, ← Nat.add_assoc]
    exact ih
def moF (q : Mo) (xs : List Int) : Fr := lowF (powTop q.1.1 q.2 xs) q.1.2
theorem moF_b {m nb db eb v : Nat} {q : Mo} {xs : List Int} (h : MoOk m (2 ^ nb) (2 ^ db) eb q) (hx : ∀ x ∈ xs, x.natAbs ≤ 2 ^ v) : FrB (nb + eb * v) db (moF q xs) := by
  refine lowF_b h.fr.pos ?_ h.den
  have a := powTop_b (es := q.2) hx h.num
  have s : sumN q.2 ≤ eb := by
    have := sumN_sum h.nn
    have := h.sum
    omega
  exact Nat.le_trans a (Nat.pow_le_pow_right (by omega) (by have := Nat.mul_le_mul_right v s; rw [Nat.mul_comm v]; omega))
theorem polyF_nil (xs : List Int) : polyF [] xs = (0, 1) := rfl
theorem polyF_snoc (p : List Mo) (q : Mo) (xs : List Int) : polyF (p ++ [q]) xs = plusF (polyF p xs) (moF q xs) := by
  unfold polyF
  rw [List.foldl_append]
  rfl
theorem take_snoc {α : Type} {l : List α} {i : Nat} {a : α} (h : l[i]? = some a) : l.take (i + 1) = l.take i ++ [a] := by rw [List.take_add_one, h]; rfl
theorem polyF_b {m nb db eb v : Nat} {xs : List Int} (hx : ∀ x ∈ xs, x.natAbs ≤ 2 ^ v) {p : List Mo} (h : ∀ q ∈ p, MoOk m (2 ^ nb) (2 ^ db) eb q) : ∀ i, FrB (nb + eb * v + (db + 1) * i) (db * i) (polyF (p.take i) xs)
  | 0 => frB0 _ _
  | i + 1 => by
    have ih := polyF_b hx h i
    cases e : p[i]? with
    | none =>
      have : p.length ≤ i := List.getElem?_eq_none_iff.mp e
      rw [List.take_of_length_le (by omega)]
      rw [List.take_of_length_le this] at ih
      exact ih.weak (by rw [Nat.mul_succ]; omega) (by rw [Nat.mul_succ]; omega)
    | some q =>
      rw [take_snoc e, polyF_snoc]
      have z := plusF_b (k := nb + eb * v + (db + 1) * i + db) ih (moF_b (h q (List.mem_of_getElem? e)) hx) (by omega) (by rw [Nat.add_mul]; omega)
      exact z.weak (by rw [Nat.mul_succ]; omega) (by rw [Nat.mul_succ]; omega)
theorem worthF_snoc (ts : List Tm) (t : Tm) (p : List Int) : worthF (ts ++ [t]) p = if termOn t p then plusF (worthF ts p) (polyF t.poly (stepsAt t p)) else worthF ts p := by
  unfold worthF
  rw [List.foldl_append]
  rfl
theorem stepsAt_b {t : Tm} {p : List Int} {v : Nat} (h : ∀ s ∈ t.steps, (fv s.2 p).natAbs ≤ 2 ^ v) : ∀ x ∈ stepsAt t p, x.natAbs ≤ 2 ^ v := by
  intro x hx
  obtain ⟨s, hs, rfl⟩ := List.mem_map.mp hx
  exact Nat.le_trans (Int.natAbs_ediv_le_natAbs _ _) (h s hs)
theorem WOk.poly {k B nb db eb jb vb : Nat} {ts : List Tm} {p : List Int} (h : WOk k B nb db eb jb vb ts p) {t : Tm} (ht : t ∈ ts) : FrB 1100 100 (polyF t.poly (stepsAt t p)) := by
  have T := h.tm t ht
  have z := polyF_b (stepsAt_b (h.vals t ht)) T.poly.mo jb
  rw [List.take_of_length_le T.poly.len] at z
  have a := h.n1
  have b := h.n3
  refine z.weak (by omega) ?_
  rw [Nat.add_mul] at b
  omega
theorem WOk.worth {k B nb db eb jb vb : Nat} {ts : List Tm} {p : List Int} (h : WOk k B nb db eb jb vb ts p) : ∀ i, FrB (1100 + 101 * i) (100 * i) (worthF (ts.take i) p)
  | 0 => frB0 _ _
  | i + 1 => by
    have ih := WOk.worth h i
    cases e : ts[i]? with
    | none =>
      have : ts.length ≤ i := List.getElem?_eq_none_iff.mp e
      rw [List.take_of_length_le (by omega)]
      rw [List.take_of_length_le this] at ih
      exact ih.weak (by omega) (by omega)
    | some t =>
      rw [take_snoc e, worthF_snoc]
      by_cases c : termOn t p = true
      · rw [if_pos c]
        exact (plusF_b (k := 1100 + 101 * i + 100) ih (h.poly (List.mem_of_getElem? e)) (by omega) (by omega)).weak (by omega) (by omega)
      · rw [if_neg c]
        exact ih.weak (by omega) (by omega)
end LW

namespace LW
open PySem PySem.Spec PyProof.Rows L2 DL
theorem len_Lpoly_value : ∀ ds S Q, sp_Lpoly_value ds S Q → ds.length = p_Lpoly_value.length := fun ds S Q ⟨_, _, _, _, _, _, _, _, _, e, _⟩ => by subst e; rfl
theorem mulB {i j : Int} {a b : Nat} (h : i.natAbs ≤ 2 ^ a) (g : j.natAbs ≤ 2 ^ b) (ha : a < 2999) (hb : b < 2999) : MulOk i j :=
  mulW (Nat.lt_of_le_of_lt h (Nat.pow_lt_pow_right (by omega) (by omega))) (Nat.lt_of_le_of_lt g (Nat.pow_lt_pow_right (by omega) (by omega)))
theorem FrB.lt {n d : Nat} {f : Fr} (h : FrB n d f) (hn : n < 3000) (hd : d < 3000) : f.1.natAbs < 2 ^ 3000 ∧ f.2.natAbs < 2 ^ 3000 :=
  ⟨Nat.lt_of_le_of_lt h.1 (Nat.pow_lt_pow_right (by omega) hn), Nat.lt_of_le_of_lt h.2.2 (Nat.pow_lt_pow_right (by omega) hd)⟩
theorem powTop_nil (t : Int) (xs : List Int) : powTop t [] xs = t := by unfold powTop; rfl
theorem powTop_cons (t e x : Int) (es xs : List Int) : powTop t (e :: es) (x :: xs) = powTop (t * x ^ e.toNat) es xs := rfl
theorem run_Lpoly_value {ds : List D} {S : Stt} {Q : DK} (h : sp_Lpoly_value ds S Q) : t_Lpoly_value { nx := fun _ S2 => Q .non S2, rt := Q } (startD n_Lpoly_value ds) S := by
  obtain ⟨p, xs, a, m, nb, db, eb, jb, vb, rfl, hs, P, hl, hm, hv, b1, b2, b3, b4, q⟩ := h
  unfold t_Lpoly_value poD
  simp only [dSeq, dAsg, dRet, dDrop, dIfS, dPar, dPar3, dgName, dgTup, dgCons, dgNil, dBin, dVar, dC, dCB, dCons, dNil, dB, dIf, dNeg, dTup, dLst, dCall, dFor, dIter, dRng1, dLc, dAppend, dNext, dAnd, dOr, dNot, dAndV, dNotV, dgSub, dSl, dPart, dNoPart, wipeD, dZip, dNewT, dNewK, sd1, sd2, sd3, sd4, List.getElem?_cons_succ, List.getElem?_cons_zero, Option.some.injEq, exists_eq_left', List.set_cons_succ, List.set_cons_zero, List.replicate_succ, List.replicate_zero, Nat.reduceAdd, Nat.reduceSub, xi_add, xt_add, xi_sub, xi_mod, xi_div, xi_cmp, xi_mul, xi_lt, xi_le, xsl_fz, xsl_tup, xsl_ref, xadd_ref, xmul_tup, xpow, xisnot_non, xis_non, xtup_ref, xtup_tup, xlen_tup, xlen_ref, xint_int, xabs_int, ix_t0, ix_t1, D.bl.injEq, D.int.injEq, D.tup.injEq, D.ref.injEq, List.length_cons, List.length_nil, List.cons.injEq, and_true, true_and, and_assoc, exists_and_left, x_tt, x_ft, reduceIte, Bool.false_eq_true, Bool.not_true, Bool.not_false, xwalk_tup, xwalk_ref]
  refine ⟨szl (by omega), ?_⟩
  have hjb : ∀ i, i ≤ p.length → FrB 1500 500 (polyF (p.take i) xs) := fun i hi => by
    have z := polyF_b hv P.mo i
    have h1 : (db + 1) * i ≤ 500 := Nat.le_trans (Nat.mul_le_mul_left _ (Nat.le_trans hi P.len)) b3
    exact z.weak (by omega) (by rw [Nat.add_mul] at h1; omega)
  refine for_map (enc := moD) (as := p) (fun i σ S' => S' = S ∧ i ≤ p.length ∧ ∃ o3 o4 o5 o6 o7, σ = [some (.tup (p.map moD)), some (.ref a), some (frD (polyF (p.take i) xs)), o3, o4, o5, o6, o7]) ⟨rfl, by omega, _, _, _, _, _, rfl⟩ (fun _ _ _ _ => trivial) (fun i w σ S' N e ⟨eS, hi, o3, o4, o5, o6, o7, eσ⟩ hN => ?_) fun σ S' ⟨eS, hi, o3, o4, o5, o6, o7, eσ⟩ => ?_
  · subst eS eσ
    have W := P.mo w (List.mem_of_getElem? e)
    have hlt : i < p.length := (List.getElem?_eq_some_iff.mp e).1
    have hn2 : sumN w.2 ≤ eb := by
      have := sumN_sum W.nn
      have := W.sum
      omega
    unfold moD frD fmD
    simp only [dSeq, dAsg, dRet, dDrop, dIfS, dPar, dPar3, dgName, dgTup, dgCons, dgNil, dBin, dVar, dC, dCB, dCons, dNil, dB, dIf, dNeg, dTup, dLst, dCall, dFor, dIter, dRng1, dLc, dAppend, dNext, dAnd, dOr, dNot, dAndV, dNotV, dgSub, dSl, dPart, dNoPart, wipeD, dZip, dNewT, dNewK, sd1, sd2, sd3, sd4, List.getElem?_cons_succ, List.getElem?_cons_zero, Option.some.injEq, exists_eq_left', List.set_cons_succ, List.set_cons_zero, List.replicate_succ, List.replicate_zero, Nat.reduceAdd, Nat.reduceSub, xi_add, xt_add, xi_sub, xi_mod, xi_div, xi_cmp, xi_mul, xi_lt, xi_le, xsl_fz, xsl_tup, xsl_ref, xadd_ref, xmul_tup, xpow, xisnot_non, xis_non, xtup_ref, xtup_tup, xlen_tup, xlen_ref, xint_int, xabs_int, ix_t0, ix_t1, D.bl.injEq, D.int.injEq, D.tup.injEq, D.ref.injEq, List.length_cons, List.length_nil, List.cons.injEq, and_true, true_and, and_assoc, exists_and_left, x_tt, x_ft, reduceIte, Bool.false_eq_true, Bool.not_true, Bool.not_false, xwalk_tup, xwalk_ref, List.length_map]
    rw [Int.toNat_natCast]
    have lw := W.len
    refine ⟨by omega, by omega, ?_⟩
    refine for_rng (fun j σ S'' => S'' = S' ∧ ∃ (t : Int) (b : Nat) (o6 o7 : Option D), σ = [some (.tup (p.map moD)), some (.ref a), some (frD (polyF (p.take i) xs)), some (frD w.1), some (fmD w.2), some (.int t), o6, o7] ∧ powTop t (w.2.drop j) (xs.drop j) = powTop w.1.1 w.2 xs ∧ t.natAbs ≤ 2 ^ b ∧ b + vb * sumN (w.2.drop j) ≤ nb + vb * sumN w.2) ⟨rfl, w.1.1, nb, _, _, rfl, rfl, W.num, by simp⟩ (fun _ => trivial) (fun j σ S'' N' hj ⟨eS, t, b, o6, o7, eσ, ht, hb, hc⟩ hN' => ?_) fun σ S'' ⟨eS, t, b, o6, o7, eσ, ht, hb, hc⟩ => ?_
    · subst eS eσ
      have hjx : j < xs.length := by omega
      have ee : w.2[j]? = some w.2[j] := List.getElem?_eq_getElem hj
      have ex : xs[j]? = some xs[j] := List.getElem?_eq_getElem hjx
      have de : w.2.drop j = w.2[j] :: w.2.drop (j + 1) := List.drop_eq_getElem_cons hj
      have dx : xs.drop j = xs[j] :: xs.drop (j + 1) := List.drop_eq_getElem_cons hjx
      have e0 : 0 ≤ w.2[j] := W.nn _ (List.getElem_mem hj)
      have x0 := hv _ (List.getElem_mem hjx)
      generalize w.2[j] = ej at ee de e0
      generalize xs[j] = xj at ex dx x0
      rw [de, dx] at ht
      rw [de, sumN_cons, Nat.mul_add] at hc
      rw [powTop_cons] at ht
      have le : ej.toNat ≤ eb := by
        have z : sumN (w.2.drop j) ≤ sumN w.2 := by
          have : sumN w.2 = sumN (w.2.take j) + sumN (w.2.drop j) := by
            unfold sumN
            rw [← List.sum_append, ← List.map_append, List.take_append_drop]
          omega
        rw [de, sumN_cons] at z
        omega
      unfold fmD
      simp only [dSeq, dAsg, dRet, dDrop, dIfS, dPar, dPar3, dgName, dgTup, dgCons, dgNil, dBin, dVar, dC, dCB, dCons, dNil, dB, dIf, dNeg, dTup, dLst, dCall, dFor, dIter, dRng1, dLc, dAppend, dNext, dAnd, dOr, dNot, dAndV, dNotV, dgSub, dSl, dPart, dNoPart, wipeD, dZip, dNewT, dNewK, sd1, sd2, sd3, sd4, List.getElem?_cons_succ, List.getElem?_cons_zero, Option.some.injEq, exists_eq_left', List.set_cons_succ, List.set_cons_zero, List.replicate_succ, List.replicate_zero, Nat.reduceAdd, Nat.reduceSub, xi_add, xt_add, xi_sub, xi_mod, xi_div, xi_cmp, xi_mul, xi_lt, xi_le, xsl_fz, xsl_tup, xsl_ref, xadd_ref, xmul_tup, xpow, xisnot_non, xis_non, xtup_ref, xtup_tup, xlen_tup, xlen_ref, xint_int, xabs_int, ix_t0, ix_t1, D.bl.injEq, D.int.injEq, D.tup.injEq, D.ref.injEq, List.length_cons, List.length_nil, List.cons.injEq, and_true, true_and, and_assoc, exists_and_left, x_tt, x_ft, reduceIte, Bool.false_eq_true, Bool.not_true, Bool.not_false, xwalk_tup, xwalk_ref]
      refine ix_at (atI_map ee) ?_
      simp only [dSeq, dAsg, dRet, dDrop, dIfS, dPar, dPar3, dgName, dgTup, dgCons, dgNil, dBin, dVar, dC, dCB, dCons, dNil, dB, dIf, dNeg, dTup, dLst, dCall, dFor, dIter, dRng1, dLc, dAppend, dNext, dAnd, dOr, dNot, dAndV, dNotV, dgSub, dSl, dPart, dNoPart, wipeD, dZip, dNewT, dNewK, sd1, sd2, sd3, sd4, List.getElem?_cons_succ, List.getElem?_cons_zero, Option.some.injEq, exists_eq_left', List.set_cons_succ, List.set_cons_zero, List.replicate_succ, List.replicate_zero, Nat.reduceAdd, Nat.reduceSub, xi_add, xt_add, xi_sub, xi_mod, xi_div, xi_cmp, xi_mul, xi_lt, xi_le, xsl_fz, xsl_tup, xsl_ref, xadd_ref, xmul_tup, xpow, xisnot_non, xis_non, xtup_ref, xtup_tup, xlen_tup, xlen_ref, xint_int, xabs_int, ix_t0, ix_t1, D.bl.injEq, D.int.injEq, D.tup.injEq, D.ref.injEq, List.length_cons, List.length_nil, List.cons.injEq, and_true, true_and, and_assoc, exists_and_left, x_tt, x_ft, reduceIte, Bool.false_eq_true, Bool.not_true, Bool.not_false, xwalk_tup, xwalk_ref]
      refine ⟨by omega, by omega, ?_⟩
      refine for_rng (fun l σ S1 => S1 = S'' ∧ ∃ (o7 : Option D), l ≤ ej.toNat ∧ σ = [some (.tup (p.map moD)), some (.ref a), some (frD (polyF (p.take i) xs)), some (frD w.1), some (fmD w.2), some (.int (t * xj ^ l)), some (.int (j : Nat)), o7]) ⟨rfl, _, by omega, by rw [Int.pow_zero, Int.mul_one]; rfl⟩ (fun _ => trivial) (fun l σ S'' N'' hl' ⟨eS, o7, hle, eσ⟩ hN'' => ?_) fun σ S'' ⟨eS, o7, hle, eσ⟩ => ?_
      · subst eS eσ
        simp only [dSeq, dAsg, dRet, dDrop, dIfS, dPar, dPar3, dgName, dgTup, dgCons, dgNil, dBin, dVar, dC, dCB, dCons, dNil, dB, dIf, dNeg, dTup, dLst, dCall, dFor, dIter, dRng1, dLc, dAppend, dNext, dAnd, dOr, dNot, dAndV, dNotV, dgSub, dSl, dPart, dNoPart, wipeD, dZip, dNewT, dNewK, sd1, sd2, sd3, sd4, List.getElem?_cons_succ, List.getElem?_cons_zero, Option.some.injEq, exists_eq_left', List.set_cons_succ, List.set_cons_zero, List.replicate_succ, List.replicate_zero, Nat.reduceAdd, Nat.reduceSub, xi_add, xt_add, xi_sub, xi_mod, xi_div, xi_cmp, xi_mul, xi_lt, xi_le, xsl_fz, xsl_tup, xsl_ref, xadd_ref, xmul_tup, xpow, xisnot_non, xis_non, xtup_ref, xtup_tup, xlen_tup, xlen_ref, xint_int, xabs_int, ix_t0, ix_t1, D.bl.injEq, D.int.injEq, D.tup.injEq, D.ref.injEq, List.length_cons, List.length_nil, List.cons.injEq, and_true, true_and, and_assoc, exists_and_left, x_tt, x_ft, reduceIte, Bool.false_eq_true, Bool.not_true, Bool.not_false, xwalk_tup, xwalk_ref]
        refine ix_lst hs (atI_map ex) ?_
        simp only [dSeq, dAsg, dRet, dDrop, dIfS, dPar, dPar3, dgName, dgTup, dgCons, dgNil, dBin, dVar, dC, dCB, dCons, dNil, dB, dIf, dNeg, dTup, dLst, dCall, dFor, dIter, dRng1, dLc, dAppend, dNext, dAnd, dOr, dNot, dAndV, dNotV, dgSub, dSl, dPart, dNoPart, wipeD, dZip, dNewT, dNewK, sd1, sd2, sd3, sd4, List.getElem?_cons_succ, List.getElem?_cons_zero, Option.some.injEq, exists_eq_left', List.set_cons_succ, List.set_cons_zero, List.replicate_succ, List.replicate_zero, Nat.reduceAdd, Nat.reduceSub, xi_add, xt_add, xi_sub, xi_mod, xi_div, xi_cmp, xi_mul, xi_lt, xi_le, xsl_fz, xsl_tup, xsl_ref, xadd_ref, xmul_tup, xpow, xisnot_non, xis_non, xtup_ref, xtup_tup, xlen_tup, xlen_ref, xint_int, xabs_int, ix_t0, ix_t1, D.bl.injEq, D.int.injEq, D.tup.injEq, D.ref.injEq, List.length_cons, List.length_nil, List.cons.injEq, and_true, true_and, and_assoc, exists_and_left, x_tt, x_ft, reduceIte, Bool.false_eq_true, Bool.not_true, Bool.not_false, xwalk_tup, xwalk_ref]
        have tb := mul_b hb (pow_b x0 l)
        have eb1 : 1 ≤ eb := by omega
        have v1 : vb ≤ eb * vb := Nat.le_mul_of_pos_left _ eb1
        have v2 : vb * sumN w.2 ≤ eb * vb := by
          rw [Nat.mul_comm]
          exact Nat.mul_le_mul_right _ hn2
        have v3 : vb * l ≤ vb * ej.toNat := Nat.mul_le_mul_left _ hle
        exact ⟨mulB tb x0 (by omega) (by omega), hN'' _ _ ⟨rfl, _, by omega, by rw [Int.pow_succ, ← Int.mul_assoc]⟩⟩
      · subst eS eσ
        exact hN' _ _ ⟨rfl, _, b + vb * ej.toNat, _, _, rfl, ht, mul_b hb (pow_b x0 _), by omega⟩
    · subst eS eσ
      rw [show w.2.drop w.2.length = [] from List.drop_length, show sumN [] = 0 from rfl] at *
      rw [powTop_nil] at ht
      unfold frD fmD
      simp only [dSeq, dAsg, dRet, dDrop, dIfS, dPar, dPar3, dgName, dgTup, dgCons, dgNil, dBin, dVar, dC, dCB, dCons, dNil, dB, dIf, dNeg, dTup, dLst, dCall, dFor, dIter, dRng1, dLc, dAppend, dNext, dAnd, dOr, dNot, dAndV, dNotV, dgSub, dSl, dPart, dNoPart, wipeD, dZip, dNewT, dNewK, sd1, sd2, sd3, sd4, List.getElem?_cons_succ, List.getElem?_cons_zero, Option.some.injEq, exists_eq_left', List.set_cons_succ, List.set_cons_zero, List.replicate_succ, List.replicate_zero, Nat.reduceAdd, Nat.reduceSub, xi_add, xt_add, xi_sub, xi_mod, xi_div, xi_cmp, xi_mul, xi_lt, xi_le, xsl_fz, xsl_tup, xsl_ref, xadd_ref, xmul_tup, xpow, xisnot_non, xis_non, xtup_ref, xtup_tup, xlen_tup, xlen_ref, xint_int, xabs_int, ix_t0, ix_t1, D.bl.injEq, D.int.injEq, D.tup.injEq, D.ref.injEq, List.length_cons, List.length_nil, List.cons.injEq, and_true, true_and, and_assoc, exists_and_left, x_tt, x_ft, reduceIte, Bool.false_eq_true, Bool.not_true, Bool.not_false, xwalk_tup, xwalk_ref]
      have v2 : vb * sumN w.2 ≤ eb * vb := by
        rw [Nat.mul_comm]
        exact Nat.mul_le_mul_right _ hn2
      have db1 : db ≤ 500 := by
        have : 1 ≤ jb := Nat.le_trans (by omega) P.len
        have := Nat.le_mul_of_pos_right (db + 1) this
        omega
      have fd : w.1.2.natAbs < 2 ^ 3000 := Nat.lt_of_le_of_lt W.den (Nat.pow_lt_pow_right (by omega) (by omega))
      refine ⟨t, w.1.2, rfl, W.fr.pos, Nat.lt_trans fd (Nat.pow_lt_pow_right (by omega) (by omega)), ?_⟩
      have f1 := moF_b W hv
      have l1 := f1.lt (by omega) (by omega)
      have f0 := hjb i hi
      have l0 := f0.lt (by omega) (by omega)
      rw [ht]
      refine ⟨_, _, rfl, f0.2.1, f1.2.1, l0.2, l1.2, l0.1, l1.1, ?_⟩
      refine hN _ _ ⟨rfl, by omega, some (frD w.1), some (fmD w.2), some (.int (powTop w.1.1 w.2 xs)), o6, o7, ?_⟩
      rw [take_snoc e, polyF_snoc]
      rfl
  · subst eS eσ
    simp only [dSeq, dAsg, dRet, dDrop, dIfS, dPar, dPar3, dgName, dgTup, dgCons, dgNil, dBin, dVar, dC, dCB, dCons, dNil, dB, dIf, dNeg, dTup, dLst, dCall, dFor, dIter, dRng1, dLc, dAppend, dNext, dAnd, dOr, dNot, dAndV, dNotV, dgSub, dSl, dPart, dNoPart, wipeD, dZip, dNewT, dNewK, sd1, sd2, sd3, sd4, List.getElem?_cons_succ, List.getElem?_cons_zero, Option.some.injEq, exists_eq_left', List.set_cons_succ, List.set_cons_zero, List.replicate_succ, List.replicate_zero, Nat.reduceAdd, Nat.reduceSub, xi_add, xt_add, xi_sub, xi_mod, xi_div, xi_cmp, xi_mul, xi_lt, xi_le, xsl_fz, xsl_tup, xsl_ref, xadd_ref, xmul_tup, xpow, xisnot_non, xis_non, xtup_ref, xtup_tup, xlen_tup, xlen_ref, xint_int, xabs_int, ix_t0, ix_t1, D.bl.injEq, D.int.injEq, D.tup.injEq, D.ref.injEq, List.length_cons, List.length_nil, List.cons.injEq, and_true, true_and, and_assoc, exists_and_left, x_tt, x_ft, reduceIte, Bool.false_eq_true, Bool.not_true, Bool.not_false, xwalk_tup, xwalk_ref]
    rw [List.take_length]
    exact q
end LW

namespace LW
open PySem PySem.Spec PyProof.Rows L2 DL
theorem len_Lworth : ∀ ds S Q, sp_Lworth ds S Q → ds.length = p_Lworth.length := fun ds S Q ⟨_, _, _, _, _, _, _, _, _, e, _⟩ => by subst e; rfl
theorem pures_of {α : Type} {f : α → D} (h : ∀ a, pureD (f a) = true) : ∀ l : List α, puresD (l.map f) = true
  | [] => rfl
  | a :: l => by simp only [List.map_cons, puresD, h, Bool.true_and]; exact pures_of h l
theorem deps_le {α : Type} {f : α → D} {n : Nat} (h : ∀ a, depD (f a) ≤ n) : ∀ l : List α, depsD (l.map f) ≤ n
  | [] => Nat.zero_le _
  | a :: l => by simp only [List.map_cons, depsD]; exact Nat.max_le.mpr ⟨h a, deps_le h l⟩
theorem pure_fm (f : Fm) : pureD (fmD f) = true := pures_ints f
theorem dep_fm (f : Fm) : depD (fmD f) ≤ 1 := by
  unfold fmD
  simp only [depD]
  rw [deps_ints]
  exact Nat.le_refl _
theorem isEmpty_map {α β : Type} {f : α → β} {l : List α} : (l.map f).isEmpty = l.isEmpty := by cases l <;> rfl
theorem empty_filter {α : Type} {f : α → Bool} {l : List α} : (l.filter fun a => !f a).isEmpty = l.all f := by
  induction l with
  | nil => rfl
  | cons a l ih =>
    rw [List.filter_cons, List.all_cons]
    cases h : f a with
    | true => simpa using ih
    | false => simp
theorem run_Lworth {ds : List D} {S : Stt} {Q : DK} (h : sp_Lworth ds S Q) : t_Lworth { nx := fun _ S2 => Q .non S2, rt := Q } (startD n_Lworth ds) S := by
  obtain ⟨ts, p, k, B, nb, db, eb, jb, vb, rfl, W, q⟩ := h
  unfold t_Lworth taD
  simp only [dSeq, dAsg, dRet, dDrop, dIfS, dPar, dPar3, dgName, dgTup, dgCons, dgNil, dBin, dVar, dC, dCB, dCons, dNil, dB, dIf, dNeg, dTup, dLst, dCall, dFor, dIter, dRng1, dLc, dAppend, dNext, dAnd, dOr, dNot, dAndV, dNotV, dgSub, dSl, dPart, dNoPart, wipeD, dZip, dNewT, dNewK, sd1, sd2, sd3, sd4, List.getElem?_cons_succ, List.getElem?_cons_zero, Option.some.injEq, exists_eq_left', List.set_cons_succ, List.set_cons_zero, List.replicate_succ, List.replicate_zero, Nat.reduceAdd, Nat.reduceSub, xi_add, xt_add, xi_sub, xi_mod, xi_div, xi_cmp, xi_mul, xi_lt, xi_le, xsl_fz, xsl_tup, xsl_ref, xadd_ref, xmul_tup, xpow, xisnot_non, xis_non, xtup_ref, xtup_tup, xlen_tup, xlen_ref, xint_int, xabs_int, ix_t0, ix_t1, D.bl.injEq, D.int.injEq, D.tup.injEq, D.ref.injEq, List.length_cons, List.length_nil, List.cons.injEq, and_true, true_and, and_assoc, exists_and_left, x_tt, x_ft, reduceIte, Bool.false_eq_true, Bool.not_true, Bool.not_false, xwalk_tup, xwalk_ref]
  refine ⟨szl (by omega), ?_⟩
  have w5 := W.n5
  refine for_map (enc := tmD) (as := ts) (fun i σ S' => Ext S S' ∧ ∃ o3 o4 o5 o6 o7 o8 o9 o10 o11 o12, σ = [some (.tup (ts.map tmD)), some (fmD p), some (frD (worthF (ts.take i) p)), o3, o4, o5, o6, o7, o8, o9, o10, o11, o12]) ⟨Ext.refl S, _, _, _, _, _, _, _, _, _, _, rfl⟩ (fun _ _ _ _ => trivial) (fun i t σ S' N e ⟨x, o3, o4, o5, o6, o7, o8, o9, o10, o11, o12, eσ⟩ hN => ?_) fun σ S' ⟨x, o3, o4, o5, o6, o7, o8, o9, o10, o11, o12, eσ⟩ => ?_
  · subst eσ
    have mt : t ∈ ts := List.mem_of_getElem? e
    have T := W.tm t mt
    have pl := W.len
    have kb := W.kb
    have fvok : ∀ {f : Fm} {S1 : Stt} {K : DK}, FmOk k B f → (∀ S2, Ext S1 S2 → K (.int (fv f p)) S2) → sp_Lform_value [fmD f, fmD p] S1 K := fun {f S1 K} hf hK => ⟨f, p, rfl, by rw [hf.1, pl], by omega, fun c hc => Nat.lt_of_le_of_lt (hf.2 c hc) W.bd, hK⟩
    unfold tmD
    simp only [dSeq, dAsg, dRet, dDrop, dIfS, dPar, dPar3, dgName, dgTup, dgCons, dgNil, dBin, dVar, dC, dCB, dCons, dNil, dB, dIf, dNeg, dTup, dLst, dCall, dFor, dIter, dRng1, dLc, dAppend, dNext, dAnd, dOr, dNot, dAndV, dNotV, dgSub, dSl, dPart, dNoPart, wipeD, dZip, dNewT, dNewK, sd1, sd2, sd3, sd4, List.getElem?_cons_succ, List.getElem?_cons_zero, Option.some.injEq, exists_eq_left', List.set_cons_succ, List.set_cons_zero, List.replicate_succ, List.replicate_zero, Nat.reduceAdd, Nat.reduceSub, xi_add, xt_add, xi_sub, xi_mod, xi_div, xi_cmp, xi_mul, xi_lt, xi_le, xsl_fz, xsl_tup, xsl_ref, xadd_ref, xmul_tup, xpow, xisnot_non, xis_non, xtup_ref, xtup_tup, xlen_tup, xlen_ref, xint_int, xabs_int, ix_t0, ix_t1, D.bl.injEq, D.int.injEq, D.tup.injEq, D.ref.injEq, List.length_cons, List.length_nil, List.cons.injEq, and_true, true_and, and_assoc, exists_and_left, x_tt, x_ft, reduceIte, Bool.false_eq_true, Bool.not_true, Bool.not_false, xwalk_tup, xwalk_ref]
    intro p1 h1
    refine lc_pure (enc := fmD) (f := fmD) (keep := fun f => !decide (0 ≤ fv f p)) h1 (fun _ _ => trivial) (szl (by have := T.rl; omega)) (fun f S1 K1 K2 hf x1 q1 q2 => ?_) fun S1 x1 e1 => ?_
    · simp only [dSeq, dAsg, dRet, dDrop, dIfS, dPar, dPar3, dgName, dgTup, dgCons, dgNil, dBin, dVar, dC, dCB, dCons, dNil, dB, dIf, dNeg, dTup, dLst, dCall, dFor, dIter, dRng1, dLc, dAppend, dNext, dAnd, dOr, dNot, dAndV, dNotV, dgSub, dSl, dPart, dNoPart, wipeD, dZip, dNewT, dNewK, sd1, sd2, sd3, sd4, List.getElem?_cons_succ, List.getElem?_cons_zero, Option.some.injEq, exists_eq_left', List.set_cons_succ, List.set_cons_zero, List.replicate_succ, List.replicate_zero, Nat.reduceAdd, Nat.reduceSub, xi_add, xt_add, xi_sub, xi_mod, xi_div, xi_cmp, xi_mul, xi_lt, xi_le, xsl_fz, xsl_tup, xsl_ref, xadd_ref, xmul_tup, xpow, xisnot_non, xis_non, xtup_ref, xtup_tup, xlen_tup, xlen_ref, xint_int, xabs_int, ix_t0, ix_t1, D.bl.injEq, D.int.injEq, D.tup.injEq, D.ref.injEq, List.length_cons, List.length_nil, List.cons.injEq, and_true, true_and, and_assoc, exists_and_left, x_tt, x_ft, reduceIte, Bool.false_eq_true, Bool.not_true, Bool.not_false, xwalk_tup, xwalk_ref]
      refine fvok (T.rows f hf) fun S2 x2 => ?_
      simp only [dSeq, dAsg, dRet, dDrop, dIfS, dPar, dPar3, dgName, dgTup, dgCons, dgNil, dBin, dVar, dC, dCB, dCons, dNil, dB, dIf, dNeg, dTup, dLst, dCall, dFor, dIter, dRng1, dLc, dAppend, dNext, dAnd, dOr, dNot, dAndV, dNotV, dgSub, dSl, dPart, dNoPart, wipeD, dZip, dNewT, dNewK, sd1, sd2, sd3, sd4, List.getElem?_cons_succ, List.getElem?_cons_zero, Option.some.injEq, exists_eq_left', List.set_cons_succ, List.set_cons_zero, List.replicate_succ, List.replicate_zero, Nat.reduceAdd, Nat.reduceSub, xi_add, xt_add, xi_sub, xi_mod, xi_div, xi_cmp, xi_mul, xi_lt, xi_le, xsl_fz, xsl_tup, xsl_ref, xadd_ref, xmul_tup, xpow, xisnot_non, xis_non, xtup_ref, xtup_tup, xlen_tup, xlen_ref, xint_int, xabs_int, ix_t0, ix_t1, D.bl.injEq, D.int.injEq, D.tup.injEq, D.ref.injEq, List.length_cons, List.length_nil, List.cons.injEq, and_true, true_and, and_assoc, exists_and_left, x_tt, x_ft, reduceIte, Bool.false_eq_true, Bool.not_true, Bool.not_false, xwalk_tup, xwalk_ref]
      by_cases hb : 0 ≤ fv f p
      · rw [decide_eq_false (by omega : ¬ fv f p < 0)]
        simp only [dSeq, dAsg, dRet, dDrop, dIfS, dPar, dPar3, dgName, dgTup, dgCons, dgNil, dBin, dVar, dC, dCB, dCons, dNil, dB, dIf, dNeg, dTup, dLst, dCall, dFor, dIter, dRng1, dLc, dAppend, dNext, dAnd, dOr, dNot, dAndV, dNotV, dgSub, dSl, dPart, dNoPart, wipeD, dZip, dNewT, dNewK, sd1, sd2, sd3, sd4, List.getElem?_cons_succ, List.getElem?_cons_zero, Option.some.injEq, exists_eq_left', List.set_cons_succ, List.set_cons_zero, List.replicate_succ, List.replicate_zero, Nat.reduceAdd, Nat.reduceSub, xi_add, xt_add, xi_sub, xi_mod, xi_div, xi_cmp, xi_mul, xi_lt, xi_le, xsl_fz, xsl_tup, xsl_ref, xadd_ref, xmul_tup, xpow, xisnot_non, xis_non, xtup_ref, xtup_tup, xlen_tup, xlen_ref, xint_int, xabs_int, ix_t0, ix_t1, D.bl.injEq, D.int.injEq, D.tup.injEq, D.ref.injEq, List.length_cons, List.length_nil, List.cons.injEq, and_true, true_and, and_assoc, exists_and_left, x_tt, x_ft, reduceIte, Bool.false_eq_true, Bool.not_true, Bool.not_false, xwalk_tup, xwalk_ref]
        exact q2 (by rw [decide_eq_true hb]; rfl) _ x2
      · rw [decide_eq_true (by omega : fv f p < 0)]
        simp only [dSeq, dAsg, dRet, dDrop, dIfS, dPar, dPar3, dgName, dgTup, dgCons, dgNil, dBin, dVar, dC, dCB, dCons, dNil, dB, dIf, dNeg, dTup, dLst, dCall, dFor, dIter, dRng1, dLc, dAppend, dNext, dAnd, dOr, dNot, dAndV, dNotV, dgSub, dSl, dPart, dNoPart, wipeD, dZip, dNewT, dNewK, sd1, sd2, sd3, sd4, List.getElem?_cons_succ, List.getElem?_cons_zero, Option.some.injEq, exists_eq_left', List.set_cons_succ, List.set_cons_zero, List.replicate_succ, List.replicate_zero, Nat.reduceAdd, Nat.reduceSub, xi_add, xt_add, xi_sub, xi_mod, xi_div, xi_cmp, xi_mul, xi_lt, xi_le, xsl_fz, xsl_tup, xsl_ref, xadd_ref, xmul_tup, xpow, xisnot_non, xis_non, xtup_ref, xtup_tup, xlen_tup, xlen_ref, xint_int, xabs_int, ix_t0, ix_t1, D.bl.injEq, D.int.injEq, D.tup.injEq, D.ref.injEq, List.length_cons, List.length_nil, List.cons.injEq, and_true, true_and, and_assoc, exists_and_left, x_tt, x_ft, reduceIte, Bool.false_eq_true, Bool.not_true, Bool.not_false, xwalk_tup, xwalk_ref]
        exact q1 (by rw [decide_eq_false hb]; rfl) _ x2
    intro p2 h2
    refine lc_pure (enc := prD) (f := fun _ => .int 1) (keep := fun g => !decide (fv g.2 p % g.1 = 0)) h2 (fun _ _ => trivial) (szl (by have := T.gl; omega)) (fun g S2 K1 K2 hg x2 q1 q2 => ?_) fun S2 x2 e2 => ?_
    · have G := T.gates g hg
      have g2 := G.lo
      unfold prD
      simp only [dSeq, dAsg, dRet, dDrop, dIfS, dPar, dPar3, dgName, dgTup, dgCons, dgNil, dBin, dVar, dC, dCB, dCons, dNil, dB, dIf, dNeg, dTup, dLst, dCall, dFor, dIter, dRng1, dLc, dAppend, dNext, dAnd, dOr, dNot, dAndV, dNotV, dgSub, dSl, dPart, dNoPart, wipeD, dZip, dNewT, dNewK, sd1, sd2, sd3, sd4, List.getElem?_cons_succ, List.getElem?_cons_zero, Option.some.injEq, exists_eq_left', List.set_cons_succ, List.set_cons_zero, List.replicate_succ, List.replicate_zero, Nat.reduceAdd, Nat.reduceSub, xi_add, xt_add, xi_sub, xi_mod, xi_div, xi_cmp, xi_mul, xi_lt, xi_le, xsl_fz, xsl_tup, xsl_ref, xadd_ref, xmul_tup, xpow, xisnot_non, xis_non, xtup_ref, xtup_tup, xlen_tup, xlen_ref, xint_int, xabs_int, ix_t0, ix_t1, D.bl.injEq, D.int.injEq, D.tup.injEq, D.ref.injEq, List.length_cons, List.length_nil, List.cons.injEq, and_true, true_and, and_assoc, exists_and_left, x_tt, x_ft, reduceIte, Bool.false_eq_true, Bool.not_true, Bool.not_false, xwalk_tup, xwalk_ref]
      refine fvok G.fm fun S3 x3 => ?_
      simp only [dSeq, dAsg, dRet, dDrop, dIfS, dPar, dPar3, dgName, dgTup, dgCons, dgNil, dBin, dVar, dC, dCB, dCons, dNil, dB, dIf, dNeg, dTup, dLst, dCall, dFor, dIter, dRng1, dLc, dAppend, dNext, dAnd, dOr, dNot, dAndV, dNotV, dgSub, dSl, dPart, dNoPart, wipeD, dZip, dNewT, dNewK, sd1, sd2, sd3, sd4, List.getElem?_cons_succ, List.getElem?_cons_zero, Option.some.injEq, exists_eq_left', List.set_cons_succ, List.set_cons_zero, List.replicate_succ, List.replicate_zero, Nat.reduceAdd, Nat.reduceSub, xi_add, xt_add, xi_sub, xi_mod, xi_div, xi_cmp, xi_mul, xi_lt, xi_le, xsl_fz, xsl_tup, xsl_ref, xadd_ref, xmul_tup, xpow, xisnot_non, xis_non, xtup_ref, xtup_tup, xlen_tup, xlen_ref, xint_int, xabs_int, ix_t0, ix_t1, D.bl.injEq, D.int.injEq, D.tup.injEq, D.ref.injEq, List.length_cons, List.length_nil, List.cons.injEq, and_true, true_and, and_assoc, exists_and_left, x_tt, x_ft, reduceIte, Bool.false_eq_true, Bool.not_true, Bool.not_false, xwalk_tup, xwalk_ref]
      refine ⟨by omega, ne_int ?_⟩
      by_cases hb : fv g.2 p % g.1 = 0
      · rw [hb]
        simp only [dSeq, dAsg, dRet, dDrop, dIfS, dPar, dPar3, dgName, dgTup, dgCons, dgNil, dBin, dVar, dC, dCB, dCons, dNil, dB, dIf, dNeg, dTup, dLst, dCall, dFor, dIter, dRng1, dLc, dAppend, dNext, dAnd, dOr, dNot, dAndV, dNotV, dgSub, dSl, dPart, dNoPart, wipeD, dZip, dNewT, dNewK, sd1, sd2, sd3, sd4, List.getElem?_cons_succ, List.getElem?_cons_zero, Option.some.injEq, exists_eq_left', List.set_cons_succ, List.set_cons_zero, List.replicate_succ, List.replicate_zero, Nat.reduceAdd, Nat.reduceSub, xi_add, xt_add, xi_sub, xi_mod, xi_div, xi_cmp, xi_mul, xi_lt, xi_le, xsl_fz, xsl_tup, xsl_ref, xadd_ref, xmul_tup, xpow, xisnot_non, xis_non, xtup_ref, xtup_tup, xlen_tup, xlen_ref, xint_int, xabs_int, ix_t0, ix_t1, D.bl.injEq, D.int.injEq, D.tup.injEq, D.ref.injEq, List.length_cons, List.length_nil, List.cons.injEq, and_true, true_and, and_assoc, exists_and_left, x_tt, x_ft, reduceIte, Bool.false_eq_true, Bool.not_true, Bool.not_false, xwalk_tup, xwalk_ref, beq_self_eq_true]
        exact q2 (by rw [decide_eq_true hb]; rfl) _ x3
      · rw [show (fv g.2 p % g.1 == 0) = false from beq_eq_false_iff_ne.mpr hb]
        simp only [dSeq, dAsg, dRet, dDrop, dIfS, dPar, dPar3, dgName, dgTup, dgCons, dgNil, dBin, dVar, dC, dCB, dCons, dNil, dB, dIf, dNeg, dTup, dLst, dCall, dFor, dIter, dRng1, dLc, dAppend, dNext, dAnd, dOr, dNot, dAndV, dNotV, dgSub, dSl, dPart, dNoPart, wipeD, dZip, dNewT, dNewK, sd1, sd2, sd3, sd4, List.getElem?_cons_succ, List.getElem?_cons_zero, Option.some.injEq, exists_eq_left', List.set_cons_succ, List.set_cons_zero, List.replicate_succ, List.replicate_zero, Nat.reduceAdd, Nat.reduceSub, xi_add, xt_add, xi_sub, xi_mod, xi_div, xi_cmp, xi_mul, xi_lt, xi_le, xsl_fz, xsl_tup, xsl_ref, xadd_ref, xmul_tup, xpow, xisnot_non, xis_non, xtup_ref, xtup_tup, xlen_tup, xlen_ref, xint_int, xabs_int, ix_t0, ix_t1, D.bl.injEq, D.int.injEq, D.tup.injEq, D.ref.injEq, List.length_cons, List.length_nil, List.cons.injEq, and_true, true_and, and_assoc, exists_and_left, x_tt, x_ft, reduceIte, Bool.false_eq_true, Bool.not_true, Bool.not_false, xwalk_tup, xwalk_ref]
        exact q1 (by rw [decide_eq_false hb]; rfl) _ x3
    refine ⟨szl (by omega), fun p3 h3 => ?_⟩
    have e13 : ups S2 p3 (.lst []) p1 = some (.lst ((t.rows.filter fun f => !decide (0 ≤ fv f p)).map fmD)) := ups_old h3 (x2 _ _ e1)
    refine eq_nilL e13 ups_same (pures_of pure_fm _) (Nat.le_trans (deps_le dep_fm _) (by omega)) ?_
    rw [isEmpty_map, empty_filter]
    simp only [dSeq, dAsg, dRet, dDrop, dIfS, dPar, dPar3, dgName, dgTup, dgCons, dgNil, dBin, dVar, dC, dCB, dCons, dNil, dB, dIf, dNeg, dTup, dLst, dCall, dFor, dIter, dRng1, dLc, dAppend, dNext, dAnd, dOr, dNot, dAndV, dNotV, dgSub, dSl, dPart, dNoPart, wipeD, dZip, dNewT, dNewK, sd1, sd2, sd3, sd4, List.getElem?_cons_succ, List.getElem?_cons_zero, Option.some.injEq, exists_eq_left', List.set_cons_succ, List.set_cons_zero, List.replicate_succ, List.replicate_zero, Nat.reduceAdd, Nat.reduceSub, xi_add, xt_add, xi_sub, xi_mod, xi_div, xi_cmp, xi_mul, xi_lt, xi_le, xsl_fz, xsl_tup, xsl_ref, xadd_ref, xmul_tup, xpow, xisnot_non, xis_non, xtup_ref, xtup_tup, xlen_tup, xlen_ref, xint_int, xabs_int, ix_t0, ix_t1, D.bl.injEq, D.int.injEq, D.tup.injEq, D.ref.injEq, List.length_cons, List.length_nil, List.cons.injEq, and_true, true_and, and_assoc, exists_and_left, x_tt, x_ft, reduceIte, Bool.false_eq_true, Bool.not_true, Bool.not_false, xwalk_tup, xwalk_ref]
    have xS2 : Ext S S2 := (x.trans x1).trans x2
    have skip : termOn t p = false → worthF (ts.take (i + 1)) p = worthF (ts.take i) p := fun h => by
      rw [take_snoc e, worthF_snoc, h]
      rfl
    cases hr : t.rows.all fun f => decide (0 ≤ fv f p) with
    | false =>
      simp only [dSeq, dAsg, dRet, dDrop, dIfS, dPar, dPar3, dgName, dgTup, dgCons, dgNil, dBin, dVar, dC, dCB, dCons, dNil, dB, dIf, dNeg, dTup, dLst, dCall, dFor, dIter, dRng1, dLc, dAppend, dNext, dAnd, dOr, dNot, dAndV, dNotV, dgSub, dSl, dPart, dNoPart, wipeD, dZip, dNewT, dNewK, sd1, sd2, sd3, sd4, List.getElem?_cons_succ, List.getElem?_cons_zero, Option.some.injEq, exists_eq_left', List.set_cons_succ, List.set_cons_zero, List.replicate_succ, List.replicate_zero, Nat.reduceAdd, Nat.reduceSub, xi_add, xt_add, xi_sub, xi_mod, xi_div, xi_cmp, xi_mul, xi_lt, xi_le, xsl_fz, xsl_tup, xsl_ref, xadd_ref, xmul_tup, xpow, xisnot_non, xis_non, xtup_ref, xtup_tup, xlen_tup, xlen_ref, xint_int, xabs_int, ix_t0, ix_t1, D.bl.injEq, D.int.injEq, D.tup.injEq, D.ref.injEq, List.length_cons, List.length_nil, List.cons.injEq, and_true, true_and, and_assoc, exists_and_left, x_tt, x_ft, reduceIte, Bool.false_eq_true, Bool.not_true, Bool.not_false, xwalk_tup, xwalk_ref]
      rw [← skip (by unfold termOn; rw [hr]; rfl)]
      exact hN _ _ ⟨xS2.put (Ext.none xS2 h3), _, _, _, _, _, _, _, _, _, _, rfl⟩
    | true =>
      simp only [dSeq, dAsg, dRet, dDrop, dIfS, dPar, dPar3, dgName, dgTup, dgCons, dgNil, dBin, dVar, dC, dCB, dCons, dNil, dB, dIf, dNeg, dTup, dLst, dCall, dFor, dIter, dRng1, dLc, dAppend, dNext, dAnd, dOr, dNot, dAndV, dNotV, dgSub, dSl, dPart, dNoPart, wipeD, dZip, dNewT, dNewK, sd1, sd2, sd3, sd4, List.getElem?_cons_succ, List.getElem?_cons_zero, Option.some.injEq, exists_eq_left', List.set_cons_succ, List.set_cons_zero, List.replicate_succ, List.replicate_zero, Nat.reduceAdd, Nat.reduceSub, xi_add, xt_add, xi_sub, xi_mod, xi_div, xi_cmp, xi_mul, xi_lt, xi_le, xsl_fz, xsl_tup, xsl_ref, xadd_ref, xmul_tup, xpow, xisnot_non, xis_non, xtup_ref, xtup_tup, xlen_tup, xlen_ref, xint_int, xabs_int, ix_t0, ix_t1, D.bl.injEq, D.int.injEq, D.tup.injEq, D.ref.injEq, List.length_cons, List.length_nil, List.cons.injEq, and_true, true_and, and_assoc, exists_and_left, x_tt, x_ft, reduceIte, Bool.false_eq_true, Bool.not_true, Bool.not_false, xwalk_tup, xwalk_ref]
      refine ⟨szl (by omega), fun p4 h4 => ?_⟩
      have e24 : ups (ups S2 p3 (.lst [])) p4 (.lst []) p2 = some (.lst ((t.gates.filter fun g => !decide (fv g.2 p % g.1 = 0)).map fun _ => D.int 1)) := ups_old h4 (ups_old h3 e2)
      refine eq_nilL e24 ups_same (pures_of (fun _ => rfl) _) (Nat.le_trans (deps_le (n := 0) (fun _ => Nat.le_refl _) _) (by omega)) ?_
      rw [isEmpty_map, empty_filter]
      simp only [dSeq, dAsg, dRet, dDrop, dIfS, dPar, dPar3, dgName, dgTup, dgCons, dgNil, dBin, dVar, dC, dCB, dCons, dNil, dB, dIf, dNeg, dTup, dLst, dCall, dFor, dIter, dRng1, dLc, dAppend, dNext, dAnd, dOr, dNot, dAndV, dNotV, dgSub, dSl, dPart, dNoPart, wipeD, dZip, dNewT, dNewK, sd1, sd2, sd3, sd4, List.getElem?_cons_succ, List.getElem?_cons_zero, Option.some.injEq, exists_eq_left', List.set_cons_succ, List.set_cons_zero, List.replicate_succ, List.replicate_zero, Nat.reduceAdd, Nat.reduceSub, xi_add, xt_add, xi_sub, xi_mod, xi_div, xi_cmp, xi_mul, xi_lt, xi_le, xsl_fz, xsl_tup, xsl_ref, xadd_ref, xmul_tup, xpow, xisnot_non, xis_non, xtup_ref, xtup_tup, xlen_tup, xlen_ref, xint_int, xabs_int, ix_t0, ix_t1, D.bl.injEq, D.int.injEq, D.tup.injEq, D.ref.injEq, List.length_cons, List.length_nil, List.cons.injEq, and_true, true_and, and_assoc, exists_and_left, x_tt, x_ft, reduceIte, Bool.false_eq_true, Bool.not_true, Bool.not_false, xwalk_tup, xwalk_ref]
      have x24 : Ext S (ups (ups S2 p3 (.lst [])) p4 (.lst [])) := (xS2.trans (Ext.new h3)).trans (Ext.new h4)
      generalize eS4 : ups (ups S2 p3 (.lst [])) p4 (.lst []) = S4 at x24
      cases hg : t.gates.all fun g => decide (fv g.2 p % g.1 = 0) with
      | false =>
        simp only [dSeq, dAsg, dRet, dDrop, dIfS, dPar, dPar3, dgName, dgTup, dgCons, dgNil, dBin, dVar, dC, dCB, dCons, dNil, dB, dIf, dNeg, dTup, dLst, dCall, dFor, dIter, dRng1, dLc, dAppend, dNext, dAnd, dOr, dNot, dAndV, dNotV, dgSub, dSl, dPart, dNoPart, wipeD, dZip, dNewT, dNewK, sd1, sd2, sd3, sd4, List.getElem?_cons_succ, List.getElem?_cons_zero, Option.some.injEq, exists_eq_left', List.set_cons_succ, List.set_cons_zero, List.replicate_succ, List.replicate_zero, Nat.reduceAdd, Nat.reduceSub, xi_add, xt_add, xi_sub, xi_mod, xi_div, xi_cmp, xi_mul, xi_lt, xi_le, xsl_fz, xsl_tup, xsl_ref, xadd_ref, xmul_tup, xpow, xisnot_non, xis_non, xtup_ref, xtup_tup, xlen_tup, xlen_ref, xint_int, xabs_int, ix_t0, ix_t1, D.bl.injEq, D.int.injEq, D.tup.injEq, D.ref.injEq, List.length_cons, List.length_nil, List.cons.injEq, and_true, true_and, and_assoc, exists_and_left, x_tt, x_ft, reduceIte, Bool.false_eq_true, Bool.not_true, Bool.not_false, xwalk_tup, xwalk_ref]
        rw [← skip (by unfold termOn; rw [hr, hg]; rfl)]
        exact hN _ _ ⟨x24, _, _, _, _, _, _, _, _, _, _, rfl⟩
      | true =>
        simp only [dSeq, dAsg, dRet, dDrop, dIfS, dPar, dPar3, dgName, dgTup, dgCons, dgNil, dBin, dVar, dC, dCB, dCons, dNil, dB, dIf, dNeg, dTup, dLst, dCall, dFor, dIter, dRng1, dLc, dAppend, dNext, dAnd, dOr, dNot, dAndV, dNotV, dgSub, dSl, dPart, dNoPart, wipeD, dZip, dNewT, dNewK, sd1, sd2, sd3, sd4, List.getElem?_cons_succ, List.getElem?_cons_zero, Option.some.injEq, exists_eq_left', List.set_cons_succ, List.set_cons_zero, List.replicate_succ, List.replicate_zero, Nat.reduceAdd, Nat.reduceSub, xi_add, xt_add, xi_sub, xi_mod, xi_div, xi_cmp, xi_mul, xi_lt, xi_le, xsl_fz, xsl_tup, xsl_ref, xadd_ref, xmul_tup, xpow, xisnot_non, xis_non, xtup_ref, xtup_tup, xlen_tup, xlen_ref, xint_int, xabs_int, ix_t0, ix_t1, D.bl.injEq, D.int.injEq, D.tup.injEq, D.ref.injEq, List.length_cons, List.length_nil, List.cons.injEq, and_true, true_and, and_assoc, exists_and_left, x_tt, x_ft, reduceIte, Bool.false_eq_true, Bool.not_true, Bool.not_false, xwalk_tup, xwalk_ref]
        intro p5 h5
        refine lc_map (enc := prD) (f := fun s => .int (fv s.2 p / s.1)) h5 (fun _ _ => trivial) (szl (by have := T.sl; omega)) (fun s S5 K1 hs x5 q1 => ?_) fun S5 x5 e5 => ?_
        · have G := T.steps s hs
          have g2 := G.lo
          have g3 := G.hi
          unfold prD
          simp only [dSeq, dAsg, dRet, dDrop, dIfS, dPar, dPar3, dgName, dgTup, dgCons, dgNil, dBin, dVar, dC, dCB, dCons, dNil, dB, dIf, dNeg, dTup, dLst, dCall, dFor, dIter, dRng1, dLc, dAppend, dNext, dAnd, dOr, dNot, dAndV, dNotV, dgSub, dSl, dPart, dNoPart, wipeD, dZip, dNewT, dNewK, sd1, sd2, sd3, sd4, List.getElem?_cons_succ, List.getElem?_cons_zero, Option.some.injEq, exists_eq_left', List.set_cons_succ, List.set_cons_zero, List.replicate_succ, List.replicate_zero, Nat.reduceAdd, Nat.reduceSub, xi_add, xt_add, xi_sub, xi_mod, xi_div, xi_cmp, xi_mul, xi_lt, xi_le, xsl_fz, xsl_tup, xsl_ref, xadd_ref, xmul_tup, xpow, xisnot_non, xis_non, xtup_ref, xtup_tup, xlen_tup, xlen_ref, xint_int, xabs_int, ix_t0, ix_t1, D.bl.injEq, D.int.injEq, D.tup.injEq, D.ref.injEq, List.length_cons, List.length_nil, List.cons.injEq, and_true, true_and, and_assoc, exists_and_left, x_tt, x_ft, reduceIte, Bool.false_eq_true, Bool.not_true, Bool.not_false, xwalk_tup, xwalk_ref]
          refine fvok G.fm fun S3 x3 => ?_
          simp only [dSeq, dAsg, dRet, dDrop, dIfS, dPar, dPar3, dgName, dgTup, dgCons, dgNil, dBin, dVar, dC, dCB, dCons, dNil, dB, dIf, dNeg, dTup, dLst, dCall, dFor, dIter, dRng1, dLc, dAppend, dNext, dAnd, dOr, dNot, dAndV, dNotV, dgSub, dSl, dPart, dNoPart, wipeD, dZip, dNewT, dNewK, sd1, sd2, sd3, sd4, List.getElem?_cons_succ, List.getElem?_cons_zero, Option.some.injEq, exists_eq_left', List.set_cons_succ, List.set_cons_zero, List.replicate_succ, List.replicate_zero, Nat.reduceAdd, Nat.reduceSub, xi_add, xt_add, xi_sub, xi_mod, xi_div, xi_cmp, xi_mul, xi_lt, xi_le, xsl_fz, xsl_tup, xsl_ref, xadd_ref, xmul_tup, xpow, xisnot_non, xis_non, xtup_ref, xtup_tup, xlen_tup, xlen_ref, xint_int, xabs_int, ix_t0, ix_t1, D.bl.injEq, D.int.injEq, D.tup.injEq, D.ref.injEq, List.length_cons, List.length_nil, List.cons.injEq, and_true, true_and, and_assoc, exists_and_left, x_tt, x_ft, reduceIte, Bool.false_eq_true, Bool.not_true, Bool.not_false, xwalk_tup, xwalk_ref]
          exact ⟨wide_div (b := 10) (by omega) (by omega) (by omega) (by omega), q1 _ x3⟩
        have tO : termOn t p = true := by unfold termOn; rw [hr, hg]; rfl
        have wf : worthF (ts.take (i + 1)) p = plusF (worthF (ts.take i) p) (polyF t.poly (stepsAt t p)) := by
          rw [take_snoc e, worthF_snoc, tO]
          rfl
        have n3 := W.n3
        refine ⟨t.poly, stepsAt t p, p5, t.steps.length, nb, db, eb, jb, vb, rfl, by rw [e5]; unfold stepsAt; rw [List.map_map]; rfl, T.poly, by unfold stepsAt; rw [List.length_map], T.sl, stepsAt_b (W.vals t mt), W.n1, W.n2, by omega, W.n4, ?_⟩
        simp only [dSeq, dAsg, dRet, dDrop, dIfS, dPar, dPar3, dgName, dgTup, dgCons, dgNil, dBin, dVar, dC, dCB, dCons, dNil, dB, dIf, dNeg, dTup, dLst, dCall, dFor, dIter, dRng1, dLc, dAppend, dNext, dAnd, dOr, dNot, dAndV, dNotV, dgSub, dSl, dPart, dNoPart, wipeD, dZip, dNewT, dNewK, sd1, sd2, sd3, sd4, List.getElem?_cons_succ, List.getElem?_cons_zero, Option.some.injEq, exists_eq_left', List.set_cons_succ, List.set_cons_zero, List.replicate_succ, List.replicate_zero, Nat.reduceAdd, Nat.reduceSub, xi_add, xt_add, xi_sub, xi_mod, xi_div, xi_cmp, xi_mul, xi_lt, xi_le, xsl_fz, xsl_tup, xsl_ref, xadd_ref, xmul_tup, xpow, xisnot_non, xis_non, xtup_ref, xtup_tup, xlen_tup, xlen_ref, xint_int, xabs_int, ix_t0, ix_t1, D.bl.injEq, D.int.injEq, D.tup.injEq, D.ref.injEq, List.length_cons, List.length_nil, List.cons.injEq, and_true, true_and, and_assoc, exists_and_left, x_tt, x_ft, reduceIte, Bool.false_eq_true, Bool.not_true, Bool.not_false, xwalk_tup, xwalk_ref]
        have hlt : i < ts.length := (List.getElem?_eq_some_iff.mp e).1
        have f0 := W.worth i
        have f1 := W.poly mt
        have l0 := f0.lt (by omega) (by omega)
        have l1 := f1.lt (by omega) (by omega)
        refine ⟨_, _, rfl, f0.2.1, f1.2.1, l0.2, l1.2, l0.1, l1.1, ?_⟩
        rw [← wf]
        exact hN _ _ ⟨x24.trans x5, _, _, _, _, _, _, _, _, _, _, rfl⟩
  · subst eσ
    simp only [dSeq, dAsg, dRet, dDrop, dIfS, dPar, dPar3, dgName, dgTup, dgCons, dgNil, dBin, dVar, dC, dCB, dCons, dNil, dB, dIf, dNeg, dTup, dLst, dCall, dFor, dIter, dRng1, dLc, dAppend, dNext, dAnd, dOr, dNot, dAndV, dNotV, dgSub, dSl, dPart, dNoPart, wipeD, dZip, dNewT, dNewK, sd1, sd2, sd3, sd4, List.getElem?_cons_succ, List.getElem?_cons_zero, Option.some.injEq, exists_eq_left', List.set_cons_succ, List.set_cons_zero, List.replicate_succ, List.replicate_zero, Nat.reduceAdd, Nat.reduceSub, xi_add, xt_add, xi_sub, xi_mod, xi_div, xi_cmp, xi_mul, xi_lt, xi_le, xsl_fz, xsl_tup, xsl_ref, xadd_ref, xmul_tup, xpow, xisnot_non, xis_non, xtup_ref, xtup_tup, xlen_tup, xlen_ref, xint_int, xabs_int, ix_t0, ix_t1, D.bl.injEq, D.int.injEq, D.tup.injEq, D.ref.injEq, List.length_cons, List.length_nil, List.cons.injEq, and_true, true_and, and_assoc, exists_and_left, x_tt, x_ft, reduceIte, Bool.false_eq_true, Bool.not_true, Bool.not_false, xwalk_tup, xwalk_ref]
    rw [List.take_length]
    exact q _ x
end LW

namespace LW
open PySem PySem.Spec PyProof.Rows L2 DL
theorem xis_ii {i : Int} {S : Stt} {Q : DK} : rIsi [.int i, .ty "int"] S Q = Q (.bl true) S := propext ⟨fun ⟨d, t, c, b, e, ty, hk, q⟩ => by
  cases e; cases ty; cases hk; exact q, fun h => xisi (.int i) rfl h⟩
theorem xis_ib {i : Int} {S : Stt} {Q : DK} : rIsi [.int i, .ty "bool"] S Q = Q (.bl false) S := propext ⟨fun ⟨d, t, c, b, e, ty, hk, q⟩ => by
  cases e; cases ty; cases hk; exact q, fun h => xisi (.int i) rfl h⟩
theorem xis_tt {l : List D} {S : Stt} {Q : DK} : rIsi [.tup l, .ty "tuple"] S Q = Q (.bl true) S := propext ⟨fun ⟨d, t, c, b, e, ty, hk, q⟩ => by
  cases e; cases ty; cases hk; exact q, fun h => xisi (.tup l) rfl h⟩
theorem lc_none {α : Type} {as : List α} {enc : α → D} {g : DTG} {tt : DTT} {te : DTE} {σ : Sd} {G : Stt → Prop} {p : Addr} {Q : DK} {S : Stt} (hp : S p = none) (hG : ∀ S', Ext S S' → G S') (hl : as.length ≤ sizeLine)
    (st : ∀ a S1 (K1 : DK) (K2 : Stt → Prop), a ∈ as → Ext S S1 → (∀ S2, Ext S1 S2 → K2 S2) → g (enc a) σ S1 fun σ2 S2 => tt σ2 S2 fun b S3 => if b = true then te σ2 S3 K1 else K2 S3)
    (hd : ∀ S', Ext S S' → S' p = some (.lst []) → Q (.ref p) S') : lcD g tt te σ G p Q (as.map enc) (ups S p (.lst [])) :=
  lc_pure (f := fun _ => .non) (keep := fun _ => false) hp hG hl (fun a S1 K1 K2 ha x _ h2 => st a S1 K1 K2 ha x fun S2 x2 => h2 rfl S2 x2) fun S' x e => hd S' x (by
    rw [e, List.filter_eq_nil_iff.mpr (by intro a _; simp)]; rfl)
theorem eq_nil2 {a b : Addr} {S : Stt} {Q : DK} (e : S a = some (.lst [])) (e' : S b = some (.lst [])) (q : Q (.bl true) S) : DL.rEq (.ref a) (.ref b) S Q := eq_nilL e e' rfl (Nat.zero_le _) q
theorem ne_nil2 {a b : Addr} {S : Stt} {Q : DK} (e : S a = some (.lst [])) (e' : S b = some (.lst [])) (q : Q (.bl false) S) : DL.rNe (.ref a) (.ref b) S Q := ne_nilL e e' rfl (Nat.zero_le _) q
theorem ne_intF {i j : Int} {S : Stt} {Q : DK} (h : i = j) (q : Q (.bl false) S) : DL.rNe (.int i) (.int j) S Q := ne_int (by rw [beq_iff_eq.mpr h]; exact q)
theorem eq_intF {i j : Int} {S : Stt} {Q : DK} (h : i ≠ j) (q : Q (.bl false) S) : DL.rEq (.int i) (.int j) S Q := eq_int (by rw [beq_eq_false_iff_ne.mpr h]; exact q)
theorem eq_intT {i j : Int} {S : Stt} {Q : DK} (h : i = j) (q : Q (.bl true) S) : DL.rEq (.int i) (.int j) S Q := eq_int (by rw [beq_iff_eq.mpr h]; exact q)
theorem len_Lis_int : ∀ ds S Q, sp_Lis_int ds S Q → ds.length = p_Lis_int.length := fun ds S Q ⟨_, e, _⟩ => by subst e; rfl
theorem run_Lis_int {ds : List D} {S : Stt} {Q : DK} (h : sp_Lis_int ds S Q) : t_Lis_int { nx := fun _ S2 => Q .non S2, rt := Q } (startD n_Lis_int ds) S := by
  obtain ⟨i, rfl, q⟩ := h
  unfold t_Lis_int
  try simp only [dSeq, dAsg, dRet, dDrop, dIfS, dPar, dPar3, dgName, dgTup, dgCons, dgNil, dBin, dVar, dC, dCB, dCons, dNil, dB, dIf, dNeg, dTup, dLst, dCall, dFor, dIter, dRng1, dLc, dAppend, dNext, dAnd, dOr, dNot, dAndV, dNotV, dgSub, dSl, dPart, dNoPart, wipeD, dZip, dNewT, dNewK, sd1, sd2, sd3, sd4, List.getElem?_cons_succ, List.getElem?_cons_zero, Option.some.injEq, exists_eq_left', List.set_cons_succ, List.set_cons_zero, List.replicate_succ, List.replicate_zero, Nat.reduceAdd, Nat.reduceSub, xi_add, xt_add, xi_sub, xi_mod, xi_div, xi_cmp, xi_mul, xi_lt, xi_le, xsl_fz, xsl_tup, xsl_ref, xadd_ref, xmul_tup, xpow, xisnot_non, xis_non, xtup_ref, xtup_tup, xlen_tup, xlen_ref, xint_int, xabs_int, ix_t0, ix_t1, D.bl.injEq, D.int.injEq, D.tup.injEq, D.ref.injEq, List.length_cons, List.length_nil, List.cons.injEq, and_true, true_and, and_assoc, exists_and_left, x_tt, x_ft, reduceIte, Bool.false_eq_true, Bool.not_true, Bool.not_false, xwalk_tup, xwalk_ref, xis_ii, xis_ib, xis_tt]
  exact q
theorem len_Lis_form : ∀ ds S Q, sp_Lis_form ds S Q → ds.length = p_Lis_form.length := fun ds S Q ⟨_, _, _, e, _⟩ => by subst e; rfl
theorem run_Lis_form {ds : List D} {S : Stt} {Q : DK} (h : sp_Lis_form ds S Q) : t_Lis_form { nx := fun _ S2 => Q .non S2, rt := Q } (startD n_Lis_form ds) S := by
  obtain ⟨f, k, B, rfl, hf, hk, q⟩ := h
  unfold t_Lis_form fmD
  try simp only [dSeq, dAsg, dRet, dDrop, dIfS, dPar, dPar3, dgName, dgTup, dgCons, dgNil, dBin, dVar, dC, dCB, dCons, dNil, dB, dIf, dNeg, dTup, dLst, dCall, dFor, dIter, dRng1, dLc, dAppend, dNext, dAnd, dOr, dNot, dAndV, dNotV, dgSub, dSl, dPart, dNoPart, wipeD, dZip, dNewT, dNewK, sd1, sd2, sd3, sd4, List.getElem?_cons_succ, List.getElem?_cons_zero, Option.some.injEq, exists_eq_left', List.set_cons_succ, List.set_cons_zero, List.replicate_succ, List.replicate_zero, Nat.reduceAdd, Nat.reduceSub, xi_add, xt_add, xi_sub, xi_mod, xi_div, xi_cmp, xi_mul, xi_lt, xi_le, xsl_fz, xsl_tup, xsl_ref, xadd_ref, xmul_tup, xpow, xisnot_non, xis_non, xtup_ref, xtup_tup, xlen_tup, xlen_ref, xint_int, xabs_int, ix_t0, ix_t1, D.bl.injEq, D.int.injEq, D.tup.injEq, D.ref.injEq, List.length_cons, List.length_nil, List.cons.injEq, and_true, true_and, and_assoc, exists_and_left, x_tt, x_ft, reduceIte, Bool.false_eq_true, Bool.not_true, Bool.not_false, xwalk_tup, xwalk_ref, xis_ii, xis_ib, xis_tt]
  refine ne_intF (by rw [List.length_map, hf.1]; omega) ?_
  try simp only [dSeq, dAsg, dRet, dDrop, dIfS, dPar, dPar3, dgName, dgTup, dgCons, dgNil, dBin, dVar, dC, dCB, dCons, dNil, dB, dIf, dNeg, dTup, dLst, dCall, dFor, dIter, dRng1, dLc, dAppend, dNext, dAnd, dOr, dNot, dAndV, dNotV, dgSub, dSl, dPart, dNoPart, wipeD, dZip, dNewT, dNewK, sd1, sd2, sd3, sd4, List.getElem?_cons_succ, List.getElem?_cons_zero, Option.some.injEq, exists_eq_left', List.set_cons_succ, List.set_cons_zero, List.replicate_succ, List.replicate_zero, Nat.reduceAdd, Nat.reduceSub, xi_add, xt_add, xi_sub, xi_mod, xi_div, xi_cmp, xi_mul, xi_lt, xi_le, xsl_fz, xsl_tup, xsl_ref, xadd_ref, xmul_tup, xpow, xisnot_non, xis_non, xtup_ref, xtup_tup, xlen_tup, xlen_ref, xint_int, xabs_int, ix_t0, ix_t1, D.bl.injEq, D.int.injEq, D.tup.injEq, D.ref.injEq, List.length_cons, List.length_nil, List.cons.injEq, and_true, true_and, and_assoc, exists_and_left, x_tt, x_ft, reduceIte, Bool.false_eq_true, Bool.not_true, Bool.not_false, xwalk_tup, xwalk_ref]
  intro p hp
  refine lc_none (enc := D.int) hp (fun _ _ => trivial) (szl (by rw [hf.1]; omega)) (fun i S1 K1 K2 hi x1 q2 => ?_) fun S1 x1 e1 => ?_
  · try simp only [dSeq, dAsg, dRet, dDrop, dIfS, dPar, dPar3, dgName, dgTup, dgCons, dgNil, dBin, dVar, dC, dCB, dCons, dNil, dB, dIf, dNeg, dTup, dLst, dCall, dFor, dIter, dRng1, dLc, dAppend, dNext, dAnd, dOr, dNot, dAndV, dNotV, dgSub, dSl, dPart, dNoPart, wipeD, dZip, dNewT, dNewK, sd1, sd2, sd3, sd4, List.getElem?_cons_succ, List.getElem?_cons_zero, Option.some.injEq, exists_eq_left', List.set_cons_succ, List.set_cons_zero, List.replicate_succ, List.replicate_zero, Nat.reduceAdd, Nat.reduceSub, xi_add, xt_add, xi_sub, xi_mod, xi_div, xi_cmp, xi_mul, xi_lt, xi_le, xsl_fz, xsl_tup, xsl_ref, xadd_ref, xmul_tup, xpow, xisnot_non, xis_non, xtup_ref, xtup_tup, xlen_tup, xlen_ref, xint_int, xabs_int, ix_t0, ix_t1, D.bl.injEq, D.int.injEq, D.tup.injEq, D.ref.injEq, List.length_cons, List.length_nil, List.cons.injEq, and_true, true_and, and_assoc, exists_and_left, x_tt, x_ft, reduceIte, Bool.false_eq_true, Bool.not_true, Bool.not_false, xwalk_tup, xwalk_ref]
    refine ⟨i, rfl, ?_⟩
    try simp only [dSeq, dAsg, dRet, dDrop, dIfS, dPar, dPar3, dgName, dgTup, dgCons, dgNil, dBin, dVar, dC, dCB, dCons, dNil, dB, dIf, dNeg, dTup, dLst, dCall, dFor, dIter, dRng1, dLc, dAppend, dNext, dAnd, dOr, dNot, dAndV, dNotV, dgSub, dSl, dPart, dNoPart, wipeD, dZip, dNewT, dNewK, sd1, sd2, sd3, sd4, List.getElem?_cons_succ, List.getElem?_cons_zero, Option.some.injEq, exists_eq_left', List.set_cons_succ, List.set_cons_zero, List.replicate_succ, List.replicate_zero, Nat.reduceAdd, Nat.reduceSub, xi_add, xt_add, xi_sub, xi_mod, xi_div, xi_cmp, xi_mul, xi_lt, xi_le, xsl_fz, xsl_tup, xsl_ref, xadd_ref, xmul_tup, xpow, xisnot_non, xis_non, xtup_ref, xtup_tup, xlen_tup, xlen_ref, xint_int, xabs_int, ix_t0, ix_t1, D.bl.injEq, D.int.injEq, D.tup.injEq, D.ref.injEq, List.length_cons, List.length_nil, List.cons.injEq, and_true, true_and, and_assoc, exists_and_left, x_tt, x_ft, reduceIte, Bool.false_eq_true, Bool.not_true, Bool.not_false, xwalk_tup, xwalk_ref]
    exact q2 _ (Ext.refl _)
  · refine ⟨szl (by omega), fun p2 h2 => ?_⟩
    exact eq_nil2 (ups_old h2 e1) ups_same (q _ (x1.trans (Ext.new h2)))
theorem len_Lare_forms : ∀ ds S Q, sp_Lare_forms ds S Q → ds.length = p_Lare_forms.length := fun ds S Q ⟨_, _, _, e, _⟩ => by subst e; rfl
theorem run_Lare_forms {ds : List D} {S : Stt} {Q : DK} (h : sp_Lare_forms ds S Q) : t_Lare_forms { nx := fun _ S2 => Q .non S2, rt := Q } (startD n_Lare_forms ds) S := by
  obtain ⟨fs, k, B, rfl, hf, hl, hk, q⟩ := h
  unfold t_Lare_forms
  try simp only [dSeq, dAsg, dRet, dDrop, dIfS, dPar, dPar3, dgName, dgTup, dgCons, dgNil, dBin, dVar, dC, dCB, dCons, dNil, dB, dIf, dNeg, dTup, dLst, dCall, dFor, dIter, dRng1, dLc, dAppend, dNext, dAnd, dOr, dNot, dAndV, dNotV, dgSub, dSl, dPart, dNoPart, wipeD, dZip, dNewT, dNewK, sd1, sd2, sd3, sd4, List.getElem?_cons_succ, List.getElem?_cons_zero, Option.some.injEq, exists_eq_left', List.set_cons_succ, List.set_cons_zero, List.replicate_succ, List.replicate_zero, Nat.reduceAdd, Nat.reduceSub, xi_add, xt_add, xi_sub, xi_mod, xi_div, xi_cmp, xi_mul, xi_lt, xi_le, xsl_fz, xsl_tup, xsl_ref, xadd_ref, xmul_tup, xpow, xisnot_non, xis_non, xtup_ref, xtup_tup, xlen_tup, xlen_ref, xint_int, xabs_int, ix_t0, ix_t1, D.bl.injEq, D.int.injEq, D.tup.injEq, D.ref.injEq, List.length_cons, List.length_nil, List.cons.injEq, and_true, true_and, and_assoc, exists_and_left, x_tt, x_ft, reduceIte, Bool.false_eq_true, Bool.not_true, Bool.not_false, xwalk_tup, xwalk_ref, xis_ii, xis_ib, xis_tt]
  intro p hp
  refine lc_none (enc := fmD) hp (fun _ _ => trivial) (szl (by omega)) (fun f S1 K1 K2 hi x1 q2 => ?_) fun S1 x1 e1 => ?_
  · try simp only [dSeq, dAsg, dRet, dDrop, dIfS, dPar, dPar3, dgName, dgTup, dgCons, dgNil, dBin, dVar, dC, dCB, dCons, dNil, dB, dIf, dNeg, dTup, dLst, dCall, dFor, dIter, dRng1, dLc, dAppend, dNext, dAnd, dOr, dNot, dAndV, dNotV, dgSub, dSl, dPart, dNoPart, wipeD, dZip, dNewT, dNewK, sd1, sd2, sd3, sd4, List.getElem?_cons_succ, List.getElem?_cons_zero, Option.some.injEq, exists_eq_left', List.set_cons_succ, List.set_cons_zero, List.replicate_succ, List.replicate_zero, Nat.reduceAdd, Nat.reduceSub, xi_add, xt_add, xi_sub, xi_mod, xi_div, xi_cmp, xi_mul, xi_lt, xi_le, xsl_fz, xsl_tup, xsl_ref, xadd_ref, xmul_tup, xpow, xisnot_non, xis_non, xtup_ref, xtup_tup, xlen_tup, xlen_ref, xint_int, xabs_int, ix_t0, ix_t1, D.bl.injEq, D.int.injEq, D.tup.injEq, D.ref.injEq, List.length_cons, List.length_nil, List.cons.injEq, and_true, true_and, and_assoc, exists_and_left, x_tt, x_ft, reduceIte, Bool.false_eq_true, Bool.not_true, Bool.not_false, xwalk_tup, xwalk_ref]
    refine ⟨f, k, B, rfl, hf f hi, hk, fun S2 x2 => ?_⟩
    try simp only [dSeq, dAsg, dRet, dDrop, dIfS, dPar, dPar3, dgName, dgTup, dgCons, dgNil, dBin, dVar, dC, dCB, dCons, dNil, dB, dIf, dNeg, dTup, dLst, dCall, dFor, dIter, dRng1, dLc, dAppend, dNext, dAnd, dOr, dNot, dAndV, dNotV, dgSub, dSl, dPart, dNoPart, wipeD, dZip, dNewT, dNewK, sd1, sd2, sd3, sd4, List.getElem?_cons_succ, List.getElem?_cons_zero, Option.some.injEq, exists_eq_left', List.set_cons_succ, List.set_cons_zero, List.replicate_succ, List.replicate_zero, Nat.reduceAdd, Nat.reduceSub, xi_add, xt_add, xi_sub, xi_mod, xi_div, xi_cmp, xi_mul, xi_lt, xi_le, xsl_fz, xsl_tup, xsl_ref, xadd_ref, xmul_tup, xpow, xisnot_non, xis_non, xtup_ref, xtup_tup, xlen_tup, xlen_ref, xint_int, xabs_int, ix_t0, ix_t1, D.bl.injEq, D.int.injEq, D.tup.injEq, D.ref.injEq, List.length_cons, List.length_nil, List.cons.injEq, and_true, true_and, and_assoc, exists_and_left, x_tt, x_ft, reduceIte, Bool.false_eq_true, Bool.not_true, Bool.not_false, xwalk_tup, xwalk_ref]
    exact q2 _ x2
  · refine ⟨szl (by omega), fun p2 h2 => ?_⟩
    exact eq_nil2 (ups_old h2 e1) ups_same (q _ (x1.trans (Ext.new h2)))
theorem len_Lare_pairs : ∀ ds S Q, sp_Lare_pairs ds S Q → ds.length = p_Lare_pairs.length := fun ds S Q ⟨_, _, _, _, e, _⟩ => by subst e; rfl
theorem run_Lare_pairs {ds : List D} {S : Stt} {Q : DK} (h : sp_Lare_pairs ds S Q) : t_Lare_pairs { nx := fun _ S2 => Q .non S2, rt := Q } (startD n_Lare_pairs ds) S := by
  obtain ⟨ps, k, B, lo, rfl, hp, hl, hk, q⟩ := h
  unfold t_Lare_pairs
  try simp only [dSeq, dAsg, dRet, dDrop, dIfS, dPar, dPar3, dgName, dgTup, dgCons, dgNil, dBin, dVar, dC, dCB, dCons, dNil, dB, dIf, dNeg, dTup, dLst, dCall, dFor, dIter, dRng1, dLc, dAppend, dNext, dAnd, dOr, dNot, dAndV, dNotV, dgSub, dSl, dPart, dNoPart, wipeD, dZip, dNewT, dNewK, sd1, sd2, sd3, sd4, List.getElem?_cons_succ, List.getElem?_cons_zero, Option.some.injEq, exists_eq_left', List.set_cons_succ, List.set_cons_zero, List.replicate_succ, List.replicate_zero, Nat.reduceAdd, Nat.reduceSub, xi_add, xt_add, xi_sub, xi_mod, xi_div, xi_cmp, xi_mul, xi_lt, xi_le, xsl_fz, xsl_tup, xsl_ref, xadd_ref, xmul_tup, xpow, xisnot_non, xis_non, xtup_ref, xtup_tup, xlen_tup, xlen_ref, xint_int, xabs_int, ix_t0, ix_t1, D.bl.injEq, D.int.injEq, D.tup.injEq, D.ref.injEq, List.length_cons, List.length_nil, List.cons.injEq, and_true, true_and, and_assoc, exists_and_left, x_tt, x_ft, reduceIte, Bool.false_eq_true, Bool.not_true, Bool.not_false, xwalk_tup, xwalk_ref, xis_ii, xis_ib, xis_tt]
  refine for_map (enc := prD) (as := ps) (fun i σ S' => Ext S S' ∧ ∃ o3, σ = [some (.tup (ps.map prD)), some (.int k), some (.int lo), o3]) ⟨Ext.refl S, _, rfl⟩ (fun _ _ _ _ => trivial) (fun i t σ S' N e ⟨x, o3, eσ⟩ hN => ?_) fun σ S' ⟨x, o3, eσ⟩ => ?_
  · subst eσ
    have P := hp t (List.mem_of_getElem? e)
    have pl := P.lo
    unfold prD
    try simp only [dSeq, dAsg, dRet, dDrop, dIfS, dPar, dPar3, dgName, dgTup, dgCons, dgNil, dBin, dVar, dC, dCB, dCons, dNil, dB, dIf, dNeg, dTup, dLst, dCall, dFor, dIter, dRng1, dLc, dAppend, dNext, dAnd, dOr, dNot, dAndV, dNotV, dgSub, dSl, dPart, dNoPart, wipeD, dZip, dNewT, dNewK, sd1, sd2, sd3, sd4, List.getElem?_cons_succ, List.getElem?_cons_zero, Option.some.injEq, exists_eq_left', List.set_cons_succ, List.set_cons_zero, List.replicate_succ, List.replicate_zero, Nat.reduceAdd, Nat.reduceSub, xi_add, xt_add, xi_sub, xi_mod, xi_div, xi_cmp, xi_mul, xi_lt, xi_le, xsl_fz, xsl_tup, xsl_ref, xadd_ref, xmul_tup, xpow, xisnot_non, xis_non, xtup_ref, xtup_tup, xlen_tup, xlen_ref, xint_int, xabs_int, ix_t0, ix_t1, D.bl.injEq, D.int.injEq, D.tup.injEq, D.ref.injEq, List.length_cons, List.length_nil, List.cons.injEq, and_true, true_and, and_assoc, exists_and_left, x_tt, x_ft, reduceIte, Bool.false_eq_true, Bool.not_true, Bool.not_false, xwalk_tup, xwalk_ref, xis_ii, xis_ib, xis_tt]
    refine ne_intF rfl ?_
    try simp only [dSeq, dAsg, dRet, dDrop, dIfS, dPar, dPar3, dgName, dgTup, dgCons, dgNil, dBin, dVar, dC, dCB, dCons, dNil, dB, dIf, dNeg, dTup, dLst, dCall, dFor, dIter, dRng1, dLc, dAppend, dNext, dAnd, dOr, dNot, dAndV, dNotV, dgSub, dSl, dPart, dNoPart, wipeD, dZip, dNewT, dNewK, sd1, sd2, sd3, sd4, List.getElem?_cons_succ, List.getElem?_cons_zero, Option.some.injEq, exists_eq_left', List.set_cons_succ, List.set_cons_zero, List.replicate_succ, List.replicate_zero, Nat.reduceAdd, Nat.reduceSub, xi_add, xt_add, xi_sub, xi_mod, xi_div, xi_cmp, xi_mul, xi_lt, xi_le, xsl_fz, xsl_tup, xsl_ref, xadd_ref, xmul_tup, xpow, xisnot_non, xis_non, xtup_ref, xtup_tup, xlen_tup, xlen_ref, xint_int, xabs_int, ix_t0, ix_t1, D.bl.injEq, D.int.injEq, D.tup.injEq, D.ref.injEq, List.length_cons, List.length_nil, List.cons.injEq, and_true, true_and, and_assoc, exists_and_left, x_tt, x_ft, reduceIte, Bool.false_eq_true, Bool.not_true, Bool.not_false, xwalk_tup, xwalk_ref]
    refine ⟨t.1, rfl, ?_⟩
    try simp only [dSeq, dAsg, dRet, dDrop, dIfS, dPar, dPar3, dgName, dgTup, dgCons, dgNil, dBin, dVar, dC, dCB, dCons, dNil, dB, dIf, dNeg, dTup, dLst, dCall, dFor, dIter, dRng1, dLc, dAppend, dNext, dAnd, dOr, dNot, dAndV, dNotV, dgSub, dSl, dPart, dNoPart, wipeD, dZip, dNewT, dNewK, sd1, sd2, sd3, sd4, List.getElem?_cons_succ, List.getElem?_cons_zero, Option.some.injEq, exists_eq_left', List.set_cons_succ, List.set_cons_zero, List.replicate_succ, List.replicate_zero, Nat.reduceAdd, Nat.reduceSub, xi_add, xt_add, xi_sub, xi_mod, xi_div, xi_cmp, xi_mul, xi_lt, xi_le, xsl_fz, xsl_tup, xsl_ref, xadd_ref, xmul_tup, xpow, xisnot_non, xis_non, xtup_ref, xtup_tup, xlen_tup, xlen_ref, xint_int, xabs_int, ix_t0, ix_t1, D.bl.injEq, D.int.injEq, D.tup.injEq, D.ref.injEq, List.length_cons, List.length_nil, List.cons.injEq, and_true, true_and, and_assoc, exists_and_left, x_tt, x_ft, reduceIte, Bool.false_eq_true, Bool.not_true, Bool.not_false, xwalk_tup, xwalk_ref]
    rw [decide_eq_false (by omega : ¬ t.1 < (lo : Int))]
    try simp only [dSeq, dAsg, dRet, dDrop, dIfS, dPar, dPar3, dgName, dgTup, dgCons, dgNil, dBin, dVar, dC, dCB, dCons, dNil, dB, dIf, dNeg, dTup, dLst, dCall, dFor, dIter, dRng1, dLc, dAppend, dNext, dAnd, dOr, dNot, dAndV, dNotV, dgSub, dSl, dPart, dNoPart, wipeD, dZip, dNewT, dNewK, sd1, sd2, sd3, sd4, List.getElem?_cons_succ, List.getElem?_cons_zero, Option.some.injEq, exists_eq_left', List.set_cons_succ, List.set_cons_zero, List.replicate_succ, List.replicate_zero, Nat.reduceAdd, Nat.reduceSub, xi_add, xt_add, xi_sub, xi_mod, xi_div, xi_cmp, xi_mul, xi_lt, xi_le, xsl_fz, xsl_tup, xsl_ref, xadd_ref, xmul_tup, xpow, xisnot_non, xis_non, xtup_ref, xtup_tup, xlen_tup, xlen_ref, xint_int, xabs_int, ix_t0, ix_t1, D.bl.injEq, D.int.injEq, D.tup.injEq, D.ref.injEq, List.length_cons, List.length_nil, List.cons.injEq, and_true, true_and, and_assoc, exists_and_left, x_tt, x_ft, reduceIte, Bool.false_eq_true, Bool.not_true, Bool.not_false, xwalk_tup, xwalk_ref]
    refine ⟨t.2, k, B, rfl, P.fm, hk, fun S2 x2 => ?_⟩
    try simp only [dSeq, dAsg, dRet, dDrop, dIfS, dPar, dPar3, dgName, dgTup, dgCons, dgNil, dBin, dVar, dC, dCB, dCons, dNil, dB, dIf, dNeg, dTup, dLst, dCall, dFor, dIter, dRng1, dLc, dAppend, dNext, dAnd, dOr, dNot, dAndV, dNotV, dgSub, dSl, dPart, dNoPart, wipeD, dZip, dNewT, dNewK, sd1, sd2, sd3, sd4, List.getElem?_cons_succ, List.getElem?_cons_zero, Option.some.injEq, exists_eq_left', List.set_cons_succ, List.set_cons_zero, List.replicate_succ, List.replicate_zero, Nat.reduceAdd, Nat.reduceSub, xi_add, xt_add, xi_sub, xi_mod, xi_div, xi_cmp, xi_mul, xi_lt, xi_le, xsl_fz, xsl_tup, xsl_ref, xadd_ref, xmul_tup, xpow, xisnot_non, xis_non, xtup_ref, xtup_tup, xlen_tup, xlen_ref, xint_int, xabs_int, ix_t0, ix_t1, D.bl.injEq, D.int.injEq, D.tup.injEq, D.ref.injEq, List.length_cons, List.length_nil, List.cons.injEq, and_true, true_and, and_assoc, exists_and_left, x_tt, x_ft, reduceIte, Bool.false_eq_true, Bool.not_true, Bool.not_false, xwalk_tup, xwalk_ref]
    exact hN _ _ ⟨x.trans x2, _, rfl⟩
  · subst eσ
    try simp only [dSeq, dAsg, dRet, dDrop, dIfS, dPar, dPar3, dgName, dgTup, dgCons, dgNil, dBin, dVar, dC, dCB, dCons, dNil, dB, dIf, dNeg, dTup, dLst, dCall, dFor, dIter, dRng1, dLc, dAppend, dNext, dAnd, dOr, dNot, dAndV, dNotV, dgSub, dSl, dPart, dNoPart, wipeD, dZip, dNewT, dNewK, sd1, sd2, sd3, sd4, List.getElem?_cons_succ, List.getElem?_cons_zero, Option.some.injEq, exists_eq_left', List.set_cons_succ, List.set_cons_zero, List.replicate_succ, List.replicate_zero, Nat.reduceAdd, Nat.reduceSub, xi_add, xt_add, xi_sub, xi_mod, xi_div, xi_cmp, xi_mul, xi_lt, xi_le, xsl_fz, xsl_tup, xsl_ref, xadd_ref, xmul_tup, xpow, xisnot_non, xis_non, xtup_ref, xtup_tup, xlen_tup, xlen_ref, xint_int, xabs_int, ix_t0, ix_t1, D.bl.injEq, D.int.injEq, D.tup.injEq, D.ref.injEq, List.length_cons, List.length_nil, List.cons.injEq, and_true, true_and, and_assoc, exists_and_left, x_tt, x_ft, reduceIte, Bool.false_eq_true, Bool.not_true, Bool.not_false, xwalk_tup, xwalk_ref]
    exact q _ x
theorem len_Lis_poly : ∀ ds S Q, sp_Lis_poly ds S Q → ds.length = p_Lis_poly.length := fun ds S Q ⟨_, _, _, _, _, _, e, _⟩ => by subst e; rfl
theorem run_Lis_poly {ds : List D} {S : Stt} {Q : DK} (h : sp_Lis_poly ds S Q) : t_Lis_poly { nx := fun _ S2 => Q .non S2, rt := Q } (startD n_Lis_poly ds) S := by
  obtain ⟨p, m, nb, db, eb, jb, rfl, P, hm, hj, q⟩ := h
  unfold t_Lis_poly poD
  try simp only [dSeq, dAsg, dRet, dDrop, dIfS, dPar, dPar3, dgName, dgTup, dgCons, dgNil, dBin, dVar, dC, dCB, dCons, dNil, dB, dIf, dNeg, dTup, dLst, dCall, dFor, dIter, dRng1, dLc, dAppend, dNext, dAnd, dOr, dNot, dAndV, dNotV, dgSub, dSl, dPart, dNoPart, wipeD, dZip, dNewT, dNewK, sd1, sd2, sd3, sd4, List.getElem?_cons_succ, List.getElem?_cons_zero, Option.some.injEq, exists_eq_left', List.set_cons_succ, List.set_cons_zero, List.replicate_succ, List.replicate_zero, Nat.reduceAdd, Nat.reduceSub, xi_add, xt_add, xi_sub, xi_mod, xi_div, xi_cmp, xi_mul, xi_lt, xi_le, xsl_fz, xsl_tup, xsl_ref, xadd_ref, xmul_tup, xpow, xisnot_non, xis_non, xtup_ref, xtup_tup, xlen_tup, xlen_ref, xint_int, xabs_int, ix_t0, ix_t1, D.bl.injEq, D.int.injEq, D.tup.injEq, D.ref.injEq, List.length_cons, List.length_nil, List.cons.injEq, and_true, true_and, and_assoc, exists_and_left, x_tt, x_ft, reduceIte, Bool.false_eq_true, Bool.not_true, Bool.not_false, xwalk_tup, xwalk_ref, xis_ii, xis_ib, xis_tt]
  refine for_map (enc := moD) (as := p) (fun i σ S' => Ext S S' ∧ ∃ ah o3 o4 o5 o6, σ = [some (.tup (p.map moD)), some (.int m), some ah, o3, o4, o5, o6] ∧ ((i = 0 ∧ ah = .non) ∨ ∃ j q, i = j + 1 ∧ p[j]? = some q ∧ ah = fmD q.2)) ⟨Ext.refl S, _, _, _, _, _, rfl, .inl ⟨rfl, rfl⟩⟩ (fun _ _ _ _ => trivial) (fun i t σ S' N e ⟨x, ah, o3, o4, o5, o6, eσ, hah⟩ hN => ?_) fun σ S' ⟨x, ah, o3, o4, o5, o6, eσ, _⟩ => ?_
  · subst eσ
    have T := P.mo t (List.mem_of_getElem? e)
    have f0 := T.fr.pos
    unfold moD frD fmD
    try simp only [dSeq, dAsg, dRet, dDrop, dIfS, dPar, dPar3, dgName, dgTup, dgCons, dgNil, dBin, dVar, dC, dCB, dCons, dNil, dB, dIf, dNeg, dTup, dLst, dCall, dFor, dIter, dRng1, dLc, dAppend, dNext, dAnd, dOr, dNot, dAndV, dNotV, dgSub, dSl, dPart, dNoPart, wipeD, dZip, dNewT, dNewK, sd1, sd2, sd3, sd4, List.getElem?_cons_succ, List.getElem?_cons_zero, Option.some.injEq, exists_eq_left', List.set_cons_succ, List.set_cons_zero, List.replicate_succ, List.replicate_zero, Nat.reduceAdd, Nat.reduceSub, xi_add, xt_add, xi_sub, xi_mod, xi_div, xi_cmp, xi_mul, xi_lt, xi_le, xsl_fz, xsl_tup, xsl_ref, xadd_ref, xmul_tup, xpow, xisnot_non, xis_non, xtup_ref, xtup_tup, xlen_tup, xlen_ref, xint_int, xabs_int, ix_t0, ix_t1, D.bl.injEq, D.int.injEq, D.tup.injEq, D.ref.injEq, List.length_cons, List.length_nil, List.cons.injEq, and_true, true_and, and_assoc, exists_and_left, x_tt, x_ft, reduceIte, Bool.false_eq_true, Bool.not_true, Bool.not_false, xwalk_tup, xwalk_ref, xis_ii, xis_ib, xis_tt]
    refine ne_intF rfl ?_
    try simp only [dSeq, dAsg, dRet, dDrop, dIfS, dPar, dPar3, dgName, dgTup, dgCons, dgNil, dBin, dVar, dC, dCB, dCons, dNil, dB, dIf, dNeg, dTup, dLst, dCall, dFor, dIter, dRng1, dLc, dAppend, dNext, dAnd, dOr, dNot, dAndV, dNotV, dgSub, dSl, dPart, dNoPart, wipeD, dZip, dNewT, dNewK, sd1, sd2, sd3, sd4, List.getElem?_cons_succ, List.getElem?_cons_zero, Option.some.injEq, exists_eq_left', List.set_cons_succ, List.set_cons_zero, List.replicate_succ, List.replicate_zero, Nat.reduceAdd, Nat.reduceSub, xi_add, xt_add, xi_sub, xi_mod, xi_div, xi_cmp, xi_mul, xi_lt, xi_le, xsl_fz, xsl_tup, xsl_ref, xadd_ref, xmul_tup, xpow, xisnot_non, xis_non, xtup_ref, xtup_tup, xlen_tup, xlen_ref, xint_int, xabs_int, ix_t0, ix_t1, D.bl.injEq, D.int.injEq, D.tup.injEq, D.ref.injEq, List.length_cons, List.length_nil, List.cons.injEq, and_true, true_and, and_assoc, exists_and_left, x_tt, x_ft, reduceIte, Bool.false_eq_true, Bool.not_true, Bool.not_false, xwalk_tup, xwalk_ref, xis_ii, xis_ib, xis_tt]
    refine ne_intF rfl ?_
    try simp only [dSeq, dAsg, dRet, dDrop, dIfS, dPar, dPar3, dgName, dgTup, dgCons, dgNil, dBin, dVar, dC, dCB, dCons, dNil, dB, dIf, dNeg, dTup, dLst, dCall, dFor, dIter, dRng1, dLc, dAppend, dNext, dAnd, dOr, dNot, dAndV, dNotV, dgSub, dSl, dPart, dNoPart, wipeD, dZip, dNewT, dNewK, sd1, sd2, sd3, sd4, List.getElem?_cons_succ, List.getElem?_cons_zero, Option.some.injEq, exists_eq_left', List.set_cons_succ, List.set_cons_zero, List.replicate_succ, List.replicate_zero, Nat.reduceAdd, Nat.reduceSub, xi_add, xt_add, xi_sub, xi_mod, xi_div, xi_cmp, xi_mul, xi_lt, xi_le, xsl_fz, xsl_tup, xsl_ref, xadd_ref, xmul_tup, xpow, xisnot_non, xis_non, xtup_ref, xtup_tup, xlen_tup, xlen_ref, xint_int, xabs_int, ix_t0, ix_t1, D.bl.injEq, D.int.injEq, D.tup.injEq, D.ref.injEq, List.length_cons, List.length_nil, List.cons.injEq, and_true, true_and, and_assoc, exists_and_left, x_tt, x_ft, reduceIte, Bool.false_eq_true, Bool.not_true, Bool.not_false, xwalk_tup, xwalk_ref, xis_ii, xis_ib, xis_tt]
    intro p1 h1
    refine lc_none (as := [t.1.1, t.1.2]) (enc := D.int) h1 (fun _ _ => trivial) (szl (by simp)) (fun i S1 K1 K2 hi x1 q2 => ?_) fun S1 x1 e1 => ?_
    · try simp only [dSeq, dAsg, dRet, dDrop, dIfS, dPar, dPar3, dgName, dgTup, dgCons, dgNil, dBin, dVar, dC, dCB, dCons, dNil, dB, dIf, dNeg, dTup, dLst, dCall, dFor, dIter, dRng1, dLc, dAppend, dNext, dAnd, dOr, dNot, dAndV, dNotV, dgSub, dSl, dPart, dNoPart, wipeD, dZip, dNewT, dNewK, sd1, sd2, sd3, sd4, List.getElem?_cons_succ, List.getElem?_cons_zero, Option.some.injEq, exists_eq_left', List.set_cons_succ, List.set_cons_zero, List.replicate_succ, List.replicate_zero, Nat.reduceAdd, Nat.reduceSub, xi_add, xt_add, xi_sub, xi_mod, xi_div, xi_cmp, xi_mul, xi_lt, xi_le, xsl_fz, xsl_tup, xsl_ref, xadd_ref, xmul_tup, xpow, xisnot_non, xis_non, xtup_ref, xtup_tup, xlen_tup, xlen_ref, xint_int, xabs_int, ix_t0, ix_t1, D.bl.injEq, D.int.injEq, D.tup.injEq, D.ref.injEq, List.length_cons, List.length_nil, List.cons.injEq, and_true, true_and, and_assoc, exists_and_left, x_tt, x_ft, reduceIte, Bool.false_eq_true, Bool.not_true, Bool.not_false, xwalk_tup, xwalk_ref]
      refine ⟨i, rfl, ?_⟩
      try simp only [dSeq, dAsg, dRet, dDrop, dIfS, dPar, dPar3, dgName, dgTup, dgCons, dgNil, dBin, dVar, dC, dCB, dCons, dNil, dB, dIf, dNeg, dTup, dLst, dCall, dFor, dIter, dRng1, dLc, dAppend, dNext, dAnd, dOr, dNot, dAndV, dNotV, dgSub, dSl, dPart, dNoPart, wipeD, dZip, dNewT, dNewK, sd1, sd2, sd3, sd4, List.getElem?_cons_succ, List.getElem?_cons_zero, Option.some.injEq, exists_eq_left', List.set_cons_succ, List.set_cons_zero, List.replicate_succ, List.replicate_zero, Nat.reduceAdd, Nat.reduceSub, xi_add, xt_add, xi_sub, xi_mod, xi_div, xi_cmp, xi_mul, xi_lt, xi_le, xsl_fz, xsl_tup, xsl_ref, xadd_ref, xmul_tup, xpow, xisnot_non, xis_non, xtup_ref, xtup_tup, xlen_tup, xlen_ref, xint_int, xabs_int, ix_t0, ix_t1, D.bl.injEq, D.int.injEq, D.tup.injEq, D.ref.injEq, List.length_cons, List.length_nil, List.cons.injEq, and_true, true_and, and_assoc, exists_and_left, x_tt, x_ft, reduceIte, Bool.false_eq_true, Bool.not_true, Bool.not_false, xwalk_tup, xwalk_ref]
      exact q2 _ (Ext.refl _)
    try simp only [dSeq, dAsg, dRet, dDrop, dIfS, dPar, dPar3, dgName, dgTup, dgCons, dgNil, dBin, dVar, dC, dCB, dCons, dNil, dB, dIf, dNeg, dTup, dLst, dCall, dFor, dIter, dRng1, dLc, dAppend, dNext, dAnd, dOr, dNot, dAndV, dNotV, dgSub, dSl, dPart, dNoPart, wipeD, dZip, dNewT, dNewK, sd1, sd2, sd3, sd4, List.getElem?_cons_succ, List.getElem?_cons_zero, Option.some.injEq, exists_eq_left', List.set_cons_succ, List.set_cons_zero, List.replicate_succ, List.replicate_zero, Nat.reduceAdd, Nat.reduceSub, xi_add, xt_add, xi_sub, xi_mod, xi_div, xi_cmp, xi_mul, xi_lt, xi_le, xsl_fz, xsl_tup, xsl_ref, xadd_ref, xmul_tup, xpow, xisnot_non, xis_non, xtup_ref, xtup_tup, xlen_tup, xlen_ref, xint_int, xabs_int, ix_t0, ix_t1, D.bl.injEq, D.int.injEq, D.tup.injEq, D.ref.injEq, List.length_cons, List.length_nil, List.cons.injEq, and_true, true_and, and_assoc, exists_and_left, x_tt, x_ft, reduceIte, Bool.false_eq_true, Bool.not_true, Bool.not_false, xwalk_tup, xwalk_ref]
    refine ⟨szl (by omega), fun p2 h2 => ?_⟩
    refine ne_nil2 (ups_old h2 e1) ups_same ?_
    try simp only [dSeq, dAsg, dRet, dDrop, dIfS, dPar, dPar3, dgName, dgTup, dgCons, dgNil, dBin, dVar, dC, dCB, dCons, dNil, dB, dIf, dNeg, dTup, dLst, dCall, dFor, dIter, dRng1, dLc, dAppend, dNext, dAnd, dOr, dNot, dAndV, dNotV, dgSub, dSl, dPart, dNoPart, wipeD, dZip, dNewT, dNewK, sd1, sd2, sd3, sd4, List.getElem?_cons_succ, List.getElem?_cons_zero, Option.some.injEq, exists_eq_left', List.set_cons_succ, List.set_cons_zero, List.replicate_succ, List.replicate_zero, Nat.reduceAdd, Nat.reduceSub, xi_add, xt_add, xi_sub, xi_mod, xi_div, xi_cmp, xi_mul, xi_lt, xi_le, xsl_fz, xsl_tup, xsl_ref, xadd_ref, xmul_tup, xpow, xisnot_non, xis_non, xtup_ref, xtup_tup, xlen_tup, xlen_ref, xint_int, xabs_int, ix_t0, ix_t1, D.bl.injEq, D.int.injEq, D.tup.injEq, D.ref.injEq, List.length_cons, List.length_nil, List.cons.injEq, and_true, true_and, and_assoc, exists_and_left, x_tt, x_ft, reduceIte, Bool.false_eq_true, Bool.not_true, Bool.not_false, xwalk_tup, xwalk_ref]
    rw [decide_eq_false (by omega : ¬ t.1.2 < 1)]
    try simp only [dSeq, dAsg, dRet, dDrop, dIfS, dPar, dPar3, dgName, dgTup, dgCons, dgNil, dBin, dVar, dC, dCB, dCons, dNil, dB, dIf, dNeg, dTup, dLst, dCall, dFor, dIter, dRng1, dLc, dAppend, dNext, dAnd, dOr, dNot, dAndV, dNotV, dgSub, dSl, dPart, dNoPart, wipeD, dZip, dNewT, dNewK, sd1, sd2, sd3, sd4, List.getElem?_cons_succ, List.getElem?_cons_zero, Option.some.injEq, exists_eq_left', List.set_cons_succ, List.set_cons_zero, List.replicate_succ, List.replicate_zero, Nat.reduceAdd, Nat.reduceSub, xi_add, xt_add, xi_sub, xi_mod, xi_div, xi_cmp, xi_mul, xi_lt, xi_le, xsl_fz, xsl_tup, xsl_ref, xadd_ref, xmul_tup, xpow, xisnot_non, xis_non, xtup_ref, xtup_tup, xlen_tup, xlen_ref, xint_int, xabs_int, ix_t0, ix_t1, D.bl.injEq, D.int.injEq, D.tup.injEq, D.ref.injEq, List.length_cons, List.length_nil, List.cons.injEq, and_true, true_and, and_assoc, exists_and_left, x_tt, x_ft, reduceIte, Bool.false_eq_true, Bool.not_true, Bool.not_false, xwalk_tup, xwalk_ref]
    refine eq_intF T.fr.ne ?_
    try simp only [dSeq, dAsg, dRet, dDrop, dIfS, dPar, dPar3, dgName, dgTup, dgCons, dgNil, dBin, dVar, dC, dCB, dCons, dNil, dB, dIf, dNeg, dTup, dLst, dCall, dFor, dIter, dRng1, dLc, dAppend, dNext, dAnd, dOr, dNot, dAndV, dNotV, dgSub, dSl, dPart, dNoPart, wipeD, dZip, dNewT, dNewK, sd1, sd2, sd3, sd4, List.getElem?_cons_succ, List.getElem?_cons_zero, Option.some.injEq, exists_eq_left', List.set_cons_succ, List.set_cons_zero, List.replicate_succ, List.replicate_zero, Nat.reduceAdd, Nat.reduceSub, xi_add, xt_add, xi_sub, xi_mod, xi_div, xi_cmp, xi_mul, xi_lt, xi_le, xsl_fz, xsl_tup, xsl_ref, xadd_ref, xmul_tup, xpow, xisnot_non, xis_non, xtup_ref, xtup_tup, xlen_tup, xlen_ref, xint_int, xabs_int, ix_t0, ix_t1, D.bl.injEq, D.int.injEq, D.tup.injEq, D.ref.injEq, List.length_cons, List.length_nil, List.cons.injEq, and_true, true_and, and_assoc, exists_and_left, x_tt, x_ft, reduceIte, Bool.false_eq_true, Bool.not_true, Bool.not_false, xwalk_tup, xwalk_ref]
    refine ⟨_, _, rfl, ?_⟩
    refine ne_intF (by unfold gcdI; rw [T.fr.low]; rfl) ?_
    try simp only [dSeq, dAsg, dRet, dDrop, dIfS, dPar, dPar3, dgName, dgTup, dgCons, dgNil, dBin, dVar, dC, dCB, dCons, dNil, dB, dIf, dNeg, dTup, dLst, dCall, dFor, dIter, dRng1, dLc, dAppend, dNext, dAnd, dOr, dNot, dAndV, dNotV, dgSub, dSl, dPart, dNoPart, wipeD, dZip, dNewT, dNewK, sd1, sd2, sd3, sd4, List.getElem?_cons_succ, List.getElem?_cons_zero, Option.some.injEq, exists_eq_left', List.set_cons_succ, List.set_cons_zero, List.replicate_succ, List.replicate_zero, Nat.reduceAdd, Nat.reduceSub, xi_add, xt_add, xi_sub, xi_mod, xi_div, xi_cmp, xi_mul, xi_lt, xi_le, xsl_fz, xsl_tup, xsl_ref, xadd_ref, xmul_tup, xpow, xisnot_non, xis_non, xtup_ref, xtup_tup, xlen_tup, xlen_ref, xint_int, xabs_int, ix_t0, ix_t1, D.bl.injEq, D.int.injEq, D.tup.injEq, D.ref.injEq, List.length_cons, List.length_nil, List.cons.injEq, and_true, true_and, and_assoc, exists_and_left, x_tt, x_ft, reduceIte, Bool.false_eq_true, Bool.not_true, Bool.not_false, xwalk_tup, xwalk_ref, xis_ii, xis_ib, xis_tt]
    refine ne_intF (by rw [List.length_map, T.len]) ?_
    try simp only [dSeq, dAsg, dRet, dDrop, dIfS, dPar, dPar3, dgName, dgTup, dgCons, dgNil, dBin, dVar, dC, dCB, dCons, dNil, dB, dIf, dNeg, dTup, dLst, dCall, dFor, dIter, dRng1, dLc, dAppend, dNext, dAnd, dOr, dNot, dAndV, dNotV, dgSub, dSl, dPart, dNoPart, wipeD, dZip, dNewT, dNewK, sd1, sd2, sd3, sd4, List.getElem?_cons_succ, List.getElem?_cons_zero, Option.some.injEq, exists_eq_left', List.set_cons_succ, List.set_cons_zero, List.replicate_succ, List.replicate_zero, Nat.reduceAdd, Nat.reduceSub, xi_add, xt_add, xi_sub, xi_mod, xi_div, xi_cmp, xi_mul, xi_lt, xi_le, xsl_fz, xsl_tup, xsl_ref, xadd_ref, xmul_tup, xpow, xisnot_non, xis_non, xtup_ref, xtup_tup, xlen_tup, xlen_ref, xint_int, xabs_int, ix_t0, ix_t1, D.bl.injEq, D.int.injEq, D.tup.injEq, D.ref.injEq, List.length_cons, List.length_nil, List.cons.injEq, and_true, true_and, and_assoc, exists_and_left, x_tt, x_ft, reduceIte, Bool.false_eq_true, Bool.not_true, Bool.not_false, xwalk_tup, xwalk_ref]
    intro p3 h3
    refine lc_none (enc := D.int) h3 (fun _ _ => trivial) (szl (by rw [T.len]; omega)) (fun i S1 K1 K2 hi x1 q2 => ?_) fun S3 x3 e3 => ?_
    · try simp only [dSeq, dAsg, dRet, dDrop, dIfS, dPar, dPar3, dgName, dgTup, dgCons, dgNil, dBin, dVar, dC, dCB, dCons, dNil, dB, dIf, dNeg, dTup, dLst, dCall, dFor, dIter, dRng1, dLc, dAppend, dNext, dAnd, dOr, dNot, dAndV, dNotV, dgSub, dSl, dPart, dNoPart, wipeD, dZip, dNewT, dNewK, sd1, sd2, sd3, sd4, List.getElem?_cons_succ, List.getElem?_cons_zero, Option.some.injEq, exists_eq_left', List.set_cons_succ, List.set_cons_zero, List.replicate_succ, List.replicate_zero, Nat.reduceAdd, Nat.reduceSub, xi_add, xt_add, xi_sub, xi_mod, xi_div, xi_cmp, xi_mul, xi_lt, xi_le, xsl_fz, xsl_tup, xsl_ref, xadd_ref, xmul_tup, xpow, xisnot_non, xis_non, xtup_ref, xtup_tup, xlen_tup, xlen_ref, xint_int, xabs_int, ix_t0, ix_t1, D.bl.injEq, D.int.injEq, D.tup.injEq, D.ref.injEq, List.length_cons, List.length_nil, List.cons.injEq, and_true, true_and, and_assoc, exists_and_left, x_tt, x_ft, reduceIte, Bool.false_eq_true, Bool.not_true, Bool.not_false, xwalk_tup, xwalk_ref]
      refine ⟨i, rfl, ?_⟩
      try simp only [dSeq, dAsg, dRet, dDrop, dIfS, dPar, dPar3, dgName, dgTup, dgCons, dgNil, dBin, dVar, dC, dCB, dCons, dNil, dB, dIf, dNeg, dTup, dLst, dCall, dFor, dIter, dRng1, dLc, dAppend, dNext, dAnd, dOr, dNot, dAndV, dNotV, dgSub, dSl, dPart, dNoPart, wipeD, dZip, dNewT, dNewK, sd1, sd2, sd3, sd4, List.getElem?_cons_succ, List.getElem?_cons_zero, Option.some.injEq, exists_eq_left', List.set_cons_succ, List.set_cons_zero, List.replicate_succ, List.replicate_zero, Nat.reduceAdd, Nat.reduceSub, xi_add, xt_add, xi_sub, xi_mod, xi_div, xi_cmp, xi_mul, xi_lt, xi_le, xsl_fz, xsl_tup, xsl_ref, xadd_ref, xmul_tup, xpow, xisnot_non, xis_non, xtup_ref, xtup_tup, xlen_tup, xlen_ref, xint_int, xabs_int, ix_t0, ix_t1, D.bl.injEq, D.int.injEq, D.tup.injEq, D.ref.injEq, List.length_cons, List.length_nil, List.cons.injEq, and_true, true_and, and_assoc, exists_and_left, x_tt, x_ft, reduceIte, Bool.false_eq_true, Bool.not_true, Bool.not_false, xwalk_tup, xwalk_ref]
      rw [decide_eq_false (by have := T.nn i hi; omega : ¬ i < 0)]
      try simp only [dSeq, dAsg, dRet, dDrop, dIfS, dPar, dPar3, dgName, dgTup, dgCons, dgNil, dBin, dVar, dC, dCB, dCons, dNil, dB, dIf, dNeg, dTup, dLst, dCall, dFor, dIter, dRng1, dLc, dAppend, dNext, dAnd, dOr, dNot, dAndV, dNotV, dgSub, dSl, dPart, dNoPart, wipeD, dZip, dNewT, dNewK, sd1, sd2, sd3, sd4, List.getElem?_cons_succ, List.getElem?_cons_zero, Option.some.injEq, exists_eq_left', List.set_cons_succ, List.set_cons_zero, List.replicate_succ, List.replicate_zero, Nat.reduceAdd, Nat.reduceSub, xi_add, xt_add, xi_sub, xi_mod, xi_div, xi_cmp, xi_mul, xi_lt, xi_le, xsl_fz, xsl_tup, xsl_ref, xadd_ref, xmul_tup, xpow, xisnot_non, xis_non, xtup_ref, xtup_tup, xlen_tup, xlen_ref, xint_int, xabs_int, ix_t0, ix_t1, D.bl.injEq, D.int.injEq, D.tup.injEq, D.ref.injEq, List.length_cons, List.length_nil, List.cons.injEq, and_true, true_and, and_assoc, exists_and_left, x_tt, x_ft, reduceIte, Bool.false_eq_true, Bool.not_true, Bool.not_false, xwalk_tup, xwalk_ref]
      exact q2 _ (Ext.refl _)
    try simp only [dSeq, dAsg, dRet, dDrop, dIfS, dPar, dPar3, dgName, dgTup, dgCons, dgNil, dBin, dVar, dC, dCB, dCons, dNil, dB, dIf, dNeg, dTup, dLst, dCall, dFor, dIter, dRng1, dLc, dAppend, dNext, dAnd, dOr, dNot, dAndV, dNotV, dgSub, dSl, dPart, dNoPart, wipeD, dZip, dNewT, dNewK, sd1, sd2, sd3, sd4, List.getElem?_cons_succ, List.getElem?_cons_zero, Option.some.injEq, exists_eq_left', List.set_cons_succ, List.set_cons_zero, List.replicate_succ, List.replicate_zero, Nat.reduceAdd, Nat.reduceSub, xi_add, xt_add, xi_sub, xi_mod, xi_div, xi_cmp, xi_mul, xi_lt, xi_le, xsl_fz, xsl_tup, xsl_ref, xadd_ref, xmul_tup, xpow, xisnot_non, xis_non, xtup_ref, xtup_tup, xlen_tup, xlen_ref, xint_int, xabs_int, ix_t0, ix_t1, D.bl.injEq, D.int.injEq, D.tup.injEq, D.ref.injEq, List.length_cons, List.length_nil, List.cons.injEq, and_true, true_and, and_assoc, exists_and_left, x_tt, x_ft, reduceIte, Bool.false_eq_true, Bool.not_true, Bool.not_false, xwalk_tup, xwalk_ref]
    refine ⟨szl (by omega), fun p4 h4 => ?_⟩
    refine ne_nil2 (ups_old h4 e3) ups_same ?_
    try simp only [dSeq, dAsg, dRet, dDrop, dIfS, dPar, dPar3, dgName, dgTup, dgCons, dgNil, dBin, dVar, dC, dCB, dCons, dNil, dB, dIf, dNeg, dTup, dLst, dCall, dFor, dIter, dRng1, dLc, dAppend, dNext, dAnd, dOr, dNot, dAndV, dNotV, dgSub, dSl, dPart, dNoPart, wipeD, dZip, dNewT, dNewK, sd1, sd2, sd3, sd4, List.getElem?_cons_succ, List.getElem?_cons_zero, Option.some.injEq, exists_eq_left', List.set_cons_succ, List.set_cons_zero, List.replicate_succ, List.replicate_zero, Nat.reduceAdd, Nat.reduceSub, xi_add, xt_add, xi_sub, xi_mod, xi_div, xi_cmp, xi_mul, xi_lt, xi_le, xsl_fz, xsl_tup, xsl_ref, xadd_ref, xmul_tup, xpow, xisnot_non, xis_non, xtup_ref, xtup_tup, xlen_tup, xlen_ref, xint_int, xabs_int, ix_t0, ix_t1, D.bl.injEq, D.int.injEq, D.tup.injEq, D.ref.injEq, List.length_cons, List.length_nil, List.cons.injEq, and_true, true_and, and_assoc, exists_and_left, x_tt, x_ft, reduceIte, Bool.false_eq_true, Bool.not_true, Bool.not_false, xwalk_tup, xwalk_ref]
    have xx : Ext S (ups S3 p4 (.lst [])) := (((x.trans x1).trans (Ext.new h2)).trans x3).trans (Ext.new h4)
    rcases hah with ⟨_, rfl⟩ | ⟨j, q, ei, ej, rfl⟩
    · try simp only [dSeq, dAsg, dRet, dDrop, dIfS, dPar, dPar3, dgName, dgTup, dgCons, dgNil, dBin, dVar, dC, dCB, dCons, dNil, dB, dIf, dNeg, dTup, dLst, dCall, dFor, dIter, dRng1, dLc, dAppend, dNext, dAnd, dOr, dNot, dAndV, dNotV, dgSub, dSl, dPart, dNoPart, wipeD, dZip, dNewT, dNewK, sd1, sd2, sd3, sd4, List.getElem?_cons_succ, List.getElem?_cons_zero, Option.some.injEq, exists_eq_left', List.set_cons_succ, List.set_cons_zero, List.replicate_succ, List.replicate_zero, Nat.reduceAdd, Nat.reduceSub, xi_add, xt_add, xi_sub, xi_mod, xi_div, xi_cmp, xi_mul, xi_lt, xi_le, xsl_fz, xsl_tup, xsl_ref, xadd_ref, xmul_tup, xpow, xisnot_non, xis_non, xtup_ref, xtup_tup, xlen_tup, xlen_ref, xint_int, xabs_int, ix_t0, ix_t1, D.bl.injEq, D.int.injEq, D.tup.injEq, D.ref.injEq, List.length_cons, List.length_nil, List.cons.injEq, and_true, true_and, and_assoc, exists_and_left, x_tt, x_ft, reduceIte, Bool.false_eq_true, Bool.not_true, Bool.not_false, xwalk_tup, xwalk_ref, isNonD]
      exact hN _ _ ⟨xx, _, _, _, _, _, rfl, .inr ⟨i, t, rfl, e, rfl⟩⟩
    · unfold fmD
      try simp only [dSeq, dAsg, dRet, dDrop, dIfS, dPar, dPar3, dgName, dgTup, dgCons, dgNil, dBin, dVar, dC, dCB, dCons, dNil, dB, dIf, dNeg, dTup, dLst, dCall, dFor, dIter, dRng1, dLc, dAppend, dNext, dAnd, dOr, dNot, dAndV, dNotV, dgSub, dSl, dPart, dNoPart, wipeD, dZip, dNewT, dNewK, sd1, sd2, sd3, sd4, List.getElem?_cons_succ, List.getElem?_cons_zero, Option.some.injEq, exists_eq_left', List.set_cons_succ, List.set_cons_zero, List.replicate_succ, List.replicate_zero, Nat.reduceAdd, Nat.reduceSub, xi_add, xt_add, xi_sub, xi_mod, xi_div, xi_cmp, xi_mul, xi_lt, xi_le, xsl_fz, xsl_tup, xsl_ref, xadd_ref, xmul_tup, xpow, xisnot_non, xis_non, xtup_ref, xtup_tup, xlen_tup, xlen_ref, xint_int, xabs_int, ix_t0, ix_t1, D.bl.injEq, D.int.injEq, D.tup.injEq, D.ref.injEq, List.length_cons, List.length_nil, List.cons.injEq, and_true, true_and, and_assoc, exists_and_left, x_tt, x_ft, reduceIte, Bool.false_eq_true, Bool.not_true, Bool.not_false, xwalk_tup, xwalk_ref, isNonD]
      refine ⟨t.2, q.2, rfl, rfl, ?_⟩
      have z := List.pairwise_iff_getElem.mp P.asc j i (List.getElem?_eq_some_iff.mp ej).1 (List.getElem?_eq_some_iff.mp e).1 (by omega)
      rw [(List.getElem?_eq_some_iff.mp ej).2, (List.getElem?_eq_some_iff.mp e).2] at z
      rw [z]
      try simp only [dSeq, dAsg, dRet, dDrop, dIfS, dPar, dPar3, dgName, dgTup, dgCons, dgNil, dBin, dVar, dC, dCB, dCons, dNil, dB, dIf, dNeg, dTup, dLst, dCall, dFor, dIter, dRng1, dLc, dAppend, dNext, dAnd, dOr, dNot, dAndV, dNotV, dgSub, dSl, dPart, dNoPart, wipeD, dZip, dNewT, dNewK, sd1, sd2, sd3, sd4, List.getElem?_cons_succ, List.getElem?_cons_zero, Option.some.injEq, exists_eq_left', List.set_cons_succ, List.set_cons_zero, List.replicate_succ, List.replicate_zero, Nat.reduceAdd, Nat.reduceSub, xi_add, xt_add, xi_sub, xi_mod, xi_div, xi_cmp, xi_mul, xi_lt, xi_le, xsl_fz, xsl_tup, xsl_ref, xadd_ref, xmul_tup, xpow, xisnot_non, xis_non, xtup_ref, xtup_tup, xlen_tup, xlen_ref, xint_int, xabs_int, ix_t0, ix_t1, D.bl.injEq, D.int.injEq, D.tup.injEq, D.ref.injEq, List.length_cons, List.length_nil, List.cons.injEq, and_true, true_and, and_assoc, exists_and_left, x_tt, x_ft, reduceIte, Bool.false_eq_true, Bool.not_true, Bool.not_false, xwalk_tup, xwalk_ref]
      exact hN _ _ ⟨xx, _, _, _, _, _, rfl, .inr ⟨i, t, rfl, e, rfl⟩⟩
  · subst eσ
    try simp only [dSeq, dAsg, dRet, dDrop, dIfS, dPar, dPar3, dgName, dgTup, dgCons, dgNil, dBin, dVar, dC, dCB, dCons, dNil, dB, dIf, dNeg, dTup, dLst, dCall, dFor, dIter, dRng1, dLc, dAppend, dNext, dAnd, dOr, dNot, dAndV, dNotV, dgSub, dSl, dPart, dNoPart, wipeD, dZip, dNewT, dNewK, sd1, sd2, sd3, sd4, List.getElem?_cons_succ, List.getElem?_cons_zero, Option.some.injEq, exists_eq_left', List.set_cons_succ, List.set_cons_zero, List.replicate_succ, List.replicate_zero, Nat.reduceAdd, Nat.reduceSub, xi_add, xt_add, xi_sub, xi_mod, xi_div, xi_cmp, xi_mul, xi_lt, xi_le, xsl_fz, xsl_tup, xsl_ref, xadd_ref, xmul_tup, xpow, xisnot_non, xis_non, xtup_ref, xtup_tup, xlen_tup, xlen_ref, xint_int, xabs_int, ix_t0, ix_t1, D.bl.injEq, D.int.injEq, D.tup.injEq, D.ref.injEq, List.length_cons, List.length_nil, List.cons.injEq, and_true, true_and, and_assoc, exists_and_left, x_tt, x_ft, reduceIte, Bool.false_eq_true, Bool.not_true, Bool.not_false, xwalk_tup, xwalk_ref]
    exact q _ x
theorem len_Lis_term : ∀ ds S Q, sp_Lis_term ds S Q → ds.length = p_Lis_term.length := fun ds S Q ⟨_, _, _, _, _, _, _, e, _⟩ => by subst e; rfl
theorem run_Lis_term {ds : List D} {S : Stt} {Q : DK} (h : sp_Lis_term ds S Q) : t_Lis_term { nx := fun _ S2 => Q .non S2, rt := Q } (startD n_Lis_term ds) S := by
  obtain ⟨t, k, B, nb, db, eb, jb, rfl, T, hk, hj, q⟩ := h
  unfold t_Lis_term tmD
  try simp only [dSeq, dAsg, dRet, dDrop, dIfS, dPar, dPar3, dgName, dgTup, dgCons, dgNil, dBin, dVar, dC, dCB, dCons, dNil, dB, dIf, dNeg, dTup, dLst, dCall, dFor, dIter, dRng1, dLc, dAppend, dNext, dAnd, dOr, dNot, dAndV, dNotV, dgSub, dSl, dPart, dNoPart, wipeD, dZip, dNewT, dNewK, sd1, sd2, sd3, sd4, List.getElem?_cons_succ, List.getElem?_cons_zero, Option.some.injEq, exists_eq_left', List.set_cons_succ, List.set_cons_zero, List.replicate_succ, List.replicate_zero, Nat.reduceAdd, Nat.reduceSub, xi_add, xt_add, xi_sub, xi_mod, xi_div, xi_cmp, xi_mul, xi_lt, xi_le, xsl_fz, xsl_tup, xsl_ref, xadd_ref, xmul_tup, xpow, xisnot_non, xis_non, xtup_ref, xtup_tup, xlen_tup, xlen_ref, xint_int, xabs_int, ix_t0, ix_t1, D.bl.injEq, D.int.injEq, D.tup.injEq, D.ref.injEq, List.length_cons, List.length_nil, List.cons.injEq, and_true, true_and, and_assoc, exists_and_left, x_tt, x_ft, reduceIte, Bool.false_eq_true, Bool.not_true, Bool.not_false, xwalk_tup, xwalk_ref, xis_ii, xis_ib, xis_tt]
  refine ne_intF rfl ?_
  try simp only [dSeq, dAsg, dRet, dDrop, dIfS, dPar, dPar3, dgName, dgTup, dgCons, dgNil, dBin, dVar, dC, dCB, dCons, dNil, dB, dIf, dNeg, dTup, dLst, dCall, dFor, dIter, dRng1, dLc, dAppend, dNext, dAnd, dOr, dNot, dAndV, dNotV, dgSub, dSl, dPart, dNoPart, wipeD, dZip, dNewT, dNewK, sd1, sd2, sd3, sd4, List.getElem?_cons_succ, List.getElem?_cons_zero, Option.some.injEq, exists_eq_left', List.set_cons_succ, List.set_cons_zero, List.replicate_succ, List.replicate_zero, Nat.reduceAdd, Nat.reduceSub, xi_add, xt_add, xi_sub, xi_mod, xi_div, xi_cmp, xi_mul, xi_lt, xi_le, xsl_fz, xsl_tup, xsl_ref, xadd_ref, xmul_tup, xpow, xisnot_non, xis_non, xtup_ref, xtup_tup, xlen_tup, xlen_ref, xint_int, xabs_int, ix_t0, ix_t1, D.bl.injEq, D.int.injEq, D.tup.injEq, D.ref.injEq, List.length_cons, List.length_nil, List.cons.injEq, and_true, true_and, and_assoc, exists_and_left, x_tt, x_ft, reduceIte, Bool.false_eq_true, Bool.not_true, Bool.not_false, xwalk_tup, xwalk_ref]
  refine ⟨_, _, _, rfl, T.rows, T.rl, hk, fun S1 x1 => ?_⟩
  try simp only [dSeq, dAsg, dRet, dDrop, dIfS, dPar, dPar3, dgName, dgTup, dgCons, dgNil, dBin, dVar, dC, dCB, dCons, dNil, dB, dIf, dNeg, dTup, dLst, dCall, dFor, dIter, dRng1, dLc, dAppend, dNext, dAnd, dOr, dNot, dAndV, dNotV, dgSub, dSl, dPart, dNoPart, wipeD, dZip, dNewT, dNewK, sd1, sd2, sd3, sd4, List.getElem?_cons_succ, List.getElem?_cons_zero, Option.some.injEq, exists_eq_left', List.set_cons_succ, List.set_cons_zero, List.replicate_succ, List.replicate_zero, Nat.reduceAdd, Nat.reduceSub, xi_add, xt_add, xi_sub, xi_mod, xi_div, xi_cmp, xi_mul, xi_lt, xi_le, xsl_fz, xsl_tup, xsl_ref, xadd_ref, xmul_tup, xpow, xisnot_non, xis_non, xtup_ref, xtup_tup, xlen_tup, xlen_ref, xint_int, xabs_int, ix_t0, ix_t1, D.bl.injEq, D.int.injEq, D.tup.injEq, D.ref.injEq, List.length_cons, List.length_nil, List.cons.injEq, and_true, true_and, and_assoc, exists_and_left, x_tt, x_ft, reduceIte, Bool.false_eq_true, Bool.not_true, Bool.not_false, xwalk_tup, xwalk_ref]
  refine ⟨_, _, B, 2, rfl, T.gates, T.gl, hk, fun S2 x2 => ?_⟩
  try simp only [dSeq, dAsg, dRet, dDrop, dIfS, dPar, dPar3, dgName, dgTup, dgCons, dgNil, dBin, dVar, dC, dCB, dCons, dNil, dB, dIf, dNeg, dTup, dLst, dCall, dFor, dIter, dRng1, dLc, dAppend, dNext, dAnd, dOr, dNot, dAndV, dNotV, dgSub, dSl, dPart, dNoPart, wipeD, dZip, dNewT, dNewK, sd1, sd2, sd3, sd4, List.getElem?_cons_succ, List.getElem?_cons_zero, Option.some.injEq, exists_eq_left', List.set_cons_succ, List.set_cons_zero, List.replicate_succ, List.replicate_zero, Nat.reduceAdd, Nat.reduceSub, xi_add, xt_add, xi_sub, xi_mod, xi_div, xi_cmp, xi_mul, xi_lt, xi_le, xsl_fz, xsl_tup, xsl_ref, xadd_ref, xmul_tup, xpow, xisnot_non, xis_non, xtup_ref, xtup_tup, xlen_tup, xlen_ref, xint_int, xabs_int, ix_t0, ix_t1, D.bl.injEq, D.int.injEq, D.tup.injEq, D.ref.injEq, List.length_cons, List.length_nil, List.cons.injEq, and_true, true_and, and_assoc, exists_and_left, x_tt, x_ft, reduceIte, Bool.false_eq_true, Bool.not_true, Bool.not_false, xwalk_tup, xwalk_ref]
  refine ⟨_, _, B, 1, rfl, T.steps, T.sl, hk, fun S3 x3 => ?_⟩
  try simp only [dSeq, dAsg, dRet, dDrop, dIfS, dPar, dPar3, dgName, dgTup, dgCons, dgNil, dBin, dVar, dC, dCB, dCons, dNil, dB, dIf, dNeg, dTup, dLst, dCall, dFor, dIter, dRng1, dLc, dAppend, dNext, dAnd, dOr, dNot, dAndV, dNotV, dgSub, dSl, dPart, dNoPart, wipeD, dZip, dNewT, dNewK, sd1, sd2, sd3, sd4, List.getElem?_cons_succ, List.getElem?_cons_zero, Option.some.injEq, exists_eq_left', List.set_cons_succ, List.set_cons_zero, List.replicate_succ, List.replicate_zero, Nat.reduceAdd, Nat.reduceSub, xi_add, xt_add, xi_sub, xi_mod, xi_div, xi_cmp, xi_mul, xi_lt, xi_le, xsl_fz, xsl_tup, xsl_ref, xadd_ref, xmul_tup, xpow, xisnot_non, xis_non, xtup_ref, xtup_tup, xlen_tup, xlen_ref, xint_int, xabs_int, ix_t0, ix_t1, D.bl.injEq, D.int.injEq, D.tup.injEq, D.ref.injEq, List.length_cons, List.length_nil, List.cons.injEq, and_true, true_and, and_assoc, exists_and_left, x_tt, x_ft, reduceIte, Bool.false_eq_true, Bool.not_true, Bool.not_false, xwalk_tup, xwalk_ref, List.length_map]
  have sl := T.sl
  exact ⟨_, _, nb, db, eb, jb, rfl, T.poly, by omega, hj, fun S4 x4 => q _ (((x1.trans x2).trans x3).trans x4)⟩
theorem len_Lbreach : ∀ ds S Q, sp_Lbreach ds S Q → ds.length = p_Lbreach.length := fun ds S Q ⟨_, _, _, _, _, _, _, e, _⟩ => by subst e; rfl
theorem run_Lbreach {ds : List D} {S : Stt} {Q : DK} (h : sp_Lbreach ds S Q) : t_Lbreach { nx := fun _ S2 => Q .non S2, rt := Q } (startD n_Lbreach ds) S := by
  obtain ⟨ts, k, B, nb, db, eb, jb, rfl, T, hl, hk, hj, q⟩ := h
  unfold t_Lbreach taD
  try simp only [dSeq, dAsg, dRet, dDrop, dIfS, dPar, dPar3, dgName, dgTup, dgCons, dgNil, dBin, dVar, dC, dCB, dCons, dNil, dB, dIf, dNeg, dTup, dLst, dCall, dFor, dIter, dRng1, dLc, dAppend, dNext, dAnd, dOr, dNot, dAndV, dNotV, dgSub, dSl, dPart, dNoPart, wipeD, dZip, dNewT, dNewK, sd1, sd2, sd3, sd4, List.getElem?_cons_succ, List.getElem?_cons_zero, Option.some.injEq, exists_eq_left', List.set_cons_succ, List.set_cons_zero, List.replicate_succ, List.replicate_zero, Nat.reduceAdd, Nat.reduceSub, xi_add, xt_add, xi_sub, xi_mod, xi_div, xi_cmp, xi_mul, xi_lt, xi_le, xsl_fz, xsl_tup, xsl_ref, xadd_ref, xmul_tup, xpow, xisnot_non, xis_non, xtup_ref, xtup_tup, xlen_tup, xlen_ref, xint_int, xabs_int, ix_t0, ix_t1, D.bl.injEq, D.int.injEq, D.tup.injEq, D.ref.injEq, List.length_cons, List.length_nil, List.cons.injEq, and_true, true_and, and_assoc, exists_and_left, x_tt, x_ft, reduceIte, Bool.false_eq_true, Bool.not_true, Bool.not_false, xwalk_tup, xwalk_ref, xis_ii, xis_ib, xis_tt, List.length_map]
  refine ⟨by omega, by omega, fun p1 h1 => ?_⟩
  rw [Int.toNat_natCast]
  refine lc_rng (f := fun _ => .non) (keep := fun _ => false) h1 (fun _ _ => trivial) (szl (by omega)) (fun i S1 K1 K2 hi x1 _ q2 => ?_) fun S1 x1 e1 => ?_
  · try simp only [dSeq, dAsg, dRet, dDrop, dIfS, dPar, dPar3, dgName, dgTup, dgCons, dgNil, dBin, dVar, dC, dCB, dCons, dNil, dB, dIf, dNeg, dTup, dLst, dCall, dFor, dIter, dRng1, dLc, dAppend, dNext, dAnd, dOr, dNot, dAndV, dNotV, dgSub, dSl, dPart, dNoPart, wipeD, dZip, dNewT, dNewK, sd1, sd2, sd3, sd4, List.getElem?_cons_succ, List.getElem?_cons_zero, Option.some.injEq, exists_eq_left', List.set_cons_succ, List.set_cons_zero, List.replicate_succ, List.replicate_zero, Nat.reduceAdd, Nat.reduceSub, xi_add, xt_add, xi_sub, xi_mod, xi_div, xi_cmp, xi_mul, xi_lt, xi_le, xsl_fz, xsl_tup, xsl_ref, xadd_ref, xmul_tup, xpow, xisnot_non, xis_non, xtup_ref, xtup_tup, xlen_tup, xlen_ref, xint_int, xabs_int, ix_t0, ix_t1, D.bl.injEq, D.int.injEq, D.tup.injEq, D.ref.injEq, List.length_cons, List.length_nil, List.cons.injEq, and_true, true_and, and_assoc, exists_and_left, x_tt, x_ft, reduceIte, Bool.false_eq_true, Bool.not_true, Bool.not_false, xwalk_tup, xwalk_ref]
    have e : ts[i]? = some ts[i] := List.getElem?_eq_getElem hi
    refine ix_at (atI_map e) ?_
    refine ⟨_, _, B, nb, db, eb, jb, rfl, T _ (List.getElem_mem hi), hk, hj, fun S2 x2 => ?_⟩
    try simp only [dSeq, dAsg, dRet, dDrop, dIfS, dPar, dPar3, dgName, dgTup, dgCons, dgNil, dBin, dVar, dC, dCB, dCons, dNil, dB, dIf, dNeg, dTup, dLst, dCall, dFor, dIter, dRng1, dLc, dAppend, dNext, dAnd, dOr, dNot, dAndV, dNotV, dgSub, dSl, dPart, dNoPart, wipeD, dZip, dNewT, dNewK, sd1, sd2, sd3, sd4, List.getElem?_cons_succ, List.getElem?_cons_zero, Option.some.injEq, exists_eq_left', List.set_cons_succ, List.set_cons_zero, List.replicate_succ, List.replicate_zero, Nat.reduceAdd, Nat.reduceSub, xi_add, xt_add, xi_sub, xi_mod, xi_div, xi_cmp, xi_mul, xi_lt, xi_le, xsl_fz, xsl_tup, xsl_ref, xadd_ref, xmul_tup, xpow, xisnot_non, xis_non, xtup_ref, xtup_tup, xlen_tup, xlen_ref, xint_int, xabs_int, ix_t0, ix_t1, D.bl.injEq, D.int.injEq, D.tup.injEq, D.ref.injEq, List.length_cons, List.length_nil, List.cons.injEq, and_true, true_and, and_assoc, exists_and_left, x_tt, x_ft, reduceIte, Bool.false_eq_true, Bool.not_true, Bool.not_false, xwalk_tup, xwalk_ref]
    exact q2 rfl _ x2
  · have e2 : S1 p1 = some (.lst []) := by rw [e1, List.filter_eq_nil_iff.mpr (by intro a _; simp)]; rfl
    refine ⟨szl (by omega), fun p2 h2 => ?_⟩
    refine ne_nil2 (ups_old h2 e2) ups_same ?_
    try simp only [dSeq, dAsg, dRet, dDrop, dIfS, dPar, dPar3, dgName, dgTup, dgCons, dgNil, dBin, dVar, dC, dCB, dCons, dNil, dB, dIf, dNeg, dTup, dLst, dCall, dFor, dIter, dRng1, dLc, dAppend, dNext, dAnd, dOr, dNot, dAndV, dNotV, dgSub, dSl, dPart, dNoPart, wipeD, dZip, dNewT, dNewK, sd1, sd2, sd3, sd4, List.getElem?_cons_succ, List.getElem?_cons_zero, Option.some.injEq, exists_eq_left', List.set_cons_succ, List.set_cons_zero, List.replicate_succ, List.replicate_zero, Nat.reduceAdd, Nat.reduceSub, xi_add, xt_add, xi_sub, xi_mod, xi_div, xi_cmp, xi_mul, xi_lt, xi_le, xsl_fz, xsl_tup, xsl_ref, xadd_ref, xmul_tup, xpow, xisnot_non, xis_non, xtup_ref, xtup_tup, xlen_tup, xlen_ref, xint_int, xabs_int, ix_t0, ix_t1, D.bl.injEq, D.int.injEq, D.tup.injEq, D.ref.injEq, List.length_cons, List.length_nil, List.cons.injEq, and_true, true_and, and_assoc, exists_and_left, x_tt, x_ft, reduceIte, Bool.false_eq_true, Bool.not_true, Bool.not_false, xwalk_tup, xwalk_ref]
    exact q _ (x1.trans (Ext.new h2))
end LW

namespace LW
open PySem PySem.Spec PyProof.Rows L2 DL
theorem mok_ne {S : Stt} {m p : Addr} {n : Nat} (h : MOk S m n) (hp : S p = none) : p ≠ m := fun e => by
  subst e
  obtain ⟨o, ho⟩ := h.ex
  rw [hp] at ho
  cases ho
theorem len_Lchoices : ∀ ds S Q, sp_Lchoices ds S Q → ds.length = p_Lchoices.length := fun ds S Q ⟨_, _, _, _, e, _⟩ => by subst e; rfl
theorem run_Lchoices {ds : List D} {S : Stt} {Q : DK} (h : sp_Lchoices ds S Q) : t_Lchoices { nx := fun _ S2 => Q .non S2, rt := Q } (startD n_Lchoices ds) S := by
  obtain ⟨m, k, c, n, rfl, hk, hc, M, hn, q⟩ := h
  unfold dmax at hn
  unfold t_Lchoices
  simp only [dSeq, dAsg, dRet, dDrop, dIfS, dPar, dPar3, dgName, dgTup, dgCons, dgNil, dBin, dVar, dC, dCB, dCons, dNil, dB, dIf, dNeg, dTup, dLst, dCall, dFor, dIter, dRng1, dLc, dAppend, dNext, dAnd, dOr, dNot, dAndV, dNotV, dgSub, dSl, dPart, dNoPart, wipeD, dZip, dNewT, dNewK, sd1, sd2, sd3, sd4, List.getElem?_cons_succ, List.getElem?_cons_zero, Option.some.injEq, exists_eq_left', List.set_cons_succ, List.set_cons_zero, List.replicate_succ, List.replicate_zero, Nat.reduceAdd, Nat.reduceSub, xi_add, xt_add, xi_sub, xi_mod, xi_div, xi_cmp, xi_mul, xi_lt, xi_le, xsl_fz, xsl_tup, xsl_ref, xadd_ref, xmul_tup, xpow, xisnot_non, xis_non, xtup_ref, xtup_tup, xlen_tup, xlen_ref, xint_int, xabs_int, ix_t0, ix_t1, D.bl.injEq, D.int.injEq, D.tup.injEq, D.ref.injEq, List.length_cons, List.length_nil, List.cons.injEq, and_true, true_and, and_assoc, exists_and_left, x_tt, x_ft, reduceIte, Bool.false_eq_true, Bool.not_true, Bool.not_false, xwalk_tup, xwalk_ref]
  refine ⟨szl (by omega), fun p0 h0 => ⟨by omega, by omega, ?_⟩⟩
  rw [Int.toNat_natCast]
  have pm := mok_ne M h0
  refine for_rng (fun i σ S' => ExtB m S S' ∧ MOk S' m (n + 30 * i) ∧ ∃ (l : List (List Int)) (o4 o5 : Option D), σ = [some (.ref m), some (.int k), some (.int c), some (.ref p0), o4, o5] ∧ S' p0 = some (.lst (l.map fmD)) ∧ l.length = i ∧ ∀ p ∈ l, p.length = k ∧ ∀ x ∈ p, x.natAbs < 2 ^ 30) ⟨(ExtB.refl m S).put h0, M.ext (Ext.new h0), [], _, _, rfl, ups_same, rfl, fun _ h => nomatch h⟩ (fun _ => trivial) (fun i σ S' N hi ⟨x, M', l, o4, o5, eσ, hl, ll, lo⟩ hN => ?_) fun σ S' ⟨x, M', l, o4, o5, eσ, hl, ll, lo⟩ => ?_
  · subst eσ
    simp only [dSeq, dAsg, dRet, dDrop, dIfS, dPar, dPar3, dgName, dgTup, dgCons, dgNil, dBin, dVar, dC, dCB, dCons, dNil, dB, dIf, dNeg, dTup, dLst, dCall, dFor, dIter, dRng1, dLc, dAppend, dNext, dAnd, dOr, dNot, dAndV, dNotV, dgSub, dSl, dPart, dNoPart, wipeD, dZip, dNewT, dNewK, sd1, sd2, sd3, sd4, List.getElem?_cons_succ, List.getElem?_cons_zero, Option.some.injEq, exists_eq_left', List.set_cons_succ, List.set_cons_zero, List.replicate_succ, List.replicate_zero, Nat.reduceAdd, Nat.reduceSub, xi_add, xt_add, xi_sub, xi_mod, xi_div, xi_cmp, xi_mul, xi_lt, xi_le, xsl_fz, xsl_tup, xsl_ref, xadd_ref, xmul_tup, xpow, xisnot_non, xis_non, xtup_ref, xtup_tup, xlen_tup, xlen_ref, xint_int, xabs_int, ix_t0, ix_t1, D.bl.injEq, D.int.injEq, D.tup.injEq, D.ref.injEq, List.length_cons, List.length_nil, List.cons.injEq, and_true, true_and, and_assoc, exists_and_left, x_tt, x_ft, reduceIte, Bool.false_eq_true, Bool.not_true, Bool.not_false, xwalk_tup, xwalk_ref]
    refine ⟨⟨_, hl⟩, by omega, by omega, fun p1 h1 => ?_⟩
    rw [Int.toNat_natCast]
    refine lc_mok (ok := fun x : Int => x.natAbs < 2 ^ 30) (enc := D.int) (n := n + 30 * i) (c := 3) h1 M' (fun _ _ => trivial) (szl (by rw [intsD_length]; omega)) (fun j d S1 K1 e hj x1 M1 h2 => ?_) fun l1 S1 hl1 ho1 x1 M1 hs1 => ?_
    · rw [intsD_length] at hj
      simp only [dSeq, dAsg, dRet, dDrop, dIfS, dPar, dPar3, dgName, dgTup, dgCons, dgNil, dBin, dVar, dC, dCB, dCons, dNil, dB, dIf, dNeg, dTup, dLst, dCall, dFor, dIter, dRng1, dLc, dAppend, dNext, dAnd, dOr, dNot, dAndV, dNotV, dgSub, dSl, dPart, dNoPart, wipeD, dZip, dNewT, dNewK, sd1, sd2, sd3, sd4, List.getElem?_cons_succ, List.getElem?_cons_zero, Option.some.injEq, exists_eq_left', List.set_cons_succ, List.set_cons_zero, List.replicate_succ, List.replicate_zero, Nat.reduceAdd, Nat.reduceSub, xi_add, xt_add, xi_sub, xi_mod, xi_div, xi_cmp, xi_mul, xi_lt, xi_le, xsl_fz, xsl_tup, xsl_ref, xadd_ref, xmul_tup, xpow, xisnot_non, xis_non, xtup_ref, xtup_tup, xlen_tup, xlen_ref, xint_int, xabs_int, ix_t0, ix_t1, D.bl.injEq, D.int.injEq, D.tup.injEq, D.ref.injEq, List.length_cons, List.length_nil, List.cons.injEq, and_true, true_and, and_assoc, exists_and_left, x_tt, x_ft, reduceIte, Bool.false_eq_true, Bool.not_true, Bool.not_false, xwalk_tup, xwalk_ref]
      refine ⟨⟨by omega, by omega, by decide⟩, szl (by omega), fun p2 hp2 => ?_⟩
      refine ⟨m, p2, _, n + 30 * i + 3 * j, rfl, ups_same, by simp, by simp, M1.ext (Ext.new hp2), by unfold dmax; omega, fun d S2 hd x2 M2 => ?_⟩
      have xx : ExtB m S1 S2 := (Ext.new hp2).but.trans x2
      have bd : ∃ b : Int, d = .int b ∧ 0 ≤ b ∧ b.natAbs ≤ 1000000000 := by
        simp only [List.mem_cons, List.not_mem_nil, or_false] at hd
        rcases hd with rfl | rfl | rfl | rfl
        · exact ⟨_, rfl, by omega, by omega⟩
        · exact ⟨_, rfl, by omega, by omega⟩
        · exact ⟨_, rfl, by omega, by omega⟩
        · exact ⟨_, rfl, by decide, by decide⟩
      obtain ⟨b, rfl, b0, b1⟩ := bd
      simp only [dSeq, dAsg, dRet, dDrop, dIfS, dPar, dPar3, dgName, dgTup, dgCons, dgNil, dBin, dVar, dC, dCB, dCons, dNil, dB, dIf, dNeg, dTup, dLst, dCall, dFor, dIter, dRng1, dLc, dAppend, dNext, dAnd, dOr, dNot, dAndV, dNotV, dgSub, dSl, dPart, dNoPart, wipeD, dZip, dNewT, dNewK, sd1, sd2, sd3, sd4, List.getElem?_cons_succ, List.getElem?_cons_zero, Option.some.injEq, exists_eq_left', List.set_cons_succ, List.set_cons_zero, List.replicate_succ, List.replicate_zero, Nat.reduceAdd, Nat.reduceSub, xi_add, xt_add, xi_sub, xi_mod, xi_div, xi_cmp, xi_mul, xi_lt, xi_le, xsl_fz, xsl_tup, xsl_ref, xadd_ref, xmul_tup, xpow, xisnot_non, xis_non, xtup_ref, xtup_tup, xlen_tup, xlen_ref, xint_int, xabs_int, ix_t0, ix_t1, D.bl.injEq, D.int.injEq, D.tup.injEq, D.ref.injEq, List.length_cons, List.length_nil, List.cons.injEq, and_true, true_and, and_assoc, exists_and_left, x_tt, x_ft, reduceIte, Bool.false_eq_true, Bool.not_true, Bool.not_false, xwalk_tup, xwalk_ref]
      refine ⟨m, b, _, rfl, b0, lt8000 (Nat.lt_of_le_of_lt (show b.natAbs + 1 ≤ 1000000001 by omega) (by decide)), M2, by unfold dmax; omega, fun r S3 hr x3 M3 => ?_⟩
      exact h2 r S3 (Nat.lt_of_le_of_lt (Nat.le_trans hr b1) (by decide)) (xx.trans x3) (M3.mono (by omega))
    · rw [intsD_length] at hl1 M1
      try simp only [dSeq, dAsg, dRet, dDrop, dIfS, dPar, dPar3, dgName, dgTup, dgCons, dgNil, dBin, dVar, dC, dCB, dCons, dNil, dB, dIf, dNeg, dTup, dLst, dCall, dFor, dIter, dRng1, dLc, dAppend, dNext, dAnd, dOr, dNot, dAndV, dNotV, dgSub, dSl, dPart, dNoPart, wipeD, dZip, dNewT, dNewK, sd1, sd2, sd3, sd4, List.getElem?_cons_succ, List.getElem?_cons_zero, Option.some.injEq, exists_eq_left', List.set_cons_succ, List.set_cons_zero, List.replicate_succ, List.replicate_zero, Nat.reduceAdd, Nat.reduceSub, xi_add, xt_add, xi_sub, xi_mod, xi_div, xi_cmp, xi_mul, xi_lt, xi_le, xsl_fz, xsl_tup, xsl_ref, xadd_ref, xmul_tup, xpow, xisnot_non, xis_non, xtup_ref, xtup_tup, xlen_tup, xlen_ref, xint_int, xabs_int, ix_t0, ix_t1, D.bl.injEq, D.int.injEq, D.tup.injEq, D.ref.injEq, List.length_cons, List.length_nil, List.cons.injEq, and_true, true_and, and_assoc, exists_and_left, x_tt, x_ft, reduceIte, Bool.false_eq_true, Bool.not_true, Bool.not_false, xwalk_tup, xwalk_ref]
      have hl' := x1.old _ _ pm hl
      refine ⟨_, hs1, _, hl', szlt (by rw [List.length_map]; omega), ?_⟩
      have x02 := x.trans x1
      refine hN _ _ ⟨x02.put h0, M.late h0 x02 (M1.mono (by omega)), l ++ [l1], _, _, rfl, by rw [ups_same, List.map_append]; rfl, by simp [ll], fun y hy => ?_⟩
      rcases List.mem_append.mp hy with h | h
      · exact lo y h
      · simp at h
        subst h
        exact ⟨hl1, ho1⟩
  · subst eσ
    simp only [dSeq, dAsg, dRet, dDrop, dIfS, dPar, dPar3, dgName, dgTup, dgCons, dgNil, dBin, dVar, dC, dCB, dCons, dNil, dB, dIf, dNeg, dTup, dLst, dCall, dFor, dIter, dRng1, dLc, dAppend, dNext, dAnd, dOr, dNot, dAndV, dNotV, dgSub, dSl, dPart, dNoPart, wipeD, dZip, dNewT, dNewK, sd1, sd2, sd3, sd4, List.getElem?_cons_succ, List.getElem?_cons_zero, Option.some.injEq, exists_eq_left', List.set_cons_succ, List.set_cons_zero, List.replicate_succ, List.replicate_zero, Nat.reduceAdd, Nat.reduceSub, xi_add, xt_add, xi_sub, xi_mod, xi_div, xi_cmp, xi_mul, xi_lt, xi_le, xsl_fz, xsl_tup, xsl_ref, xadd_ref, xmul_tup, xpow, xisnot_non, xis_non, xtup_ref, xtup_tup, xlen_tup, xlen_ref, xint_int, xabs_int, ix_t0, ix_t1, D.bl.injEq, D.int.injEq, D.tup.injEq, D.ref.injEq, List.length_cons, List.length_nil, List.cons.injEq, and_true, true_and, and_assoc, exists_and_left, x_tt, x_ft, reduceIte, Bool.false_eq_true, Bool.not_true, Bool.not_false, xwalk_tup, xwalk_ref]
    exact q p0 l S' lo ll x h0 (M'.mono (by omega)) hl
theorem FmOk.mono {k B B' : Nat} {f : Fm} (h : FmOk k B f) (hb : B ≤ B') : FmOk k B' f := ⟨h.1, fun c hc => Nat.le_trans (h.2 c hc) hb⟩
theorem len_Lterm : ∀ ds S Q, sp_Lterm ds S Q → ds.length = p_Lterm.length := fun ds S Q ⟨_, _, _, e, _⟩ => by subst e; rfl
/-- pairs: a part and a form -/
theorem lc_prs {items : List D} {S : Stt} {m p : Addr} {n k a b : Nat} {σ : Sd} {Q : DK} {o1 o2 o3 : Option D} (ha : 1 ≤ a) (hb : 1 ≤ b) (hab : a + b ≤ 100) (hσ : σ = [some (.ref m), some (.int k), o1, o2, o3, none]) (hk : k ≤ 10) (hp : S p = none) (M : MOk S m n) (hl : items.length ≤ 3) (hn : n + 2000 ≤ dmax)
    (hd : ∀ (l : List (Int × Fm)) S', l.length = items.length → (∀ y ∈ l, PrOk k 9 a y) → ExtB m S S' → MOk S' m (n + 101 * items.length) → S' p = some (.lst (l.map prD)) → Q (.ref p) S') :
    lcD (dgName 5) dYes (dTup (dCons (dBin DL.rAdd (dC (.int a)) (dCall sp_Ldraw (dCons (dVar 0) (dCons (dC (.int b)) dNil)))) (dCons (dCall sp_Lform (dCons (dVar 0) (dCons (dVar 1) (dCons (dC (.int 9)) dNil)))) dNil))) σ (fun _ => True) p Q items (ups S p (.lst [])) := by
  unfold dmax at hn
  subst hσ
  refine lc_mok (ok := fun y : Int × Fm => PrOk k 9 a y) (enc := prD) (n := n) (c := 101) hp M (fun _ _ => trivial) (szl (by omega)) (fun j d S1 K1 e hj x1 M1 h2 => ?_) hd
  simp only [dSeq, dAsg, dRet, dDrop, dIfS, dPar, dPar3, dgName, dgTup, dgCons, dgNil, dBin, dVar, dC, dCB, dCons, dNil, dB, dIf, dNeg, dTup, dLst, dCall, dFor, dIter, dRng1, dLc, dAppend, dNext, dAnd, dOr, dNot, dAndV, dNotV, dgSub, dSl, dPart, dNoPart, wipeD, dZip, dNewT, dNewK, sd1, sd2, sd3, sd4, List.getElem?_cons_succ, List.getElem?_cons_zero, Option.some.injEq, exists_eq_left', List.set_cons_succ, List.set_cons_zero, List.replicate_succ, List.replicate_zero, Nat.reduceAdd, Nat.reduceSub, xi_add, xt_add, xi_sub, xi_mod, xi_div, xi_cmp, xi_mul, xi_lt, xi_le, xsl_fz, xsl_tup, xsl_ref, xadd_ref, xmul_tup, xpow, xisnot_non, xis_non, xtup_ref, xtup_tup, xlen_tup, xlen_ref, xint_int, xabs_int, ix_t0, ix_t1, D.bl.injEq, D.int.injEq, D.tup.injEq, D.ref.injEq, List.length_cons, List.length_nil, List.cons.injEq, and_true, true_and, and_assoc, exists_and_left, x_tt, x_ft, reduceIte, Bool.false_eq_true, Bool.not_true, Bool.not_false, xwalk_tup, xwalk_ref]
  refine ⟨m, _, _, rfl, by omega, lt8000 (by omega), M1, by unfold dmax; omega, fun r S2 r0 r1 x2 M2 => ?_⟩
  simp only [dSeq, dAsg, dRet, dDrop, dIfS, dPar, dPar3, dgName, dgTup, dgCons, dgNil, dBin, dVar, dC, dCB, dCons, dNil, dB, dIf, dNeg, dTup, dLst, dCall, dFor, dIter, dRng1, dLc, dAppend, dNext, dAnd, dOr, dNot, dAndV, dNotV, dgSub, dSl, dPart, dNoPart, wipeD, dZip, dNewT, dNewK, sd1, sd2, sd3, sd4, List.getElem?_cons_succ, List.getElem?_cons_zero, Option.some.injEq, exists_eq_left', List.set_cons_succ, List.set_cons_zero, List.replicate_succ, List.replicate_zero, Nat.reduceAdd, Nat.reduceSub, xi_add, xt_add, xi_sub, xi_mod, xi_div, xi_cmp, xi_mul, xi_lt, xi_le, xsl_fz, xsl_tup, xsl_ref, xadd_ref, xmul_tup, xpow, xisnot_non, xis_non, xtup_ref, xtup_tup, xlen_tup, xlen_ref, xint_int, xabs_int, ix_t0, ix_t1, D.bl.injEq, D.int.injEq, D.tup.injEq, D.ref.injEq, List.length_cons, List.length_nil, List.cons.injEq, and_true, true_and, and_assoc, exists_and_left, x_tt, x_ft, reduceIte, Bool.false_eq_true, Bool.not_true, Bool.not_false, xwalk_tup, xwalk_ref]
  refine ⟨m, k, 9, _, rfl, by omega, by omega, M2, by unfold dmax; omega, fun f S3 hf x3 M3 => ⟨szl (by omega), ?_⟩⟩
  exact h2 ((a : Int) + r, f) S3 ⟨by show (a : Int) ≤ a + r; omega, by show (a : Int) + r ≤ 1000; omega, hf⟩ (x2.trans x3) (M3.mono (by omega))
theorem run_Lterm {ds : List D} {S : Stt} {Q : DK} (h : sp_Lterm ds S Q) : t_Lterm { nx := fun _ S2 => Q .non S2, rt := Q } (startD n_Lterm ds) S := by
  obtain ⟨m, k, n, rfl, hk, M, hn, q⟩ := h
  unfold dmax at hn
  unfold t_Lterm
  simp only [dSeq, dAsg, dRet, dDrop, dIfS, dPar, dPar3, dgName, dgTup, dgCons, dgNil, dBin, dVar, dC, dCB, dCons, dNil, dB, dIf, dNeg, dTup, dLst, dCall, dFor, dIter, dRng1, dLc, dAppend, dNext, dAnd, dOr, dNot, dAndV, dNotV, dgSub, dSl, dPart, dNoPart, wipeD, dZip, dNewT, dNewK, sd1, sd2, sd3, sd4, List.getElem?_cons_succ, List.getElem?_cons_zero, Option.some.injEq, exists_eq_left', List.set_cons_succ, List.set_cons_zero, List.replicate_succ, List.replicate_zero, Nat.reduceAdd, Nat.reduceSub, xi_add, xt_add, xi_sub, xi_mod, xi_div, xi_cmp, xi_mul, xi_lt, xi_le, xsl_fz, xsl_tup, xsl_ref, xadd_ref, xmul_tup, xpow, xisnot_non, xis_non, xtup_ref, xtup_tup, xlen_tup, xlen_ref, xint_int, xabs_int, ix_t0, ix_t1, D.bl.injEq, D.int.injEq, D.tup.injEq, D.ref.injEq, List.length_cons, List.length_nil, List.cons.injEq, and_true, true_and, and_assoc, exists_and_left, x_tt, x_ft, reduceIte, Bool.false_eq_true, Bool.not_true, Bool.not_false, xwalk_tup, xwalk_ref]
  refine ⟨m, 3, n, rfl, by omega, lt8000 (by decide), M, by unfold dmax; omega, fun r S1 r0 r1 x1 M1 => ?_⟩
  simp only [dSeq, dAsg, dRet, dDrop, dIfS, dPar, dPar3, dgName, dgTup, dgCons, dgNil, dBin, dVar, dC, dCB, dCons, dNil, dB, dIf, dNeg, dTup, dLst, dCall, dFor, dIter, dRng1, dLc, dAppend, dNext, dAnd, dOr, dNot, dAndV, dNotV, dgSub, dSl, dPart, dNoPart, wipeD, dZip, dNewT, dNewK, sd1, sd2, sd3, sd4, List.getElem?_cons_succ, List.getElem?_cons_zero, Option.some.injEq, exists_eq_left', List.set_cons_succ, List.set_cons_zero, List.replicate_succ, List.replicate_zero, Nat.reduceAdd, Nat.reduceSub, xi_add, xt_add, xi_sub, xi_mod, xi_div, xi_cmp, xi_mul, xi_lt, xi_le, xsl_fz, xsl_tup, xsl_ref, xadd_ref, xmul_tup, xpow, xisnot_non, xis_non, xtup_ref, xtup_tup, xlen_tup, xlen_ref, xint_int, xabs_int, ix_t0, ix_t1, D.bl.injEq, D.int.injEq, D.tup.injEq, D.ref.injEq, List.length_cons, List.length_nil, List.cons.injEq, and_true, true_and, and_assoc, exists_and_left, x_tt, x_ft, reduceIte, Bool.false_eq_true, Bool.not_true, Bool.not_false, xwalk_tup, xwalk_ref]
  refine ⟨by omega, by omega, fun p1 h1 => ?_⟩
  refine lc_mok (ok := fun y : Fm => FmOk k 7 y) (enc := fmD) (n := n + 1) (c := 100) h1 M1 (fun _ _ => trivial) (szl (by rw [intsD_length]; omega)) (fun j d S2 K1 e hj x2 M2 h2 => ?_) fun rows S2 rl ro x2 M2 rs => ?_
  · rw [intsD_length] at hj
    simp only [dSeq, dAsg, dRet, dDrop, dIfS, dPar, dPar3, dgName, dgTup, dgCons, dgNil, dBin, dVar, dC, dCB, dCons, dNil, dB, dIf, dNeg, dTup, dLst, dCall, dFor, dIter, dRng1, dLc, dAppend, dNext, dAnd, dOr, dNot, dAndV, dNotV, dgSub, dSl, dPart, dNoPart, wipeD, dZip, dNewT, dNewK, sd1, sd2, sd3, sd4, List.getElem?_cons_succ, List.getElem?_cons_zero, Option.some.injEq, exists_eq_left', List.set_cons_succ, List.set_cons_zero, List.replicate_succ, List.replicate_zero, Nat.reduceAdd, Nat.reduceSub, xi_add, xt_add, xi_sub, xi_mod, xi_div, xi_cmp, xi_mul, xi_lt, xi_le, xsl_fz, xsl_tup, xsl_ref, xadd_ref, xmul_tup, xpow, xisnot_non, xis_non, xtup_ref, xtup_tup, xlen_tup, xlen_ref, xint_int, xabs_int, ix_t0, ix_t1, D.bl.injEq, D.int.injEq, D.tup.injEq, D.ref.injEq, List.length_cons, List.length_nil, List.cons.injEq, and_true, true_and, and_assoc, exists_and_left, x_tt, x_ft, reduceIte, Bool.false_eq_true, Bool.not_true, Bool.not_false, xwalk_tup, xwalk_ref]
    exact ⟨m, k, 7, _, rfl, by omega, by omega, M2, by unfold dmax; omega, fun f S3 hf x3 M3 => h2 f S3 hf x3 M3⟩
  rw [intsD_length] at rl M2
  try simp only [dSeq, dAsg, dRet, dDrop, dIfS, dPar, dPar3, dgName, dgTup, dgCons, dgNil, dBin, dVar, dC, dCB, dCons, dNil, dB, dIf, dNeg, dTup, dLst, dCall, dFor, dIter, dRng1, dLc, dAppend, dNext, dAnd, dOr, dNot, dAndV, dNotV, dgSub, dSl, dPart, dNoPart, wipeD, dZip, dNewT, dNewK, sd1, sd2, sd3, sd4, List.getElem?_cons_succ, List.getElem?_cons_zero, Option.some.injEq, exists_eq_left', List.set_cons_succ, List.set_cons_zero, List.replicate_succ, List.replicate_zero, Nat.reduceAdd, Nat.reduceSub, xi_add, xt_add, xi_sub, xi_mod, xi_div, xi_cmp, xi_mul, xi_lt, xi_le, xsl_fz, xsl_tup, xsl_ref, xadd_ref, xmul_tup, xpow, xisnot_non, xis_non, xtup_ref, xtup_tup, xlen_tup, xlen_ref, xint_int, xabs_int, ix_t0, ix_t1, D.bl.injEq, D.int.injEq, D.tup.injEq, D.ref.injEq, List.length_cons, List.length_nil, List.cons.injEq, and_true, true_and, and_assoc, exists_and_left, x_tt, x_ft, reduceIte, Bool.false_eq_true, Bool.not_true, Bool.not_false, xwalk_tup, xwalk_ref]
  refine ⟨_, rs, szl (by omega), fun p2 h2 => ?_⟩
  have M3 := M2.ext (Ext.new (o := .lst [.int 0, .int 0, .int 1, .int 2]) h2)
  refine ⟨m, p2, _, _, rfl, ups_same, by simp, by simp, M3, by unfold dmax; omega, fun d S3 hd x3 M4 => ?_⟩
  have bd : ∃ b : Nat, d = .int b ∧ b ≤ 2 := by
    simp only [List.mem_cons, List.not_mem_nil, or_false] at hd
    rcases hd with rfl | rfl | rfl | rfl
    · exact ⟨0, rfl, by omega⟩
    · exact ⟨0, rfl, by omega⟩
    · exact ⟨1, rfl, by omega⟩
    · exact ⟨2, rfl, by omega⟩
  obtain ⟨b, rfl, b1⟩ := bd
  have x03 : ExtB m S S3 := ((x1.trans x2).trans (Ext.new h2).but).trans x3
  try simp only [dSeq, dAsg, dRet, dDrop, dIfS, dPar, dPar3, dgName, dgTup, dgCons, dgNil, dBin, dVar, dC, dCB, dCons, dNil, dB, dIf, dNeg, dTup, dLst, dCall, dFor, dIter, dRng1, dLc, dAppend, dNext, dAnd, dOr, dNot, dAndV, dNotV, dgSub, dSl, dPart, dNoPart, wipeD, dZip, dNewT, dNewK, sd1, sd2, sd3, sd4, List.getElem?_cons_succ, List.getElem?_cons_zero, Option.some.injEq, exists_eq_left', List.set_cons_succ, List.set_cons_zero, List.replicate_succ, List.replicate_zero, Nat.reduceAdd, Nat.reduceSub, xi_add, xt_add, xi_sub, xi_mod, xi_div, xi_cmp, xi_mul, xi_lt, xi_le, xsl_fz, xsl_tup, xsl_ref, xadd_ref, xmul_tup, xpow, xisnot_non, xis_non, xtup_ref, xtup_tup, xlen_tup, xlen_ref, xint_int, xabs_int, ix_t0, ix_t1, D.bl.injEq, D.int.injEq, D.tup.injEq, D.ref.injEq, List.length_cons, List.length_nil, List.cons.injEq, and_true, true_and, and_assoc, exists_and_left, x_tt, x_ft, reduceIte, Bool.false_eq_true, Bool.not_true, Bool.not_false, xwalk_tup, xwalk_ref]
  refine ⟨by omega, by omega, fun p3 h3 => ?_⟩
  rw [Int.toNat_natCast]
  refine lc_prs (a := 2) (b := 4) (by omega) (by omega) (by omega) rfl hk h3 M4 (by rw [intsD_length]; omega) (by unfold dmax; omega) fun gates S4 gl go x4 M5 gs => ?_
  rw [intsD_length] at gl M5
  try simp only [dSeq, dAsg, dRet, dDrop, dIfS, dPar, dPar3, dgName, dgTup, dgCons, dgNil, dBin, dVar, dC, dCB, dCons, dNil, dB, dIf, dNeg, dTup, dLst, dCall, dFor, dIter, dRng1, dLc, dAppend, dNext, dAnd, dOr, dNot, dAndV, dNotV, dgSub, dSl, dPart, dNoPart, wipeD, dZip, dNewT, dNewK, sd1, sd2, sd3, sd4, List.getElem?_cons_succ, List.getElem?_cons_zero, Option.some.injEq, exists_eq_left', List.set_cons_succ, List.set_cons_zero, List.replicate_succ, List.replicate_zero, Nat.reduceAdd, Nat.reduceSub, xi_add, xt_add, xi_sub, xi_mod, xi_div, xi_cmp, xi_mul, xi_lt, xi_le, xsl_fz, xsl_tup, xsl_ref, xadd_ref, xmul_tup, xpow, xisnot_non, xis_non, xtup_ref, xtup_tup, xlen_tup, xlen_ref, xint_int, xabs_int, ix_t0, ix_t1, D.bl.injEq, D.int.injEq, D.tup.injEq, D.ref.injEq, List.length_cons, List.length_nil, List.cons.injEq, and_true, true_and, and_assoc, exists_and_left, x_tt, x_ft, reduceIte, Bool.false_eq_true, Bool.not_true, Bool.not_false, xwalk_tup, xwalk_ref]
  refine ⟨_, gs, m, 4, _, rfl, by omega, lt8000 (by decide), M5, by unfold dmax; omega, fun r' S5 r0' r1' x5 M6 => ?_⟩
  try simp only [dSeq, dAsg, dRet, dDrop, dIfS, dPar, dPar3, dgName, dgTup, dgCons, dgNil, dBin, dVar, dC, dCB, dCons, dNil, dB, dIf, dNeg, dTup, dLst, dCall, dFor, dIter, dRng1, dLc, dAppend, dNext, dAnd, dOr, dNot, dAndV, dNotV, dgSub, dSl, dPart, dNoPart, wipeD, dZip, dNewT, dNewK, sd1, sd2, sd3, sd4, List.getElem?_cons_succ, List.getElem?_cons_zero, Option.some.injEq, exists_eq_left', List.set_cons_succ, List.set_cons_zero, List.replicate_succ, List.replicate_zero, Nat.reduceAdd, Nat.reduceSub, xi_add, xt_add, xi_sub, xi_mod, xi_div, xi_cmp, xi_mul, xi_lt, xi_le, xsl_fz, xsl_tup, xsl_ref, xadd_ref, xmul_tup, xpow, xisnot_non, xis_non, xtup_ref, xtup_tup, xlen_tup, xlen_ref, xint_int, xabs_int, ix_t0, ix_t1, D.bl.injEq, D.int.injEq, D.tup.injEq, D.ref.injEq, List.length_cons, List.length_nil, List.cons.injEq, and_true, true_and, and_assoc, exists_and_left, x_tt, x_ft, reduceIte, Bool.false_eq_true, Bool.not_true, Bool.not_false, xwalk_tup, xwalk_ref]
  refine ⟨by omega, by omega, fun p4 h4 => ?_⟩
  refine lc_prs (a := 1) (b := 5) (by omega) (by omega) (by omega) rfl hk h4 M6 (by rw [intsD_length]; omega) (by unfold dmax; omega) fun steps S6 sl so x6 M7 ss => ?_
  rw [intsD_length] at sl M7
  try simp only [dSeq, dAsg, dRet, dDrop, dIfS, dPar, dPar3, dgName, dgTup, dgCons, dgNil, dBin, dVar, dC, dCB, dCons, dNil, dB, dIf, dNeg, dTup, dLst, dCall, dFor, dIter, dRng1, dLc, dAppend, dNext, dAnd, dOr, dNot, dAndV, dNotV, dgSub, dSl, dPart, dNoPart, wipeD, dZip, dNewT, dNewK, sd1, sd2, sd3, sd4, List.getElem?_cons_succ, List.getElem?_cons_zero, Option.some.injEq, exists_eq_left', List.set_cons_succ, List.set_cons_zero, List.replicate_succ, List.replicate_zero, Nat.reduceAdd, Nat.reduceSub, xi_add, xt_add, xi_sub, xi_mod, xi_div, xi_cmp, xi_mul, xi_lt, xi_le, xsl_fz, xsl_tup, xsl_ref, xadd_ref, xmul_tup, xpow, xisnot_non, xis_non, xtup_ref, xtup_tup, xlen_tup, xlen_ref, xint_int, xabs_int, ix_t0, ix_t1, D.bl.injEq, D.int.injEq, D.tup.injEq, D.ref.injEq, List.length_cons, List.length_nil, List.cons.injEq, and_true, true_and, and_assoc, exists_and_left, x_tt, x_ft, reduceIte, Bool.false_eq_true, Bool.not_true, Bool.not_false, xwalk_tup, xwalk_ref]
  refine ⟨_, ss, m, steps.length, _, by rw [List.length_map], by omega, M7, by unfold dmax; omega, fun p S7 hp x7 M8 => ⟨szl (by omega), ?_⟩⟩
  refine q ⟨rows, gates, steps, p⟩ S7 ⟨fun f hf => (ro f hf).mono (by omega), go, so, ?_, ?_, ?_, hp⟩ ?_ ((((x03.trans x4).trans x5).trans x6).trans x7) (M8.mono (by omega))
  · show rows.length ≤ 100; omega
  · show gates.length ≤ 100; omega
  · show steps.length ≤ 100; omega
  · show steps.length ≤ 3; omega
theorem len_Ltally : ∀ ds S Q, sp_Ltally ds S Q → ds.length = p_Ltally.length := fun ds S Q ⟨_, _, _, e, _⟩ => by subst e; rfl
theorem run_Ltally {ds : List D} {S : Stt} {Q : DK} (h : sp_Ltally ds S Q) : t_Ltally { nx := fun _ S2 => Q .non S2, rt := Q } (startD n_Ltally ds) S := by
  obtain ⟨m, k, n, rfl, hk, M, hn, q⟩ := h
  unfold dmax at hn
  unfold t_Ltally
  simp only [dSeq, dAsg, dRet, dDrop, dIfS, dPar, dPar3, dgName, dgTup, dgCons, dgNil, dBin, dVar, dC, dCB, dCons, dNil, dB, dIf, dNeg, dTup, dLst, dCall, dFor, dIter, dRng1, dLc, dAppend, dNext, dAnd, dOr, dNot, dAndV, dNotV, dgSub, dSl, dPart, dNoPart, wipeD, dZip, dNewT, dNewK, sd1, sd2, sd3, sd4, List.getElem?_cons_succ, List.getElem?_cons_zero, Option.some.injEq, exists_eq_left', List.set_cons_succ, List.set_cons_zero, List.replicate_succ, List.replicate_zero, Nat.reduceAdd, Nat.reduceSub, xi_add, xt_add, xi_sub, xi_mod, xi_div, xi_cmp, xi_mul, xi_lt, xi_le, xsl_fz, xsl_tup, xsl_ref, xadd_ref, xmul_tup, xpow, xisnot_non, xis_non, xtup_ref, xtup_tup, xlen_tup, xlen_ref, xint_int, xabs_int, ix_t0, ix_t1, D.bl.injEq, D.int.injEq, D.tup.injEq, D.ref.injEq, List.length_cons, List.length_nil, List.cons.injEq, and_true, true_and, and_assoc, exists_and_left, x_tt, x_ft, reduceIte, Bool.false_eq_true, Bool.not_true, Bool.not_false, xwalk_tup, xwalk_ref]
  refine ⟨m, 4, n, rfl, by omega, lt8000 (by decide), M, by unfold dmax; omega, fun r S1 r0 r1 x1 M1 => ?_⟩
  simp only [dSeq, dAsg, dRet, dDrop, dIfS, dPar, dPar3, dgName, dgTup, dgCons, dgNil, dBin, dVar, dC, dCB, dCons, dNil, dB, dIf, dNeg, dTup, dLst, dCall, dFor, dIter, dRng1, dLc, dAppend, dNext, dAnd, dOr, dNot, dAndV, dNotV, dgSub, dSl, dPart, dNoPart, wipeD, dZip, dNewT, dNewK, sd1, sd2, sd3, sd4, List.getElem?_cons_succ, List.getElem?_cons_zero, Option.some.injEq, exists_eq_left', List.set_cons_succ, List.set_cons_zero, List.replicate_succ, List.replicate_zero, Nat.reduceAdd, Nat.reduceSub, xi_add, xt_add, xi_sub, xi_mod, xi_div, xi_cmp, xi_mul, xi_lt, xi_le, xsl_fz, xsl_tup, xsl_ref, xadd_ref, xmul_tup, xpow, xisnot_non, xis_non, xtup_ref, xtup_tup, xlen_tup, xlen_ref, xint_int, xabs_int, ix_t0, ix_t1, D.bl.injEq, D.int.injEq, D.tup.injEq, D.ref.injEq, List.length_cons, List.length_nil, List.cons.injEq, and_true, true_and, and_assoc, exists_and_left, x_tt, x_ft, reduceIte, Bool.false_eq_true, Bool.not_true, Bool.not_false, xwalk_tup, xwalk_ref]
  refine ⟨by omega, by omega, fun p1 h1 => ?_⟩
  refine lc_mok (ok := fun t : Tm => TmDrawn k t ∧ t.steps.length ≤ 3) (enc := tmD) (n := n + 1) (c := 10000) h1 M1 (fun _ _ => trivial) (szl (by rw [intsD_length]; omega)) (fun j d S2 K1 e hj x2 M2 h2 => ?_) fun ts S2 rl ro x2 M2 rs => ?_
  · rw [intsD_length] at hj
    simp only [dSeq, dAsg, dRet, dDrop, dIfS, dPar, dPar3, dgName, dgTup, dgCons, dgNil, dBin, dVar, dC, dCB, dCons, dNil, dB, dIf, dNeg, dTup, dLst, dCall, dFor, dIter, dRng1, dLc, dAppend, dNext, dAnd, dOr, dNot, dAndV, dNotV, dgSub, dSl, dPart, dNoPart, wipeD, dZip, dNewT, dNewK, sd1, sd2, sd3, sd4, List.getElem?_cons_succ, List.getElem?_cons_zero, Option.some.injEq, exists_eq_left', List.set_cons_succ, List.set_cons_zero, List.replicate_succ, List.replicate_zero, Nat.reduceAdd, Nat.reduceSub, xi_add, xt_add, xi_sub, xi_mod, xi_div, xi_cmp, xi_mul, xi_lt, xi_le, xsl_fz, xsl_tup, xsl_ref, xadd_ref, xmul_tup, xpow, xisnot_non, xis_non, xtup_ref, xtup_tup, xlen_tup, xlen_ref, xint_int, xabs_int, ix_t0, ix_t1, D.bl.injEq, D.int.injEq, D.tup.injEq, D.ref.injEq, List.length_cons, List.length_nil, List.cons.injEq, and_true, true_and, and_assoc, exists_and_left, x_tt, x_ft, reduceIte, Bool.false_eq_true, Bool.not_true, Bool.not_false, xwalk_tup, xwalk_ref]
    exact ⟨m, k, _, rfl, by omega, M2, by unfold dmax; omega, fun t S3 ht hs x3 M3 => h2 t S3 ⟨ht, hs⟩ x3 M3⟩
  rw [intsD_length] at rl M2
  try simp only [dSeq, dAsg, dRet, dDrop, dIfS, dPar, dPar3, dgName, dgTup, dgCons, dgNil, dBin, dVar, dC, dCB, dCons, dNil, dB, dIf, dNeg, dTup, dLst, dCall, dFor, dIter, dRng1, dLc, dAppend, dNext, dAnd, dOr, dNot, dAndV, dNotV, dgSub, dSl, dPart, dNoPart, wipeD, dZip, dNewT, dNewK, sd1, sd2, sd3, sd4, List.getElem?_cons_succ, List.getElem?_cons_zero, Option.some.injEq, exists_eq_left', List.set_cons_succ, List.set_cons_zero, List.replicate_succ, List.replicate_zero, Nat.reduceAdd, Nat.reduceSub, xi_add, xt_add, xi_sub, xi_mod, xi_div, xi_cmp, xi_mul, xi_lt, xi_le, xsl_fz, xsl_tup, xsl_ref, xadd_ref, xmul_tup, xpow, xisnot_non, xis_non, xtup_ref, xtup_tup, xlen_tup, xlen_ref, xint_int, xabs_int, ix_t0, ix_t1, D.bl.injEq, D.int.injEq, D.tup.injEq, D.ref.injEq, List.length_cons, List.length_nil, List.cons.injEq, and_true, true_and, and_assoc, exists_and_left, x_tt, x_ft, reduceIte, Bool.false_eq_true, Bool.not_true, Bool.not_false, xwalk_tup, xwalk_ref]
  exact ⟨_, rs, q ts S2 ro (by omega) (x1.trans x2) (M2.mono (by omega))⟩
end LW

namespace LW
open PySem PySem.Spec PyProof.Rows L2 DL
theorem inl_inj : ∀ {a b : List Int}, (a.map Sum.inl : List Key) = b.map Sum.inl ↔ a = b
  | [], [] => by simp
  | [], _ :: _ => by simp
  | _ :: _, [] => by simp
  | x :: a, y :: b => by simp [inl_inj (a := a) (b := b)]
abbrev Qs := List (List Int × Fr)
def encQ (qs : Qs) : List (List Key × D) := qs.map fun q => (q.1.map Sum.inl, frD q.2)
def putQ (qs : Qs) (k : List Int) (v : Fr) : Qs := if qs.any (fun q => decide (q.1 = k)) then qs.map (fun q => if q.1 = k then (q.1, v) else q) else qs ++ [(k, v)]
theorem putD_enc (qs : Qs) (k : List Int) (v : Fr) : putD (encQ qs) (k.map Sum.inl) (frD v) = encQ (putQ qs k v) := by
  have h1 : ((encQ qs).any fun kv => decide (kv.1 = k.map Sum.inl)) = qs.any fun q => decide (q.1 = k) := by
    unfold encQ
    rw [List.any_map]
    congr 1
    funext q
    show decide (q.1.map Sum.inl = k.map Sum.inl) = _
    simp only [inl_inj]
  unfold putD putQ
  rw [h1]
  split
  · unfold encQ
    rw [List.map_map, List.map_map]
    apply List.map_congr_left
    intro q _
    show (if q.1.map Sum.inl = k.map Sum.inl then (q.1.map Sum.inl, frD v) else (q.1.map Sum.inl, frD q.2)) = _
    simp only [inl_inj, Function.comp]
    by_cases e : q.1 = k
    · simp only [if_pos e]
    · simp only [if_neg e]
  · unfold encQ
    rw [List.map_append]
    rfl
structure EOk (many : Nat) (q : List Int × Fr) : Prop where
  len : q.1.length = many
  nn : ∀ e ∈ q.1, 0 ≤ e
  sum : q.1.sum ≤ 3
  fr : FrOk q.2
  num : q.2.1.natAbs ≤ 9
  den : q.2.2.natAbs ≤ 6
theorem putQ_ok {many : Nat} {qs : Qs} {k : List Int} {v : Fr} (h : ∀ q ∈ qs, EOk many q) (hk : EOk many (k, v)) : ∀ q ∈ putQ qs k v, EOk many q := by
  intro q hq
  unfold putQ at hq
  split at hq
  · obtain ⟨r, hr, e⟩ := List.mem_map.mp hq
    have R := h r hr
    by_cases c : r.1 = k
    · rw [if_pos c] at e
      subst e
      rw [c]
      exact hk
    · rw [if_neg c] at e
      subst e
      exact R
  · rcases List.mem_append.mp hq with h1 | h1
    · exact h q h1
    · simp at h1; subst h1; exact hk
theorem putQ_len (qs : Qs) (k : List Int) (v : Fr) : (putQ qs k v).length ≤ qs.length + 1 := by
  unfold putQ
  split
  · simp
  · simp
theorem putQ_nodup {qs : Qs} {k : List Int} {v : Fr} (h : (qs.map (·.1)).Nodup) : ((putQ qs k v).map (·.1)).Nodup := by
  unfold putQ
  split
  · rw [List.map_map]
    have e : (qs.map ((fun q : List Int × Fr => q.1) ∘ fun q => if q.1 = k then (q.1, v) else q)) = qs.map (·.1) := by
      apply List.map_congr_left
      intro q _
      simp only [Function.comp]
      by_cases c : q.1 = k
      · rw [if_pos c]
      · rw [if_neg c]
    rw [e]
    exact h
  · rename_i hn
    rw [List.map_append]
    refine List.nodup_append.mpr ⟨h, by simp, ?_⟩
    intro a ha b hb e
    simp at hb
    subst hb e
    obtain ⟨q, hq, e⟩ := List.mem_map.mp ha
    exact hn (List.any_eq_true.mpr ⟨q, hq, by simp [e]⟩)
def valQ (qs : Qs) (k : List Int) : Fr := ((qs.find? fun q => decide (q.1 = k)).map (·.2)).getD (0, 1)
theorem valQ_ok {many : Nat} {qs : Qs} {k : List Int} (h : ∀ q ∈ qs, EOk many q) (hk : k ∈ qs.map (·.1)) : valD (encQ qs) (k.map Sum.inl) = some (frD (valQ qs k)) ∧ EOk many (k, valQ qs k) := by
  obtain ⟨q0, hq0, e0⟩ := List.mem_map.mp hk
  have : (qs.find? fun q => decide (q.1 = k)).isSome = true := List.find?_isSome.mpr ⟨q0, hq0, by simp [e0]⟩
  obtain ⟨q, hq⟩ := Option.isSome_iff_exists.mp this
  have e1 := List.find?_some hq
  have e2 : q.1 = k := by simpa using e1
  have e3 := h q (List.mem_of_find?_eq_some hq)
  have ev : valQ qs k = q.2 := by unfold valQ; rw [hq]; rfl
  constructor
  · unfold valD encQ
    rw [List.find?_map]
    have ec : ((fun kv : List Key × D => decide (kv.1 = k.map Sum.inl)) ∘ fun q : List Int × Fr => (q.1.map Sum.inl, frD q.2)) = fun q => decide (q.1 = k) := by
      funext q
      show decide (q.1.map Sum.inl = k.map Sum.inl) = _
      simp only [inl_inj]
    rw [ec, hq, ev]
    rfl
  · rw [ev, ← e2]
    exact e3
theorem lowF_ok {a c : Int} (ha : a ≠ 0) (hc : 0 < c) : FrOk (lowF a c) := by
  have g0 := gcdI_pos' (a := a) hc
  obtain ⟨a', ea⟩ := gcdI_dvd_l a c
  obtain ⟨c', ec⟩ := gcdI_dvd_r a c
  have hg : gcdI a c = (Nat.gcd a.natAbs c.natAbs : Nat) := rfl
  have h1 : a / gcdI a c = a' := by
    conv => lhs; arg 1; rw [ea]
    exact Int.mul_ediv_cancel_left _ (by omega)
  have h2 : c / gcdI a c = c' := by
    conv => lhs; arg 1; rw [ec]
    exact Int.mul_ediv_cancel_left _ (by omega)
  have el : lowF a c = (a', c') := by unfold lowF; rw [h1, h2]
  rw [el]
  clear el h1 h2
  generalize gcdI a c = g at *
  refine ⟨?_, ?_, ?_⟩
  · show 0 < c'
    rw [ec] at hc
    exact Int.pos_of_mul_pos_right hc (by omega)
  · show a' ≠ 0
    intro z
    subst z
    rw [Int.mul_zero] at ea
    exact ha ea
  · show Nat.gcd a'.natAbs c'.natAbs = 1
    have z : g.natAbs = Nat.gcd a.natAbs c.natAbs := by omega
    rw [ea, ec, Int.natAbs_mul, Int.natAbs_mul, Nat.gcd_mul_left] at z
    exact Nat.eq_of_mul_eq_mul_left (show 0 < g.natAbs by omega) (by rw [Nat.mul_one]; exact z.symm)
theorem tupLe_eq (a b : List Int) : tupLe a b = decide (a ≤ b) := by
  have e : tupLe a b = !decide (b < a) := by
    show (!PySem.W.dataLt (.tuple (b.map .int)) (.tuple (a.map .int))) = _
    rw [PySem.W.dataLt_tuple]
    show (!PySem.W.rowLt (b.map .int) (a.map .int)) = _
    rw [PySem.W.dataLt_ints]
  rw [e]
  by_cases h : b < a
  · have h' : ¬ a ≤ b := fun r => List.not_lt.mpr r h
    simp [h, h']
  · have h' : a ≤ b := List.not_lt.mp h
    simp [h, h']
theorem lexLeI_le : ∀ {a b : List Int}, lexLeI a b = true → a ≤ b
  | [], _, _ => List.nil_le _
  | _ :: _, [], h => by simp [lexLeI] at h
  | x :: a, y :: b, h => by
    unfold lexLeI at h
    by_cases e : x = y
    · rw [if_pos e] at h
      subst e
      exact List.cons_le_cons_iff.mpr (.inr ⟨rfl, lexLeI_le h⟩)
    · rw [if_neg e] at h
      have := of_decide_eq_true h
      exact List.cons_le_cons_iff.mpr (.inl (by omega))
theorem sorted_asc {ns : List (List Int)} (h : ns.Nodup) : (ns.mergeSort tupLe).Pairwise fun q r => lexLeI r q = false := by
  have s : (ns.mergeSort tupLe).Pairwise fun q r => tupLe q r = true := List.pairwise_mergeSort (fun a b c h1 h2 => by
    rw [tupLe_eq, decide_eq_true_eq] at *
    exact List.le_trans h1 h2) (fun a b => by
    rw [tupLe_eq, tupLe_eq, Bool.or_eq_true, decide_eq_true_eq, decide_eq_true_eq]
    exact List.le_total a b) ns
  have n : (ns.mergeSort tupLe).Nodup := (List.mergeSort_perm ns tupLe).nodup_iff.mpr h
  refine List.Pairwise.imp₂ (fun q r h1 h2 => ?_) s n
  cases c : lexLeI r q with
  | false => rfl
  | true =>
    rw [tupLe_eq, decide_eq_true_eq] at h1
    exact absurd (List.le_antisymm h1 (lexLeI_le c)) h2
end LW

namespace LW
open PySem PySem.Spec PyProof.Rows L2 DL
theorem keysD_ints : ∀ es : List Int, keysD (es.map D.int) = some (es.map Sum.inl)
  | [] => rfl
  | e :: es => by
    rw [List.map_cons, keysD, keysD_ints es]
    rfl
theorem keyT_fm (es : List Int) : keyT (.tup (es.map D.int)) = some (es.map Sum.inl) := keysD_ints es
theorem ExtB.fresh {m p : Addr} {S S' : Stt} (x : ExtB m S S') (pm : p ≠ m) (h : S' p = none) : S p = none := by
  cases q : S p with
  | none => rfl
  | some o => rw [x.old p o pm q] at h; cases h
theorem len_Lpoly : ∀ ds S Q, sp_Lpoly ds S Q → ds.length = p_Lpoly.length := fun ds S Q ⟨_, _, _, e, _⟩ => by subst e; rfl
theorem run_Lpoly {ds : List D} {S : Stt} {Q : DK} (h : sp_Lpoly ds S Q) : t_Lpoly { nx := fun _ S2 => Q .non S2, rt := Q } (startD n_Lpoly ds) S := by
  obtain ⟨m, many, n, rfl, hk, M, hn, q⟩ := h
  unfold dmax at hn
  unfold t_Lpoly
  simp only [dSeq, dAsg, dRet, dDrop, dIfS, dPar, dPar3, dgName, dgTup, dgCons, dgNil, dBin, dVar, dC, dCB, dCons, dNil, dB, dIf, dNeg, dTup, dLst, dCall, dFor, dIter, dRng1, dLc, dAppend, dNext, dAnd, dOr, dNot, dAndV, dNotV, dgSub, dSl, dPart, dNoPart, wipeD, dZip, dNewT, dNewK, sd1, sd2, sd3, sd4, List.getElem?_cons_succ, List.getElem?_cons_zero, Option.some.injEq, exists_eq_left', List.set_cons_succ, List.set_cons_zero, List.replicate_succ, List.replicate_zero, Nat.reduceAdd, Nat.reduceSub, xi_add, xt_add, xi_sub, xi_mod, xi_div, xi_cmp, xi_mul, xi_lt, xi_le, xsl_fz, xsl_tup, xsl_ref, xadd_ref, xmul_tup, xpow, xisnot_non, xis_non, xtup_ref, xtup_tup, xlen_tup, xlen_ref, xint_int, xabs_int, ix_t0, ix_t1, D.bl.injEq, D.int.injEq, D.tup.injEq, D.ref.injEq, List.length_cons, List.length_nil, List.cons.injEq, and_true, true_and, and_assoc, exists_and_left, x_tt, x_ft, reduceIte, Bool.false_eq_true, Bool.not_true, Bool.not_false, xwalk_tup, xwalk_ref]
  intro pl hpl
  have plm := mok_ne M hpl
  have M0 := M.ext (Ext.new (o := .dT []) hpl)
  refine ⟨m, 4, n, rfl, by omega, lt8000 (by decide), M0, by unfold dmax; omega, fun r S1 r0 r1 x1 M1 => ?_⟩
  have x01 : ExtB m S S1 := (Ext.new hpl).but.trans x1
  have e1 : S1 pl = some (.dT []) := x1.old _ _ plm ups_same
  try simp only [dSeq, dAsg, dRet, dDrop, dIfS, dPar, dPar3, dgName, dgTup, dgCons, dgNil, dBin, dVar, dC, dCB, dCons, dNil, dB, dIf, dNeg, dTup, dLst, dCall, dFor, dIter, dRng1, dLc, dAppend, dNext, dAnd, dOr, dNot, dAndV, dNotV, dgSub, dSl, dPart, dNoPart, wipeD, dZip, dNewT, dNewK, sd1, sd2, sd3, sd4, List.getElem?_cons_succ, List.getElem?_cons_zero, Option.some.injEq, exists_eq_left', List.set_cons_succ, List.set_cons_zero, List.replicate_succ, List.replicate_zero, Nat.reduceAdd, Nat.reduceSub, xi_add, xt_add, xi_sub, xi_mod, xi_div, xi_cmp, xi_mul, xi_lt, xi_le, xsl_fz, xsl_tup, xsl_ref, xadd_ref, xmul_tup, xpow, xisnot_non, xis_non, xtup_ref, xtup_tup, xlen_tup, xlen_ref, xint_int, xabs_int, ix_t0, ix_t1, D.bl.injEq, D.int.injEq, D.tup.injEq, D.ref.injEq, List.length_cons, List.length_nil, List.cons.injEq, and_true, true_and, and_assoc, exists_and_left, x_tt, x_ft, reduceIte, Bool.false_eq_true, Bool.not_true, Bool.not_false, xwalk_tup, xwalk_ref]
  refine ⟨by omega, by omega, ?_⟩
  refine for_rng (fun i σ S' => ExtB m S S' ∧ MOk S' m (n + 1 + 40 * i) ∧ ∃ (qs : Qs) (o4 o5 o6 o7 o8 o9 o10 : Option D), σ = [some (.ref m), some (.int many), some (.int 3), some (.ref pl), o4, o5, o6, o7, o8, o9, o10] ∧ S' pl = some (.dT (encQ qs)) ∧ qs.length ≤ i ∧ (∀ q ∈ qs, EOk many q) ∧ (qs.map (·.1)).Nodup) ⟨x01, M1, [], _, _, _, _, _, _, _, rfl, e1, by simp, fun _ h => (nomatch h), List.nodup_nil⟩ (fun _ => trivial) (fun i σ S' N hi ⟨x, M', qs, o4, o5, o6, o7, o8, o9, o10, eσ, hl, ll, lo, ln⟩ hN => ?_) fun σ S' ⟨x, M', qs, o4, o5, o6, o7, o8, o9, o10, eσ, hl, ll, lo, ln⟩ => ?_
  · subst eσ
    try simp only [dSeq, dAsg, dRet, dDrop, dIfS, dPar, dPar3, dgName, dgTup, dgCons, dgNil, dBin, dVar, dC, dCB, dCons, dNil, dB, dIf, dNeg, dTup, dLst, dCall, dFor, dIter, dRng1, dLc, dAppend, dNext, dAnd, dOr, dNot, dAndV, dNotV, dgSub, dSl, dPart, dNoPart, wipeD, dZip, dNewT, dNewK, sd1, sd2, sd3, sd4, List.getElem?_cons_succ, List.getElem?_cons_zero, Option.some.injEq, exists_eq_left', List.set_cons_succ, List.set_cons_zero, List.replicate_succ, List.replicate_zero, Nat.reduceAdd, Nat.reduceSub, xi_add, xt_add, xi_sub, xi_mod, xi_div, xi_cmp, xi_mul, xi_lt, xi_le, xsl_fz, xsl_tup, xsl_ref, xadd_ref, xmul_tup, xpow, xisnot_non, xis_non, xtup_ref, xtup_tup, xlen_tup, xlen_ref, xint_int, xabs_int, ix_t0, ix_t1, D.bl.injEq, D.int.injEq, D.tup.injEq, D.ref.injEq, List.length_cons, List.length_nil, List.cons.injEq, and_true, true_and, and_assoc, exists_and_left, x_tt, x_ft, reduceIte, Bool.false_eq_true, Bool.not_true, Bool.not_false, xwalk_tup, xwalk_ref]
    refine ⟨szl (by omega), fun pe hpe => ?_⟩
    have pem := mok_ne M' hpe
    have Me := M'.ext (Ext.new (o := .lst []) hpe)
    try simp only [dSeq, dAsg, dRet, dDrop, dIfS, dPar, dPar3, dgName, dgTup, dgCons, dgNil, dBin, dVar, dC, dCB, dCons, dNil, dB, dIf, dNeg, dTup, dLst, dCall, dFor, dIter, dRng1, dLc, dAppend, dNext, dAnd, dOr, dNot, dAndV, dNotV, dgSub, dSl, dPart, dNoPart, wipeD, dZip, dNewT, dNewK, sd1, sd2, sd3, sd4, List.getElem?_cons_succ, List.getElem?_cons_zero, Option.some.injEq, exists_eq_left', List.set_cons_succ, List.set_cons_zero, List.replicate_succ, List.replicate_zero, Nat.reduceAdd, Nat.reduceSub, xi_add, xt_add, xi_sub, xi_mod, xi_div, xi_cmp, xi_mul, xi_lt, xi_le, xsl_fz, xsl_tup, xsl_ref, xadd_ref, xmul_tup, xpow, xisnot_non, xis_non, xtup_ref, xtup_tup, xlen_tup, xlen_ref, xint_int, xabs_int, ix_t0, ix_t1, D.bl.injEq, D.int.injEq, D.tup.injEq, D.ref.injEq, List.length_cons, List.length_nil, List.cons.injEq, and_true, true_and, and_assoc, exists_and_left, x_tt, x_ft, reduceIte, Bool.false_eq_true, Bool.not_true, Bool.not_false, xwalk_tup, xwalk_ref]
    refine ⟨by omega, by omega, ?_⟩
    rw [Int.toNat_natCast]
    refine for_rng (fun j σ S2 => ExtB m S' S2 ∧ MOk S2 m (n + 1 + 40 * i + j) ∧ ∃ (es : List Int) (left : Int) (o7 o8 o9 o10 : Option D), σ = [some (.ref m), some (.int many), some (.int 3), some (.ref pl), some (.int (i : Nat)), some (.ref pe), some (.int left), o7, o8, o9, o10] ∧ S2 pe = some (.lst (es.map D.int)) ∧ es.length = j ∧ (∀ e ∈ es, 0 ≤ e) ∧ 0 ≤ left ∧ es.sum + left = 3) ⟨(ExtB.refl m S').put hpe, Me, [], 3, _, _, _, _, rfl, ups_same, rfl, fun _ h => (nomatch h), by omega, by simp⟩ (fun _ => trivial) (fun j σ S2 N2 hj ⟨x2, M2, es, left, o7, o8, o9, o10, eσ, hes, le, en, l0, lsum⟩ hN2 => ?_) fun σ S2 ⟨x2, M2, es, left, o7, o8, o9, o10, eσ, hes, le, en, l0, lsum⟩ => ?_
    · subst eσ
      try simp only [dSeq, dAsg, dRet, dDrop, dIfS, dPar, dPar3, dgName, dgTup, dgCons, dgNil, dBin, dVar, dC, dCB, dCons, dNil, dB, dIf, dNeg, dTup, dLst, dCall, dFor, dIter, dRng1, dLc, dAppend, dNext, dAnd, dOr, dNot, dAndV, dNotV, dgSub, dSl, dPart, dNoPart, wipeD, dZip, dNewT, dNewK, sd1, sd2, sd3, sd4, List.getElem?_cons_succ, List.getElem?_cons_zero, Option.some.injEq, exists_eq_left', List.set_cons_succ, List.set_cons_zero, List.replicate_succ, List.replicate_zero, Nat.reduceAdd, Nat.reduceSub, xi_add, xt_add, xi_sub, xi_mod, xi_div, xi_cmp, xi_mul, xi_lt, xi_le, xsl_fz, xsl_tup, xsl_ref, xadd_ref, xmul_tup, xpow, xisnot_non, xis_non, xtup_ref, xtup_tup, xlen_tup, xlen_ref, xint_int, xabs_int, ix_t0, ix_t1, D.bl.injEq, D.int.injEq, D.tup.injEq, D.ref.injEq, List.length_cons, List.length_nil, List.cons.injEq, and_true, true_and, and_assoc, exists_and_left, x_tt, x_ft, reduceIte, Bool.false_eq_true, Bool.not_true, Bool.not_false, xwalk_tup, xwalk_ref]
      have lb : left ≤ 3 := by
        have := sumN_sum en
        omega
      refine ⟨m, left + 1, _, rfl, by omega, lt8000 (Nat.lt_of_le_of_lt (show (left + 1).natAbs ≤ 4 by omega) (by decide)), M2, by unfold dmax; omega, fun e S3 e0 e1 x3 M3 => ?_⟩
      have hes3 := x3.old _ _ pem hes
      try simp only [dSeq, dAsg, dRet, dDrop, dIfS, dPar, dPar3, dgName, dgTup, dgCons, dgNil, dBin, dVar, dC, dCB, dCons, dNil, dB, dIf, dNeg, dTup, dLst, dCall, dFor, dIter, dRng1, dLc, dAppend, dNext, dAnd, dOr, dNot, dAndV, dNotV, dgSub, dSl, dPart, dNoPart, wipeD, dZip, dNewT, dNewK, sd1, sd2, sd3, sd4, List.getElem?_cons_succ, List.getElem?_cons_zero, Option.some.injEq, exists_eq_left', List.set_cons_succ, List.set_cons_zero, List.replicate_succ, List.replicate_zero, Nat.reduceAdd, Nat.reduceSub, xi_add, xt_add, xi_sub, xi_mod, xi_div, xi_cmp, xi_mul, xi_lt, xi_le, xsl_fz, xsl_tup, xsl_ref, xadd_ref, xmul_tup, xpow, xisnot_non, xis_non, xtup_ref, xtup_tup, xlen_tup, xlen_ref, xint_int, xabs_int, ix_t0, ix_t1, D.bl.injEq, D.int.injEq, D.tup.injEq, D.ref.injEq, List.length_cons, List.length_nil, List.cons.injEq, and_true, true_and, and_assoc, exists_and_left, x_tt, x_ft, reduceIte, Bool.false_eq_true, Bool.not_true, Bool.not_false, xwalk_tup, xwalk_ref]
      refine ⟨⟨_, hes3⟩, _, hes3, szlt (by rw [List.length_map]; omega), ?_⟩
      have x23 := x2.trans x3
      refine hN2 _ _ ⟨x23.put hpe, M'.late hpe x23 M3, es ++ [e], left - e, _, _, _, _, rfl, by rw [ups_same, List.map_append]; rfl, by simp [le], fun y hy => ?_, by omega, by rw [List.sum_append, List.sum_cons, List.sum_nil]; omega⟩
      rcases List.mem_append.mp hy with h | h
      · exact en y h
      · simp at h; subst h; exact e0
    · subst eσ
      try simp only [dSeq, dAsg, dRet, dDrop, dIfS, dPar, dPar3, dgName, dgTup, dgCons, dgNil, dBin, dVar, dC, dCB, dCons, dNil, dB, dIf, dNeg, dTup, dLst, dCall, dFor, dIter, dRng1, dLc, dAppend, dNext, dAnd, dOr, dNot, dAndV, dNotV, dgSub, dSl, dPart, dNoPart, wipeD, dZip, dNewT, dNewK, sd1, sd2, sd3, sd4, List.getElem?_cons_succ, List.getElem?_cons_zero, Option.some.injEq, exists_eq_left', List.set_cons_succ, List.set_cons_zero, List.replicate_succ, List.replicate_zero, Nat.reduceAdd, Nat.reduceSub, xi_add, xt_add, xi_sub, xi_mod, xi_div, xi_cmp, xi_mul, xi_lt, xi_le, xsl_fz, xsl_tup, xsl_ref, xadd_ref, xmul_tup, xpow, xisnot_non, xis_non, xtup_ref, xtup_tup, xlen_tup, xlen_ref, xint_int, xabs_int, ix_t0, ix_t1, D.bl.injEq, D.int.injEq, D.tup.injEq, D.ref.injEq, List.length_cons, List.length_nil, List.cons.injEq, and_true, true_and, and_assoc, exists_and_left, x_tt, x_ft, reduceIte, Bool.false_eq_true, Bool.not_true, Bool.not_false, xwalk_tup, xwalk_ref]
      refine ⟨m, 9, _, rfl, by omega, lt8000 (by decide), M2, by unfold dmax; omega, fun a S3 a0 a1 x3 M3 => ?_⟩
      try simp only [dSeq, dAsg, dRet, dDrop, dIfS, dPar, dPar3, dgName, dgTup, dgCons, dgNil, dBin, dVar, dC, dCB, dCons, dNil, dB, dIf, dNeg, dTup, dLst, dCall, dFor, dIter, dRng1, dLc, dAppend, dNext, dAnd, dOr, dNot, dAndV, dNotV, dgSub, dSl, dPart, dNoPart, wipeD, dZip, dNewT, dNewK, sd1, sd2, sd3, sd4, List.getElem?_cons_succ, List.getElem?_cons_zero, Option.some.injEq, exists_eq_left', List.set_cons_succ, List.set_cons_zero, List.replicate_succ, List.replicate_zero, Nat.reduceAdd, Nat.reduceSub, xi_add, xt_add, xi_sub, xi_mod, xi_div, xi_cmp, xi_mul, xi_lt, xi_le, xsl_fz, xsl_tup, xsl_ref, xadd_ref, xmul_tup, xpow, xisnot_non, xis_non, xtup_ref, xtup_tup, xlen_tup, xlen_ref, xint_int, xabs_int, ix_t0, ix_t1, D.bl.injEq, D.int.injEq, D.tup.injEq, D.ref.injEq, List.length_cons, List.length_nil, List.cons.injEq, and_true, true_and, and_assoc, exists_and_left, x_tt, x_ft, reduceIte, Bool.false_eq_true, Bool.not_true, Bool.not_false, xwalk_tup, xwalk_ref]
      refine ⟨m, 2, _, rfl, by omega, lt8000 (by decide), M3, by unfold dmax; omega, fun w S4 w0 w1 x4 M4 => ?_⟩
      refine eq_int ?_
      try simp only [dSeq, dAsg, dRet, dDrop, dIfS, dPar, dPar3, dgName, dgTup, dgCons, dgNil, dBin, dVar, dC, dCB, dCons, dNil, dB, dIf, dNeg, dTup, dLst, dCall, dFor, dIter, dRng1, dLc, dAppend, dNext, dAnd, dOr, dNot, dAndV, dNotV, dgSub, dSl, dPart, dNoPart, wipeD, dZip, dNewT, dNewK, sd1, sd2, sd3, sd4, List.getElem?_cons_succ, List.getElem?_cons_zero, Option.some.injEq, exists_eq_left', List.set_cons_succ, List.set_cons_zero, List.replicate_succ, List.replicate_zero, Nat.reduceAdd, Nat.reduceSub, xi_add, xt_add, xi_sub, xi_mod, xi_div, xi_cmp, xi_mul, xi_lt, xi_le, xsl_fz, xsl_tup, xsl_ref, xadd_ref, xmul_tup, xpow, xisnot_non, xis_non, xtup_ref, xtup_tup, xlen_tup, xlen_ref, xint_int, xabs_int, ix_t0, ix_t1, D.bl.injEq, D.int.injEq, D.tup.injEq, D.ref.injEq, List.length_cons, List.length_nil, List.cons.injEq, and_true, true_and, and_assoc, exists_and_left, x_tt, x_ft, reduceIte, Bool.false_eq_true, Bool.not_true, Bool.not_false, xwalk_tup, xwalk_ref]
      have fin : ∀ top : Int, top ≠ 0 → top.natAbs ≤ 9 → sp_Ldraw [.ref m, .int 6] S4 fun x S5 => DL.rAdd (.int 1) x S5 fun y S6 => sp_Llowest [.int top, y] S6 fun z S7 => ∃ l, S7 pe = some (.lst l) ∧ DL.rSet (.ref pl) (.tup l) z S7 fun S8 => N [some (.ref m), some (.int many), some (.int 3), some (.ref pl), some (.int (i : Nat)), some (.ref pe), some (.int left), o7, some (.int (1 + a)), o9, o10] S8 := by
        intro top t0 t9
        refine ⟨m, 6, _, rfl, by omega, lt8000 (by decide), M4, by unfold dmax; omega, fun c S5 c0 c1 x5 M5 => ?_⟩
        try simp only [dSeq, dAsg, dRet, dDrop, dIfS, dPar, dPar3, dgName, dgTup, dgCons, dgNil, dBin, dVar, dC, dCB, dCons, dNil, dB, dIf, dNeg, dTup, dLst, dCall, dFor, dIter, dRng1, dLc, dAppend, dNext, dAnd, dOr, dNot, dAndV, dNotV, dgSub, dSl, dPart, dNoPart, wipeD, dZip, dNewT, dNewK, sd1, sd2, sd3, sd4, List.getElem?_cons_succ, List.getElem?_cons_zero, Option.some.injEq, exists_eq_left', List.set_cons_succ, List.set_cons_zero, List.replicate_succ, List.replicate_zero, Nat.reduceAdd, Nat.reduceSub, xi_add, xt_add, xi_sub, xi_mod, xi_div, xi_cmp, xi_mul, xi_lt, xi_le, xsl_fz, xsl_tup, xsl_ref, xadd_ref, xmul_tup, xpow, xisnot_non, xis_non, xtup_ref, xtup_tup, xlen_tup, xlen_ref, xint_int, xabs_int, ix_t0, ix_t1, D.bl.injEq, D.int.injEq, D.tup.injEq, D.ref.injEq, List.length_cons, List.length_nil, List.cons.injEq, and_true, true_and, and_assoc, exists_and_left, x_tt, x_ft, reduceIte, Bool.false_eq_true, Bool.not_true, Bool.not_false, xwalk_tup, xwalk_ref]
        refine ⟨top, 1 + c, rfl, by omega, lt8000 (Nat.lt_of_le_of_lt (show (1 + c).natAbs ≤ 6 by omega) (by decide)), ?_⟩
        have x25 : ExtB m S2 S5 := (x3.trans x4).trans x5
        have hes5 := x25.old _ _ pem hes
        have hl5 : S5 pl = some (.dT (encQ qs)) := (x2.trans x25).old _ _ plm hl
        refine ⟨_, hes5, set_dT hl5 (keyT_fm es) (szlt (by unfold encQ; rw [List.length_map]; omega)) ?_⟩
        have xx : ExtB m S S5 := (x.trans x2).trans x25
        rw [putD_enc]
        have L := lowF_ok t0 (show 0 < 1 + c by omega)
        have eok : EOk many (es, lowF top (1 + c)) := ⟨le, en, by show es.sum ≤ 3; omega, L, Nat.le_trans (Int.natAbs_ediv_le_natAbs _ _) t9, Nat.le_trans (Int.natAbs_ediv_le_natAbs _ _) (show (1 + c).natAbs ≤ 6 by omega)⟩
        refine hN _ _ ⟨xx.put hpl, M.late hpl xx (M5.mono (by omega)), putQ qs es (lowF top (1 + c)), _, _, _, _, _, _, _, rfl, ups_same, Nat.le_trans (putQ_len _ _ _) (by omega), putQ_ok lo eok, putQ_nodup ln⟩
      cases w == 0 with
      | true =>
        try simp only [dSeq, dAsg, dRet, dDrop, dIfS, dPar, dPar3, dgName, dgTup, dgCons, dgNil, dBin, dVar, dC, dCB, dCons, dNil, dB, dIf, dNeg, dTup, dLst, dCall, dFor, dIter, dRng1, dLc, dAppend, dNext, dAnd, dOr, dNot, dAndV, dNotV, dgSub, dSl, dPart, dNoPart, wipeD, dZip, dNewT, dNewK, sd1, sd2, sd3, sd4, List.getElem?_cons_succ, List.getElem?_cons_zero, Option.some.injEq, exists_eq_left', List.set_cons_succ, List.set_cons_zero, List.replicate_succ, List.replicate_zero, Nat.reduceAdd, Nat.reduceSub, xi_add, xt_add, xi_sub, xi_mod, xi_div, xi_cmp, xi_mul, xi_lt, xi_le, xsl_fz, xsl_tup, xsl_ref, xadd_ref, xmul_tup, xpow, xisnot_non, xis_non, xtup_ref, xtup_tup, xlen_tup, xlen_ref, xint_int, xabs_int, ix_t0, ix_t1, D.bl.injEq, D.int.injEq, D.tup.injEq, D.ref.injEq, List.length_cons, List.length_nil, List.cons.injEq, and_true, true_and, and_assoc, exists_and_left, x_tt, x_ft, reduceIte, Bool.false_eq_true, Bool.not_true, Bool.not_false, xwalk_tup, xwalk_ref]
        exact fin (1 + a) (by omega) (by omega)
      | false =>
        try simp only [dSeq, dAsg, dRet, dDrop, dIfS, dPar, dPar3, dgName, dgTup, dgCons, dgNil, dBin, dVar, dC, dCB, dCons, dNil, dB, dIf, dNeg, dTup, dLst, dCall, dFor, dIter, dRng1, dLc, dAppend, dNext, dAnd, dOr, dNot, dAndV, dNotV, dgSub, dSl, dPart, dNoPart, wipeD, dZip, dNewT, dNewK, sd1, sd2, sd3, sd4, List.getElem?_cons_succ, List.getElem?_cons_zero, Option.some.injEq, exists_eq_left', List.set_cons_succ, List.set_cons_zero, List.replicate_succ, List.replicate_zero, Nat.reduceAdd, Nat.reduceSub, xi_add, xt_add, xi_sub, xi_mod, xi_div, xi_cmp, xi_mul, xi_lt, xi_le, xsl_fz, xsl_tup, xsl_ref, xadd_ref, xmul_tup, xpow, xisnot_non, xis_non, xtup_ref, xtup_tup, xlen_tup, xlen_ref, xint_int, xabs_int, ix_t0, ix_t1, D.bl.injEq, D.int.injEq, D.tup.injEq, D.ref.injEq, List.length_cons, List.length_nil, List.cons.injEq, and_true, true_and, and_assoc, exists_and_left, x_tt, x_ft, reduceIte, Bool.false_eq_true, Bool.not_true, Bool.not_false, xwalk_tup, xwalk_ref]
        exact fin (-(1 + a)) (by omega) (by omega)
  · subst eσ
    try simp only [dSeq, dAsg, dRet, dDrop, dIfS, dPar, dPar3, dgName, dgTup, dgCons, dgNil, dBin, dVar, dC, dCB, dCons, dNil, dB, dIf, dNeg, dTup, dLst, dCall, dFor, dIter, dRng1, dLc, dAppend, dNext, dAnd, dOr, dNot, dAndV, dNotV, dgSub, dSl, dPart, dNoPart, wipeD, dZip, dNewT, dNewK, sd1, sd2, sd3, sd4, List.getElem?_cons_succ, List.getElem?_cons_zero, Option.some.injEq, exists_eq_left', List.set_cons_succ, List.set_cons_zero, List.replicate_succ, List.replicate_zero, Nat.reduceAdd, Nat.reduceSub, xi_add, xt_add, xi_sub, xi_mod, xi_div, xi_cmp, xi_mul, xi_lt, xi_le, xsl_fz, xsl_tup, xsl_ref, xadd_ref, xmul_tup, xpow, xisnot_non, xis_non, xtup_ref, xtup_tup, xlen_tup, xlen_ref, xint_int, xabs_int, ix_t0, ix_t1, D.bl.injEq, D.int.injEq, D.tup.injEq, D.ref.injEq, List.length_cons, List.length_nil, List.cons.injEq, and_true, true_and, and_assoc, exists_and_left, x_tt, x_ft, reduceIte, Bool.false_eq_true, Bool.not_true, Bool.not_false, xwalk_tup, xwalk_ref]
    have lq : qs.length ≤ 3 := by omega
    refine ⟨pl, encQ qs, qs.map (·.1), rfl, hl, by unfold encQ; rw [List.map_map, List.map_map]; rfl, by rw [List.length_map]; omega, ?_, fun ps hps => ?_⟩
    · by_cases hm : many = 0
      · cases qs with
        | nil => exact .inl rfl
        | cons q1 qs =>
          have h1 : q1.1 = [] := List.length_eq_zero_iff.mp (by rw [(lo q1 List.mem_cons_self).len, hm])
          cases qs with
          | nil => exact .inr (.inl (by simp [h1]))
          | cons q2 qs =>
            have h2 : q2.1 = [] := List.length_eq_zero_iff.mp (by rw [(lo q2 (by simp)).len, hm])
            simp [h1, h2] at ln
      · refine .inr (.inr fun k hk e => ?_)
        obtain ⟨q1, hq, rfl⟩ := List.mem_map.mp hk
        have := (lo q1 hq).len
        rw [e] at this
        exact hm this.symm
    generalize hso : (qs.map (·.1)).mergeSort tupLe = so
    have sperm : so.Perm (qs.map (·.1)) := by rw [← hso]; exact List.mergeSort_perm _ _
    have sasc : so.Pairwise fun q r => lexLeI r q = false := by rw [← hso]; exact sorted_asc ln
    have slen : so.length ≤ 3 := by rw [sperm.length_eq, List.length_map]; exact lq
    refine ⟨_, ups_same, fun p2 h2 => ?_⟩
    refine lc_map (as := so) (enc := fmD) (f := fun k => moD (valQ qs k, k)) h2 (fun S3 x3 => x3 _ _ ups_same) (szl (by omega)) (fun k S3 K1 hk x3 q1 => ?_) fun S3 x3 e3 => ?_
    · have hv := valQ_ok lo (sperm.mem_iff.mp hk)
      have hl3 : S3 pl = some (.dT (encQ qs)) := x3 _ _ (ups_old hps hl)
      try simp only [dSeq, dAsg, dRet, dDrop, dIfS, dPar, dPar3, dgName, dgTup, dgCons, dgNil, dBin, dVar, dC, dCB, dCons, dNil, dB, dIf, dNeg, dTup, dLst, dCall, dFor, dIter, dRng1, dLc, dAppend, dNext, dAnd, dOr, dNot, dAndV, dNotV, dgSub, dSl, dPart, dNoPart, wipeD, dZip, dNewT, dNewK, sd1, sd2, sd3, sd4, List.getElem?_cons_succ, List.getElem?_cons_zero, Option.some.injEq, exists_eq_left', List.set_cons_succ, List.set_cons_zero, List.replicate_succ, List.replicate_zero, Nat.reduceAdd, Nat.reduceSub, xi_add, xt_add, xi_sub, xi_mod, xi_div, xi_cmp, xi_mul, xi_lt, xi_le, xsl_fz, xsl_tup, xsl_ref, xadd_ref, xmul_tup, xpow, xisnot_non, xis_non, xtup_ref, xtup_tup, xlen_tup, xlen_ref, xint_int, xabs_int, ix_t0, ix_t1, D.bl.injEq, D.int.injEq, D.tup.injEq, D.ref.injEq, List.length_cons, List.length_nil, List.cons.injEq, and_true, true_and, and_assoc, exists_and_left, x_tt, x_ft, reduceIte, Bool.false_eq_true, Bool.not_true, Bool.not_false, xwalk_tup, xwalk_ref]
      refine ix_dT hl3 (keyT_fm k) hv.1 ?_
      exact ⟨szl (by omega), q1 S3 (Ext.refl _)⟩
    · try simp only [dSeq, dAsg, dRet, dDrop, dIfS, dPar, dPar3, dgName, dgTup, dgCons, dgNil, dBin, dVar, dC, dCB, dCons, dNil, dB, dIf, dNeg, dTup, dLst, dCall, dFor, dIter, dRng1, dLc, dAppend, dNext, dAnd, dOr, dNot, dAndV, dNotV, dgSub, dSl, dPart, dNoPart, wipeD, dZip, dNewT, dNewK, sd1, sd2, sd3, sd4, List.getElem?_cons_succ, List.getElem?_cons_zero, Option.some.injEq, exists_eq_left', List.set_cons_succ, List.set_cons_zero, List.replicate_succ, List.replicate_zero, Nat.reduceAdd, Nat.reduceSub, xi_add, xt_add, xi_sub, xi_mod, xi_div, xi_cmp, xi_mul, xi_lt, xi_le, xsl_fz, xsl_tup, xsl_ref, xadd_ref, xmul_tup, xpow, xisnot_non, xis_non, xtup_ref, xtup_tup, xlen_tup, xlen_ref, xint_int, xabs_int, ix_t0, ix_t1, D.bl.injEq, D.int.injEq, D.tup.injEq, D.ref.injEq, List.length_cons, List.length_nil, List.cons.injEq, and_true, true_and, and_assoc, exists_and_left, x_tt, x_ft, reduceIte, Bool.false_eq_true, Bool.not_true, Bool.not_false, xwalk_tup, xwalk_ref]
      refine ⟨_, e3, ?_⟩
      have xx : ExtB m S S3 := (x.trans (Ext.new hps).but).trans x3.but
      have z := q (so.map fun k => (valQ qs k, k)) S3 ⟨fun mo hmo => ?_, by rw [List.length_map]; exact slen, ?_⟩ xx ((M'.ext ((Ext.new hps).trans x3)).mono (by omega))
      · unfold poD at z
        rw [List.map_map] at z
        exact z
      · obtain ⟨k, hk, rfl⟩ := List.mem_map.mp hmo
        have hv := (valQ_ok lo (sperm.mem_iff.mp hk)).2
        exact ⟨hv.fr, hv.num, hv.den, hv.len, hv.nn, hv.sum⟩
      · rw [List.pairwise_map]
        exact sasc
end LW

namespace LW
open PySem PySem.Spec PyProof.Rows L2 DL
theorem zipD_map {α β : Type} {f : α → D} {g : β → D} : ∀ (a : List α) (b : List β), zipD (a.map f) (b.map g) = (a.zip b).map fun x => .tup [f x.1, g x.2]
  | [], _ => by simp [zipD]
  | _ :: _, [] => by simp [zipD]
  | x :: a, y :: b => by simp [zipD, zipD_map a b]
theorem flat_rep : ∀ n : Nat, (List.replicate n [D.int 0]).flatten = (List.replicate n (0 : Int)).map D.int
  | 0 => rfl
  | n + 1 => by rw [List.replicate_succ, List.flatten_cons, flat_rep n, List.replicate_succ]; rfl
theorem len_form_sum : ∀ ds S Q, sp_form_sum ds S Q → ds.length = p_form_sum.length := fun ds S Q ⟨_, _, e, _⟩ => by subst e; rfl
theorem run_form_sum {ds : List D} {S : Stt} {Q : DK} (h : sp_form_sum ds S Q) : t_form_sum { nx := fun _ S2 => Q .non S2, rt := Q } (startD n_form_sum ds) S := by
  obtain ⟨a, b, rfl, ha, hb, q⟩ := h
  unfold t_form_sum fmD
  simp only [dSeq, dAsg, dRet, dDrop, dIfS, dPar, dPar3, dgName, dgTup, dgCons, dgNil, dBin, dVar, dC, dCB, dCons, dNil, dB, dIf, dNeg, dTup, dLst, dCall, dFor, dIter, dRng1, dLc, dAppend, dNext, dAnd, dOr, dNot, dAndV, dNotV, dgSub, dSl, dPart, dNoPart, wipeD, dZip, dNewT, dNewK, sd1, sd2, sd3, sd4, List.getElem?_cons_succ, List.getElem?_cons_zero, Option.some.injEq, exists_eq_left', List.set_cons_succ, List.set_cons_zero, List.replicate_succ, List.replicate_zero, Nat.reduceAdd, Nat.reduceSub, xi_add, xt_add, xi_sub, xi_mod, xi_div, xi_cmp, xi_mul, xi_lt, xi_le, xsl_fz, xsl_tup, xsl_ref, xadd_ref, xmul_tup, xpow, xisnot_non, xis_non, xtup_ref, xtup_tup, xlen_tup, xlen_ref, xint_int, xabs_int, ix_t0, ix_t1, D.bl.injEq, D.int.injEq, D.tup.injEq, D.ref.injEq, List.length_cons, List.length_nil, List.cons.injEq, and_true, true_and, and_assoc, exists_and_left, x_tt, x_ft, reduceIte, Bool.false_eq_true, Bool.not_true, Bool.not_false, xwalk_tup, xwalk_ref]
  refine .inl fun p hp => ?_
  rw [zipD_map]
  refine lc_map (as := a.zip b) (enc := fun x : Int × Int => D.tup [.int x.1, .int x.2]) (f := fun x => .int (x.1 + x.2)) hp (fun _ _ => trivial) (szl (by rw [List.length_zip]; omega)) (fun k S3 K1 hk x3 q1 => ?_) fun S3 x3 e3 => ?_
  · simp only [dSeq, dAsg, dRet, dDrop, dIfS, dPar, dPar3, dgName, dgTup, dgCons, dgNil, dBin, dVar, dC, dCB, dCons, dNil, dB, dIf, dNeg, dTup, dLst, dCall, dFor, dIter, dRng1, dLc, dAppend, dNext, dAnd, dOr, dNot, dAndV, dNotV, dgSub, dSl, dPart, dNoPart, wipeD, dZip, dNewT, dNewK, sd1, sd2, sd3, sd4, List.getElem?_cons_succ, List.getElem?_cons_zero, Option.some.injEq, exists_eq_left', List.set_cons_succ, List.set_cons_zero, List.replicate_succ, List.replicate_zero, Nat.reduceAdd, Nat.reduceSub, xi_add, xt_add, xi_sub, xi_mod, xi_div, xi_cmp, xi_mul, xi_lt, xi_le, xsl_fz, xsl_tup, xsl_ref, xadd_ref, xmul_tup, xpow, xisnot_non, xis_non, xtup_ref, xtup_tup, xlen_tup, xlen_ref, xint_int, xabs_int, ix_t0, ix_t1, D.bl.injEq, D.int.injEq, D.tup.injEq, D.ref.injEq, List.length_cons, List.length_nil, List.cons.injEq, and_true, true_and, and_assoc, exists_and_left, x_tt, x_ft, reduceIte, Bool.false_eq_true, Bool.not_true, Bool.not_false, xwalk_tup, xwalk_ref]
    exact q1 _ (Ext.refl _)
  · try simp only [dSeq, dAsg, dRet, dDrop, dIfS, dPar, dPar3, dgName, dgTup, dgCons, dgNil, dBin, dVar, dC, dCB, dCons, dNil, dB, dIf, dNeg, dTup, dLst, dCall, dFor, dIter, dRng1, dLc, dAppend, dNext, dAnd, dOr, dNot, dAndV, dNotV, dgSub, dSl, dPart, dNoPart, wipeD, dZip, dNewT, dNewK, sd1, sd2, sd3, sd4, List.getElem?_cons_succ, List.getElem?_cons_zero, Option.some.injEq, exists_eq_left', List.set_cons_succ, List.set_cons_zero, List.replicate_succ, List.replicate_zero, Nat.reduceAdd, Nat.reduceSub, xi_add, xt_add, xi_sub, xi_mod, xi_div, xi_cmp, xi_mul, xi_lt, xi_le, xsl_fz, xsl_tup, xsl_ref, xadd_ref, xmul_tup, xpow, xisnot_non, xis_non, xtup_ref, xtup_tup, xlen_tup, xlen_ref, xint_int, xabs_int, ix_t0, ix_t1, D.bl.injEq, D.int.injEq, D.tup.injEq, D.ref.injEq, List.length_cons, List.length_nil, List.cons.injEq, and_true, true_and, and_assoc, exists_and_left, x_tt, x_ft, reduceIte, Bool.false_eq_true, Bool.not_true, Bool.not_false, xwalk_tup, xwalk_ref]
    refine ⟨_, e3, ?_⟩
    have z := q S3 x3
    unfold fmD sumFm at z
    rw [show List.zipWith (fun x1 x2 => x1 + x2) a b = (a.zip b).map fun x => x.1 + x.2 by rw [List.zip, List.map_zipWith], List.map_map] at z
    exact z
theorem len_form_times : ∀ ds S Q, sp_form_times ds S Q → ds.length = p_form_times.length := fun ds S Q ⟨_, _, e, _⟩ => by subst e; rfl
theorem run_form_times {ds : List D} {S : Stt} {Q : DK} (h : sp_form_times ds S Q) : t_form_times { nx := fun _ S2 => Q .non S2, rt := Q } (startD n_form_times ds) S := by
  obtain ⟨f, n, rfl, hf, hn, q⟩ := h
  unfold t_form_times fmD
  simp only [dSeq, dAsg, dRet, dDrop, dIfS, dPar, dPar3, dgName, dgTup, dgCons, dgNil, dBin, dVar, dC, dCB, dCons, dNil, dB, dIf, dNeg, dTup, dLst, dCall, dFor, dIter, dRng1, dLc, dAppend, dNext, dAnd, dOr, dNot, dAndV, dNotV, dgSub, dSl, dPart, dNoPart, wipeD, dZip, dNewT, dNewK, sd1, sd2, sd3, sd4, List.getElem?_cons_succ, List.getElem?_cons_zero, Option.some.injEq, exists_eq_left', List.set_cons_succ, List.set_cons_zero, List.replicate_succ, List.replicate_zero, Nat.reduceAdd, Nat.reduceSub, xi_add, xt_add, xi_sub, xi_mod, xi_div, xi_cmp, xi_mul, xi_lt, xi_le, xsl_fz, xsl_tup, xsl_ref, xadd_ref, xmul_tup, xpow, xisnot_non, xis_non, xtup_ref, xtup_tup, xlen_tup, xlen_ref, xint_int, xabs_int, ix_t0, ix_t1, D.bl.injEq, D.int.injEq, D.tup.injEq, D.ref.injEq, List.length_cons, List.length_nil, List.cons.injEq, and_true, true_and, and_assoc, exists_and_left, x_tt, x_ft, reduceIte, Bool.false_eq_true, Bool.not_true, Bool.not_false, xwalk_tup, xwalk_ref]
  intro p hp
  refine lc_map (enc := D.int) (f := fun x => .int (n * x)) hp (fun _ _ => trivial) (szl (by omega)) (fun k S3 K1 hk x3 q1 => ?_) fun S3 x3 e3 => ?_
  · simp only [dSeq, dAsg, dRet, dDrop, dIfS, dPar, dPar3, dgName, dgTup, dgCons, dgNil, dBin, dVar, dC, dCB, dCons, dNil, dB, dIf, dNeg, dTup, dLst, dCall, dFor, dIter, dRng1, dLc, dAppend, dNext, dAnd, dOr, dNot, dAndV, dNotV, dgSub, dSl, dPart, dNoPart, wipeD, dZip, dNewT, dNewK, sd1, sd2, sd3, sd4, List.getElem?_cons_succ, List.getElem?_cons_zero, Option.some.injEq, exists_eq_left', List.set_cons_succ, List.set_cons_zero, List.replicate_succ, List.replicate_zero, Nat.reduceAdd, Nat.reduceSub, xi_add, xt_add, xi_sub, xi_mod, xi_div, xi_cmp, xi_mul, xi_lt, xi_le, xsl_fz, xsl_tup, xsl_ref, xadd_ref, xmul_tup, xpow, xisnot_non, xis_non, xtup_ref, xtup_tup, xlen_tup, xlen_ref, xint_int, xabs_int, ix_t0, ix_t1, D.bl.injEq, D.int.injEq, D.tup.injEq, D.ref.injEq, List.length_cons, List.length_nil, List.cons.injEq, and_true, true_and, and_assoc, exists_and_left, x_tt, x_ft, reduceIte, Bool.false_eq_true, Bool.not_true, Bool.not_false, xwalk_tup, xwalk_ref]
    exact ⟨.l hn, q1 _ (Ext.refl _)⟩
  · try simp only [dSeq, dAsg, dRet, dDrop, dIfS, dPar, dPar3, dgName, dgTup, dgCons, dgNil, dBin, dVar, dC, dCB, dCons, dNil, dB, dIf, dNeg, dTup, dLst, dCall, dFor, dIter, dRng1, dLc, dAppend, dNext, dAnd, dOr, dNot, dAndV, dNotV, dgSub, dSl, dPart, dNoPart, wipeD, dZip, dNewT, dNewK, sd1, sd2, sd3, sd4, List.getElem?_cons_succ, List.getElem?_cons_zero, Option.some.injEq, exists_eq_left', List.set_cons_succ, List.set_cons_zero, List.replicate_succ, List.replicate_zero, Nat.reduceAdd, Nat.reduceSub, xi_add, xt_add, xi_sub, xi_mod, xi_div, xi_cmp, xi_mul, xi_lt, xi_le, xsl_fz, xsl_tup, xsl_ref, xadd_ref, xmul_tup, xpow, xisnot_non, xis_non, xtup_ref, xtup_tup, xlen_tup, xlen_ref, xint_int, xabs_int, ix_t0, ix_t1, D.bl.injEq, D.int.injEq, D.tup.injEq, D.ref.injEq, List.length_cons, List.length_nil, List.cons.injEq, and_true, true_and, and_assoc, exists_and_left, x_tt, x_ft, reduceIte, Bool.false_eq_true, Bool.not_true, Bool.not_false, xwalk_tup, xwalk_ref]
    refine ⟨_, e3, ?_⟩
    have z := q S3 x3
    unfold fmD timesFm at z
    rw [List.map_map] at z
    exact z
theorem cutD_tail {α : Type} {c : α} {l : List α} : DL.cutD (c :: l) (some 1) none = l := by
  unfold DL.cutD HT.sIx
  simp
theorem put_len {n : Nat} : ∀ {ps : List (Int × Fm)} {acc : Fm}, acc.length = n + 1 → (∀ p ∈ ps, p.2.length = n + 1) → (ps.foldl putStep acc).length = n + 1
  | [], acc, h, _ => h
  | p :: ps, acc, h, hp => by
    refine put_len (ps := ps) ?_ fun r hr => hp r (List.mem_cons_of_mem _ hr)
    unfold putStep sumFm timesFm
    rw [List.length_zipWith, List.length_map, h, hp p List.mem_cons_self]
    omega
theorem len_put_in : ∀ ds S Q, sp_put_in ds S Q → ds.length = p_put_in.length := fun ds S Q ⟨_, _, _, e, _⟩ => by subst e; rfl
theorem run_put_in {ds : List D} {S : Stt} {Q : DK} (h : sp_put_in ds S Q) : t_put_in { nx := fun _ S2 => Q .non S2, rt := Q } (startD n_put_in ds) S := by
  obtain ⟨f, fs, n, rfl, P, I, q⟩ := h
  cases f with
  | nil => have := I.1; simp at this
  | cons c f =>
  have nb := P.nb
  have fl := P.len
  unfold t_put_in
  rw [show fmD (c :: f) = .tup (.int c :: f.map D.int) from rfl]
  simp only [dSeq, dAsg, dRet, dDrop, dIfS, dPar, dPar3, dgName, dgTup, dgCons, dgNil, dBin, dVar, dC, dCB, dCons, dNil, dB, dIf, dNeg, dTup, dLst, dCall, dFor, dIter, dRng1, dLc, dAppend, dNext, dAnd, dOr, dNot, dAndV, dNotV, dgSub, dSl, dPart, dNoPart, wipeD, dZip, dNewT, dNewK, sd1, sd2, sd3, sd4, List.getElem?_cons_succ, List.getElem?_cons_zero, Option.some.injEq, exists_eq_left', List.set_cons_succ, List.set_cons_zero, List.replicate_succ, List.replicate_zero, Nat.reduceAdd, Nat.reduceSub, xi_add, xt_add, xi_sub, xi_mod, xi_div, xi_cmp, xi_mul, xi_lt, xi_le, xsl_fz, xsl_tup, xsl_ref, xadd_ref, xmul_tup, xpow, xisnot_non, xis_non, xtup_ref, xtup_tup, xlen_tup, xlen_ref, xint_int, xabs_int, ix_t0, ix_t1, D.bl.injEq, D.int.injEq, D.tup.injEq, D.ref.injEq, List.length_cons, List.length_nil, List.cons.injEq, and_true, true_and, and_assoc, exists_and_left, x_tt, x_ft, reduceIte, Bool.false_eq_true, Bool.not_true, Bool.not_false, xwalk_tup, xwalk_ref]
  refine ⟨szl (by omega), szl (by omega), by omega, by omega, by omega, ?_, .inl ?_⟩
  · simp only [List.length_flatten, List.map_replicate, List.sum_replicate_nat, List.length_cons, List.length_nil, Int.toNat_natCast]
    exact szl (by omega)
  rw [cutD_tail, zipD_map, Int.toNat_natCast]
  have einit : [D.int c] ++ (List.replicate n [D.int 0]).flatten = (c :: List.replicate n (0 : Int)).map D.int := by rw [flat_rep]; rfl
  rw [einit]
  have accl : ∀ i, (((f.zip fs).take i).foldl putStep (c :: List.replicate n 0)).length = n + 1 := fun i => put_len (by simp) fun p hp => P.each _ (List.of_mem_zip (List.mem_of_mem_take hp)).2
  refine for_map (enc := fun x : Int × Fm => .tup [D.int x.1, fmD x.2]) (as := f.zip fs) (fun i σ S' => Ext S S' ∧ ∃ (o4 o5 : Option D), σ = [some (fmD (c :: f)), some (.tup (fs.map fmD)), some (.int n), some (fmD (((f.zip fs).take i).foldl putStep (c :: List.replicate n 0))), o4, o5]) ⟨Ext.refl S, _, _, rfl⟩ (fun _ _ _ _ => trivial) (fun i w σ S' N e ⟨x, o4, o5, eσ⟩ hN => ?_) fun σ S' ⟨x, o4, o5, eσ⟩ => ?_
  · subst eσ
    have hw := List.mem_of_getElem? e
    have h1 := (List.of_mem_zip hw).1
    have h2 := (List.of_mem_zip hw).2
    simp only [dSeq, dAsg, dRet, dDrop, dIfS, dPar, dPar3, dgName, dgTup, dgCons, dgNil, dBin, dVar, dC, dCB, dCons, dNil, dB, dIf, dNeg, dTup, dLst, dCall, dFor, dIter, dRng1, dLc, dAppend, dNext, dAnd, dOr, dNot, dAndV, dNotV, dgSub, dSl, dPart, dNoPart, wipeD, dZip, dNewT, dNewK, sd1, sd2, sd3, sd4, List.getElem?_cons_succ, List.getElem?_cons_zero, Option.some.injEq, exists_eq_left', List.set_cons_succ, List.set_cons_zero, List.replicate_succ, List.replicate_zero, Nat.reduceAdd, Nat.reduceSub, xi_add, xt_add, xi_sub, xi_mod, xi_div, xi_cmp, xi_mul, xi_lt, xi_le, xsl_fz, xsl_tup, xsl_ref, xadd_ref, xmul_tup, xpow, xisnot_non, xis_non, xtup_ref, xtup_tup, xlen_tup, xlen_ref, xint_int, xabs_int, ix_t0, ix_t1, D.bl.injEq, D.int.injEq, D.tup.injEq, D.ref.injEq, List.length_cons, List.length_nil, List.cons.injEq, and_true, true_and, and_assoc, exists_and_left, x_tt, x_ft, reduceIte, Bool.false_eq_true, Bool.not_true, Bool.not_false, xwalk_tup, xwalk_ref]
    refine ⟨w.2, w.1, rfl, by rw [P.each _ h2]; omega, I.2 _ (List.mem_cons_of_mem _ h1), fun S2 x2 => ?_⟩
    refine ⟨_, _, rfl, by rw [accl]; omega, by unfold timesFm; rw [List.length_map, P.each _ h2]; omega, fun S3 x3 => ?_⟩
    refine hN _ _ ⟨(x.trans x2).trans x3, some (.int w.1), some (fmD w.2), ?_⟩
    rw [take_snoc e, List.foldl_append]
    rfl
  · subst eσ
    simp only [dSeq, dAsg, dRet, dDrop, dIfS, dPar, dPar3, dgName, dgTup, dgCons, dgNil, dBin, dVar, dC, dCB, dCons, dNil, dB, dIf, dNeg, dTup, dLst, dCall, dFor, dIter, dRng1, dLc, dAppend, dNext, dAnd, dOr, dNot, dAndV, dNotV, dgSub, dSl, dPart, dNoPart, wipeD, dZip, dNewT, dNewK, sd1, sd2, sd3, sd4, List.getElem?_cons_succ, List.getElem?_cons_zero, Option.some.injEq, exists_eq_left', List.set_cons_succ, List.set_cons_zero, List.replicate_succ, List.replicate_zero, Nat.reduceAdd, Nat.reduceSub, xi_add, xt_add, xi_sub, xi_mod, xi_div, xi_cmp, xi_mul, xi_lt, xi_le, xsl_fz, xsl_tup, xsl_ref, xadd_ref, xmul_tup, xpow, xisnot_non, xis_non, xtup_ref, xtup_tup, xlen_tup, xlen_ref, xint_int, xabs_int, ix_t0, ix_t1, D.bl.injEq, D.int.injEq, D.tup.injEq, D.ref.injEq, List.length_cons, List.length_nil, List.cons.injEq, and_true, true_and, and_assoc, exists_and_left, x_tt, x_ft, reduceIte, Bool.false_eq_true, Bool.not_true, Bool.not_false, xwalk_tup, xwalk_ref]
    rw [List.take_length]
    exact q _ x
theorem len_put_in_pairs : ∀ ds S Q, sp_put_in_pairs ds S Q → ds.length = p_put_in_pairs.length := fun ds S Q ⟨_, _, _, e, _⟩ => by subst e; rfl
theorem run_put_in_pairs {ds : List D} {S : Stt} {Q : DK} (h : sp_put_in_pairs ds S Q) : t_put_in_pairs { nx := fun _ S2 => Q .non S2, rt := Q } (startD n_put_in_pairs ds) S := by
  obtain ⟨ps, fs, n, rfl, P, I, hl, q⟩ := h
  unfold t_put_in_pairs
  simp only [dSeq, dAsg, dRet, dDrop, dIfS, dPar, dPar3, dgName, dgTup, dgCons, dgNil, dBin, dVar, dC, dCB, dCons, dNil, dB, dIf, dNeg, dTup, dLst, dCall, dFor, dIter, dRng1, dLc, dAppend, dNext, dAnd, dOr, dNot, dAndV, dNotV, dgSub, dSl, dPart, dNoPart, wipeD, dZip, dNewT, dNewK, sd1, sd2, sd3, sd4, List.getElem?_cons_succ, List.getElem?_cons_zero, Option.some.injEq, exists_eq_left', List.set_cons_succ, List.set_cons_zero, List.replicate_succ, List.replicate_zero, Nat.reduceAdd, Nat.reduceSub, xi_add, xt_add, xi_sub, xi_mod, xi_div, xi_cmp, xi_mul, xi_lt, xi_le, xsl_fz, xsl_tup, xsl_ref, xadd_ref, xmul_tup, xpow, xisnot_non, xis_non, xtup_ref, xtup_tup, xlen_tup, xlen_ref, xint_int, xabs_int, ix_t0, ix_t1, D.bl.injEq, D.int.injEq, D.tup.injEq, D.ref.injEq, List.length_cons, List.length_nil, List.cons.injEq, and_true, true_and, and_assoc, exists_and_left, x_tt, x_ft, reduceIte, Bool.false_eq_true, Bool.not_true, Bool.not_false, xwalk_tup, xwalk_ref]
  intro p hp
  refine lc_map (enc := prD) (f := fun y => prD (y.1, putFm y.2 fs n)) hp (fun _ _ => trivial) (szl (by omega)) (fun y S3 K1 hy x3 q1 => ?_) fun S3 x3 e3 => ?_
  · unfold prD
    simp only [dSeq, dAsg, dRet, dDrop, dIfS, dPar, dPar3, dgName, dgTup, dgCons, dgNil, dBin, dVar, dC, dCB, dCons, dNil, dB, dIf, dNeg, dTup, dLst, dCall, dFor, dIter, dRng1, dLc, dAppend, dNext, dAnd, dOr, dNot, dAndV, dNotV, dgSub, dSl, dPart, dNoPart, wipeD, dZip, dNewT, dNewK, sd1, sd2, sd3, sd4, List.getElem?_cons_succ, List.getElem?_cons_zero, Option.some.injEq, exists_eq_left', List.set_cons_succ, List.set_cons_zero, List.replicate_succ, List.replicate_zero, Nat.reduceAdd, Nat.reduceSub, xi_add, xt_add, xi_sub, xi_mod, xi_div, xi_cmp, xi_mul, xi_lt, xi_le, xsl_fz, xsl_tup, xsl_ref, xadd_ref, xmul_tup, xpow, xisnot_non, xis_non, xtup_ref, xtup_tup, xlen_tup, xlen_ref, xint_int, xabs_int, ix_t0, ix_t1, D.bl.injEq, D.int.injEq, D.tup.injEq, D.ref.injEq, List.length_cons, List.length_nil, List.cons.injEq, and_true, true_and, and_assoc, exists_and_left, x_tt, x_ft, reduceIte, Bool.false_eq_true, Bool.not_true, Bool.not_false, xwalk_tup, xwalk_ref]
    exact ⟨y.2, fs, n, rfl, P, I y hy, fun S4 x4 => ⟨szl (by omega), q1 S4 x4⟩⟩
  · try simp only [dSeq, dAsg, dRet, dDrop, dIfS, dPar, dPar3, dgName, dgTup, dgCons, dgNil, dBin, dVar, dC, dCB, dCons, dNil, dB, dIf, dNeg, dTup, dLst, dCall, dFor, dIter, dRng1, dLc, dAppend, dNext, dAnd, dOr, dNot, dAndV, dNotV, dgSub, dSl, dPart, dNoPart, wipeD, dZip, dNewT, dNewK, sd1, sd2, sd3, sd4, List.getElem?_cons_succ, List.getElem?_cons_zero, Option.some.injEq, exists_eq_left', List.set_cons_succ, List.set_cons_zero, List.replicate_succ, List.replicate_zero, Nat.reduceAdd, Nat.reduceSub, xi_add, xt_add, xi_sub, xi_mod, xi_div, xi_cmp, xi_mul, xi_lt, xi_le, xsl_fz, xsl_tup, xsl_ref, xadd_ref, xmul_tup, xpow, xisnot_non, xis_non, xtup_ref, xtup_tup, xlen_tup, xlen_ref, xint_int, xabs_int, ix_t0, ix_t1, D.bl.injEq, D.int.injEq, D.tup.injEq, D.ref.injEq, List.length_cons, List.length_nil, List.cons.injEq, and_true, true_and, and_assoc, exists_and_left, x_tt, x_ft, reduceIte, Bool.false_eq_true, Bool.not_true, Bool.not_false, xwalk_tup, xwalk_ref]
    refine ⟨_, e3, ?_⟩
    have z := q S3 x3
    rw [List.map_map] at z
    exact z
theorem len_put_in_tally : ∀ ds S Q, sp_put_in_tally ds S Q → ds.length = p_put_in_tally.length := fun ds S Q ⟨_, _, _, e, _⟩ => by subst e; rfl
theorem run_put_in_tally {ds : List D} {S : Stt} {Q : DK} (h : sp_put_in_tally ds S Q) : t_put_in_tally { nx := fun _ S2 => Q .non S2, rt := Q } (startD n_put_in_tally ds) S := by
  obtain ⟨ts, fs, n, rfl, P, I, hl, q⟩ := h
  unfold t_put_in_tally taD
  simp only [dSeq, dAsg, dRet, dDrop, dIfS, dPar, dPar3, dgName, dgTup, dgCons, dgNil, dBin, dVar, dC, dCB, dCons, dNil, dB, dIf, dNeg, dTup, dLst, dCall, dFor, dIter, dRng1, dLc, dAppend, dNext, dAnd, dOr, dNot, dAndV, dNotV, dgSub, dSl, dPart, dNoPart, wipeD, dZip, dNewT, dNewK, sd1, sd2, sd3, sd4, List.getElem?_cons_succ, List.getElem?_cons_zero, Option.some.injEq, exists_eq_left', List.set_cons_succ, List.set_cons_zero, List.replicate_succ, List.replicate_zero, Nat.reduceAdd, Nat.reduceSub, xi_add, xt_add, xi_sub, xi_mod, xi_div, xi_cmp, xi_mul, xi_lt, xi_le, xsl_fz, xsl_tup, xsl_ref, xadd_ref, xmul_tup, xpow, xisnot_non, xis_non, xtup_ref, xtup_tup, xlen_tup, xlen_ref, xint_int, xabs_int, ix_t0, ix_t1, D.bl.injEq, D.int.injEq, D.tup.injEq, D.ref.injEq, List.length_cons, List.length_nil, List.cons.injEq, and_true, true_and, and_assoc, exists_and_left, x_tt, x_ft, reduceIte, Bool.false_eq_true, Bool.not_true, Bool.not_false, xwalk_tup, xwalk_ref]
  refine ⟨szl (by omega), fun p0 h0 => ?_⟩
  refine for_map (enc := tmD) (as := ts) (fun i σ S' => Ext S S' ∧ i ≤ ts.length ∧ ∃ (o4 o5 o6 o7 o8 o9 : Option D), σ = [some (.tup (ts.map tmD)), some (.tup (fs.map fmD)), some (.int n), some (.ref p0), o4, o5, o6, o7, o8, o9] ∧ S' p0 = some (.lst (((ts.take i).map (putTm fs n)).map tmD))) ⟨Ext.new h0, by omega, _, _, _, _, _, _, rfl, ups_same⟩ (fun _ _ _ _ => trivial) (fun i t σ S' N e ⟨x, hi, o4, o5, o6, o7, o8, o9, eσ, hs⟩ hN => ?_) fun σ S' ⟨x, hi, o4, o5, o6, o7, o8, o9, eσ, hs⟩ => ?_
  · subst eσ
    have hlt : i < ts.length := (List.getElem?_eq_some_iff.mp e).1
    obtain ⟨i1, i2, i3, l1, l2, l3⟩ := I t (List.mem_of_getElem? e)
    unfold tmD
    simp only [dSeq, dAsg, dRet, dDrop, dIfS, dPar, dPar3, dgName, dgTup, dgCons, dgNil, dBin, dVar, dC, dCB, dCons, dNil, dB, dIf, dNeg, dTup, dLst, dCall, dFor, dIter, dRng1, dLc, dAppend, dNext, dAnd, dOr, dNot, dAndV, dNotV, dgSub, dSl, dPart, dNoPart, wipeD, dZip, dNewT, dNewK, sd1, sd2, sd3, sd4, List.getElem?_cons_succ, List.getElem?_cons_zero, Option.some.injEq, exists_eq_left', List.set_cons_succ, List.set_cons_zero, List.replicate_succ, List.replicate_zero, Nat.reduceAdd, Nat.reduceSub, xi_add, xt_add, xi_sub, xi_mod, xi_div, xi_cmp, xi_mul, xi_lt, xi_le, xsl_fz, xsl_tup, xsl_ref, xadd_ref, xmul_tup, xpow, xisnot_non, xis_non, xtup_ref, xtup_tup, xlen_tup, xlen_ref, xint_int, xabs_int, ix_t0, ix_t1, D.bl.injEq, D.int.injEq, D.tup.injEq, D.ref.injEq, List.length_cons, List.length_nil, List.cons.injEq, and_true, true_and, and_assoc, exists_and_left, x_tt, x_ft, reduceIte, Bool.false_eq_true, Bool.not_true, Bool.not_false, xwalk_tup, xwalk_ref]
    intro p1 h1
    refine lc_map (enc := fmD) (f := fun y => fmD (putFm y fs n)) h1 (fun _ _ => trivial) (szl (by omega)) (fun y S3 K1 hy x3 q1 => ?_) fun S1 x1 e1 => ?_
    · try simp only [dSeq, dAsg, dRet, dDrop, dIfS, dPar, dPar3, dgName, dgTup, dgCons, dgNil, dBin, dVar, dC, dCB, dCons, dNil, dB, dIf, dNeg, dTup, dLst, dCall, dFor, dIter, dRng1, dLc, dAppend, dNext, dAnd, dOr, dNot, dAndV, dNotV, dgSub, dSl, dPart, dNoPart, wipeD, dZip, dNewT, dNewK, sd1, sd2, sd3, sd4, List.getElem?_cons_succ, List.getElem?_cons_zero, Option.some.injEq, exists_eq_left', List.set_cons_succ, List.set_cons_zero, List.replicate_succ, List.replicate_zero, Nat.reduceAdd, Nat.reduceSub, xi_add, xt_add, xi_sub, xi_mod, xi_div, xi_cmp, xi_mul, xi_lt, xi_le, xsl_fz, xsl_tup, xsl_ref, xadd_ref, xmul_tup, xpow, xisnot_non, xis_non, xtup_ref, xtup_tup, xlen_tup, xlen_ref, xint_int, xabs_int, ix_t0, ix_t1, D.bl.injEq, D.int.injEq, D.tup.injEq, D.ref.injEq, List.length_cons, List.length_nil, List.cons.injEq, and_true, true_and, and_assoc, exists_and_left, x_tt, x_ft, reduceIte, Bool.false_eq_true, Bool.not_true, Bool.not_false, xwalk_tup, xwalk_ref]
      exact ⟨y, fs, n, rfl, P, i1 y hy, fun S4 x4 => q1 S4 x4⟩
    try simp only [dSeq, dAsg, dRet, dDrop, dIfS, dPar, dPar3, dgName, dgTup, dgCons, dgNil, dBin, dVar, dC, dCB, dCons, dNil, dB, dIf, dNeg, dTup, dLst, dCall, dFor, dIter, dRng1, dLc, dAppend, dNext, dAnd, dOr, dNot, dAndV, dNotV, dgSub, dSl, dPart, dNoPart, wipeD, dZip, dNewT, dNewK, sd1, sd2, sd3, sd4, List.getElem?_cons_succ, List.getElem?_cons_zero, Option.some.injEq, exists_eq_left', List.set_cons_succ, List.set_cons_zero, List.replicate_succ, List.replicate_zero, Nat.reduceAdd, Nat.reduceSub, xi_add, xt_add, xi_sub, xi_mod, xi_div, xi_cmp, xi_mul, xi_lt, xi_le, xsl_fz, xsl_tup, xsl_ref, xadd_ref, xmul_tup, xpow, xisnot_non, xis_non, xtup_ref, xtup_tup, xlen_tup, xlen_ref, xint_int, xabs_int, ix_t0, ix_t1, D.bl.injEq, D.int.injEq, D.tup.injEq, D.ref.injEq, List.length_cons, List.length_nil, List.cons.injEq, and_true, true_and, and_assoc, exists_and_left, x_tt, x_ft, reduceIte, Bool.false_eq_true, Bool.not_true, Bool.not_false, xwalk_tup, xwalk_ref]
    refine ⟨_, e1, ⟨_, x1 _ _ hs⟩, t.gates, fs, n, rfl, P, i2, l2, fun S2 x2 => ?_⟩
    try simp only [dSeq, dAsg, dRet, dDrop, dIfS, dPar, dPar3, dgName, dgTup, dgCons, dgNil, dBin, dVar, dC, dCB, dCons, dNil, dB, dIf, dNeg, dTup, dLst, dCall, dFor, dIter, dRng1, dLc, dAppend, dNext, dAnd, dOr, dNot, dAndV, dNotV, dgSub, dSl, dPart, dNoPart, wipeD, dZip, dNewT, dNewK, sd1, sd2, sd3, sd4, List.getElem?_cons_succ, List.getElem?_cons_zero, Option.some.injEq, exists_eq_left', List.set_cons_succ, List.set_cons_zero, List.replicate_succ, List.replicate_zero, Nat.reduceAdd, Nat.reduceSub, xi_add, xt_add, xi_sub, xi_mod, xi_div, xi_cmp, xi_mul, xi_lt, xi_le, xsl_fz, xsl_tup, xsl_ref, xadd_ref, xmul_tup, xpow, xisnot_non, xis_non, xtup_ref, xtup_tup, xlen_tup, xlen_ref, xint_int, xabs_int, ix_t0, ix_t1, D.bl.injEq, D.int.injEq, D.tup.injEq, D.ref.injEq, List.length_cons, List.length_nil, List.cons.injEq, and_true, true_and, and_assoc, exists_and_left, x_tt, x_ft, reduceIte, Bool.false_eq_true, Bool.not_true, Bool.not_false, xwalk_tup, xwalk_ref]
    refine ⟨t.steps, fs, n, rfl, P, i3, l3, fun S3 x3 => ⟨szl (by omega), _, ((x1.trans x2).trans x3) _ _ hs, szlt (by simp; omega), ?_⟩⟩
    have xx := ((x.trans x1).trans x2).trans x3
    refine hN _ _ ⟨xx.put h0, by omega, _, _, _, _, _, _, rfl, ?_⟩
    rw [ups_same, take_snoc e, List.map_append, List.map_append]
    unfold putTm
    simp only [List.map_cons, List.map_nil, tmD, List.map_map]
    rfl
  · subst eσ
    try simp only [dSeq, dAsg, dRet, dDrop, dIfS, dPar, dPar3, dgName, dgTup, dgCons, dgNil, dBin, dVar, dC, dCB, dCons, dNil, dB, dIf, dNeg, dTup, dLst, dCall, dFor, dIter, dRng1, dLc, dAppend, dNext, dAnd, dOr, dNot, dAndV, dNotV, dgSub, dSl, dPart, dNoPart, wipeD, dZip, dNewT, dNewK, sd1, sd2, sd3, sd4, List.getElem?_cons_succ, List.getElem?_cons_zero, Option.some.injEq, exists_eq_left', List.set_cons_succ, List.set_cons_zero, List.replicate_succ, List.replicate_zero, Nat.reduceAdd, Nat.reduceSub, xi_add, xt_add, xi_sub, xi_mod, xi_div, xi_cmp, xi_mul, xi_lt, xi_le, xsl_fz, xsl_tup, xsl_ref, xadd_ref, xmul_tup, xpow, xisnot_non, xis_non, xtup_ref, xtup_tup, xlen_tup, xlen_ref, xint_int, xabs_int, ix_t0, ix_t1, D.bl.injEq, D.int.injEq, D.tup.injEq, D.ref.injEq, List.length_cons, List.length_nil, List.cons.injEq, and_true, true_and, and_assoc, exists_and_left, x_tt, x_ft, reduceIte, Bool.false_eq_true, Bool.not_true, Bool.not_false, xwalk_tup, xwalk_ref]
    refine ⟨_, hs, ?_⟩
    rw [List.take_length]
    exact q _ x
theorem len_Lforms : ∀ ds S Q, sp_Lforms ds S Q → ds.length = p_Lforms.length := fun ds S Q ⟨_, _, _, _, e, _⟩ => by subst e; rfl
theorem run_Lforms {ds : List D} {S : Stt} {Q : DK} (h : sp_Lforms ds S Q) : t_Lforms { nx := fun _ S2 => Q .non S2, rt := Q } (startD n_Lforms ds) S := by
  obtain ⟨m, c, k, n, rfl, hc, hk, M, hn, q⟩ := h
  unfold dmax at hn
  unfold t_Lforms
  simp only [dSeq, dAsg, dRet, dDrop, dIfS, dPar, dPar3, dgName, dgTup, dgCons, dgNil, dBin, dVar, dC, dCB, dCons, dNil, dB, dIf, dNeg, dTup, dLst, dCall, dFor, dIter, dRng1, dLc, dAppend, dNext, dAnd, dOr, dNot, dAndV, dNotV, dgSub, dSl, dPart, dNoPart, wipeD, dZip, dNewT, dNewK, sd1, sd2, sd3, sd4, List.getElem?_cons_succ, List.getElem?_cons_zero, Option.some.injEq, exists_eq_left', List.set_cons_succ, List.set_cons_zero, List.replicate_succ, List.replicate_zero, Nat.reduceAdd, Nat.reduceSub, xi_add, xt_add, xi_sub, xi_mod, xi_div, xi_cmp, xi_mul, xi_lt, xi_le, xsl_fz, xsl_tup, xsl_ref, xadd_ref, xmul_tup, xpow, xisnot_non, xis_non, xtup_ref, xtup_tup, xlen_tup, xlen_ref, xint_int, xabs_int, ix_t0, ix_t1, D.bl.injEq, D.int.injEq, D.tup.injEq, D.ref.injEq, List.length_cons, List.length_nil, List.cons.injEq, and_true, true_and, and_assoc, exists_and_left, x_tt, x_ft, reduceIte, Bool.false_eq_true, Bool.not_true, Bool.not_false, xwalk_tup, xwalk_ref]
  refine ⟨szl (by omega), fun p0 h0 => ?_⟩
  have pm := mok_ne M h0
  refine ⟨m, 4, n, rfl, by omega, lt8000 (by decide), M.ext (Ext.new h0), by unfold dmax; omega, fun w S1 w0 w1 x1 M1 => ?_⟩
  have x01 : ExtB m S S1 := (Ext.new h0).but.trans x1
  have e1 := x1.old _ _ pm (ups_same (S := S) (o := MO.lst []))
  try simp only [dSeq, dAsg, dRet, dDrop, dIfS, dPar, dPar3, dgName, dgTup, dgCons, dgNil, dBin, dVar, dC, dCB, dCons, dNil, dB, dIf, dNeg, dTup, dLst, dCall, dFor, dIter, dRng1, dLc, dAppend, dNext, dAnd, dOr, dNot, dAndV, dNotV, dgSub, dSl, dPart, dNoPart, wipeD, dZip, dNewT, dNewK, sd1, sd2, sd3, sd4, List.getElem?_cons_succ, List.getElem?_cons_zero, Option.some.injEq, exists_eq_left', List.set_cons_succ, List.set_cons_zero, List.replicate_succ, List.replicate_zero, Nat.reduceAdd, Nat.reduceSub, xi_add, xt_add, xi_sub, xi_mod, xi_div, xi_cmp, xi_mul, xi_lt, xi_le, xsl_fz, xsl_tup, xsl_ref, xadd_ref, xmul_tup, xpow, xisnot_non, xis_non, xtup_ref, xtup_tup, xlen_tup, xlen_ref, xint_int, xabs_int, ix_t0, ix_t1, D.bl.injEq, D.int.injEq, D.tup.injEq, D.ref.injEq, List.length_cons, List.length_nil, List.cons.injEq, and_true, true_and, and_assoc, exists_and_left, x_tt, x_ft, reduceIte, Bool.false_eq_true, Bool.not_true, Bool.not_false, xwalk_tup, xwalk_ref]
  refine ⟨by omega, by omega, ?_⟩
  rw [Int.toNat_natCast]
  refine for_rng (fun i σ S' => ExtB m S S' ∧ MOk S' m (n + 1 + 200 * i) ∧ ∃ (l : List Fm) (o5 o6 o7 o8 o9 : Option D), σ = [some (.ref m), some (.int c), some (.int k), some (.ref p0), some (.int w), o5, o6, o7, o8, o9] ∧ S' p0 = some (.lst (l.map fmD)) ∧ l.length = i ∧ ∀ f ∈ l, FmOk k 12 f) ⟨x01, M1, [], _, _, _, _, _, rfl, e1, rfl, fun _ h => nomatch h⟩ (fun _ => trivial) (fun i σ S' N hi ⟨x, M', l, o5, o6, o7, o8, o9, eσ, hl, ll, lo⟩ hN => ?_) fun σ S' ⟨x, M', l, o5, o6, o7, o8, o9, eσ, hl, ll, lo⟩ => ?_
  · subst eσ
    try simp only [dSeq, dAsg, dRet, dDrop, dIfS, dPar, dPar3, dgName, dgTup, dgCons, dgNil, dBin, dVar, dC, dCB, dCons, dNil, dB, dIf, dNeg, dTup, dLst, dCall, dFor, dIter, dRng1, dLc, dAppend, dNext, dAnd, dOr, dNot, dAndV, dNotV, dgSub, dSl, dPart, dNoPart, wipeD, dZip, dNewT, dNewK, sd1, sd2, sd3, sd4, List.getElem?_cons_succ, List.getElem?_cons_zero, Option.some.injEq, exists_eq_left', List.set_cons_succ, List.set_cons_zero, List.replicate_succ, List.replicate_zero, Nat.reduceAdd, Nat.reduceSub, xi_add, xt_add, xi_sub, xi_mod, xi_div, xi_cmp, xi_mul, xi_lt, xi_le, xsl_fz, xsl_tup, xsl_ref, xadd_ref, xmul_tup, xpow, xisnot_non, xis_non, xtup_ref, xtup_tup, xlen_tup, xlen_ref, xint_int, xabs_int, ix_t0, ix_t1, D.bl.injEq, D.int.injEq, D.tup.injEq, D.ref.injEq, List.length_cons, List.length_nil, List.cons.injEq, and_true, true_and, and_assoc, exists_and_left, x_tt, x_ft, reduceIte, Bool.false_eq_true, Bool.not_true, Bool.not_false, xwalk_tup, xwalk_ref]
    refine ⟨m, k, 6, _, rfl, by omega, by omega, M', by unfold dmax; omega, fun f S2 hf x2 M2 => ?_⟩
    have fin : ∀ (g : Fm) (S3 : Stt) (o7 o8 o9 : Option D), FmOk k 12 g → ExtB m S2 S3 → MOk S3 m (n + 1 + 200 * i + 101) → (∃ l, S3 p0 = some (.lst l)) ∧ ∃ l, S3 p0 = some (.lst l) ∧ l.length < sizeLine ∧ N [some (.ref m), some (.int c), some (.int k), some (.ref p0), some (.int w), some (.int (i : Nat)), some (fmD g), o7, o8, o9] (ups S3 p0 (.lst (l ++ [fmD g]))) := by
      intro g S3 o7 o8 o9 hg x3 M3
      have xx := x2.trans x3
      have hl3 := xx.old _ _ pm hl
      have xx0 := x.trans xx
      refine ⟨⟨_, hl3⟩, _, hl3, szlt (by rw [List.length_map]; omega), hN _ _ ⟨xx0.put h0, M.late h0 xx0 (M3.mono (by omega)), l ++ [g], _, _, _, _, _, rfl, by rw [ups_same, List.map_append]; rfl, by simp [ll], fun y hy => ?_⟩⟩
      rcases List.mem_append.mp hy with h | h
      · exact lo y h
      · simp at h; subst h; exact hg
    have hf' : FmOk k 12 f := hf.mono (by omega)
    refine eq_int ?_
    by_cases hw0 : w = 0
    · subst hw0
      by_cases hk0 : 0 < k
      · rw [decide_eq_true (show (0 : Int) < (k : Int) by omega)]
        simp only [dSeq, dAsg, dRet, dDrop, dIfS, dPar, dPar3, dgName, dgTup, dgCons, dgNil, dBin, dVar, dC, dCB, dCons, dNil, dB, dIf, dNeg, dTup, dLst, dCall, dFor, dIter, dRng1, dLc, dAppend, dNext, dAnd, dOr, dNot, dAndV, dNotV, dgSub, dSl, dPart, dNoPart, wipeD, dZip, dNewT, dNewK, sd1, sd2, sd3, sd4, List.getElem?_cons_succ, List.getElem?_cons_zero, Option.some.injEq, exists_eq_left', List.set_cons_succ, List.set_cons_zero, List.replicate_succ, List.replicate_zero, Nat.reduceAdd, Nat.reduceSub, xi_add, xt_add, xi_sub, xi_mod, xi_div, xi_cmp, xi_mul, xi_lt, xi_le, xsl_fz, xsl_tup, xsl_ref, xadd_ref, xmul_tup, xpow, xisnot_non, xis_non, xtup_ref, xtup_tup, xlen_tup, xlen_ref, xint_int, xabs_int, ix_t0, ix_t1, D.bl.injEq, D.int.injEq, D.tup.injEq, D.ref.injEq, List.length_cons, List.length_nil, List.cons.injEq, and_true, true_and, and_assoc, exists_and_left, x_tt, x_ft, reduceIte, Bool.false_eq_true, Bool.not_true, Bool.not_false, xwalk_tup, xwalk_ref, beq_self_eq_true]
        refine ⟨m, k, _, rfl, by omega, lt8000 (Nat.lt_of_le_of_lt (show (k : Int).natAbs ≤ 10 by omega) (by decide)), M2, by unfold dmax; omega, fun pl S3 r0 r1 x3 M3 => ?_⟩
        try simp only [dSeq, dAsg, dRet, dDrop, dIfS, dPar, dPar3, dgName, dgTup, dgCons, dgNil, dBin, dVar, dC, dCB, dCons, dNil, dB, dIf, dNeg, dTup, dLst, dCall, dFor, dIter, dRng1, dLc, dAppend, dNext, dAnd, dOr, dNot, dAndV, dNotV, dgSub, dSl, dPart, dNoPart, wipeD, dZip, dNewT, dNewK, sd1, sd2, sd3, sd4, List.getElem?_cons_succ, List.getElem?_cons_zero, Option.some.injEq, exists_eq_left', List.set_cons_succ, List.set_cons_zero, List.replicate_succ, List.replicate_zero, Nat.reduceAdd, Nat.reduceSub, xi_add, xt_add, xi_sub, xi_mod, xi_div, xi_cmp, xi_mul, xi_lt, xi_le, xsl_fz, xsl_tup, xsl_ref, xadd_ref, xmul_tup, xpow, xisnot_non, xis_non, xtup_ref, xtup_tup, xlen_tup, xlen_ref, xint_int, xabs_int, ix_t0, ix_t1, D.bl.injEq, D.int.injEq, D.tup.injEq, D.ref.injEq, List.length_cons, List.length_nil, List.cons.injEq, and_true, true_and, and_assoc, exists_and_left, x_tt, x_ft, reduceIte, Bool.false_eq_true, Bool.not_true, Bool.not_false, xwalk_tup, xwalk_ref]
        refine ⟨szl (by omega), by omega, by omega, fun p1 h1 => ?_⟩
        rw [Int.toNat_natCast]
        refine lc_map (as := List.range k) (enc := fun i => D.int (0 + (i : Nat))) (f := fun i => .int (if ((i : Nat) : Int) = pl then 1 else 0)) h1 (fun _ _ => trivial) (szl (by rw [List.length_range]; omega)) (fun j S4 K1 hj x4 q1 => ?_) fun S4 x4 e4 => ?_
        · try simp only [dSeq, dAsg, dRet, dDrop, dIfS, dPar, dPar3, dgName, dgTup, dgCons, dgNil, dBin, dVar, dC, dCB, dCons, dNil, dB, dIf, dNeg, dTup, dLst, dCall, dFor, dIter, dRng1, dLc, dAppend, dNext, dAnd, dOr, dNot, dAndV, dNotV, dgSub, dSl, dPart, dNoPart, wipeD, dZip, dNewT, dNewK, sd1, sd2, sd3, sd4, List.getElem?_cons_succ, List.getElem?_cons_zero, Option.some.injEq, exists_eq_left', List.set_cons_succ, List.set_cons_zero, List.replicate_succ, List.replicate_zero, Nat.reduceAdd, Nat.reduceSub, xi_add, xt_add, xi_sub, xi_mod, xi_div, xi_cmp, xi_mul, xi_lt, xi_le, xsl_fz, xsl_tup, xsl_ref, xadd_ref, xmul_tup, xpow, xisnot_non, xis_non, xtup_ref, xtup_tup, xlen_tup, xlen_ref, xint_int, xabs_int, ix_t0, ix_t1, D.bl.injEq, D.int.injEq, D.tup.injEq, D.ref.injEq, List.length_cons, List.length_nil, List.cons.injEq, and_true, true_and, and_assoc, exists_and_left, x_tt, x_ft, reduceIte, Bool.false_eq_true, Bool.not_true, Bool.not_false, xwalk_tup, xwalk_ref, Int.zero_add]
          refine eq_int ?_
          by_cases c : ((j : Nat) : Int) = pl
          · rw [if_pos c] at q1
            try simp only [dSeq, dAsg, dRet, dDrop, dIfS, dPar, dPar3, dgName, dgTup, dgCons, dgNil, dBin, dVar, dC, dCB, dCons, dNil, dB, dIf, dNeg, dTup, dLst, dCall, dFor, dIter, dRng1, dLc, dAppend, dNext, dAnd, dOr, dNot, dAndV, dNotV, dgSub, dSl, dPart, dNoPart, wipeD, dZip, dNewT, dNewK, sd1, sd2, sd3, sd4, List.getElem?_cons_succ, List.getElem?_cons_zero, Option.some.injEq, exists_eq_left', List.set_cons_succ, List.set_cons_zero, List.replicate_succ, List.replicate_zero, Nat.reduceAdd, Nat.reduceSub, xi_add, xt_add, xi_sub, xi_mod, xi_div, xi_cmp, xi_mul, xi_lt, xi_le, xsl_fz, xsl_tup, xsl_ref, xadd_ref, xmul_tup, xpow, xisnot_non, xis_non, xtup_ref, xtup_tup, xlen_tup, xlen_ref, xint_int, xabs_int, ix_t0, ix_t1, D.bl.injEq, D.int.injEq, D.tup.injEq, D.ref.injEq, List.length_cons, List.length_nil, List.cons.injEq, and_true, true_and, and_assoc, exists_and_left, x_tt, x_ft, reduceIte, Bool.false_eq_true, Bool.not_true, Bool.not_false, xwalk_tup, xwalk_ref, c, beq_self_eq_true]
            exact q1 _ (Ext.refl _)
          · rw [if_neg c] at q1
            try simp only [dSeq, dAsg, dRet, dDrop, dIfS, dPar, dPar3, dgName, dgTup, dgCons, dgNil, dBin, dVar, dC, dCB, dCons, dNil, dB, dIf, dNeg, dTup, dLst, dCall, dFor, dIter, dRng1, dLc, dAppend, dNext, dAnd, dOr, dNot, dAndV, dNotV, dgSub, dSl, dPart, dNoPart, wipeD, dZip, dNewT, dNewK, sd1, sd2, sd3, sd4, List.getElem?_cons_succ, List.getElem?_cons_zero, Option.some.injEq, exists_eq_left', List.set_cons_succ, List.set_cons_zero, List.replicate_succ, List.replicate_zero, Nat.reduceAdd, Nat.reduceSub, xi_add, xt_add, xi_sub, xi_mod, xi_div, xi_cmp, xi_mul, xi_lt, xi_le, xsl_fz, xsl_tup, xsl_ref, xadd_ref, xmul_tup, xpow, xisnot_non, xis_non, xtup_ref, xtup_tup, xlen_tup, xlen_ref, xint_int, xabs_int, ix_t0, ix_t1, D.bl.injEq, D.int.injEq, D.tup.injEq, D.ref.injEq, List.length_cons, List.length_nil, List.cons.injEq, and_true, true_and, and_assoc, exists_and_left, x_tt, x_ft, reduceIte, Bool.false_eq_true, Bool.not_true, Bool.not_false, xwalk_tup, xwalk_ref, beq_eq_false_iff_ne.mpr c]
            exact q1 _ (Ext.refl _)
        · try simp only [dSeq, dAsg, dRet, dDrop, dIfS, dPar, dPar3, dgName, dgTup, dgCons, dgNil, dBin, dVar, dC, dCB, dCons, dNil, dB, dIf, dNeg, dTup, dLst, dCall, dFor, dIter, dRng1, dLc, dAppend, dNext, dAnd, dOr, dNot, dAndV, dNotV, dgSub, dSl, dPart, dNoPart, wipeD, dZip, dNewT, dNewK, sd1, sd2, sd3, sd4, List.getElem?_cons_succ, List.getElem?_cons_zero, Option.some.injEq, exists_eq_left', List.set_cons_succ, List.set_cons_zero, List.replicate_succ, List.replicate_zero, Nat.reduceAdd, Nat.reduceSub, xi_add, xt_add, xi_sub, xi_mod, xi_div, xi_cmp, xi_mul, xi_lt, xi_le, xsl_fz, xsl_tup, xsl_ref, xadd_ref, xmul_tup, xpow, xisnot_non, xis_non, xtup_ref, xtup_tup, xlen_tup, xlen_ref, xint_int, xabs_int, ix_t0, ix_t1, D.bl.injEq, D.int.injEq, D.tup.injEq, D.ref.injEq, List.length_cons, List.length_nil, List.cons.injEq, and_true, true_and, and_assoc, exists_and_left, x_tt, x_ft, reduceIte, Bool.false_eq_true, Bool.not_true, Bool.not_false, xwalk_tup, xwalk_ref]
          refine ⟨_, e4, szl (by simp; omega), ?_⟩
          refine eq_intF (by omega) ?_
          try simp only [dSeq, dAsg, dRet, dDrop, dIfS, dPar, dPar3, dgName, dgTup, dgCons, dgNil, dBin, dVar, dC, dCB, dCons, dNil, dB, dIf, dNeg, dTup, dLst, dCall, dFor, dIter, dRng1, dLc, dAppend, dNext, dAnd, dOr, dNot, dAndV, dNotV, dgSub, dSl, dPart, dNoPart, wipeD, dZip, dNewT, dNewK, sd1, sd2, sd3, sd4, List.getElem?_cons_succ, List.getElem?_cons_zero, Option.some.injEq, exists_eq_left', List.set_cons_succ, List.set_cons_zero, List.replicate_succ, List.replicate_zero, Nat.reduceAdd, Nat.reduceSub, xi_add, xt_add, xi_sub, xi_mod, xi_div, xi_cmp, xi_mul, xi_lt, xi_le, xsl_fz, xsl_tup, xsl_ref, xadd_ref, xmul_tup, xpow, xisnot_non, xis_non, xtup_ref, xtup_tup, xlen_tup, xlen_ref, xint_int, xabs_int, ix_t0, ix_t1, D.bl.injEq, D.int.injEq, D.tup.injEq, D.ref.injEq, List.length_cons, List.length_nil, List.cons.injEq, and_true, true_and, and_assoc, exists_and_left, x_tt, x_ft, reduceIte, Bool.false_eq_true, Bool.not_true, Bool.not_false, xwalk_tup, xwalk_ref]
          refine eq_intF (by omega) ?_
          try simp only [dSeq, dAsg, dRet, dDrop, dIfS, dPar, dPar3, dgName, dgTup, dgCons, dgNil, dBin, dVar, dC, dCB, dCons, dNil, dB, dIf, dNeg, dTup, dLst, dCall, dFor, dIter, dRng1, dLc, dAppend, dNext, dAnd, dOr, dNot, dAndV, dNotV, dgSub, dSl, dPart, dNoPart, wipeD, dZip, dNewT, dNewK, sd1, sd2, sd3, sd4, List.getElem?_cons_succ, List.getElem?_cons_zero, Option.some.injEq, exists_eq_left', List.set_cons_succ, List.set_cons_zero, List.replicate_succ, List.replicate_zero, Nat.reduceAdd, Nat.reduceSub, xi_add, xt_add, xi_sub, xi_mod, xi_div, xi_cmp, xi_mul, xi_lt, xi_le, xsl_fz, xsl_tup, xsl_ref, xadd_ref, xmul_tup, xpow, xisnot_non, xis_non, xtup_ref, xtup_tup, xlen_tup, xlen_ref, xint_int, xabs_int, ix_t0, ix_t1, D.bl.injEq, D.int.injEq, D.tup.injEq, D.ref.injEq, List.length_cons, List.length_nil, List.cons.injEq, and_true, true_and, and_assoc, exists_and_left, x_tt, x_ft, reduceIte, Bool.false_eq_true, Bool.not_true, Bool.not_false, xwalk_tup, xwalk_ref]
          have z := fin (0 :: (List.range k).map fun i => if ((i : Nat) : Int) = pl then 1 else 0) S4 (some (.int pl)) o8 o9 ⟨by simp, fun y hy => ?_⟩ (x3.trans x4.but) ((M3.ext x4).mono (by omega))
          · unfold fmD at z
            rw [List.map_cons, List.map_map] at z
            exact z
          · rcases List.mem_cons.mp hy with rfl | hy
            · simp
            · obtain ⟨j, _, rfl⟩ := List.mem_map.mp hy
              split <;> omega
      · rw [decide_eq_false (show ¬ (0 : Int) < (k : Int) by omega)]
        simp only [dSeq, dAsg, dRet, dDrop, dIfS, dPar, dPar3, dgName, dgTup, dgCons, dgNil, dBin, dVar, dC, dCB, dCons, dNil, dB, dIf, dNeg, dTup, dLst, dCall, dFor, dIter, dRng1, dLc, dAppend, dNext, dAnd, dOr, dNot, dAndV, dNotV, dgSub, dSl, dPart, dNoPart, wipeD, dZip, dNewT, dNewK, sd1, sd2, sd3, sd4, List.getElem?_cons_succ, List.getElem?_cons_zero, Option.some.injEq, exists_eq_left', List.set_cons_succ, List.set_cons_zero, List.replicate_succ, List.replicate_zero, Nat.reduceAdd, Nat.reduceSub, xi_add, xt_add, xi_sub, xi_mod, xi_div, xi_cmp, xi_mul, xi_lt, xi_le, xsl_fz, xsl_tup, xsl_ref, xadd_ref, xmul_tup, xpow, xisnot_non, xis_non, xtup_ref, xtup_tup, xlen_tup, xlen_ref, xint_int, xabs_int, ix_t0, ix_t1, D.bl.injEq, D.int.injEq, D.tup.injEq, D.ref.injEq, List.length_cons, List.length_nil, List.cons.injEq, and_true, true_and, and_assoc, exists_and_left, x_tt, x_ft, reduceIte, Bool.false_eq_true, Bool.not_true, Bool.not_false, xwalk_tup, xwalk_ref, beq_self_eq_true]
        refine eq_intF (by omega) ?_
        try simp only [dSeq, dAsg, dRet, dDrop, dIfS, dPar, dPar3, dgName, dgTup, dgCons, dgNil, dBin, dVar, dC, dCB, dCons, dNil, dB, dIf, dNeg, dTup, dLst, dCall, dFor, dIter, dRng1, dLc, dAppend, dNext, dAnd, dOr, dNot, dAndV, dNotV, dgSub, dSl, dPart, dNoPart, wipeD, dZip, dNewT, dNewK, sd1, sd2, sd3, sd4, List.getElem?_cons_succ, List.getElem?_cons_zero, Option.some.injEq, exists_eq_left', List.set_cons_succ, List.set_cons_zero, List.replicate_succ, List.replicate_zero, Nat.reduceAdd, Nat.reduceSub, xi_add, xt_add, xi_sub, xi_mod, xi_div, xi_cmp, xi_mul, xi_lt, xi_le, xsl_fz, xsl_tup, xsl_ref, xadd_ref, xmul_tup, xpow, xisnot_non, xis_non, xtup_ref, xtup_tup, xlen_tup, xlen_ref, xint_int, xabs_int, ix_t0, ix_t1, D.bl.injEq, D.int.injEq, D.tup.injEq, D.ref.injEq, List.length_cons, List.length_nil, List.cons.injEq, and_true, true_and, and_assoc, exists_and_left, x_tt, x_ft, reduceIte, Bool.false_eq_true, Bool.not_true, Bool.not_false, xwalk_tup, xwalk_ref]
        refine eq_intF (by omega) ?_
        try simp only [dSeq, dAsg, dRet, dDrop, dIfS, dPar, dPar3, dgName, dgTup, dgCons, dgNil, dBin, dVar, dC, dCB, dCons, dNil, dB, dIf, dNeg, dTup, dLst, dCall, dFor, dIter, dRng1, dLc, dAppend, dNext, dAnd, dOr, dNot, dAndV, dNotV, dgSub, dSl, dPart, dNoPart, wipeD, dZip, dNewT, dNewK, sd1, sd2, sd3, sd4, List.getElem?_cons_succ, List.getElem?_cons_zero, Option.some.injEq, exists_eq_left', List.set_cons_succ, List.set_cons_zero, List.replicate_succ, List.replicate_zero, Nat.reduceAdd, Nat.reduceSub, xi_add, xt_add, xi_sub, xi_mod, xi_div, xi_cmp, xi_mul, xi_lt, xi_le, xsl_fz, xsl_tup, xsl_ref, xadd_ref, xmul_tup, xpow, xisnot_non, xis_non, xtup_ref, xtup_tup, xlen_tup, xlen_ref, xint_int, xabs_int, ix_t0, ix_t1, D.bl.injEq, D.int.injEq, D.tup.injEq, D.ref.injEq, List.length_cons, List.length_nil, List.cons.injEq, and_true, true_and, and_assoc, exists_and_left, x_tt, x_ft, reduceIte, Bool.false_eq_true, Bool.not_true, Bool.not_false, xwalk_tup, xwalk_ref]
        exact fin f S2 _ _ _ hf' (ExtB.refl m S2) (M2.mono (by omega))
    · simp only [dSeq, dAsg, dRet, dDrop, dIfS, dPar, dPar3, dgName, dgTup, dgCons, dgNil, dBin, dVar, dC, dCB, dCons, dNil, dB, dIf, dNeg, dTup, dLst, dCall, dFor, dIter, dRng1, dLc, dAppend, dNext, dAnd, dOr, dNot, dAndV, dNotV, dgSub, dSl, dPart, dNoPart, wipeD, dZip, dNewT, dNewK, sd1, sd2, sd3, sd4, List.getElem?_cons_succ, List.getElem?_cons_zero, Option.some.injEq, exists_eq_left', List.set_cons_succ, List.set_cons_zero, List.replicate_succ, List.replicate_zero, Nat.reduceAdd, Nat.reduceSub, xi_add, xt_add, xi_sub, xi_mod, xi_div, xi_cmp, xi_mul, xi_lt, xi_le, xsl_fz, xsl_tup, xsl_ref, xadd_ref, xmul_tup, xpow, xisnot_non, xis_non, xtup_ref, xtup_tup, xlen_tup, xlen_ref, xint_int, xabs_int, ix_t0, ix_t1, D.bl.injEq, D.int.injEq, D.tup.injEq, D.ref.injEq, List.length_cons, List.length_nil, List.cons.injEq, and_true, true_and, and_assoc, exists_and_left, x_tt, x_ft, reduceIte, Bool.false_eq_true, Bool.not_true, Bool.not_false, xwalk_tup, xwalk_ref, beq_eq_false_iff_ne.mpr hw0]
      refine eq_int ?_
      by_cases hw1 : w = 1
      · subst hw1
        simp only [dSeq, dAsg, dRet, dDrop, dIfS, dPar, dPar3, dgName, dgTup, dgCons, dgNil, dBin, dVar, dC, dCB, dCons, dNil, dB, dIf, dNeg, dTup, dLst, dCall, dFor, dIter, dRng1, dLc, dAppend, dNext, dAnd, dOr, dNot, dAndV, dNotV, dgSub, dSl, dPart, dNoPart, wipeD, dZip, dNewT, dNewK, sd1, sd2, sd3, sd4, List.getElem?_cons_succ, List.getElem?_cons_zero, Option.some.injEq, exists_eq_left', List.set_cons_succ, List.set_cons_zero, List.replicate_succ, List.replicate_zero, Nat.reduceAdd, Nat.reduceSub, xi_add, xt_add, xi_sub, xi_mod, xi_div, xi_cmp, xi_mul, xi_lt, xi_le, xsl_fz, xsl_tup, xsl_ref, xadd_ref, xmul_tup, xpow, xisnot_non, xis_non, xtup_ref, xtup_tup, xlen_tup, xlen_ref, xint_int, xabs_int, ix_t0, ix_t1, D.bl.injEq, D.int.injEq, D.tup.injEq, D.ref.injEq, List.length_cons, List.length_nil, List.cons.injEq, and_true, true_and, and_assoc, exists_and_left, x_tt, x_ft, reduceIte, Bool.false_eq_true, Bool.not_true, Bool.not_false, xwalk_tup, xwalk_ref, beq_self_eq_true]
        cases f with
        | nil => have := hf.1; simp at this
        | cons c0 f =>
        rw [show fmD (c0 :: f) = .tup (.int c0 :: f.map D.int) from rfl]
        simp only [dSeq, dAsg, dRet, dDrop, dIfS, dPar, dPar3, dgName, dgTup, dgCons, dgNil, dBin, dVar, dC, dCB, dCons, dNil, dB, dIf, dNeg, dTup, dLst, dCall, dFor, dIter, dRng1, dLc, dAppend, dNext, dAnd, dOr, dNot, dAndV, dNotV, dgSub, dSl, dPart, dNoPart, wipeD, dZip, dNewT, dNewK, sd1, sd2, sd3, sd4, List.getElem?_cons_succ, List.getElem?_cons_zero, Option.some.injEq, exists_eq_left', List.set_cons_succ, List.set_cons_zero, List.replicate_succ, List.replicate_zero, Nat.reduceAdd, Nat.reduceSub, xi_add, xt_add, xi_sub, xi_mod, xi_div, xi_cmp, xi_mul, xi_lt, xi_le, xsl_fz, xsl_tup, xsl_ref, xadd_ref, xmul_tup, xpow, xisnot_non, xis_non, xtup_ref, xtup_tup, xlen_tup, xlen_ref, xint_int, xabs_int, ix_t0, ix_t1, D.bl.injEq, D.int.injEq, D.tup.injEq, D.ref.injEq, List.length_cons, List.length_nil, List.cons.injEq, and_true, true_and, and_assoc, exists_and_left, x_tt, x_ft, reduceIte, Bool.false_eq_true, Bool.not_true, Bool.not_false, xwalk_tup, xwalk_ref]
        refine ⟨szl (by omega), szl (by omega), by omega, by omega, by omega, ?_, ?_⟩
        · simp only [List.length_flatten, List.map_replicate, List.sum_replicate_nat, List.length_cons, List.length_nil, Int.toNat_natCast]
          exact szl (by omega)
        refine eq_intF (by omega) ?_
        try simp only [dSeq, dAsg, dRet, dDrop, dIfS, dPar, dPar3, dgName, dgTup, dgCons, dgNil, dBin, dVar, dC, dCB, dCons, dNil, dB, dIf, dNeg, dTup, dLst, dCall, dFor, dIter, dRng1, dLc, dAppend, dNext, dAnd, dOr, dNot, dAndV, dNotV, dgSub, dSl, dPart, dNoPart, wipeD, dZip, dNewT, dNewK, sd1, sd2, sd3, sd4, List.getElem?_cons_succ, List.getElem?_cons_zero, Option.some.injEq, exists_eq_left', List.set_cons_succ, List.set_cons_zero, List.replicate_succ, List.replicate_zero, Nat.reduceAdd, Nat.reduceSub, xi_add, xt_add, xi_sub, xi_mod, xi_div, xi_cmp, xi_mul, xi_lt, xi_le, xsl_fz, xsl_tup, xsl_ref, xadd_ref, xmul_tup, xpow, xisnot_non, xis_non, xtup_ref, xtup_tup, xlen_tup, xlen_ref, xint_int, xabs_int, ix_t0, ix_t1, D.bl.injEq, D.int.injEq, D.tup.injEq, D.ref.injEq, List.length_cons, List.length_nil, List.cons.injEq, and_true, true_and, and_assoc, exists_and_left, x_tt, x_ft, reduceIte, Bool.false_eq_true, Bool.not_true, Bool.not_false, xwalk_tup, xwalk_ref]
        rw [Int.toNat_natCast]
        have z := fin (c0 :: List.replicate k 0) S2 o7 o8 o9 ⟨by simp, fun y hy => ?_⟩ (ExtB.refl m S2) (M2.mono (by omega))
        · unfold fmD at z
          rw [List.map_cons, ← flat_rep] at z
          exact z
        · rcases List.mem_cons.mp hy with rfl | hy
          · exact hf'.2 _ List.mem_cons_self
          · rw [List.eq_of_mem_replicate hy]; omega
      · simp only [dSeq, dAsg, dRet, dDrop, dIfS, dPar, dPar3, dgName, dgTup, dgCons, dgNil, dBin, dVar, dC, dCB, dCons, dNil, dB, dIf, dNeg, dTup, dLst, dCall, dFor, dIter, dRng1, dLc, dAppend, dNext, dAnd, dOr, dNot, dAndV, dNotV, dgSub, dSl, dPart, dNoPart, wipeD, dZip, dNewT, dNewK, sd1, sd2, sd3, sd4, List.getElem?_cons_succ, List.getElem?_cons_zero, Option.some.injEq, exists_eq_left', List.set_cons_succ, List.set_cons_zero, List.replicate_succ, List.replicate_zero, Nat.reduceAdd, Nat.reduceSub, xi_add, xt_add, xi_sub, xi_mod, xi_div, xi_cmp, xi_mul, xi_lt, xi_le, xsl_fz, xsl_tup, xsl_ref, xadd_ref, xmul_tup, xpow, xisnot_non, xis_non, xtup_ref, xtup_tup, xlen_tup, xlen_ref, xint_int, xabs_int, ix_t0, ix_t1, D.bl.injEq, D.int.injEq, D.tup.injEq, D.ref.injEq, List.length_cons, List.length_nil, List.cons.injEq, and_true, true_and, and_assoc, exists_and_left, x_tt, x_ft, reduceIte, Bool.false_eq_true, Bool.not_true, Bool.not_false, xwalk_tup, xwalk_ref, beq_eq_false_iff_ne.mpr hw1]
        refine eq_int ?_
        by_cases hw2 : w = 2
        · subst hw2
          simp only [dSeq, dAsg, dRet, dDrop, dIfS, dPar, dPar3, dgName, dgTup, dgCons, dgNil, dBin, dVar, dC, dCB, dCons, dNil, dB, dIf, dNeg, dTup, dLst, dCall, dFor, dIter, dRng1, dLc, dAppend, dNext, dAnd, dOr, dNot, dAndV, dNotV, dgSub, dSl, dPart, dNoPart, wipeD, dZip, dNewT, dNewK, sd1, sd2, sd3, sd4, List.getElem?_cons_succ, List.getElem?_cons_zero, Option.some.injEq, exists_eq_left', List.set_cons_succ, List.set_cons_zero, List.replicate_succ, List.replicate_zero, Nat.reduceAdd, Nat.reduceSub, xi_add, xt_add, xi_sub, xi_mod, xi_div, xi_cmp, xi_mul, xi_lt, xi_le, xsl_fz, xsl_tup, xsl_ref, xadd_ref, xmul_tup, xpow, xisnot_non, xis_non, xtup_ref, xtup_tup, xlen_tup, xlen_ref, xint_int, xabs_int, ix_t0, ix_t1, D.bl.injEq, D.int.injEq, D.tup.injEq, D.ref.injEq, List.length_cons, List.length_nil, List.cons.injEq, and_true, true_and, and_assoc, exists_and_left, x_tt, x_ft, reduceIte, Bool.false_eq_true, Bool.not_true, Bool.not_false, xwalk_tup, xwalk_ref, beq_self_eq_true]
          unfold fmD
          simp only [dSeq, dAsg, dRet, dDrop, dIfS, dPar, dPar3, dgName, dgTup, dgCons, dgNil, dBin, dVar, dC, dCB, dCons, dNil, dB, dIf, dNeg, dTup, dLst, dCall, dFor, dIter, dRng1, dLc, dAppend, dNext, dAnd, dOr, dNot, dAndV, dNotV, dgSub, dSl, dPart, dNoPart, wipeD, dZip, dNewT, dNewK, sd1, sd2, sd3, sd4, List.getElem?_cons_succ, List.getElem?_cons_zero, Option.some.injEq, exists_eq_left', List.set_cons_succ, List.set_cons_zero, List.replicate_succ, List.replicate_zero, Nat.reduceAdd, Nat.reduceSub, xi_add, xt_add, xi_sub, xi_mod, xi_div, xi_cmp, xi_mul, xi_lt, xi_le, xsl_fz, xsl_tup, xsl_ref, xadd_ref, xmul_tup, xpow, xisnot_non, xis_non, xtup_ref, xtup_tup, xlen_tup, xlen_ref, xint_int, xabs_int, ix_t0, ix_t1, D.bl.injEq, D.int.injEq, D.tup.injEq, D.ref.injEq, List.length_cons, List.length_nil, List.cons.injEq, and_true, true_and, and_assoc, exists_and_left, x_tt, x_ft, reduceIte, Bool.false_eq_true, Bool.not_true, Bool.not_false, xwalk_tup, xwalk_ref]
          intro p1 h1
          refine lc_map (enc := D.int) (f := fun x => .int (2 * x)) h1 (fun _ _ => trivial) (szl (by rw [hf.1]; omega)) (fun j S4 K1 hj x4 q1 => ?_) fun S4 x4 e4 => ?_
          · try simp only [dSeq, dAsg, dRet, dDrop, dIfS, dPar, dPar3, dgName, dgTup, dgCons, dgNil, dBin, dVar, dC, dCB, dCons, dNil, dB, dIf, dNeg, dTup, dLst, dCall, dFor, dIter, dRng1, dLc, dAppend, dNext, dAnd, dOr, dNot, dAndV, dNotV, dgSub, dSl, dPart, dNoPart, wipeD, dZip, dNewT, dNewK, sd1, sd2, sd3, sd4, List.getElem?_cons_succ, List.getElem?_cons_zero, Option.some.injEq, exists_eq_left', List.set_cons_succ, List.set_cons_zero, List.replicate_succ, List.replicate_zero, Nat.reduceAdd, Nat.reduceSub, xi_add, xt_add, xi_sub, xi_mod, xi_div, xi_cmp, xi_mul, xi_lt, xi_le, xsl_fz, xsl_tup, xsl_ref, xadd_ref, xmul_tup, xpow, xisnot_non, xis_non, xtup_ref, xtup_tup, xlen_tup, xlen_ref, xint_int, xabs_int, ix_t0, ix_t1, D.bl.injEq, D.int.injEq, D.tup.injEq, D.ref.injEq, List.length_cons, List.length_nil, List.cons.injEq, and_true, true_and, and_assoc, exists_and_left, x_tt, x_ft, reduceIte, Bool.false_eq_true, Bool.not_true, Bool.not_false, xwalk_tup, xwalk_ref]
            exact ⟨.l (by decide), q1 _ (Ext.refl _)⟩
          · try simp only [dSeq, dAsg, dRet, dDrop, dIfS, dPar, dPar3, dgName, dgTup, dgCons, dgNil, dBin, dVar, dC, dCB, dCons, dNil, dB, dIf, dNeg, dTup, dLst, dCall, dFor, dIter, dRng1, dLc, dAppend, dNext, dAnd, dOr, dNot, dAndV, dNotV, dgSub, dSl, dPart, dNoPart, wipeD, dZip, dNewT, dNewK, sd1, sd2, sd3, sd4, List.getElem?_cons_succ, List.getElem?_cons_zero, Option.some.injEq, exists_eq_left', List.set_cons_succ, List.set_cons_zero, List.replicate_succ, List.replicate_zero, Nat.reduceAdd, Nat.reduceSub, xi_add, xt_add, xi_sub, xi_mod, xi_div, xi_cmp, xi_mul, xi_lt, xi_le, xsl_fz, xsl_tup, xsl_ref, xadd_ref, xmul_tup, xpow, xisnot_non, xis_non, xtup_ref, xtup_tup, xlen_tup, xlen_ref, xint_int, xabs_int, ix_t0, ix_t1, D.bl.injEq, D.int.injEq, D.tup.injEq, D.ref.injEq, List.length_cons, List.length_nil, List.cons.injEq, and_true, true_and, and_assoc, exists_and_left, x_tt, x_ft, reduceIte, Bool.false_eq_true, Bool.not_true, Bool.not_false, xwalk_tup, xwalk_ref]
            refine ⟨_, e4, ?_⟩
            have z := fin (f.map (2 * ·)) S4 o7 o8 o9 ⟨by rw [List.length_map]; exact hf.1, fun y hy => ?_⟩ x4.but ((M2.ext x4).mono (by omega))
            · unfold fmD at z
              rw [List.map_map] at z
              exact z
            · obtain ⟨j, hj, rfl⟩ := List.mem_map.mp hy
              have := hf.2 j hj
              omega
        · simp only [dSeq, dAsg, dRet, dDrop, dIfS, dPar, dPar3, dgName, dgTup, dgCons, dgNil, dBin, dVar, dC, dCB, dCons, dNil, dB, dIf, dNeg, dTup, dLst, dCall, dFor, dIter, dRng1, dLc, dAppend, dNext, dAnd, dOr, dNot, dAndV, dNotV, dgSub, dSl, dPart, dNoPart, wipeD, dZip, dNewT, dNewK, sd1, sd2, sd3, sd4, List.getElem?_cons_succ, List.getElem?_cons_zero, Option.some.injEq, exists_eq_left', List.set_cons_succ, List.set_cons_zero, List.replicate_succ, List.replicate_zero, Nat.reduceAdd, Nat.reduceSub, xi_add, xt_add, xi_sub, xi_mod, xi_div, xi_cmp, xi_mul, xi_lt, xi_le, xsl_fz, xsl_tup, xsl_ref, xadd_ref, xmul_tup, xpow, xisnot_non, xis_non, xtup_ref, xtup_tup, xlen_tup, xlen_ref, xint_int, xabs_int, ix_t0, ix_t1, D.bl.injEq, D.int.injEq, D.tup.injEq, D.ref.injEq, List.length_cons, List.length_nil, List.cons.injEq, and_true, true_and, and_assoc, exists_and_left, x_tt, x_ft, reduceIte, Bool.false_eq_true, Bool.not_true, Bool.not_false, xwalk_tup, xwalk_ref, beq_eq_false_iff_ne.mpr hw2]
          exact fin f S2 _ _ _ hf' (ExtB.refl m S2) (M2.mono (by omega))
  · subst eσ
    try simp only [dSeq, dAsg, dRet, dDrop, dIfS, dPar, dPar3, dgName, dgTup, dgCons, dgNil, dBin, dVar, dC, dCB, dCons, dNil, dB, dIf, dNeg, dTup, dLst, dCall, dFor, dIter, dRng1, dLc, dAppend, dNext, dAnd, dOr, dNot, dAndV, dNotV, dgSub, dSl, dPart, dNoPart, wipeD, dZip, dNewT, dNewK, sd1, sd2, sd3, sd4, List.getElem?_cons_succ, List.getElem?_cons_zero, Option.some.injEq, exists_eq_left', List.set_cons_succ, List.set_cons_zero, List.replicate_succ, List.replicate_zero, Nat.reduceAdd, Nat.reduceSub, xi_add, xt_add, xi_sub, xi_mod, xi_div, xi_cmp, xi_mul, xi_lt, xi_le, xsl_fz, xsl_tup, xsl_ref, xadd_ref, xmul_tup, xpow, xisnot_non, xis_non, xtup_ref, xtup_tup, xlen_tup, xlen_ref, xint_int, xabs_int, ix_t0, ix_t1, D.bl.injEq, D.int.injEq, D.tup.injEq, D.ref.injEq, List.length_cons, List.length_nil, List.cons.injEq, and_true, true_and, and_assoc, exists_and_left, x_tt, x_ft, reduceIte, Bool.false_eq_true, Bool.not_true, Bool.not_false, xwalk_tup, xwalk_ref]
    exact ⟨_, hl, q l S' ll lo x (M'.mono (by omega))⟩
end LW

namespace LW
open PySem PySem.Spec PyProof.Rows L2 DL
/-! the plain law of putting in -/
theorem dot_add : ∀ {a b : List Int} (t : List Int), a.length = b.length → dot (List.zipWith (· + ·) a b) t = dot a t + dot b t
  | [], [], t, _ => by simp [dot]
  | x :: a, y :: b, [], _ => by simp [dot]
  | x :: a, y :: b, z :: t, h => by
    have ih := dot_add (a := a) (b := b) t (by simpa using h)
    rw [List.zipWith_cons_cons, dot, dot, dot, ih, Int.add_mul]
    omega
theorem dot_times (n : Int) : ∀ (a t : List Int), dot (a.map (n * ·)) t = n * dot a t
  | [], t => by simp [dot]
  | x :: a, [] => by simp [dot]
  | x :: a, z :: t => by
    rw [List.map_cons, dot, dot, dot_times n a t, Int.mul_add, Int.mul_assoc]
theorem dot_zero : ∀ (n : Nat) (t : List Int), dot (List.replicate n 0) t = 0
  | 0, t => by simp [dot]
  | n + 1, [] => by simp [List.replicate_succ, dot]
  | n + 1, z :: t => by rw [List.replicate_succ, dot, dot_zero n t]; omega
theorem fv_sum {a b : Fm} (t : List Int) (h : a.length = b.length) (h0 : 0 < a.length) : fv (sumFm a b) t = fv a t + fv b t := by
  cases a with
  | nil => simp at h0
  | cons x a =>
  cases b with
  | nil => simp at h
  | cons y b =>
    unfold sumFm
    rw [List.zipWith_cons_cons, fv, fv, fv, dot_add t (by simpa using h)]
    omega
theorem fv_times (n : Int) (f : Fm) (t : List Int) : fv (timesFm f n) t = n * fv f t := by
  cases f with
  | nil => simp [timesFm, fv]
  | cons x a =>
    unfold timesFm
    rw [List.map_cons, fv, fv, dot_times, Int.mul_add]
theorem fv_fold {n : Nat} (q : List Int) : ∀ {ps : List (Int × Fm)} {acc : Fm}, acc.length = n + 1 → (∀ p ∈ ps, p.2.length = n + 1) → fv (ps.foldl putStep acc) q = fv acc q + dot (ps.map (·.1)) (ps.map fun p => fv p.2 q)
  | [], acc, _, _ => by simp [dot]
  | p :: ps, acc, h, hp => by
    have hl := hp p List.mem_cons_self
    have h1 : (putStep acc p).length = n + 1 := put_len (ps := [p]) h fun r hr => by simp at hr; subst hr; exact hl
    have ih := fv_fold q (ps := ps) (acc := putStep acc p) h1 fun r hr => hp r (List.mem_cons_of_mem _ hr)
    rw [List.foldl_cons, ih, List.map_cons, List.map_cons, dot]
    have e : fv (putStep acc p) q = fv acc q + p.1 * fv p.2 q := by
      unfold putStep
      rw [fv_sum q (by unfold timesFm; rw [List.length_map, h, hl]) (by omega), fv_times]
    omega
theorem zip_fst {α β : Type} : ∀ {a : List α} {b : List β}, a.length = b.length → (a.zip b).map (·.1) = a
  | [], [], _ => rfl
  | x :: a, y :: b, h => by rw [List.zip_cons_cons, List.map_cons, zip_fst (by simpa using h)]
theorem zip_snd {α β γ : Type} (f : β → γ) : ∀ {a : List α} {b : List β}, a.length = b.length → ((a.zip b).map fun p => f p.2) = b.map f
  | [], [], _ => rfl
  | x :: a, y :: b, h => by rw [List.zip_cons_cons, List.map_cons, List.map_cons, zip_snd f (by simpa using h)]
theorem fv_put {f : Fm} {fs : List Fm} {n : Nat} (hf : f.length = fs.length + 1) (h : ∀ g ∈ fs, g.length = n + 1) (q : List Int) : fv (putFm f fs n) q = fv f (fs.map (fv · q)) := by
  cases f with
  | nil => simp at hf
  | cons c f =>
  have hl : f.length = fs.length := by simpa using hf
  unfold putFm
  rw [fv_fold q (n := n) (by simp) fun p hp => h _ (List.of_mem_zip hp).2]
  show fv (c :: List.replicate n 0) q + dot ((f.zip fs).map (·.1)) ((f.zip fs).map fun p => fv p.2 q) = c + dot f (fs.map (fv · q))
  rw [zip_fst hl, zip_snd (fun g => fv g q) hl, fv, dot_zero]
  omega
def TmIn (fs : List Fm) (t : Tm) : Prop := (∀ f ∈ t.rows, f.length = fs.length + 1) ∧ (∀ p ∈ t.gates, p.2.length = fs.length + 1) ∧ ∀ p ∈ t.steps, p.2.length = fs.length + 1
theorem all_congr' {α : Type} {f g : α → Bool} : ∀ {l : List α}, (∀ a ∈ l, f a = g a) → l.all f = l.all g
  | [], _ => rfl
  | a :: l, h => by rw [List.all_cons, List.all_cons, h a List.mem_cons_self, all_congr' fun b hb => h b (List.mem_cons_of_mem _ hb)]
theorem termOn_put {fs : List Fm} {n : Nat} {t : Tm} (ht : TmIn fs t) (h : ∀ g ∈ fs, g.length = n + 1) (q : List Int) : termOn (putTm fs n t) q = termOn t (fs.map (fv · q)) := by
  unfold termOn putTm
  simp only [List.all_map]
  congr 1
  · exact all_congr' fun f hf => by simp only [Function.comp]; rw [fv_put (ht.1 f hf) h]
  · exact all_congr' fun f hf => by simp only [Function.comp]; rw [fv_put (ht.2.1 f hf) h]
theorem stepsAt_put {fs : List Fm} {n : Nat} {t : Tm} (ht : TmIn fs t) (h : ∀ g ∈ fs, g.length = n + 1) (q : List Int) : stepsAt (putTm fs n t) q = stepsAt t (fs.map (fv · q)) := by
  unfold stepsAt putTm
  simp only [List.map_map]
  exact List.map_congr_left fun f hf => by simp only [Function.comp]; rw [fv_put (ht.2.2 f hf) h]
theorem worth_put {fs : List Fm} {n : Nat} (h : ∀ g ∈ fs, g.length = n + 1) (q : List Int) : ∀ {ts : List Tm}, (∀ t ∈ ts, TmIn fs t) → worthF (ts.map (putTm fs n)) q = worthF ts (fs.map (fv · q)) := by
  intro ts ht
  unfold worthF
  rw [List.foldl_map]
  have gen : ∀ (l : List Tm) (z : Fr), (∀ t ∈ l, TmIn fs t) → l.foldl (fun tot t => if termOn (putTm fs n t) q = true then plusF tot (polyF (putTm fs n t).poly (stepsAt (putTm fs n t) q)) else tot) z = l.foldl (fun tot t => if termOn t (fs.map (fv · q)) = true then plusF tot (polyF t.poly (stepsAt t (fs.map (fv · q)))) else tot) z := by
    intro l
    induction l with
    | nil => intro z _; rfl
    | cons t l ih =>
      intro z hl
      rw [List.foldl_cons, List.foldl_cons, ih _ fun r hr => hl r (List.mem_cons_of_mem _ hr), termOn_put (hl t List.mem_cons_self) h, stepsAt_put (hl t List.mem_cons_self) h]
      rfl
  exact gen ts _ ht
/-! bounds -/
theorem dot_b {B X : Nat} : ∀ {a t : List Int}, (∀ x ∈ a, x.natAbs ≤ B) → (∀ x ∈ t, x.natAbs ≤ X) → (dot a t).natAbs ≤ a.length * (B * X)
  | [], t, _, _ => by simp [dot]
  | x :: a, [], _, _ => by simp [dot]
  | x :: a, y :: t, ha, ht => by
    have ih := dot_b (a := a) (t := t) (fun z hz => ha z (List.mem_cons_of_mem _ hz)) fun z hz => ht z (List.mem_cons_of_mem _ hz)
    rw [dot, List.length_cons, Nat.succ_mul]
    have h1 := Int.natAbs_add_le (x * y) (dot a t)
    have h2 : (x * y).natAbs ≤ B * X := by rw [Int.natAbs_mul]; exact Nat.mul_le_mul (ha x List.mem_cons_self) (ht y List.mem_cons_self)
    omega
theorem fv_b {k B X : Nat} {f : Fm} {t : List Int} (hf : FmOk k B f) (ht : ∀ x ∈ t, x.natAbs ≤ X) : (fv f t).natAbs ≤ B + k * (B * X) := by
  cases f with
  | nil => have := hf.1; simp at this
  | cons c f =>
    have hl : f.length = k := by have := hf.1; simpa using this
    have a := dot_b (fun x hx => hf.2 x (List.mem_cons_of_mem _ hx)) ht
    have b := hf.2 c List.mem_cons_self
    have d := Int.natAbs_add_le c (dot f t)
    rw [hl] at a
    rw [fv]
    omega
theorem zipWith_mem : ∀ {a b : List Int} {c : Int}, c ∈ List.zipWith (· + ·) a b → ∃ x ∈ a, ∃ y ∈ b, c = x + y
  | [], _, _, h => by simp at h
  | _ :: _, [], _, h => by simp at h
  | x :: a, y :: b, c, h => by
    rw [List.zipWith_cons_cons] at h
    rcases List.mem_cons.mp h with h | h
    · exact ⟨x, List.mem_cons_self, y, List.mem_cons_self, h⟩
    · obtain ⟨x, hx, y, hy, e⟩ := zipWith_mem h
      exact ⟨x, List.mem_cons_of_mem _ hx, y, List.mem_cons_of_mem _ hy, e⟩
theorem fold_b {B C : Nat} : ∀ {ps : List (Int × Fm)} {acc : Fm} {A : Nat}, (∀ c ∈ acc, c.natAbs ≤ A) → (∀ p ∈ ps, p.1.natAbs ≤ B ∧ ∀ c ∈ p.2, c.natAbs ≤ C) → ∀ c ∈ ps.foldl putStep acc, c.natAbs ≤ A + ps.length * (B * C)
  | [], acc, A, h, _ => fun c hc => by have := h c hc; omega
  | p :: ps, acc, A, h, hp => fun c hc => by
    have ih := fold_b (ps := ps) (acc := putStep acc p) (A := A + B * C) (fun d hd => ?_) (fun r hr => hp r (List.mem_cons_of_mem _ hr)) c hc
    · rw [List.length_cons, Nat.succ_mul]
      omega
    · obtain ⟨x, hx, y, hy, e⟩ := zipWith_mem hd
      obtain ⟨z, hz, ez⟩ := List.mem_map.mp hy
      have P := hp p List.mem_cons_self
      have h1 := h x hx
      have h2 : y.natAbs ≤ B * C := by rw [← ez, Int.natAbs_mul]; exact Nat.mul_le_mul P.1 (P.2 z hz)
      have h3 := Int.natAbs_add_le x y
      rw [e]
      omega
theorem putFm_ok {k n B C : Nat} {f : Fm} {fs : List Fm} (hf : FmOk k B f) (hl : fs.length = k) (h : ∀ g ∈ fs, FmOk n C g) : FmOk n (B + k * (B * C)) (putFm f fs n) := by
  refine ⟨put_len (by simp) fun p hp => (h _ (List.of_mem_zip hp).2).1, ?_⟩
  cases f with
  | nil => have := hf.1; simp at this
  | cons c f =>
  intro d hd
  have hl' : f.length = k := by have := hf.1; simpa using this
  have z := fold_b (B := B) (C := C) (A := B) (ps := f.zip fs) (acc := c :: List.replicate n 0) (fun x hx => ?_) (fun p hp => ?_) d hd
  · rw [List.length_zip, hl', hl, Nat.min_self] at z
    exact z
  · rcases List.mem_cons.mp hx with rfl | hx
    · exact hf.2 _ List.mem_cons_self
    · rw [List.eq_of_mem_replicate hx]; simp
  · have m := List.of_mem_zip hp
    exact ⟨hf.2 _ (List.mem_cons_of_mem _ m.1), (h _ m.2).2⟩
theorem putTm_ok {k n B C nb db eb jb : Nat} {t : Tm} {fs : List Fm} (ht : TmOk k B nb db eb jb t) (hl : fs.length = k) (h : ∀ g ∈ fs, FmOk n C g) : TmOk n (B + k * (B * C)) nb db eb jb (putTm fs n t) := by
  refine ⟨fun f hf => ?_, fun p hp => ?_, fun p hp => ?_, ?_, ?_, ?_, ?_⟩
  · obtain ⟨g, hg, rfl⟩ := List.mem_map.mp hf
    exact putFm_ok (ht.rows g hg) hl h
  · obtain ⟨g, hg, rfl⟩ := List.mem_map.mp hp
    have G := ht.gates g hg
    exact ⟨G.lo, G.hi, putFm_ok G.fm hl h⟩
  · obtain ⟨g, hg, rfl⟩ := List.mem_map.mp hp
    have G := ht.steps g hg
    exact ⟨G.lo, G.hi, putFm_ok G.fm hl h⟩
  · show (t.rows.map _).length ≤ 100; rw [List.length_map]; exact ht.rl
  · show (t.gates.map _).length ≤ 100; rw [List.length_map]; exact ht.gl
  · show (t.steps.map _).length ≤ 100; rw [List.length_map]; exact ht.sl
  · show PoOk (t.steps.map _).length nb db eb jb t.poly
    rw [List.length_map]
    exact ht.poly
theorem TmOk.mono {k B nb db eb jb B' nb' db' : Nat} {t : Tm} (h : TmOk k B nb db eb jb t) (hB : B ≤ B') (hn : nb ≤ nb') (hd : db ≤ db') : TmOk k B' nb' db' eb jb t :=
  ⟨fun f hf => (h.rows f hf).mono hB, fun p hp => have G := h.gates p hp; ⟨G.lo, G.hi, G.fm.mono hB⟩, fun p hp => have G := h.steps p hp; ⟨G.lo, G.hi, G.fm.mono hB⟩, h.rl, h.gl, h.sl,
    ⟨fun q hq => have G := h.poly.mo q hq; ⟨G.fr, Nat.le_trans G.num hn, Nat.le_trans G.den hd, G.len, G.nn, G.sum⟩, h.poly.len, h.poly.asc⟩⟩
/-! like -/
theorem len_Llike : ∀ ds S Q, sp_Llike ds S Q → ds.length = p_Llike.length := fun ds S Q ⟨_, _, _, e, _⟩ => by subst e; rfl
theorem run_Llike {ds : List D} {S : Stt} {Q : DK} (h : sp_Llike ds S Q) : t_Llike { nx := fun _ S2 => Q .non S2, rt := Q } (startD n_Llike ds) S := by
  obtain ⟨d, e, p, rfl, h1, h2, hs, hd, hl, hp, ho, i1, i2, q⟩ := h
  unfold t_Llike
  simp only [dSeq, dAsg, dRet, dDrop, dIfS, dPar, dPar3, dgName, dgTup, dgCons, dgNil, dBin, dVar, dC, dCB, dCons, dNil, dB, dIf, dNeg, dTup, dLst, dCall, dFor, dIter, dRng1, dLc, dAppend, dNext, dAnd, dOr, dNot, dAndV, dNotV, dgSub, dSl, dPart, dNoPart, wipeD, dZip, dNewT, dNewK, sd1, sd2, sd3, sd4, List.getElem?_cons_succ, List.getElem?_cons_zero, Option.some.injEq, exists_eq_left', List.set_cons_succ, List.set_cons_zero, List.replicate_succ, List.replicate_zero, Nat.reduceAdd, Nat.reduceSub, xi_add, xt_add, xi_sub, xi_mod, xi_div, xi_cmp, xi_mul, xi_lt, xi_le, xsl_fz, xsl_tup, xsl_ref, xadd_ref, xmul_tup, xpow, xisnot_non, xis_non, xtup_ref, xtup_tup, xlen_tup, xlen_ref, xint_int, xabs_int, ix_t0, ix_t1, D.bl.injEq, D.int.injEq, D.tup.injEq, D.ref.injEq, List.length_cons, List.length_nil, List.cons.injEq, and_true, true_and, and_assoc, exists_and_left, x_tt, x_ft, reduceIte, Bool.false_eq_true, Bool.not_true, Bool.not_false, xwalk_tup, xwalk_ref]
  refine ⟨d, p, rfl, h1, hs, hd, hl, hp, i1, e, p, rfl, h2, hs, hd, hl, hp, i2, ?_⟩
  refine eq_of_py (.str _) (.str _) (by simp [SeqAt.shaped, PyData.canLay0, PyData.depth, ho]) (by simp [SeqAt.shaped, PyData.canLay0, PyData.depth, ho]) (b := true) (by simp [PyData.eqv]) q
theorem ok_app {a b : Str} (h : PyData.strOk a = true) (g : PyData.strOk b = true) : PyData.strOk (a ++ b) = true := by
  have e : PyData.strOk (a ++ b) = (PyData.strOk a && PyData.strOk b) := by
    show (a.cps ++ b.cps).all _ = _
    rw [Array.all_append]
    rfl
  rw [e, h, g]
  rfl
theorem ok_of (s : String) : PyData.strOk (Str.ofString s) = true := by
  unfold PyData.strOk
  rw [Str.ofString_eq_toList]
  simp only [List.all_toArray, List.all_map, List.all_eq_true, Function.comp, decide_eq_true_eq]
  intro c _
  have h := c.valid
  have e : c.toNat = c.val.toNat := rfl
  rcases h with h | ⟨_, h⟩ <;> omega
theorem ok_join : ∀ {ts : List Str}, (∀ t ∈ ts, PyData.strOk t = true) → PyData.strOk (Str.join ", " ts) = true
  | [], _ => by simp [Str.join, PyData.strOk, Str.empty]
  | [x], h => h x (by simp)
  | x :: y :: r, h => ok_app (ok_app (h x (by simp)) (ok_of ", ")) (ok_join (ts := y :: r) fun t ht => h t (List.mem_cons_of_mem _ ht))
theorem ok_tup {ts : List Str} (h : ∀ t ∈ ts, PyData.strOk t = true) : PyData.strOk (PySem.tupleText ts) = true := by
  unfold PySem.tupleText
  refine ok_app (ok_app (ok_of "(") (ok_join h)) ?_
  split <;> exact ok_of _
theorem log_of {a n : Nat} (h : a ≤ 2 ^ n) (hn : n < 1900) : a.log2 < 1920 := Nat.lt_of_lt_of_le (PySem.Flt.log2_lt_of (k := n + 1) (by omega) (Nat.lt_of_le_of_lt h (Nat.pow_lt_pow_right (by omega) (by omega)))) (by omega)
theorem shown_int {i : Int} (h : i.natAbs.log2 < 1920) : (PyData.int i).shown.length ≤ 1921 := by
  unfold PyData.shown
  have := PySem.int_text_length_le (a := i) (k := 1920) (by omega) h
  rw [PySem.ofString_length]
  exact this
theorem like_fr {f : Fr} {n d : Nat} {S : Stt} {Q : DK} (h : FrB n d f) (hn : n < 1900) (hd : d < 1900) (q : Q (.bl true) S) : sp_Llike [frD f, frD f] S Q := by
  have a := log_of h.1 hn
  have b := log_of h.2.2 hd
  refine ⟨_, _, .tuple [.int f.1, .int f.2], rfl, .tup (.cons (.int _) (.cons (.int _) .nil)), .tup (.cons (.int _) (.cons (.int _) .nil)), ?_, ?_, ?_, ?_, ?_, rfl, rfl, q⟩
  · simp [PyData.showable, PyData.showableAll, a, b]
  · simp [PyData.hasDict, PyData.hasDictAll]
  · simp only [PyData.shown, PyData.shownAll]
    have z := PySem.tupleText_len_le [(toString f.1 : Str), (toString f.2 : Str)]
    have e1 := shown_int a
    have e2 := shown_int b
    simp only [PyData.shown] at e1 e2
    simp only [List.map_cons, List.map_nil, List.sum_cons, List.sum_nil, List.length_cons, List.length_nil] at z
    exact szl (by omega)
  · simp [PyData.depth, PyData.depthAll]
  · simp only [PyData.shown, PyData.shownAll]
    exact ok_tup fun t ht => by
      simp only [List.mem_cons, List.not_mem_nil, or_false] at ht
      rcases ht with rfl | rfl <;> exact ok_of _
end LW

namespace LW
open PySem PySem.Spec PyProof.Rows L2 DL
theorem tmIn {k B nb db eb jb : Nat} {t : Tm} {fs : List Fm} (h : TmOk k B nb db eb jb t) (hl : fs.length = k) : TmIn fs t := ⟨fun f hf => by rw [(h.rows f hf).1, hl], fun p hp => by rw [(h.gates p hp).fm.1, hl], fun p hp => by rw [(h.steps p hp).fm.1, hl]⟩
theorem inOk {k B : Nat} {f : Fm} {fs : List Fm} (h : FmOk k B f) (hl : fs.length = k) (hB : B < 2 ^ 60) : InOk fs f := ⟨by rw [h.1, hl], fun c hc => Nat.lt_of_le_of_lt (h.2 c hc) hB⟩
theorem wok {k B X nb db eb jb : Nat} {ts : List Tm} {p : List Int} (h : ∀ t ∈ ts, TmOk k B nb db eb jb t) (hk : k ≤ 3) (hB : B ≤ 20000) (hp : p.length = k) (hX : ∀ x ∈ p, x.natAbs ≤ X) (hX2 : X ≤ 20000000000000) (hn : nb ≤ 16) (hd : db ≤ 8) (he : eb ≤ 3) (hj : jb ≤ 3) (hl : ts.length ≤ 5) : WOk k B 4 3 eb jb 62 ts p := by
  refine ⟨fun t ht => (h t ht).mono (Nat.le_refl _) hn hd, by omega, hp, by omega, fun t ht s hs => ?_, by omega, by omega, by omega, by omega, hl⟩
  have z := fv_b ((h t ht).steps s hs).fm hX
  have z1 : B * X ≤ 20000 * 20000000000000 := Nat.mul_le_mul hB hX2
  have z2 : k * (B * X) ≤ 3 * (20000 * 20000000000000) := Nat.mul_le_mul hk z1
  omega
theorem worth_fr {k B nb db eb jb vb : Nat} {ts : List Tm} {p : List Int} (h : WOk k B nb db eb jb vb ts p) : FrB 1605 500 (worthF ts p) := by
  have z := h.worth ts.length
  rw [List.take_length] at z
  have := h.n5
  exact z.weak (by omega) (by omega)
theorem vals_b {c n : Nat} {fs : List Fm} {q : List Int} {X : Nat} (hf : ∀ f ∈ fs, FmOk n 12 f) (hq : ∀ x ∈ q, x.natAbs ≤ X) (hn : n ≤ 3) : ∀ x ∈ fs.map (fv · q), x.natAbs ≤ 12 + 36 * X := by
  intro x hx
  obtain ⟨f, hf', rfl⟩ := List.mem_map.mp hx
  have z := fv_b (hf f hf') hq
  have z1 : n * (12 * X) ≤ 3 * (12 * X) := Nat.mul_le_mul_right _ hn
  omega
theorem len_law : ∀ ds S Q, sp_law ds S Q → ds.length = p_law.length := fun ds S Q ⟨_, e, _⟩ => by subst e; rfl
theorem run_law {ds : List D} {S : Stt} {Q : DK} (h : sp_law ds S Q) : t_law { nx := fun _ S2 => Q .non S2, rt := Q } (startD n_law ds) S := by
  obtain ⟨ns, rfl, hns, q⟩ := h
  unfold t_law
  simp only [dSeq, dAsg, dRet, dDrop, dIfS, dPar, dPar3, dgName, dgTup, dgCons, dgNil, dBin, dVar, dC, dCB, dCons, dNil, dB, dIf, dNeg, dTup, dLst, dCall, dFor, dIter, dRng1, dLc, dAppend, dNext, dAnd, dOr, dNot, dAndV, dNotV, dgSub, dSl, dPart, dNoPart, wipeD, dZip, dNewT, dNewK, sd1, sd2, sd3, sd4, List.getElem?_cons_succ, List.getElem?_cons_zero, Option.some.injEq, exists_eq_left', List.set_cons_succ, List.set_cons_zero, List.replicate_succ, List.replicate_zero, Nat.reduceAdd, Nat.reduceSub, xi_add, xt_add, xi_sub, xi_mod, xi_div, xi_cmp, xi_mul, xi_lt, xi_le, xsl_fz, xsl_tup, xsl_ref, xadd_ref, xmul_tup, xpow, xisnot_non, xis_non, xtup_ref, xtup_tup, xlen_tup, xlen_ref, xint_int, xabs_int, ix_t0, ix_t1, D.bl.injEq, D.int.injEq, D.tup.injEq, D.ref.injEq, List.length_cons, List.length_nil, List.cons.injEq, and_true, true_and, and_assoc, exists_and_left, x_tt, x_ft, reduceIte, Bool.false_eq_true, Bool.not_true, Bool.not_false, xwalk_tup, xwalk_ref]
  refine ⟨by omega, by omega, ?_⟩
  refine for_rng (fun i σ S' => ∃ o1 o2 o3 o4 o5 o6 o7 o8 o9 o10 o11 o12 o13, σ = [some (.fz (ns.map D.int)), o1, o2, o3, o4, o5, o6, o7, o8, o9, o10, o11, o12, o13]) ⟨_, _, _, _, _, _, _, _, _, _, _, _, _, rfl⟩ (fun _ => trivial) (fun i σ S0 N hi ⟨o1, o2, o3, o4, o5, o6, o7, o8, o9, o10, o11, o12, o13, eσ⟩ hN => ?_) fun σ S' ⟨o1, o2, o3, o4, o5, o6, o7, o8, o9, o10, o11, o12, o13, eσ⟩ => ?_
  · subst eσ
    have hi3 : i < 3 := by omega
    simp only [dSeq, dAsg, dRet, dDrop, dIfS, dPar, dPar3, dgName, dgTup, dgCons, dgNil, dBin, dVar, dC, dCB, dCons, dNil, dB, dIf, dNeg, dTup, dLst, dCall, dFor, dIter, dRng1, dLc, dAppend, dNext, dAnd, dOr, dNot, dAndV, dNotV, dgSub, dSl, dPart, dNoPart, wipeD, dZip, dNewT, dNewK, sd1, sd2, sd3, sd4, List.getElem?_cons_succ, List.getElem?_cons_zero, Option.some.injEq, exists_eq_left', List.set_cons_succ, List.set_cons_zero, List.replicate_succ, List.replicate_zero, Nat.reduceAdd, Nat.reduceSub, xi_add, xt_add, xi_sub, xi_mod, xi_div, xi_cmp, xi_mul, xi_lt, xi_le, xsl_fz, xsl_tup, xsl_ref, xadd_ref, xmul_tup, xpow, xisnot_non, xis_non, xtup_ref, xtup_tup, xlen_tup, xlen_ref, xint_int, xabs_int, ix_t0, ix_t1, D.bl.injEq, D.int.injEq, D.tup.injEq, D.ref.injEq, List.length_cons, List.length_nil, List.cons.injEq, and_true, true_and, and_assoc, exists_and_left, x_tt, x_ft, reduceIte, Bool.false_eq_true, Bool.not_true, Bool.not_false, xwalk_tup, xwalk_ref]
    refine ⟨ns, i, rfl, hns, by omega, by omega, fun m S1 x1 hm M1 => ?_⟩
    have dr : ∀ {b : Nat} {n : Nat} {S : Stt} {K : DK}, 0 < b → b ≤ 100 → MOk S m n → n ≤ 1000000 → (∀ (r : Nat) S', r < b → ExtB m S S' → MOk S' m (n + 1) → K (.int r) S') → sp_Ldraw [.ref m, .int b] S K := fun {b n S K} b0 b1 M hn hK => ⟨m, b, n, rfl, by omega, lt8000 (Nat.lt_of_le_of_lt (show (b : Int).natAbs ≤ 100 by omega) (by decide)), M, by unfold dmax; omega, fun r S' r0 r1 x M' => by
      obtain ⟨j, rfl⟩ : ∃ j : Nat, r = j := ⟨r.toNat, by omega⟩
      exact hK j S' (by omega) x M'⟩
    refine dr (b := 4) (by omega) (by omega) M1 (by omega) fun k S2 hk x2 M2 => ?_
    refine dr (b := 4) (by omega) (by omega) M2 (by omega) fun many S3 hmany x3 M3 => ?_
    refine dr (b := 4) (by omega) (by omega) M3 (by omega) fun further S4 hfur x4 M4 => ?_
    try simp only [dSeq, dAsg, dRet, dDrop, dIfS, dPar, dPar3, dgName, dgTup, dgCons, dgNil, dBin, dVar, dC, dCB, dCons, dNil, dB, dIf, dNeg, dTup, dLst, dCall, dFor, dIter, dRng1, dLc, dAppend, dNext, dAnd, dOr, dNot, dAndV, dNotV, dgSub, dSl, dPart, dNoPart, wipeD, dZip, dNewT, dNewK, sd1, sd2, sd3, sd4, List.getElem?_cons_succ, List.getElem?_cons_zero, Option.some.injEq, exists_eq_left', List.set_cons_succ, List.set_cons_zero, List.replicate_succ, List.replicate_zero, Nat.reduceAdd, Nat.reduceSub, xi_add, xt_add, xi_sub, xi_mod, xi_div, xi_cmp, xi_mul, xi_lt, xi_le, xsl_fz, xsl_tup, xsl_ref, xadd_ref, xmul_tup, xpow, xisnot_non, xis_non, xtup_ref, xtup_tup, xlen_tup, xlen_ref, xint_int, xabs_int, ix_t0, ix_t1, D.bl.injEq, D.int.injEq, D.tup.injEq, D.ref.injEq, List.length_cons, List.length_nil, List.cons.injEq, and_true, true_and, and_assoc, exists_and_left, x_tt, x_ft, reduceIte, Bool.false_eq_true, Bool.not_true, Bool.not_false, xwalk_tup, xwalk_ref]
    refine ⟨m, k, _, rfl, by omega, M4, by unfold dmax; omega, fun ts S5 hts tl x5 M5 => ?_⟩
    refine ⟨m, k, many, _, rfl, by omega, by omega, M5, by unfold dmax; omega, fun fs S6 fl hfs x6 M6 => ?_⟩
    have P1 : PutOk fs many := ⟨by omega, by omega, fun f hf => (hfs f hf).1⟩
    have hgl : ∀ f ∈ fs, f.length = many + 1 := fun f hf => (hfs f hf).1
    have T0 : ∀ t ∈ ts, TmOk k 9 9 6 3 3 t := fun t ht => (hts t ht).1
    refine ⟨ts, fs, many, rfl, P1, fun t ht => ?_, by omega, fun S7 x7 => ?_⟩
    · have T := T0 t ht
      exact ⟨fun f hf => inOk (T.rows f hf) fl (by decide), fun p hp => inOk (T.gates p hp).fm fl (by decide), fun p hp => inOk (T.steps p hp).fm fl (by decide), Nat.le_trans T.rl (by omega), Nat.le_trans T.gl (by omega), Nat.le_trans T.sl (by omega)⟩
    try simp only [dSeq, dAsg, dRet, dDrop, dIfS, dPar, dPar3, dgName, dgTup, dgCons, dgNil, dBin, dVar, dC, dCB, dCons, dNil, dB, dIf, dNeg, dTup, dLst, dCall, dFor, dIter, dRng1, dLc, dAppend, dNext, dAnd, dOr, dNot, dAndV, dNotV, dgSub, dSl, dPart, dNoPart, wipeD, dZip, dNewT, dNewK, sd1, sd2, sd3, sd4, List.getElem?_cons_succ, List.getElem?_cons_zero, Option.some.injEq, exists_eq_left', List.set_cons_succ, List.set_cons_zero, List.replicate_succ, List.replicate_zero, Nat.reduceAdd, Nat.reduceSub, xi_add, xt_add, xi_sub, xi_mod, xi_div, xi_cmp, xi_mul, xi_lt, xi_le, xsl_fz, xsl_tup, xsl_ref, xadd_ref, xmul_tup, xpow, xisnot_non, xis_non, xtup_ref, xtup_tup, xlen_tup, xlen_ref, xint_int, xabs_int, ix_t0, ix_t1, D.bl.injEq, D.int.injEq, D.tup.injEq, D.ref.injEq, List.length_cons, List.length_nil, List.cons.injEq, and_true, true_and, and_assoc, exists_and_left, x_tt, x_ft, reduceIte, Bool.false_eq_true, Bool.not_true, Bool.not_false, xwalk_tup, xwalk_ref]
    have M7 := M6.ext x7
    generalize htold : ts.map (putTm fs many) = told
    have toldl : told.length ≤ 3 := by rw [← htold, List.length_map]; exact tl
    have T1 : ∀ t ∈ told, TmOk many 333 9 6 3 3 t := fun t ht => by
      rw [← htold] at ht
      obtain ⟨t0, h0, rfl⟩ := List.mem_map.mp ht
      refine (putTm_ok (T0 t0 h0) fl hfs).mono ?_ (Nat.le_refl _) (Nat.le_refl _)
      have z : k * (9 * 12) ≤ 3 * (9 * 12) := Nat.mul_le_mul_right _ (by omega)
      omega
    have W1 : ∀ q : List Int, worthF told q = worthF ts (fs.map (fv · q)) := fun q => by rw [← htold]; exact worth_put hgl q fun t ht => tmIn (T0 t ht) fl
    refine ⟨told, many, 333, 9, 6, 3, 3, rfl, T1, by omega, by omega, by omega, fun S8 x8 => ?_⟩
    have M8 := M7.ext x8
    simp only [dSeq, dAsg, dRet, dDrop, dIfS, dPar, dPar3, dgName, dgTup, dgCons, dgNil, dBin, dVar, dC, dCB, dCons, dNil, dB, dIf, dNeg, dTup, dLst, dCall, dFor, dIter, dRng1, dLc, dAppend, dNext, dAnd, dOr, dNot, dAndV, dNotV, dgSub, dSl, dPart, dNoPart, wipeD, dZip, dNewT, dNewK, sd1, sd2, sd3, sd4, List.getElem?_cons_succ, List.getElem?_cons_zero, Option.some.injEq, exists_eq_left', List.set_cons_succ, List.set_cons_zero, List.replicate_succ, List.replicate_zero, Nat.reduceAdd, Nat.reduceSub, xi_add, xt_add, xi_sub, xi_mod, xi_div, xi_cmp, xi_mul, xi_lt, xi_le, xsl_fz, xsl_tup, xsl_ref, xadd_ref, xmul_tup, xpow, xisnot_non, xis_non, xtup_ref, xtup_tup, xlen_tup, xlen_ref, xint_int, xabs_int, ix_t0, ix_t1, D.bl.injEq, D.int.injEq, D.tup.injEq, D.ref.injEq, List.length_cons, List.length_nil, List.cons.injEq, and_true, true_and, and_assoc, exists_and_left, x_tt, x_ft, reduceIte, Bool.false_eq_true, Bool.not_true, Bool.not_false, xwalk_tup, xwalk_ref, isNonD]
    refine ⟨m, many, 6, _, rfl, by omega, by omega, M8, by unfold dmax; omega, fun a ps S9 hps pl x9 _ M9 hs9 => ?_⟩
    try simp only [dSeq, dAsg, dRet, dDrop, dIfS, dPar, dPar3, dgName, dgTup, dgCons, dgNil, dBin, dVar, dC, dCB, dCons, dNil, dB, dIf, dNeg, dTup, dLst, dCall, dFor, dIter, dRng1, dLc, dAppend, dNext, dAnd, dOr, dNot, dAndV, dNotV, dgSub, dSl, dPart, dNoPart, wipeD, dZip, dNewT, dNewK, sd1, sd2, sd3, sd4, List.getElem?_cons_succ, List.getElem?_cons_zero, Option.some.injEq, exists_eq_left', List.set_cons_succ, List.set_cons_zero, List.replicate_succ, List.replicate_zero, Nat.reduceAdd, Nat.reduceSub, xi_add, xt_add, xi_sub, xi_mod, xi_div, xi_cmp, xi_mul, xi_lt, xi_le, xsl_fz, xsl_tup, xsl_ref, xadd_ref, xmul_tup, xpow, xisnot_non, xis_non, xtup_ref, xtup_tup, xlen_tup, xlen_ref, xint_int, xabs_int, ix_t0, ix_t1, D.bl.injEq, D.int.injEq, D.tup.injEq, D.ref.injEq, List.length_cons, List.length_nil, List.cons.injEq, and_true, true_and, and_assoc, exists_and_left, x_tt, x_ft, reduceIte, Bool.false_eq_true, Bool.not_true, Bool.not_false, xwalk_tup, xwalk_ref]
    refine ⟨_, hs9, ?_⟩
    refine for_map (enc := fmD) (as := ps) (fun j σ S' => Ext S9 S' ∧ ∃ o9 o10 o11 o12 o13, σ = [some (.fz (ns.map D.int)), some (.int (i : Nat)), some (.ref m), some (.int k), some (.int many), some (.int further), some (taD ts), some (.tup (fs.map fmD)), some (taD told), o9, o10, o11, o12, o13]) ⟨Ext.refl _, _, _, _, _, _, rfl⟩ (fun j σ S' ⟨x, _⟩ => x _ _ hs9) (fun j q1 σ S10 N2 e ⟨x10, o9, o10, o11, o12, o13, eσ⟩ hN2 => ?_) fun σ S10 ⟨x10, o9, o10, o11, o12, o13, eσ⟩ => ?_
    · subst eσ
      have hq := hps q1 (List.mem_of_getElem? e)
      have hqb : ∀ x ∈ q1, x.natAbs ≤ 1073741824 := fun x hx => Nat.le_of_lt (hq.2 x hx)
      try simp only [dSeq, dAsg, dRet, dDrop, dIfS, dPar, dPar3, dgName, dgTup, dgCons, dgNil, dBin, dVar, dC, dCB, dCons, dNil, dB, dIf, dNeg, dTup, dLst, dCall, dFor, dIter, dRng1, dLc, dAppend, dNext, dAnd, dOr, dNot, dAndV, dNotV, dgSub, dSl, dPart, dNoPart, wipeD, dZip, dNewT, dNewK, sd1, sd2, sd3, sd4, List.getElem?_cons_succ, List.getElem?_cons_zero, Option.some.injEq, exists_eq_left', List.set_cons_succ, List.set_cons_zero, List.replicate_succ, List.replicate_zero, Nat.reduceAdd, Nat.reduceSub, xi_add, xt_add, xi_sub, xi_mod, xi_div, xi_cmp, xi_mul, xi_lt, xi_le, xsl_fz, xsl_tup, xsl_ref, xadd_ref, xmul_tup, xpow, xisnot_non, xis_non, xtup_ref, xtup_tup, xlen_tup, xlen_ref, xint_int, xabs_int, ix_t0, ix_t1, D.bl.injEq, D.int.injEq, D.tup.injEq, D.ref.injEq, List.length_cons, List.length_nil, List.cons.injEq, and_true, true_and, and_assoc, exists_and_left, x_tt, x_ft, reduceIte, Bool.false_eq_true, Bool.not_true, Bool.not_false, xwalk_tup, xwalk_ref]
      intro p1 h1
      refine lc_map (enc := fmD) (f := fun f => .int (fv f q1)) h1 (fun _ _ => trivial) (szl (by omega)) (fun f S11 K1 hf x11 q1' => ?_) fun S11 x11 e11 => ?_
      · try simp only [dSeq, dAsg, dRet, dDrop, dIfS, dPar, dPar3, dgName, dgTup, dgCons, dgNil, dBin, dVar, dC, dCB, dCons, dNil, dB, dIf, dNeg, dTup, dLst, dCall, dFor, dIter, dRng1, dLc, dAppend, dNext, dAnd, dOr, dNot, dAndV, dNotV, dgSub, dSl, dPart, dNoPart, wipeD, dZip, dNewT, dNewK, sd1, sd2, sd3, sd4, List.getElem?_cons_succ, List.getElem?_cons_zero, Option.some.injEq, exists_eq_left', List.set_cons_succ, List.set_cons_zero, List.replicate_succ, List.replicate_zero, Nat.reduceAdd, Nat.reduceSub, xi_add, xt_add, xi_sub, xi_mod, xi_div, xi_cmp, xi_mul, xi_lt, xi_le, xsl_fz, xsl_tup, xsl_ref, xadd_ref, xmul_tup, xpow, xisnot_non, xis_non, xtup_ref, xtup_tup, xlen_tup, xlen_ref, xint_int, xabs_int, ix_t0, ix_t1, D.bl.injEq, D.int.injEq, D.tup.injEq, D.ref.injEq, List.length_cons, List.length_nil, List.cons.injEq, and_true, true_and, and_assoc, exists_and_left, x_tt, x_ft, reduceIte, Bool.false_eq_true, Bool.not_true, Bool.not_false, xwalk_tup, xwalk_ref]
        exact ⟨f, q1, rfl, by rw [hgl f hf, hq.1], by omega, fun c hc => Nat.lt_of_le_of_lt ((hfs f hf).2 c hc) (by decide), q1'⟩
      try simp only [dSeq, dAsg, dRet, dDrop, dIfS, dPar, dPar3, dgName, dgTup, dgCons, dgNil, dBin, dVar, dC, dCB, dCons, dNil, dB, dIf, dNeg, dTup, dLst, dCall, dFor, dIter, dRng1, dLc, dAppend, dNext, dAnd, dOr, dNot, dAndV, dNotV, dgSub, dSl, dPart, dNoPart, wipeD, dZip, dNewT, dNewK, sd1, sd2, sd3, sd4, List.getElem?_cons_succ, List.getElem?_cons_zero, Option.some.injEq, exists_eq_left', List.set_cons_succ, List.set_cons_zero, List.replicate_succ, List.replicate_zero, Nat.reduceAdd, Nat.reduceSub, xi_add, xt_add, xi_sub, xi_mod, xi_div, xi_cmp, xi_mul, xi_lt, xi_le, xsl_fz, xsl_tup, xsl_ref, xadd_ref, xmul_tup, xpow, xisnot_non, xis_non, xtup_ref, xtup_tup, xlen_tup, xlen_ref, xint_int, xabs_int, ix_t0, ix_t1, D.bl.injEq, D.int.injEq, D.tup.injEq, D.ref.injEq, List.length_cons, List.length_nil, List.cons.injEq, and_true, true_and, and_assoc, exists_and_left, x_tt, x_ft, reduceIte, Bool.false_eq_true, Bool.not_true, Bool.not_false, xwalk_tup, xwalk_ref]
      refine ⟨_, e11, ?_⟩
      have wa : WOk many 333 4 3 3 3 62 told q1 := wok T1 (by omega) (by omega) hq.1 hqb (by omega) (by omega) (by omega) (by omega) (by omega) (by omega)
      have wb : WOk k 9 4 3 3 3 62 ts (fs.map (fv · q1)) := wok T0 (by omega) (by omega) (by rw [List.length_map]; exact fl) (vals_b (c := 0) hfs hqb (by omega)) (by omega) (by omega) (by omega) (by omega) (by omega) (by omega)
      refine ⟨told, q1, _, _, _, _, _, _, _, rfl, wa, fun S12 x12 => ?_⟩
      refine ⟨ts, fs.map (fv · q1), _, _, _, _, _, _, _, by unfold fmD; rw [List.map_map]; rfl, wb, fun S13 x13 => ?_⟩
      rw [W1 q1]
      refine like_fr (worth_fr wb) (by omega) (by omega) ?_
      try simp only [dSeq, dAsg, dRet, dDrop, dIfS, dPar, dPar3, dgName, dgTup, dgCons, dgNil, dBin, dVar, dC, dCB, dCons, dNil, dB, dIf, dNeg, dTup, dLst, dCall, dFor, dIter, dRng1, dLc, dAppend, dNext, dAnd, dOr, dNot, dAndV, dNotV, dgSub, dSl, dPart, dNoPart, wipeD, dZip, dNewT, dNewK, sd1, sd2, sd3, sd4, List.getElem?_cons_succ, List.getElem?_cons_zero, Option.some.injEq, exists_eq_left', List.set_cons_succ, List.set_cons_zero, List.replicate_succ, List.replicate_zero, Nat.reduceAdd, Nat.reduceSub, xi_add, xt_add, xi_sub, xi_mod, xi_div, xi_cmp, xi_mul, xi_lt, xi_le, xsl_fz, xsl_tup, xsl_ref, xadd_ref, xmul_tup, xpow, xisnot_non, xis_non, xtup_ref, xtup_tup, xlen_tup, xlen_ref, xint_int, xabs_int, ix_t0, ix_t1, D.bl.injEq, D.int.injEq, D.tup.injEq, D.ref.injEq, List.length_cons, List.length_nil, List.cons.injEq, and_true, true_and, and_assoc, exists_and_left, x_tt, x_ft, reduceIte, Bool.false_eq_true, Bool.not_true, Bool.not_false, xwalk_tup, xwalk_ref]
      exact hN2 _ _ ⟨((x10.trans x11).trans x12).trans x13, _, _, _, _, _, rfl⟩
    subst eσ
    try simp only [dSeq, dAsg, dRet, dDrop, dIfS, dPar, dPar3, dgName, dgTup, dgCons, dgNil, dBin, dVar, dC, dCB, dCons, dNil, dB, dIf, dNeg, dTup, dLst, dCall, dFor, dIter, dRng1, dLc, dAppend, dNext, dAnd, dOr, dNot, dAndV, dNotV, dgSub, dSl, dPart, dNoPart, wipeD, dZip, dNewT, dNewK, sd1, sd2, sd3, sd4, List.getElem?_cons_succ, List.getElem?_cons_zero, Option.some.injEq, exists_eq_left', List.set_cons_succ, List.set_cons_zero, List.replicate_succ, List.replicate_zero, Nat.reduceAdd, Nat.reduceSub, xi_add, xt_add, xi_sub, xi_mod, xi_div, xi_cmp, xi_mul, xi_lt, xi_le, xsl_fz, xsl_tup, xsl_ref, xadd_ref, xmul_tup, xpow, xisnot_non, xis_non, xtup_ref, xtup_tup, xlen_tup, xlen_ref, xint_int, xabs_int, ix_t0, ix_t1, D.bl.injEq, D.int.injEq, D.tup.injEq, D.ref.injEq, List.length_cons, List.length_nil, List.cons.injEq, and_true, true_and, and_assoc, exists_and_left, x_tt, x_ft, reduceIte, Bool.false_eq_true, Bool.not_true, Bool.not_false, xwalk_tup, xwalk_ref]
    have M10 := M9.ext x10
    refine ⟨m, many, further, _, rfl, by omega, by omega, M10, by unfold dmax; omega, fun ag S11 agl hag x11 M11 => ?_⟩
    have P2 : PutOk ag further := ⟨by omega, by omega, fun f hf => (hag f hf).1⟩
    have hgl2 : ∀ f ∈ ag, f.length = further + 1 := fun f hf => (hag f hf).1
    refine ⟨told, ag, further, rfl, P2, fun t ht => ?_, by omega, fun S12 x12 => ?_⟩
    · have T := T1 t ht
      exact ⟨fun f hf => inOk (T.rows f hf) agl (by decide), fun p hp => inOk (T.gates p hp).fm agl (by decide), fun p hp => inOk (T.steps p hp).fm agl (by decide), Nat.le_trans T.rl (by omega), Nat.le_trans T.gl (by omega), Nat.le_trans T.sl (by omega)⟩
    try simp only [dSeq, dAsg, dRet, dDrop, dIfS, dPar, dPar3, dgName, dgTup, dgCons, dgNil, dBin, dVar, dC, dCB, dCons, dNil, dB, dIf, dNeg, dTup, dLst, dCall, dFor, dIter, dRng1, dLc, dAppend, dNext, dAnd, dOr, dNot, dAndV, dNotV, dgSub, dSl, dPart, dNoPart, wipeD, dZip, dNewT, dNewK, sd1, sd2, sd3, sd4, List.getElem?_cons_succ, List.getElem?_cons_zero, Option.some.injEq, exists_eq_left', List.set_cons_succ, List.set_cons_zero, List.replicate_succ, List.replicate_zero, Nat.reduceAdd, Nat.reduceSub, xi_add, xt_add, xi_sub, xi_mod, xi_div, xi_cmp, xi_mul, xi_lt, xi_le, xsl_fz, xsl_tup, xsl_ref, xadd_ref, xmul_tup, xpow, xisnot_non, xis_non, xtup_ref, xtup_tup, xlen_tup, xlen_ref, xint_int, xabs_int, ix_t0, ix_t1, D.bl.injEq, D.int.injEq, D.tup.injEq, D.ref.injEq, List.length_cons, List.length_nil, List.cons.injEq, and_true, true_and, and_assoc, exists_and_left, x_tt, x_ft, reduceIte, Bool.false_eq_true, Bool.not_true, Bool.not_false, xwalk_tup, xwalk_ref]
    have M12 := M11.ext x12
    generalize hboth : told.map (putTm ag further) = both
    have bothl : both.length ≤ 3 := by rw [← hboth, List.length_map]; exact toldl
    have T2 : ∀ t ∈ both, TmOk further 12321 9 6 3 3 t := fun t ht => by
      rw [← hboth] at ht
      obtain ⟨t0, h0, rfl⟩ := List.mem_map.mp ht
      refine (putTm_ok (T1 t0 h0) agl hag).mono ?_ (Nat.le_refl _) (Nat.le_refl _)
      have z : many * (333 * 12) ≤ 3 * (333 * 12) := Nat.mul_le_mul_right _ (by omega)
      omega
    have W2 : ∀ q : List Int, worthF both q = worthF told (ag.map (fv · q)) := fun q => by rw [← hboth]; exact worth_put hgl2 q fun t ht => tmIn (T1 t ht) agl
    refine ⟨both, further, 12321, 9, 6, 3, 3, rfl, T2, by omega, by omega, by omega, fun S13 x13 => ?_⟩
    have M13 := M12.ext x13
    simp only [dSeq, dAsg, dRet, dDrop, dIfS, dPar, dPar3, dgName, dgTup, dgCons, dgNil, dBin, dVar, dC, dCB, dCons, dNil, dB, dIf, dNeg, dTup, dLst, dCall, dFor, dIter, dRng1, dLc, dAppend, dNext, dAnd, dOr, dNot, dAndV, dNotV, dgSub, dSl, dPart, dNoPart, wipeD, dZip, dNewT, dNewK, sd1, sd2, sd3, sd4, List.getElem?_cons_succ, List.getElem?_cons_zero, Option.some.injEq, exists_eq_left', List.set_cons_succ, List.set_cons_zero, List.replicate_succ, List.replicate_zero, Nat.reduceAdd, Nat.reduceSub, xi_add, xt_add, xi_sub, xi_mod, xi_div, xi_cmp, xi_mul, xi_lt, xi_le, xsl_fz, xsl_tup, xsl_ref, xadd_ref, xmul_tup, xpow, xisnot_non, xis_non, xtup_ref, xtup_tup, xlen_tup, xlen_ref, xint_int, xabs_int, ix_t0, ix_t1, D.bl.injEq, D.int.injEq, D.tup.injEq, D.ref.injEq, List.length_cons, List.length_nil, List.cons.injEq, and_true, true_and, and_assoc, exists_and_left, x_tt, x_ft, reduceIte, Bool.false_eq_true, Bool.not_true, Bool.not_false, xwalk_tup, xwalk_ref, isNonD]
    refine ⟨m, further, 4, _, rfl, by omega, by omega, M13, by unfold dmax; omega, fun a' ps' S14 hps' pl' x14 _ M14 hs14 => ?_⟩
    try simp only [dSeq, dAsg, dRet, dDrop, dIfS, dPar, dPar3, dgName, dgTup, dgCons, dgNil, dBin, dVar, dC, dCB, dCons, dNil, dB, dIf, dNeg, dTup, dLst, dCall, dFor, dIter, dRng1, dLc, dAppend, dNext, dAnd, dOr, dNot, dAndV, dNotV, dgSub, dSl, dPart, dNoPart, wipeD, dZip, dNewT, dNewK, sd1, sd2, sd3, sd4, List.getElem?_cons_succ, List.getElem?_cons_zero, Option.some.injEq, exists_eq_left', List.set_cons_succ, List.set_cons_zero, List.replicate_succ, List.replicate_zero, Nat.reduceAdd, Nat.reduceSub, xi_add, xt_add, xi_sub, xi_mod, xi_div, xi_cmp, xi_mul, xi_lt, xi_le, xsl_fz, xsl_tup, xsl_ref, xadd_ref, xmul_tup, xpow, xisnot_non, xis_non, xtup_ref, xtup_tup, xlen_tup, xlen_ref, xint_int, xabs_int, ix_t0, ix_t1, D.bl.injEq, D.int.injEq, D.tup.injEq, D.ref.injEq, List.length_cons, List.length_nil, List.cons.injEq, and_true, true_and, and_assoc, exists_and_left, x_tt, x_ft, reduceIte, Bool.false_eq_true, Bool.not_true, Bool.not_false, xwalk_tup, xwalk_ref]
    refine ⟨_, hs14, ?_⟩
    refine for_map (enc := fmD) (as := ps') (fun j σ S' => Ext S14 S' ∧ ∃ o9 o12 o13, σ = [some (.fz (ns.map D.int)), some (.int (i : Nat)), some (.ref m), some (.int k), some (.int many), some (.int further), some (taD ts), some (.tup (fs.map fmD)), some (taD told), o9, some (.tup (ag.map fmD)), some (taD both), o12, o13]) ⟨Ext.refl _, _, _, _, rfl⟩ (fun j σ S' ⟨x, _⟩ => x _ _ hs14) (fun j q1 σ S15 N2 e ⟨x15, o9, o12, o13, eσ⟩ hN2 => ?_) fun σ S15 ⟨x15, o9, o12, o13, eσ⟩ => ?_
    · subst eσ
      have hq := hps' q1 (List.mem_of_getElem? e)
      have hqb : ∀ x ∈ q1, x.natAbs ≤ 1073741824 := fun x hx => Nat.le_of_lt (hq.2 x hx)
      have hagb := vals_b (c := 0) hag hqb (by omega)
      try simp only [dSeq, dAsg, dRet, dDrop, dIfS, dPar, dPar3, dgName, dgTup, dgCons, dgNil, dBin, dVar, dC, dCB, dCons, dNil, dB, dIf, dNeg, dTup, dLst, dCall, dFor, dIter, dRng1, dLc, dAppend, dNext, dAnd, dOr, dNot, dAndV, dNotV, dgSub, dSl, dPart, dNoPart, wipeD, dZip, dNewT, dNewK, sd1, sd2, sd3, sd4, List.getElem?_cons_succ, List.getElem?_cons_zero, Option.some.injEq, exists_eq_left', List.set_cons_succ, List.set_cons_zero, List.replicate_succ, List.replicate_zero, Nat.reduceAdd, Nat.reduceSub, xi_add, xt_add, xi_sub, xi_mod, xi_div, xi_cmp, xi_mul, xi_lt, xi_le, xsl_fz, xsl_tup, xsl_ref, xadd_ref, xmul_tup, xpow, xisnot_non, xis_non, xtup_ref, xtup_tup, xlen_tup, xlen_ref, xint_int, xabs_int, ix_t0, ix_t1, D.bl.injEq, D.int.injEq, D.tup.injEq, D.ref.injEq, List.length_cons, List.length_nil, List.cons.injEq, and_true, true_and, and_assoc, exists_and_left, x_tt, x_ft, reduceIte, Bool.false_eq_true, Bool.not_true, Bool.not_false, xwalk_tup, xwalk_ref]
      intro p1 h1
      refine lc_map (enc := fmD) (f := fun f => .int (fv f q1)) h1 (fun _ _ => trivial) (szl (by omega)) (fun f S11 K1 hf x11 q1' => ?_) fun S16 x16 e16 => ?_
      · try simp only [dSeq, dAsg, dRet, dDrop, dIfS, dPar, dPar3, dgName, dgTup, dgCons, dgNil, dBin, dVar, dC, dCB, dCons, dNil, dB, dIf, dNeg, dTup, dLst, dCall, dFor, dIter, dRng1, dLc, dAppend, dNext, dAnd, dOr, dNot, dAndV, dNotV, dgSub, dSl, dPart, dNoPart, wipeD, dZip, dNewT, dNewK, sd1, sd2, sd3, sd4, List.getElem?_cons_succ, List.getElem?_cons_zero, Option.some.injEq, exists_eq_left', List.set_cons_succ, List.set_cons_zero, List.replicate_succ, List.replicate_zero, Nat.reduceAdd, Nat.reduceSub, xi_add, xt_add, xi_sub, xi_mod, xi_div, xi_cmp, xi_mul, xi_lt, xi_le, xsl_fz, xsl_tup, xsl_ref, xadd_ref, xmul_tup, xpow, xisnot_non, xis_non, xtup_ref, xtup_tup, xlen_tup, xlen_ref, xint_int, xabs_int, ix_t0, ix_t1, D.bl.injEq, D.int.injEq, D.tup.injEq, D.ref.injEq, List.length_cons, List.length_nil, List.cons.injEq, and_true, true_and, and_assoc, exists_and_left, x_tt, x_ft, reduceIte, Bool.false_eq_true, Bool.not_true, Bool.not_false, xwalk_tup, xwalk_ref]
        exact ⟨f, q1, rfl, by rw [hgl2 f hf, hq.1], by omega, fun c hc => Nat.lt_of_le_of_lt ((hag f hf).2 c hc) (by decide), q1'⟩
      try simp only [dSeq, dAsg, dRet, dDrop, dIfS, dPar, dPar3, dgName, dgTup, dgCons, dgNil, dBin, dVar, dC, dCB, dCons, dNil, dB, dIf, dNeg, dTup, dLst, dCall, dFor, dIter, dRng1, dLc, dAppend, dNext, dAnd, dOr, dNot, dAndV, dNotV, dgSub, dSl, dPart, dNoPart, wipeD, dZip, dNewT, dNewK, sd1, sd2, sd3, sd4, List.getElem?_cons_succ, List.getElem?_cons_zero, Option.some.injEq, exists_eq_left', List.set_cons_succ, List.set_cons_zero, List.replicate_succ, List.replicate_zero, Nat.reduceAdd, Nat.reduceSub, xi_add, xt_add, xi_sub, xi_mod, xi_div, xi_cmp, xi_mul, xi_lt, xi_le, xsl_fz, xsl_tup, xsl_ref, xadd_ref, xmul_tup, xpow, xisnot_non, xis_non, xtup_ref, xtup_tup, xlen_tup, xlen_ref, xint_int, xabs_int, ix_t0, ix_t1, D.bl.injEq, D.int.injEq, D.tup.injEq, D.ref.injEq, List.length_cons, List.length_nil, List.cons.injEq, and_true, true_and, and_assoc, exists_and_left, x_tt, x_ft, reduceIte, Bool.false_eq_true, Bool.not_true, Bool.not_false, xwalk_tup, xwalk_ref]
      refine ⟨_, e16, fun p2 h2 => ?_⟩
      generalize hmid : ag.map (fv · q1) = mid at hagb
      have midl : mid.length = many := by rw [← hmid, List.length_map]; exact agl
      refine lc_map (enc := fmD) (f := fun f => .int (fv f mid)) h2 (fun _ _ => trivial) (szl (by omega)) (fun f S11 K1 hf x11 q1' => ?_) fun S17 x17 e17 => ?_
      · try simp only [dSeq, dAsg, dRet, dDrop, dIfS, dPar, dPar3, dgName, dgTup, dgCons, dgNil, dBin, dVar, dC, dCB, dCons, dNil, dB, dIf, dNeg, dTup, dLst, dCall, dFor, dIter, dRng1, dLc, dAppend, dNext, dAnd, dOr, dNot, dAndV, dNotV, dgSub, dSl, dPart, dNoPart, wipeD, dZip, dNewT, dNewK, sd1, sd2, sd3, sd4, List.getElem?_cons_succ, List.getElem?_cons_zero, Option.some.injEq, exists_eq_left', List.set_cons_succ, List.set_cons_zero, List.replicate_succ, List.replicate_zero, Nat.reduceAdd, Nat.reduceSub, xi_add, xt_add, xi_sub, xi_mod, xi_div, xi_cmp, xi_mul, xi_lt, xi_le, xsl_fz, xsl_tup, xsl_ref, xadd_ref, xmul_tup, xpow, xisnot_non, xis_non, xtup_ref, xtup_tup, xlen_tup, xlen_ref, xint_int, xabs_int, ix_t0, ix_t1, D.bl.injEq, D.int.injEq, D.tup.injEq, D.ref.injEq, List.length_cons, List.length_nil, List.cons.injEq, and_true, true_and, and_assoc, exists_and_left, x_tt, x_ft, reduceIte, Bool.false_eq_true, Bool.not_true, Bool.not_false, xwalk_tup, xwalk_ref]
        exact ⟨f, mid, by rw [← hmid]; unfold fmD; rw [List.map_map]; rfl, by rw [hgl f hf, midl], by omega, fun c hc => Nat.lt_of_le_of_lt ((hfs f hf).2 c hc) (by decide), q1'⟩
      try simp only [dSeq, dAsg, dRet, dDrop, dIfS, dPar, dPar3, dgName, dgTup, dgCons, dgNil, dBin, dVar, dC, dCB, dCons, dNil, dB, dIf, dNeg, dTup, dLst, dCall, dFor, dIter, dRng1, dLc, dAppend, dNext, dAnd, dOr, dNot, dAndV, dNotV, dgSub, dSl, dPart, dNoPart, wipeD, dZip, dNewT, dNewK, sd1, sd2, sd3, sd4, List.getElem?_cons_succ, List.getElem?_cons_zero, Option.some.injEq, exists_eq_left', List.set_cons_succ, List.set_cons_zero, List.replicate_succ, List.replicate_zero, Nat.reduceAdd, Nat.reduceSub, xi_add, xt_add, xi_sub, xi_mod, xi_div, xi_cmp, xi_mul, xi_lt, xi_le, xsl_fz, xsl_tup, xsl_ref, xadd_ref, xmul_tup, xpow, xisnot_non, xis_non, xtup_ref, xtup_tup, xlen_tup, xlen_ref, xint_int, xabs_int, ix_t0, ix_t1, D.bl.injEq, D.int.injEq, D.tup.injEq, D.ref.injEq, List.length_cons, List.length_nil, List.cons.injEq, and_true, true_and, and_assoc, exists_and_left, x_tt, x_ft, reduceIte, Bool.false_eq_true, Bool.not_true, Bool.not_false, xwalk_tup, xwalk_ref]
      refine ⟨_, e17, ?_⟩
      have wa : WOk further 12321 4 3 3 3 62 both q1 := wok T2 (by omega) (by omega) hq.1 hqb (by omega) (by omega) (by omega) (by omega) (by omega) (by omega)
      have wb : WOk k 9 4 3 3 3 62 ts (fs.map (fv · mid)) := wok T0 (by omega) (by omega) (by rw [List.length_map]; exact fl) (vals_b (c := 0) hfs hagb (by omega)) (by omega) (by omega) (by omega) (by omega) (by omega) (by omega)
      refine ⟨both, q1, _, _, _, _, _, _, _, rfl, wa, fun S18 x18 => ?_⟩
      refine ⟨ts, fs.map (fv · mid), _, _, _, _, _, _, _, by unfold fmD; rw [List.map_map]; rfl, wb, fun S19 x19 => ?_⟩
      rw [W2 q1, hmid, W1 mid]
      refine like_fr (worth_fr wb) (by omega) (by omega) ?_
      try simp only [dSeq, dAsg, dRet, dDrop, dIfS, dPar, dPar3, dgName, dgTup, dgCons, dgNil, dBin, dVar, dC, dCB, dCons, dNil, dB, dIf, dNeg, dTup, dLst, dCall, dFor, dIter, dRng1, dLc, dAppend, dNext, dAnd, dOr, dNot, dAndV, dNotV, dgSub, dSl, dPart, dNoPart, wipeD, dZip, dNewT, dNewK, sd1, sd2, sd3, sd4, List.getElem?_cons_succ, List.getElem?_cons_zero, Option.some.injEq, exists_eq_left', List.set_cons_succ, List.set_cons_zero, List.replicate_succ, List.replicate_zero, Nat.reduceAdd, Nat.reduceSub, xi_add, xt_add, xi_sub, xi_mod, xi_div, xi_cmp, xi_mul, xi_lt, xi_le, xsl_fz, xsl_tup, xsl_ref, xadd_ref, xmul_tup, xpow, xisnot_non, xis_non, xtup_ref, xtup_tup, xlen_tup, xlen_ref, xint_int, xabs_int, ix_t0, ix_t1, D.bl.injEq, D.int.injEq, D.tup.injEq, D.ref.injEq, List.length_cons, List.length_nil, List.cons.injEq, and_true, true_and, and_assoc, exists_and_left, x_tt, x_ft, reduceIte, Bool.false_eq_true, Bool.not_true, Bool.not_false, xwalk_tup, xwalk_ref]
      exact hN2 _ _ ⟨(((x15.trans x16).trans x17).trans x18).trans x19, _, _, _, rfl⟩
    subst eσ
    exact hN _ _ ⟨_, _, _, _, _, _, _, _, _, _, _, _, _, rfl⟩
  · subst eσ
    simp only [dSeq, dAsg, dRet, dDrop, dIfS, dPar, dPar3, dgName, dgTup, dgCons, dgNil, dBin, dVar, dC, dCB, dCons, dNil, dB, dIf, dNeg, dTup, dLst, dCall, dFor, dIter, dRng1, dLc, dAppend, dNext, dAnd, dOr, dNot, dAndV, dNotV, dgSub, dSl, dPart, dNoPart, wipeD, dZip, dNewT, dNewK, sd1, sd2, sd3, sd4, List.getElem?_cons_succ, List.getElem?_cons_zero, Option.some.injEq, exists_eq_left', List.set_cons_succ, List.set_cons_zero, List.replicate_succ, List.replicate_zero, Nat.reduceAdd, Nat.reduceSub, xi_add, xt_add, xi_sub, xi_mod, xi_div, xi_cmp, xi_mul, xi_lt, xi_le, xsl_fz, xsl_tup, xsl_ref, xadd_ref, xmul_tup, xpow, xisnot_non, xis_non, xtup_ref, xtup_tup, xlen_tup, xlen_ref, xint_int, xabs_int, ix_t0, ix_t1, D.bl.injEq, D.int.injEq, D.tup.injEq, D.ref.injEq, List.length_cons, List.length_nil, List.cons.injEq, and_true, true_and, and_assoc, exists_and_left, x_tt, x_ft, reduceIte, Bool.false_eq_true, Bool.not_true, Bool.not_false, xwalk_tup, xwalk_ref]
    refine ⟨szl (by omega), szl (by omega), [], [], 2, rfl, ⟨by simp, by omega, fun _ h => nomatch h⟩, (fun _ h => nomatch h), by simp, fun S2 x2 => ?_⟩
    refine ⟨[], 2, 0, 0, 0, 0, 0, rfl, (fun _ h => nomatch h), by simp, by omega, by omega, fun S3 x3 => ?_⟩
    simp only [dSeq, dAsg, dRet, dDrop, dIfS, dPar, dPar3, dgName, dgTup, dgCons, dgNil, dBin, dVar, dC, dCB, dCons, dNil, dB, dIf, dNeg, dTup, dLst, dCall, dFor, dIter, dRng1, dLc, dAppend, dNext, dAnd, dOr, dNot, dAndV, dNotV, dgSub, dSl, dPart, dNoPart, wipeD, dZip, dNewT, dNewK, sd1, sd2, sd3, sd4, List.getElem?_cons_succ, List.getElem?_cons_zero, Option.some.injEq, exists_eq_left', List.set_cons_succ, List.set_cons_zero, List.replicate_succ, List.replicate_zero, Nat.reduceAdd, Nat.reduceSub, xi_add, xt_add, xi_sub, xi_mod, xi_div, xi_cmp, xi_mul, xi_lt, xi_le, xsl_fz, xsl_tup, xsl_ref, xadd_ref, xmul_tup, xpow, xisnot_non, xis_non, xtup_ref, xtup_tup, xlen_tup, xlen_ref, xint_int, xabs_int, ix_t0, ix_t1, D.bl.injEq, D.int.injEq, D.tup.injEq, D.ref.injEq, List.length_cons, List.length_nil, List.cons.injEq, and_true, true_and, and_assoc, exists_and_left, x_tt, x_ft, reduceIte, Bool.false_eq_true, Bool.not_true, Bool.not_false, xwalk_tup, xwalk_ref, isNonD]
    exact q _
end LW

namespace LW
open PySem PySem.Spec PyProof.Rows L2 DL
section
variable {P : Program} {w : World} {K : PySem.W.Frag} {mg : Str → Option Value} {base : Heap}
theorem ok_form_sum {f : Addr} {fd : FuncData} (F : Fun K "form_sum" "form_sum" s_form_sum f fd) (gm : mg "form_sum" = some (.ref f)) (hb : Binds K fd p_form_sum []) (T : Bt mg) : Callee P w K mg base 1 "form_sum" p_form_sum sp_form_sum :=
  callee_of F gm hb sc_form_sum len_form_sum fun cdv A outer s H ds S Q hr hgd h => by
    have hu1 := hu_of hr
    have hu0 := hr.units0
    have hu64 := hr.units
    exact ⟨t_form_sum, (dss_one (ds_ret (de_ty call_tuple_of rc_tupOf rfl T.tuple (by decide +kernel) (da_cons (de_lc (own := [("a", 2), ("b", 3)]) (by decide) (pe_lc (own := [("a", 2), ("b", 3)]) rfl sc_form_sum.nd (di_zip (RZ.pi_zipA rfl T.zip (da_cons (de_var (pv 0)) (da_cons (de_var (pv 1)) da_nil)))) (blkOk_by (own := [("a", 2), ("b", 3)]) (N := n_form_sum) (sc := defScope s_form_sum) (by decide +kernel)) (fun _ _ _ _ _ => (dg_tup (dgs_cons (dg_name (pg_name (i := 2) sc_form_sum.nd rfl (Or.inl rfl))) (dgs_cons (dg_name (pg_name (i := 3) sc_form_sum.nd rfl (Or.inl rfl))) dgs_nil)) (pg_tup rfl (dgs_cons (dg_name (pg_name (i := 2) sc_form_sum.nd rfl (Or.inl rfl))) (dgs_cons (dg_name (pg_name (i := 3) sc_form_sum.nd rfl (Or.inl rfl))) dgs_nil))))) (fun _ _ _ _ _ => dts_nil) (fun _ _ _ _ _ => (de_add (de_var (pv 2)) (de_var (pv 3)))))) da_nil)))), run_form_sum h⟩
theorem ok_form_times {f : Addr} {fd : FuncData} (F : Fun K "form_times" "form_times" s_form_times f fd) (gm : mg "form_times" = some (.ref f)) (hb : Binds K fd p_form_times []) (T : Bt mg) : Callee P w K mg base 1 "form_times" p_form_times sp_form_times :=
  callee_of F gm hb sc_form_times len_form_times fun cdv A outer s H ds S Q hr hgd h => by
    have hu1 := hu_of hr
    have hu0 := hr.units0
    have hu64 := hr.units
    exact ⟨t_form_times, (dss_one (ds_ret (de_ty call_tuple_of rc_tupOf rfl T.tuple (by decide +kernel) (da_cons (de_lc (own := [("c", 2)]) (by decide) (pe_lc (own := [("c", 2)]) rfl sc_form_times.nd (di_iter (de_var (pv 0))) (blkOk_by (own := [("c", 2)]) (N := n_form_times) (sc := defScope s_form_times) (by decide +kernel)) (fun _ _ _ _ _ => (dg_name (pg_name (i := 2) sc_form_times.nd rfl (Or.inl rfl)))) (fun _ _ _ _ _ => dts_nil) (fun _ _ _ _ _ => (de_mul (de_var (pv 1)) (de_var (pv 2)))))) da_nil)))), run_form_times h⟩
theorem ok_Lbegun {f : Addr} {fd : FuncData} (F : Fun K "_law_begun" "_law_begun" s_Lbegun f fd) (gm : mg "_law_begun" = some (.ref f)) (hb : Binds K fd p_Lbegun []) (T : Bt mg) : Callee P w K mg base 1 "_law_begun" p_Lbegun sp_Lbegun :=
  callee_of F gm hb sc_Lbegun len_Lbegun fun cdv A outer s H ds S Q hr hgd h => by
    have hu1 := hu_of hr
    have hu0 := hr.units0
    have hu64 := hr.units
    exact ⟨t_Lbegun, (dss_cons (ds_set (ps_set (i := 2) sc_Lbegun.nd rfl (Or.inl rfl) (de_add (de_sl (de_var (pv 0)) (do_some (de_var (pv 1))) do_none) (de_sl (de_var (pv 0)) do_none (do_some (de_var (pv 1)))))))
  (dss_cons (ds_setLc (own := [("cell", 5)]) (by decide) (ps_setLc (i := 3) (own := [("cell", 5)]) rfl sc_Lbegun.nd rfl rfl (sw_true rfl rfl rfl (by decide +kernel)) (di_iter (de_var (pv 2))) (blkOk_by (own := [("cell", 5)]) (N := n_Lbegun) (sc := defScope s_Lbegun) (by decide +kernel)) (fun _ _ _ _ _ => (dg_name (pg_name (i := 5) sc_Lbegun.nd rfl (Or.inl rfl)))) (fun _ _ _ _ _ => (dts_one (dt_cmp op_ge rr_cmp (de_var (pv 5)) (de_pow de_int de_int) (nomark _)))) (fun _ _ _ _ _ => (de_var (pv 5)))))
  (dss_cons (ds_set (ps_set (i := 4) sc_Lbegun.nd rfl (Or.inl rfl) (de_add de_int (de_var (pv 1)))))
  (dss_cons (ds_for PassesOwn.never rfl (di_iter (de_var (pv 2))) (dg_name (pg_name (i := 5) sc_Lbegun.nd rfl (Or.inl rfl))) (dss_one (ds_set (ps_set (i := 4) sc_Lbegun.nd rfl (Or.inl rfl) (de_mod (de_ty call_int1 rc_int rfl T.int (by decide +kernel) (da_cons (de_add (de_mul (de_var (pv 4)) de_int) (de_var (pv 5))) da_nil)) de_int)))))
  (dss_one (ds_ret (de_disp (trs := [((dC (.str "left")), (dIf (dB (dBin rNe (dVar 3) (dLst dNil))) (dBin rIx (dVar 3) (dC (.int 0))) (dC (.int 0)))), ((dC (.str "seed")), (dVar 4)), ((dC (.str "cells")), (dBin rAdd (dVar 2) (dLst (dCons (dBin rAdd (dBin rMul (dC (.int 53)) (dVar 1)) (dC (.int 11))) dNil)))), ((dC (.str "spot")), (dC (.int 0)))]) (pe_disp (pps_cons de_str (de_if (dt_cmp (op_neD hu64) rr_ne (de_var (pv 3)) (de_lst da_nil) (nomark _)) (de_ix hu1 (de_var (pv 3)) de_int) de_int) (pps_cons de_str (de_var (pv 4)) (pps_cons de_str (de_add (de_var (pv 2)) (de_lst (da_cons (de_add (de_mul de_int (de_var (pv 1))) de_int) da_nil))) (pps_cons de_str de_int pps_nil)))) rfl rfl (fun z => nomatch z) (by decide))))))))), run_Lbegun h⟩
theorem ok_Ldraw {f : Addr} {fd : FuncData} (F : Fun K "_law_draw" "_law_draw" s_Ldraw f fd) (gm : mg "_law_draw" = some (.ref f)) (hb : Binds K fd p_Ldraw []) (T : Bt mg) : Callee P w K mg base 1 "_law_draw" p_Ldraw sp_Ldraw :=
  callee_of F gm hb sc_Ldraw len_Ldraw fun cdv A outer s H ds S Q hr hgd h => by
    have hu1 := hu_of hr
    have hu0 := hr.units0
    have hu64 := hr.units
    exact ⟨t_Ldraw, (dss_cons (ds_if (dt_cmp op_gt rr_cmp (de_ix hu1 (de_var (pv 0)) de_str) de_int (nomark _)) (dss_cons (ds_set (ps_set (i := 7) sc_Ldraw.nd rfl (Or.inl rfl) (de_mod (de_ty call_int1 rc_int rfl T.int (by decide +kernel) (da_cons (de_ix hu1 (de_var (pv 0)) de_str) da_nil)) (de_var (pv 1)))))
  (dss_cons (ds_asg (de_div (de_ix hu1 (de_var (pv 0)) de_str) (de_var (pv 1))) (dg_sub hu1 (de_var (pv 0)) de_str))
  (dss_one (ds_ret (de_var (pv 7)))))) dss_nil)
  (dss_cons (ds_set (ps_set (i := 2) sc_Ldraw.nd rfl (Or.inl rfl) (de_ix hu1 (de_var (pv 0)) de_str)))
  (dss_cons (ds_asg (de_add (de_var (pv 2)) de_int) (dg_sub hu1 (de_var (pv 0)) de_str))
  (dss_cons (ds_par (ps_par rfl sc_Ldraw.nd rfl rfl (by decide) rfl rfl (da_cons (de_ix hu1 (de_var (pv 0)) de_str) (da_cons (de_add (de_ix hu1 (de_var (pv 0)) de_str) (de_mul (de_mul de_int (de_var (pv 2))) (de_var (pv 2)))) da_nil)) rfl))
  (dss_cons (ds_set (ps_set (i := 5) sc_Ldraw.nd rfl (Or.inl rfl) (de_ix hu1 (de_var (pv 3)) (de_mod (de_ty call_int1 rc_int rfl T.int (by decide +kernel) (da_cons (de_var (pv 2)) da_nil)) (de_bi call_len rc_len rfl T.len PySem.boot_len (da_cons (de_var (pv 3)) da_nil))))))
  (dss_cons (ds_set (ps_set (i := 6) sc_Ldraw.nd rfl (Or.inl rfl) (de_mod (de_ty call_int1 rc_int rfl T.int (by decide +kernel) (da_cons (de_add (de_mul (de_var (pv 5)) (de_add (de_mul de_int (de_var (pv 2))) de_int)) (de_var (pv 4))) da_nil)) de_int)))
  (dss_cons (ds_set (ps_set (i := 6) sc_Ldraw.nd rfl (Or.inl rfl) (de_mod (de_ty call_int1 rc_int rfl T.int (by decide +kernel) (da_cons (de_add (de_add (de_mul (de_var (pv 6)) (de_var (pv 6))) (de_mul de_int (de_var (pv 2)))) (de_ix hu1 (de_var (pv 0)) de_str)) da_nil)) de_int)))
  (dss_one (ds_ret (de_mod (de_div (de_mod (de_ty call_int1 rc_int rfl T.int (by decide +kernel) (da_cons (de_add (de_mul (de_var (pv 6)) de_int) (de_var (pv 2))) da_nil)) de_int) de_int) (de_var (pv 1)))))))))))), run_Ldraw h⟩
theorem ok_Llike {f : Addr} {fd : FuncData} (F : Fun K "_law_like" "_law_like" s_Llike f fd) (gm : mg "_law_like" = some (.ref f)) (hb : Binds K fd p_Llike []) (T : Bt mg) : Callee P w K mg base 1 "_law_like" p_Llike sp_Llike :=
  callee_of F gm hb sc_Llike len_Llike fun cdv A outer s H ds S Q hr hgd h => by
    have hu1 := hu_of hr
    have hu0 := hr.units0
    have hu64 := hr.units
    exact ⟨t_Llike, (dss_one (ds_ret (de_cmp (op_eqD hu64) rr_eq (de_bi (call_reprH hu64 hgd) rc_repr rfl T.repr (by decide +kernel) (da_cons (de_var (pv 0)) da_nil)) (de_bi (call_reprH hu64 hgd) rc_repr rfl T.repr (by decide +kernel) (da_cons (de_var (pv 1)) da_nil)) (nomark _)))), run_Llike h⟩
theorem ok_Lgcd {f : Addr} {fd : FuncData} (F : Fun K "_law_gcd" "_law_gcd" s_Lgcd f fd) (gm : mg "_law_gcd" = some (.ref f)) (hb : Binds K fd p_Lgcd []) (T : Bt mg) : Callee P w K mg base 1 "_law_gcd" p_Lgcd sp_Lgcd :=
  callee_of F gm hb sc_Lgcd len_Lgcd fun cdv A outer s H ds S Q hr hgd h => by
    have hu1 := hu_of hr
    have hu0 := hr.units0
    have hu64 := hr.units
    exact ⟨t_Lgcd, (dss_cons (ds_par (ps_par rfl sc_Lgcd.nd rfl rfl (by decide) rfl rfl (da_cons (de_bi call_abs rc_abs rfl T.abs (by decide +kernel) (da_cons (de_var (pv 0)) da_nil)) (da_cons (de_bi call_abs rc_abs rfl T.abs (by decide +kernel) (da_cons (de_var (pv 1)) da_nil)) da_nil)) rfl))
  (dss_cons (ds_while PassesOwn.never (dt_cmp (op_neD hu64) rr_ne (de_var (pv 1)) de_int (nomark _)) (dss_one (ds_par (ps_par rfl sc_Lgcd.nd rfl rfl (by decide) rfl rfl (da_cons (de_var (pv 1)) (da_cons (de_mod (de_ty call_int1 rc_int rfl T.int (by decide +kernel) (da_cons (de_var (pv 0)) da_nil)) (de_var (pv 1))) da_nil)) rfl))))
  (dss_one (ds_ret (de_var (pv 0)))))), run_Lgcd h⟩
theorem ok_Lform_value {f : Addr} {fd : FuncData} (F : Fun K "_law_form_value" "_law_form_value" s_Lform_value f fd) (gm : mg "_law_form_value" = some (.ref f)) (hb : Binds K fd p_Lform_value []) (T : Bt mg) : Callee P w K mg base 1 "_law_form_value" p_Lform_value sp_Lform_value :=
  callee_of F gm hb sc_Lform_value len_Lform_value fun cdv A outer s H ds S Q hr hgd h => by
    have hu1 := hu_of hr
    have hu0 := hr.units0
    have hu64 := hr.units
    exact ⟨t_Lform_value, (dss_one (ds_ret (de_add (de_ix hu1 (de_var (pv 0)) de_int) (de_bi (cr_sum rfl) rc_sum rfl T.sum (by decide +kernel) (da_cons (de_lc (own := [("i", 2)]) (by decide) (pe_lc (own := [("i", 2)]) rfl sc_Lform_value.nd (di_rng1 (pi_range1 rfl T.range (da_cons (de_bi call_len rc_len rfl T.len PySem.boot_len (da_cons (de_var (pv 1)) da_nil)) da_nil))) (blkOk_by (own := [("i", 2)]) (N := n_Lform_value) (sc := defScope s_Lform_value) (by decide +kernel)) (fun _ _ _ _ _ => (dg_name (pg_name (i := 2) sc_Lform_value.nd rfl (Or.inl rfl)))) (fun _ _ _ _ _ => dts_nil) (fun _ _ _ _ _ => (de_mul (de_ix hu1 (de_var (pv 0)) (de_add de_int (de_var (pv 2)))) (de_ix hu1 (de_var (pv 1)) (de_var (pv 2))))))) da_nil))))), run_Lform_value h⟩
theorem ok_Lis_int {f : Addr} {fd : FuncData} (F : Fun K "_law_is_int" "_law_is_int" s_Lis_int f fd) (gm : mg "_law_is_int" = some (.ref f)) (hb : Binds K fd p_Lis_int []) (T : Bt mg) : Callee P w K mg base 1 "_law_is_int" p_Lis_int sp_Lis_int :=
  callee_of F gm hb sc_Lis_int len_Lis_int fun cdv A outer s H ds S Q hr hgd h => by
    have hu1 := hu_of hr
    have hu0 := hr.units0
    have hu64 := hr.units
    exact ⟨t_Lis_int, (dss_one (ds_ret (de_and (de_bi call_isi rc_isi rfl T.isinstance (by decide +kernel) (da_cons (de_var (pv 0)) (da_cons (de_tyname rfl T.int (by decide +kernel)) da_nil))) (de_one (de_not (de_bi call_isi rc_isi rfl T.isinstance (by decide +kernel) (da_cons (de_var (pv 0)) (da_cons (de_tyname rfl T.bool (by decide +kernel)) da_nil)))))))), run_Lis_int h⟩
theorem ok_put_in {f : Addr} {fd : FuncData} (F : Fun K "put_in" "put_in" s_put_in f fd) (gm : mg "put_in" = some (.ref f)) (hb : Binds K fd p_put_in []) (T : Bt mg) (c_form_sum : Callee P w K mg base 1 "form_sum" p_form_sum sp_form_sum) (c_form_times : Callee P w K mg base 1 "form_times" p_form_times sp_form_times) : Callee P w K mg base 2 "put_in" p_put_in sp_put_in :=
  callee_of F gm hb sc_put_in len_put_in fun cdv A outer s H ds S Q hr hgd h => by
    have hu1 := hu_of hr
    have hu0 := hr.units0
    have hu64 := hr.units
    exact ⟨t_put_in, (dss_cons (ds_set (ps_set (i := 3) sc_put_in.nd rfl (Or.inl rfl) (de_add (de_tup (da_cons (de_ix hu1 (de_var (pv 0)) de_int) da_nil)) (de_mul (de_tup (da_cons de_int da_nil)) (de_var (pv 2))))))
  (dss_cons (ds_for PassesOwn.never rfl (di_zip (RZ.pi_zipA rfl T.zip (da_cons (de_sl (de_var (pv 0)) (do_some de_int) do_none) (da_cons (de_var (pv 1)) da_nil)))) (dg_tup (dgs_cons (dg_name (pg_name (i := 4) sc_put_in.nd rfl (Or.inl rfl))) (dgs_cons (dg_name (pg_name (i := 5) sc_put_in.nd rfl (Or.inl rfl))) dgs_nil)) (pg_tup rfl (dgs_cons (dg_name (pg_name (i := 4) sc_put_in.nd rfl (Or.inl rfl))) (dgs_cons (dg_name (pg_name (i := 5) sc_put_in.nd rfl (Or.inl rfl))) dgs_nil)))) (dss_one (ds_set (ps_set (i := 3) sc_put_in.nd rfl (Or.inl rfl) (de_call c_form_sum (hr.mono (by decide)) hgd rfl (da_cons (de_var (pv 3)) (da_cons (de_call c_form_times (hr.mono (by decide)) hgd rfl (da_cons (de_var (pv 5)) (da_cons (de_var (pv 4)) da_nil))) da_nil)))))))
  (dss_one (ds_ret (de_var (pv 3)))))), run_put_in h⟩
theorem ok_Lof {f : Addr} {fd : FuncData} (F : Fun K "_law_of" "_law_of" s_Lof f fd) (gm : mg "_law_of" = some (.ref f)) (hb : Binds K fd p_Lof []) (T : Bt mg) (c_Ldraw : Callee P w K mg base 1 "_law_draw" p_Ldraw sp_Ldraw) : Callee P w K mg base 2 "_law_of" p_Lof sp_Lof :=
  callee_of F gm hb sc_Lof len_Lof fun cdv A outer s H ds S Q hr hgd h => by
    have hu1 := hu_of hr
    have hu0 := hr.units0
    have hu64 := hr.units
    exact ⟨t_Lof, (dss_one (ds_ret (de_ix hu1 (de_var (pv 1)) (de_call c_Ldraw (hr.mono (by decide)) hgd rfl (da_cons (de_var (pv 0)) (da_cons (de_bi call_len rc_len rfl T.len PySem.boot_len (da_cons (de_var (pv 1)) da_nil)) da_nil)))))), run_Lof h⟩
theorem ok_Llowest {f : Addr} {fd : FuncData} (F : Fun K "_law_lowest" "_law_lowest" s_Llowest f fd) (gm : mg "_law_lowest" = some (.ref f)) (hb : Binds K fd p_Llowest []) (T : Bt mg) (c_Lgcd : Callee P w K mg base 1 "_law_gcd" p_Lgcd sp_Lgcd) : Callee P w K mg base 2 "_law_lowest" p_Llowest sp_Llowest :=
  callee_of F gm hb sc_Llowest len_Llowest fun cdv A outer s H ds S Q hr hgd h => by
    have hu1 := hu_of hr
    have hu0 := hr.units0
    have hu64 := hr.units
    exact ⟨t_Llowest, (dss_cons (ds_set (ps_set (i := 2) sc_Llowest.nd rfl (Or.inl rfl) (de_if (dt_cmp op_gt rr_cmp (de_var (pv 1)) de_int (nomark _)) (de_call c_Lgcd (hr.mono (by decide)) hgd rfl (da_cons (de_var (pv 0)) (da_cons (de_var (pv 1)) da_nil))) (de_neg (de_call c_Lgcd (hr.mono (by decide)) hgd rfl (da_cons (de_var (pv 0)) (da_cons (de_var (pv 1)) da_nil)))))))
  (dss_one (ds_ret (de_tup (da_cons (de_div (de_var (pv 0)) (de_var (pv 2))) (da_cons (de_div (de_var (pv 1)) (de_var (pv 2))) da_nil)))))), run_Llowest h⟩
theorem ok_Lsigned {f : Addr} {fd : FuncData} (F : Fun K "_law_signed" "_law_signed" s_Lsigned f fd) (gm : mg "_law_signed" = some (.ref f)) (hb : Binds K fd p_Lsigned []) (T : Bt mg) (c_Ldraw : Callee P w K mg base 1 "_law_draw" p_Ldraw sp_Ldraw) : Callee P w K mg base 2 "_law_signed" p_Lsigned sp_Lsigned :=
  callee_of F gm hb sc_Lsigned len_Lsigned fun cdv A outer s H ds S Q hr hgd h => by
    have hu1 := hu_of hr
    have hu0 := hr.units0
    have hu64 := hr.units
    exact ⟨t_Lsigned, (dss_cons (ds_set (ps_set (i := 2) sc_Lsigned.nd rfl (Or.inl rfl) (de_call c_Ldraw (hr.mono (by decide)) hgd rfl (da_cons (de_var (pv 0)) (da_cons (de_add (de_var (pv 1)) de_int) da_nil)))))
  (dss_one (ds_ret (de_if (dt_cmp (op_eqD hu64) rr_eq (de_call c_Ldraw (hr.mono (by decide)) hgd rfl (da_cons (de_var (pv 0)) (da_cons de_int da_nil))) de_int (nomark _)) (de_var (pv 2)) (de_neg (de_var (pv 2))))))), run_Lsigned h⟩
theorem ok_Lis_form {f : Addr} {fd : FuncData} (F : Fun K "_law_is_form" "_law_is_form" s_Lis_form f fd) (gm : mg "_law_is_form" = some (.ref f)) (hb : Binds K fd p_Lis_form []) (T : Bt mg) (c_Lis_int : Callee P w K mg base 1 "_law_is_int" p_Lis_int sp_Lis_int) : Callee P w K mg base 2 "_law_is_form" p_Lis_form sp_Lis_form :=
  callee_of F gm hb sc_Lis_form len_Lis_form fun cdv A outer s H ds S Q hr hgd h => by
    have hu1 := hu_of hr
    have hu0 := hr.units0
    have hu64 := hr.units
    exact ⟨t_Lis_form, (dss_cons (ds_if (PW.pt (dw_or (dt_not (dt_val (de_bi call_isi rc_isi rfl T.isinstance (by decide +kernel) (da_cons (de_var (pv 0)) (da_cons (de_tyname rfl T.tuple (by decide +kernel)) da_nil))))) (dw_one_or (dt_cmp (op_neD hu64) rr_ne (de_bi call_len rc_len rfl T.len PySem.boot_len (da_cons (de_var (pv 0)) da_nil)) (de_add (de_var (pv 1)) de_int) (nomark _))))) (dss_one (ds_ret de_bl)) dss_nil)
  (dss_one (ds_ret (de_cmp (op_eqD hu64) rr_eq (de_lc (own := [("x", 2)]) (by decide) (pe_lc (own := [("x", 2)]) rfl sc_Lis_form.nd (di_iter (de_var (pv 0))) (blkOk_by (own := [("x", 2)]) (N := n_Lis_form) (sc := defScope s_Lis_form) (by decide +kernel)) (fun _ _ _ _ _ => (dg_name (pg_name (i := 2) sc_Lis_form.nd rfl (Or.inl rfl)))) (fun _ _ _ _ _ => (dts_one (dt_not (dt_val (de_call c_Lis_int (hr.mono (by decide)) hgd rfl (da_cons (de_var (pv 2)) da_nil)))))) (fun _ _ _ _ _ => (de_var (pv 2))))) (de_lst da_nil) (nomark _))))), run_Lis_form h⟩
theorem ok_Lis_poly {f : Addr} {fd : FuncData} (F : Fun K "_law_is_poly" "_law_is_poly" s_Lis_poly f fd) (gm : mg "_law_is_poly" = some (.ref f)) (hb : Binds K fd p_Lis_poly []) (T : Bt mg) (c_Lgcd : Callee P w K mg base 1 "_law_gcd" p_Lgcd sp_Lgcd) (c_Lis_int : Callee P w K mg base 1 "_law_is_int" p_Lis_int sp_Lis_int) : Callee P w K mg base 2 "_law_is_poly" p_Lis_poly sp_Lis_poly :=
  callee_of F gm hb sc_Lis_poly len_Lis_poly fun cdv A outer s H ds S Q hr hgd h => by
    have hu1 := hu_of hr
    have hu0 := hr.units0
    have hu64 := hr.units
    exact ⟨t_Lis_poly, (dss_cons (ds_if (dt_not (dt_val (de_bi call_isi rc_isi rfl T.isinstance (by decide +kernel) (da_cons (de_var (pv 0)) (da_cons (de_tyname rfl T.tuple (by decide +kernel)) da_nil))))) (dss_one (ds_ret de_bl)) dss_nil)
  (dss_cons (ds_set (ps_set (i := 2) sc_Lis_poly.nd rfl (Or.inl rfl) de_non))
  (dss_cons (ds_for PassesOwn.never rfl (di_iter (de_var (pv 0))) (dg_name (pg_name (i := 3) sc_Lis_poly.nd rfl (Or.inl rfl))) (dss_cons (ds_if (PW.pt (dw_or (dt_not (dt_val (de_bi call_isi rc_isi rfl T.isinstance (by decide +kernel) (da_cons (de_var (pv 3)) (da_cons (de_tyname rfl T.tuple (by decide +kernel)) da_nil))))) (dw_one_or (dt_cmp (op_neD hu64) rr_ne (de_bi call_len rc_len rfl T.len PySem.boot_len (da_cons (de_var (pv 3)) da_nil)) de_int (nomark _))))) (dss_one (ds_ret de_bl)) dss_nil)
  (dss_cons (ds_asg (de_var (pv 3)) (dg_tup (dgs_cons (dg_name (pg_name (i := 4) sc_Lis_poly.nd rfl (Or.inl rfl))) (dgs_cons (dg_name (pg_name (i := 5) sc_Lis_poly.nd rfl (Or.inl rfl))) dgs_nil)) (pg_tup rfl (dgs_cons (dg_name (pg_name (i := 4) sc_Lis_poly.nd rfl (Or.inl rfl))) (dgs_cons (dg_name (pg_name (i := 5) sc_Lis_poly.nd rfl (Or.inl rfl))) dgs_nil)))))
  (dss_cons (ds_if (PW.pt (dw_or (dt_not (dt_val (de_bi call_isi rc_isi rfl T.isinstance (by decide +kernel) (da_cons (de_var (pv 4)) (da_cons (de_tyname rfl T.tuple (by decide +kernel)) da_nil))))) (dw_one_or (dt_cmp (op_neD hu64) rr_ne (de_bi call_len rc_len rfl T.len PySem.boot_len (da_cons (de_var (pv 4)) da_nil)) de_int (nomark _))))) (dss_one (ds_ret de_bl)) dss_nil)
  (dss_cons (ds_if (PW.pt (dw_or (dt_cmp (op_neD hu64) rr_ne (de_lc (own := [("x", 6)]) (by decide) (pe_lc (own := [("x", 6)]) rfl sc_Lis_poly.nd (di_iter (de_var (pv 4))) (blkOk_by (own := [("x", 6)]) (N := n_Lis_poly) (sc := defScope s_Lis_poly) (by decide +kernel)) (fun _ _ _ _ _ => (dg_name (pg_name (i := 6) sc_Lis_poly.nd rfl (Or.inl rfl)))) (fun _ _ _ _ _ => (dts_one (dt_not (dt_val (de_call c_Lis_int (hr.mono (by decide)) hgd rfl (da_cons (de_var (pv 6)) da_nil)))))) (fun _ _ _ _ _ => (de_var (pv 6))))) (de_lst da_nil) (nomark _)) (dw_or (dt_cmp (op_ltD hu0) rr_lt (de_ix hu1 (de_var (pv 4)) de_int) de_int (nomark _)) (dw_one_or (dt_cmp (op_eqD hu64) rr_eq (de_ix hu1 (de_var (pv 4)) de_int) de_int (nomark _)))))) (dss_one (ds_ret de_bl)) dss_nil)
  (dss_cons (ds_if (dt_cmp (op_neD hu64) rr_ne (de_call c_Lgcd (hr.mono (by decide)) hgd rfl (da_cons (de_ix hu1 (de_var (pv 4)) de_int) (da_cons (de_ix hu1 (de_var (pv 4)) de_int) da_nil))) de_int (nomark _)) (dss_one (ds_ret de_bl)) dss_nil)
  (dss_cons (ds_if (PW.pt (dw_or (dt_not (dt_val (de_bi call_isi rc_isi rfl T.isinstance (by decide +kernel) (da_cons (de_var (pv 5)) (da_cons (de_tyname rfl T.tuple (by decide +kernel)) da_nil))))) (dw_one_or (dt_cmp (op_neD hu64) rr_ne (de_bi call_len rc_len rfl T.len PySem.boot_len (da_cons (de_var (pv 5)) da_nil)) (de_var (pv 1)) (nomark _))))) (dss_one (ds_ret de_bl)) dss_nil)
  (dss_cons (ds_if (dt_cmp (op_neD hu64) rr_ne (de_lc (own := [("x", 6)]) (by decide) (pe_lc (own := [("x", 6)]) rfl sc_Lis_poly.nd (di_iter (de_var (pv 5))) (blkOk_by (own := [("x", 6)]) (N := n_Lis_poly) (sc := defScope s_Lis_poly) (by decide +kernel)) (fun _ _ _ _ _ => (dg_name (pg_name (i := 6) sc_Lis_poly.nd rfl (Or.inl rfl)))) (fun _ _ _ _ _ => (dts_one (PW.pt (dw_or (dt_not (dt_val (de_call c_Lis_int (hr.mono (by decide)) hgd rfl (da_cons (de_var (pv 6)) da_nil)))) (dw_one_or (dt_cmp (op_ltD hu0) rr_lt (de_var (pv 6)) de_int (nomark _))))))) (fun _ _ _ _ _ => (de_var (pv 6))))) (de_lst da_nil) (nomark _)) (dss_one (ds_ret de_bl)) dss_nil)
  (dss_cons (ds_if (PW.pt (dw_and (dt_cmp op_isNotD rr_isNot (de_var (pv 2)) de_non (nomark _)) (dw_one_and (dt_cmp (op_leD hu0) rr_le (de_var (pv 5)) (de_var (pv 2)) (nomark _))))) (dss_one (ds_ret de_bl)) dss_nil)
  (dss_one (ds_set (ps_set (i := 2) sc_Lis_poly.nd rfl (Or.inl rfl) (de_var (pv 5))))))))))))))
  (dss_one (ds_ret de_bl))))), run_Lis_poly h⟩
theorem ok_put_in_pairs {f : Addr} {fd : FuncData} (F : Fun K "put_in_pairs" "put_in_pairs" s_put_in_pairs f fd) (gm : mg "put_in_pairs" = some (.ref f)) (hb : Binds K fd p_put_in_pairs []) (T : Bt mg) (c_put_in : Callee P w K mg base 2 "put_in" p_put_in sp_put_in) : Callee P w K mg base 3 "put_in_pairs" p_put_in_pairs sp_put_in_pairs :=
  callee_of F gm hb sc_put_in_pairs len_put_in_pairs fun cdv A outer s H ds S Q hr hgd h => by
    have hu1 := hu_of hr
    have hu0 := hr.units0
    have hu64 := hr.units
    exact ⟨t_put_in_pairs, (dss_one (ds_ret (de_ty call_tuple_of rc_tupOf rfl T.tuple (by decide +kernel) (da_cons (de_lc (own := [("part", 3), ("form", 4)]) (by decide) (pe_lc (own := [("part", 3), ("form", 4)]) rfl sc_put_in_pairs.nd (di_iter (de_var (pv 0))) (blkOk_by (own := [("part", 3), ("form", 4)]) (N := n_put_in_pairs) (sc := defScope s_put_in_pairs) (by decide +kernel)) (fun _ _ _ _ _ => (dg_tup (dgs_cons (dg_name (pg_name (i := 3) sc_put_in_pairs.nd rfl (Or.inl rfl))) (dgs_cons (dg_name (pg_name (i := 4) sc_put_in_pairs.nd rfl (Or.inl rfl))) dgs_nil)) (pg_tup rfl (dgs_cons (dg_name (pg_name (i := 3) sc_put_in_pairs.nd rfl (Or.inl rfl))) (dgs_cons (dg_name (pg_name (i := 4) sc_put_in_pairs.nd rfl (Or.inl rfl))) dgs_nil))))) (fun _ _ _ _ _ => dts_nil) (fun _ _ _ _ _ => (de_tup (da_cons (de_var (pv 3)) (da_cons (de_call c_put_in (hr.mono (by decide)) hgd rfl (da_cons (de_var (pv 4)) (da_cons (de_var (pv 1)) (da_cons (de_var (pv 2)) da_nil)))) da_nil)))))) da_nil)))), run_put_in_pairs h⟩
theorem ok_Lplus {f : Addr} {fd : FuncData} (F : Fun K "_law_plus" "_law_plus" s_Lplus f fd) (gm : mg "_law_plus" = some (.ref f)) (hb : Binds K fd p_Lplus []) (T : Bt mg) (c_Llowest : Callee P w K mg base 2 "_law_lowest" p_Llowest sp_Llowest) : Callee P w K mg base 3 "_law_plus" p_Lplus sp_Lplus :=
  callee_of F gm hb sc_Lplus len_Lplus fun cdv A outer s H ds S Q hr hgd h => by
    have hu1 := hu_of hr
    have hu0 := hr.units0
    have hu64 := hr.units
    exact ⟨t_Lplus, (dss_one (ds_ret (de_call c_Llowest (hr.mono (by decide)) hgd rfl (da_cons (de_add (de_mul (de_ix hu1 (de_var (pv 0)) de_int) (de_ix hu1 (de_var (pv 1)) de_int)) (de_mul (de_ix hu1 (de_var (pv 1)) de_int) (de_ix hu1 (de_var (pv 0)) de_int))) (da_cons (de_mul (de_ix hu1 (de_var (pv 0)) de_int) (de_ix hu1 (de_var (pv 1)) de_int)) da_nil))))), run_Lplus h⟩
theorem ok_Lform {f : Addr} {fd : FuncData} (F : Fun K "_law_form" "_law_form" s_Lform f fd) (gm : mg "_law_form" = some (.ref f)) (hb : Binds K fd p_Lform []) (T : Bt mg) (c_Lsigned : Callee P w K mg base 2 "_law_signed" p_Lsigned sp_Lsigned) : Callee P w K mg base 3 "_law_form" p_Lform sp_Lform :=
  callee_of F gm hb sc_Lform len_Lform fun cdv A outer s H ds S Q hr hgd h => by
    have hu1 := hu_of hr
    have hu0 := hr.units0
    have hu64 := hr.units
    exact ⟨t_Lform, (dss_one (ds_ret (de_ty call_tuple_of rc_tupOf rfl T.tuple (by decide +kernel) (da_cons (de_lc (own := [("i", 3)]) (by decide) (pe_lc (own := [("i", 3)]) rfl sc_Lform.nd (di_rng1 (pi_range1 rfl T.range (da_cons (de_add (de_var (pv 1)) de_int) da_nil))) (blkOk_by (own := [("i", 3)]) (N := n_Lform) (sc := defScope s_Lform) (by decide +kernel)) (fun _ _ _ _ _ => (dg_name (pg_name (i := 3) sc_Lform.nd rfl (Or.inl rfl)))) (fun _ _ _ _ _ => dts_nil) (fun _ _ _ _ _ => (de_call c_Lsigned (hr.mono (by decide)) hgd rfl (da_cons (de_var (pv 0)) (da_cons (de_var (pv 2)) da_nil)))))) da_nil)))), run_Lform h⟩
theorem ok_Lpoly {f : Addr} {fd : FuncData} (F : Fun K "_law_poly" "_law_poly" s_Lpoly f fd) (gm : mg "_law_poly" = some (.ref f)) (hb : Binds K fd p_Lpoly []) (T : Bt mg) (c_Ldraw : Callee P w K mg base 1 "_law_draw" p_Ldraw sp_Ldraw) (c_Llowest : Callee P w K mg base 2 "_law_lowest" p_Llowest sp_Llowest) : Callee P w K mg base 3 "_law_poly" p_Lpoly sp_Lpoly :=
  callee_of F gm hb sc_Lpoly len_Lpoly fun cdv A outer s H ds S Q hr hgd h => by
    have hu1 := hu_of hr
    have hu0 := hr.units0
    have hu64 := hr.units
    exact ⟨t_Lpoly, (dss_cons (ds_set (ps_set (i := 3) sc_Lpoly.nd rfl (Or.inr rfl) de_newT))
  (dss_cons (ds_for PassesOwn.never rfl (di_rng1 (pi_range1 rfl T.range (da_cons (de_call c_Ldraw (hr.mono (by decide)) hgd rfl (da_cons (de_var (pv 0)) (da_cons de_int da_nil))) da_nil))) (dg_name (pg_name (i := 4) sc_Lpoly.nd rfl (Or.inl rfl))) (dss_cons (ds_par (ps_par rfl sc_Lpoly.nd rfl rfl (by decide) rfl rfl (da_cons (de_lst da_nil) (da_cons (de_var (pv 2)) da_nil)) rfl))
  (dss_cons (ds_for PassesOwn.never rfl (di_rng1 (pi_range1 rfl T.range (da_cons (de_var (pv 1)) da_nil))) (dg_name (pg_name (i := 7) sc_Lpoly.nd rfl (Or.inl rfl))) (dss_cons (ds_set (ps_set (i := 9) sc_Lpoly.nd rfl (Or.inl rfl) (de_call c_Ldraw (hr.mono (by decide)) hgd rfl (da_cons (de_var (pv 0)) (da_cons (de_add (de_var (pv 6)) de_int) da_nil)))))
  (dss_cons (ds_expr (de_append (pe_bm PySem.F.plainAttrs_list PySem.F.slot_list_append PySem.F.type_list_append mt_append (de_var (pv 5)) (da_cons (de_var (pv 9)) da_nil))))
  (dss_one (ds_set (ps_set (i := 6) sc_Lpoly.nd rfl (Or.inl rfl) (de_sub (de_var (pv 6)) (de_var (pv 9)))))))))
  (dss_cons (ds_set (ps_set (i := 8) sc_Lpoly.nd rfl (Or.inl rfl) (de_add de_int (de_call c_Ldraw (hr.mono (by decide)) hgd rfl (da_cons (de_var (pv 0)) (da_cons de_int da_nil))))))
  (dss_one (ds_asg (de_call c_Llowest (hr.mono (by decide)) hgd rfl (da_cons (de_if (dt_cmp (op_eqD hu64) rr_eq (de_call c_Ldraw (hr.mono (by decide)) hgd rfl (da_cons (de_var (pv 0)) (da_cons de_int da_nil))) de_int (nomark _)) (de_var (pv 8)) (de_neg (de_var (pv 8)))) (da_cons (de_add de_int (de_call c_Ldraw (hr.mono (by decide)) hgd rfl (da_cons (de_var (pv 0)) (da_cons de_int da_nil)))) da_nil))) (dg_sub hu1 (de_var (pv 3)) (de_ty call_tuple_of rc_tupOf rfl T.tuple (by decide +kernel) (da_cons (de_var (pv 5)) da_nil)))))))))
  (dss_one (ds_ret (de_ty call_tuple_of rc_tupOf rfl T.tuple (by decide +kernel) (da_cons (de_lc (own := [("key", 10)]) (by decide) (pe_lc (own := [("key", 10)]) rfl sc_Lpoly.nd (di_iter (de_bi (call_sortT rfl hu64) rc_sortT rfl T.sorted (by decide +kernel) (da_cons (de_var (pv 3)) da_nil))) (blkOk_by (own := [("key", 10)]) (N := n_Lpoly) (sc := defScope s_Lpoly) (by decide +kernel)) (fun _ _ _ _ _ => (dg_name (pg_name (i := 10) sc_Lpoly.nd rfl (Or.inl rfl)))) (fun _ _ _ _ _ => dts_nil) (fun _ _ _ _ _ => (de_tup (da_cons (de_ix hu1 (de_var (pv 3)) (de_var (pv 10))) (da_cons (de_var (pv 10)) da_nil)))))) da_nil)))))), run_Lpoly h⟩
theorem ok_Lchoices {f : Addr} {fd : FuncData} (F : Fun K "_law_choices" "_law_choices" s_Lchoices f fd) (gm : mg "_law_choices" = some (.ref f)) (hb : Binds K fd p_Lchoices []) (T : Bt mg) (c_Lsigned : Callee P w K mg base 2 "_law_signed" p_Lsigned sp_Lsigned) (c_Lof : Callee P w K mg base 2 "_law_of" p_Lof sp_Lof) : Callee P w K mg base 3 "_law_choices" p_Lchoices sp_Lchoices :=
  callee_of F gm hb sc_Lchoices len_Lchoices fun cdv A outer s H ds S Q hr hgd h => by
    have hu1 := hu_of hr
    have hu0 := hr.units0
    have hu64 := hr.units
    exact ⟨t_Lchoices, (dss_cons (ds_set (ps_set (i := 3) sc_Lchoices.nd rfl (Or.inl rfl) (de_lst da_nil)))
  (dss_cons (ds_for PassesOwn.never rfl (di_rng1 (pi_range1 rfl T.range (da_cons (de_var (pv 2)) da_nil))) (dg_name (pg_name (i := 4) sc_Lchoices.nd rfl (Or.inl rfl))) (dss_one (ds_expr (de_append (pe_bm PySem.F.plainAttrs_list PySem.F.slot_list_append PySem.F.type_list_append mt_append (de_var (pv 3)) (da_cons (de_ty call_tuple_of rc_tupOf rfl T.tuple (by decide +kernel) (da_cons (de_lc (own := [("i", 5)]) (by decide) (pe_lc (own := [("i", 5)]) rfl sc_Lchoices.nd (di_rng1 (pi_range1 rfl T.range (da_cons (de_var (pv 1)) da_nil))) (blkOk_by (own := [("i", 5)]) (N := n_Lchoices) (sc := defScope s_Lchoices) (by decide +kernel)) (fun _ _ _ _ _ => (dg_name (pg_name (i := 5) sc_Lchoices.nd rfl (Or.inl rfl)))) (fun _ _ _ _ _ => dts_nil) (fun _ _ _ _ _ => (de_call c_Lsigned (hr.mono (by decide)) hgd rfl (da_cons (de_var (pv 0)) (da_cons (de_call c_Lof (hr.mono (by decide)) hgd rfl (da_cons (de_var (pv 0)) (da_cons (de_lst (da_cons de_int (da_cons de_int (da_cons de_int (da_cons (de_pow de_int de_int) da_nil))))) da_nil))) da_nil)))))) da_nil)) da_nil))))))
  (dss_one (ds_ret (de_var (pv 3)))))), run_Lchoices h⟩
theorem ok_Lare_forms {f : Addr} {fd : FuncData} (F : Fun K "_law_are_forms" "_law_are_forms" s_Lare_forms f fd) (gm : mg "_law_are_forms" = some (.ref f)) (hb : Binds K fd p_Lare_forms []) (T : Bt mg) (c_Lis_form : Callee P w K mg base 2 "_law_is_form" p_Lis_form sp_Lis_form) : Callee P w K mg base 3 "_law_are_forms" p_Lare_forms sp_Lare_forms :=
  callee_of F gm hb sc_Lare_forms len_Lare_forms fun cdv A outer s H ds S Q hr hgd h => by
    have hu1 := hu_of hr
    have hu0 := hr.units0
    have hu64 := hr.units
    exact ⟨t_Lare_forms, (dss_one (ds_ret (de_and (de_bi call_isi rc_isi rfl T.isinstance (by decide +kernel) (da_cons (de_var (pv 0)) (da_cons (de_tyname rfl T.tuple (by decide +kernel)) da_nil))) (de_one (de_cmp (op_eqD hu64) rr_eq (de_lc (own := [("x", 2)]) (by decide) (pe_lc (own := [("x", 2)]) rfl sc_Lare_forms.nd (di_iter (de_var (pv 0))) (blkOk_by (own := [("x", 2)]) (N := n_Lare_forms) (sc := defScope s_Lare_forms) (by decide +kernel)) (fun _ _ _ _ _ => (dg_name (pg_name (i := 2) sc_Lare_forms.nd rfl (Or.inl rfl)))) (fun _ _ _ _ _ => (dts_one (dt_not (dt_val (de_call c_Lis_form (hr.mono (by decide)) hgd rfl (da_cons (de_var (pv 2)) (da_cons (de_var (pv 1)) da_nil))))))) (fun _ _ _ _ _ => (de_var (pv 2))))) (de_lst da_nil) (nomark _)))))), run_Lare_forms h⟩
theorem ok_Lare_pairs {f : Addr} {fd : FuncData} (F : Fun K "_law_are_pairs" "_law_are_pairs" s_Lare_pairs f fd) (gm : mg "_law_are_pairs" = some (.ref f)) (hb : Binds K fd p_Lare_pairs []) (T : Bt mg) (c_Lis_int : Callee P w K mg base 1 "_law_is_int" p_Lis_int sp_Lis_int) (c_Lis_form : Callee P w K mg base 2 "_law_is_form" p_Lis_form sp_Lis_form) : Callee P w K mg base 3 "_law_are_pairs" p_Lare_pairs sp_Lare_pairs :=
  callee_of F gm hb sc_Lare_pairs len_Lare_pairs fun cdv A outer s H ds S Q hr hgd h => by
    have hu1 := hu_of hr
    have hu0 := hr.units0
    have hu64 := hr.units
    exact ⟨t_Lare_pairs, (dss_cons (ds_if (dt_not (dt_val (de_bi call_isi rc_isi rfl T.isinstance (by decide +kernel) (da_cons (de_var (pv 0)) (da_cons (de_tyname rfl T.tuple (by decide +kernel)) da_nil))))) (dss_one (ds_ret de_bl)) dss_nil)
  (dss_cons (ds_for PassesOwn.never rfl (di_iter (de_var (pv 0))) (dg_name (pg_name (i := 3) sc_Lare_pairs.nd rfl (Or.inl rfl))) (dss_cons (ds_if (PW.pt (dw_or (dt_not (dt_val (de_bi call_isi rc_isi rfl T.isinstance (by decide +kernel) (da_cons (de_var (pv 3)) (da_cons (de_tyname rfl T.tuple (by decide +kernel)) da_nil))))) (dw_or (dt_cmp (op_neD hu64) rr_ne (de_bi call_len rc_len rfl T.len PySem.boot_len (da_cons (de_var (pv 3)) da_nil)) de_int (nomark _)) (dw_one_or (dt_not (dt_val (de_call c_Lis_int (hr.mono (by decide)) hgd rfl (da_cons (de_ix hu1 (de_var (pv 3)) de_int) da_nil)))))))) (dss_one (ds_ret de_bl)) dss_nil)
  (dss_one (ds_if (PW.pt (dw_or (dt_cmp (op_ltD hu0) rr_lt (de_ix hu1 (de_var (pv 3)) de_int) (de_var (pv 2)) (nomark _)) (dw_one_or (dt_not (dt_val (de_call c_Lis_form (hr.mono (by decide)) hgd rfl (da_cons (de_ix hu1 (de_var (pv 3)) de_int) (da_cons (de_var (pv 1)) da_nil)))))))) (dss_one (ds_ret de_bl)) dss_nil))))
  (dss_one (ds_ret de_bl)))), run_Lare_pairs h⟩
theorem ok_put_in_tally {f : Addr} {fd : FuncData} (F : Fun K "put_in_tally" "put_in_tally" s_put_in_tally f fd) (gm : mg "put_in_tally" = some (.ref f)) (hb : Binds K fd p_put_in_tally []) (T : Bt mg) (c_put_in : Callee P w K mg base 2 "put_in" p_put_in sp_put_in) (c_put_in_pairs : Callee P w K mg base 3 "put_in_pairs" p_put_in_pairs sp_put_in_pairs) : Callee P w K mg base 4 "put_in_tally" p_put_in_tally sp_put_in_tally :=
  callee_of F gm hb sc_put_in_tally len_put_in_tally fun cdv A outer s H ds S Q hr hgd h => by
    have hu1 := hu_of hr
    have hu0 := hr.units0
    have hu64 := hr.units
    exact ⟨t_put_in_tally, (dss_cons (ds_set (ps_set (i := 3) sc_put_in_tally.nd rfl (Or.inl rfl) (de_lst da_nil)))
  (dss_cons (ds_for PassesOwn.never rfl (di_iter (de_var (pv 0))) (dg_tup (dgs_cons (dg_name (pg_name (i := 4) sc_put_in_tally.nd rfl (Or.inl rfl))) (dgs_cons (dg_name (pg_name (i := 5) sc_put_in_tally.nd rfl (Or.inl rfl))) (dgs_cons (dg_name (pg_name (i := 6) sc_put_in_tally.nd rfl (Or.inl rfl))) (dgs_cons (dg_name (pg_name (i := 7) sc_put_in_tally.nd rfl (Or.inl rfl))) dgs_nil)))) (pg_tup rfl (dgs_cons (dg_name (pg_name (i := 4) sc_put_in_tally.nd rfl (Or.inl rfl))) (dgs_cons (dg_name (pg_name (i := 5) sc_put_in_tally.nd rfl (Or.inl rfl))) (dgs_cons (dg_name (pg_name (i := 6) sc_put_in_tally.nd rfl (Or.inl rfl))) (dgs_cons (dg_name (pg_name (i := 7) sc_put_in_tally.nd rfl (Or.inl rfl))) dgs_nil)))))) (dss_cons (ds_set (ps_set (i := 8) sc_put_in_tally.nd rfl (Or.inl rfl) (de_ty call_tuple_of rc_tupOf rfl T.tuple (by decide +kernel) (da_cons (de_lc (own := [("row", 9)]) (by decide) (pe_lc (own := [("row", 9)]) rfl sc_put_in_tally.nd (di_iter (de_var (pv 4))) (blkOk_by (own := [("row", 9)]) (N := n_put_in_tally) (sc := defScope s_put_in_tally) (by decide +kernel)) (fun _ _ _ _ _ => (dg_name (pg_name (i := 9) sc_put_in_tally.nd rfl (Or.inl rfl)))) (fun _ _ _ _ _ => dts_nil) (fun _ _ _ _ _ => (de_call c_put_in (hr.mono (by decide)) hgd rfl (da_cons (de_var (pv 9)) (da_cons (de_var (pv 1)) (da_cons (de_var (pv 2)) da_nil))))))) da_nil))))
  (dss_one (ds_expr (de_append (pe_bm PySem.F.plainAttrs_list PySem.F.slot_list_append PySem.F.type_list_append mt_append (de_var (pv 3)) (da_cons (de_tup (da_cons (de_var (pv 8)) (da_cons (de_call c_put_in_pairs (hr.mono (by decide)) hgd rfl (da_cons (de_var (pv 5)) (da_cons (de_var (pv 1)) (da_cons (de_var (pv 2)) da_nil)))) (da_cons (de_call c_put_in_pairs (hr.mono (by decide)) hgd rfl (da_cons (de_var (pv 6)) (da_cons (de_var (pv 1)) (da_cons (de_var (pv 2)) da_nil)))) (da_cons (de_var (pv 7)) da_nil))))) da_nil)))))))
  (dss_one (ds_ret (de_ty call_tuple_of rc_tupOf rfl T.tuple (by decide +kernel) (da_cons (de_var (pv 3)) da_nil)))))), run_put_in_tally h⟩
theorem ok_Lpoly_value {f : Addr} {fd : FuncData} (F : Fun K "_law_poly_value" "_law_poly_value" s_Lpoly_value f fd) (gm : mg "_law_poly_value" = some (.ref f)) (hb : Binds K fd p_Lpoly_value []) (T : Bt mg) (c_Lplus : Callee P w K mg base 3 "_law_plus" p_Lplus sp_Lplus) (c_Llowest : Callee P w K mg base 2 "_law_lowest" p_Llowest sp_Llowest) : Callee P w K mg base 4 "_law_poly_value" p_Lpoly_value sp_Lpoly_value :=
  callee_of F gm hb sc_Lpoly_value len_Lpoly_value fun cdv A outer s H ds S Q hr hgd h => by
    have hu1 := hu_of hr
    have hu0 := hr.units0
    have hu64 := hr.units
    exact ⟨t_Lpoly_value, (dss_cons (ds_set (ps_set (i := 2) sc_Lpoly_value.nd rfl (Or.inl rfl) (de_tup (da_cons de_int (da_cons de_int da_nil)))))
  (dss_cons (ds_for PassesOwn.never rfl (di_iter (de_var (pv 0))) (dg_tup (dgs_cons (dg_name (pg_name (i := 3) sc_Lpoly_value.nd rfl (Or.inl rfl))) (dgs_cons (dg_name (pg_name (i := 4) sc_Lpoly_value.nd rfl (Or.inl rfl))) dgs_nil)) (pg_tup rfl (dgs_cons (dg_name (pg_name (i := 3) sc_Lpoly_value.nd rfl (Or.inl rfl))) (dgs_cons (dg_name (pg_name (i := 4) sc_Lpoly_value.nd rfl (Or.inl rfl))) dgs_nil)))) (dss_cons (ds_set (ps_set (i := 5) sc_Lpoly_value.nd rfl (Or.inl rfl) (de_ix hu1 (de_var (pv 3)) de_int)))
  (dss_cons (ds_for PassesOwn.never rfl (di_rng1 (pi_range1 rfl T.range (da_cons (de_bi call_len rc_len rfl T.len PySem.boot_len (da_cons (de_var (pv 4)) da_nil)) da_nil))) (dg_name (pg_name (i := 6) sc_Lpoly_value.nd rfl (Or.inl rfl))) (dss_one (ds_for PassesOwn.never rfl (di_rng1 (pi_range1 rfl T.range (da_cons (de_ix hu1 (de_var (pv 4)) (de_var (pv 6))) da_nil))) (dg_name (pg_name (i := 7) sc_Lpoly_value.nd rfl (Or.inl rfl))) (dss_one (ds_set (ps_set (i := 5) sc_Lpoly_value.nd rfl (Or.inl rfl) (de_mul (de_var (pv 5)) (de_ix hu1 (de_var (pv 1)) (de_var (pv 6))))))))))
  (dss_one (ds_set (ps_set (i := 2) sc_Lpoly_value.nd rfl (Or.inl rfl) (de_call c_Lplus (hr.mono (by decide)) hgd rfl (da_cons (de_var (pv 2)) (da_cons (de_call c_Llowest (hr.mono (by decide)) hgd rfl (da_cons (de_var (pv 5)) (da_cons (de_ix hu1 (de_var (pv 3)) de_int) da_nil))) da_nil)))))))))
  (dss_one (ds_ret (de_var (pv 2)))))), run_Lpoly_value h⟩
theorem ok_Lterm {f : Addr} {fd : FuncData} (F : Fun K "_law_term" "_law_term" s_Lterm f fd) (gm : mg "_law_term" = some (.ref f)) (hb : Binds K fd p_Lterm []) (T : Bt mg) (c_Lpoly : Callee P w K mg base 3 "_law_poly" p_Lpoly sp_Lpoly) (c_Lform : Callee P w K mg base 3 "_law_form" p_Lform sp_Lform) (c_Ldraw : Callee P w K mg base 1 "_law_draw" p_Ldraw sp_Ldraw) (c_Lof : Callee P w K mg base 2 "_law_of" p_Lof sp_Lof) : Callee P w K mg base 4 "_law_term" p_Lterm sp_Lterm :=
  callee_of F gm hb sc_Lterm len_Lterm fun cdv A outer s H ds S Q hr hgd h => by
    have hu1 := hu_of hr
    have hu0 := hr.units0
    have hu64 := hr.units
    exact ⟨t_Lterm, (dss_cons (ds_set (ps_set (i := 2) sc_Lterm.nd rfl (Or.inl rfl) (de_ty call_tuple_of rc_tupOf rfl T.tuple (by decide +kernel) (da_cons (de_lc (own := [("step", 5)]) (by decide) (pe_lc (own := [("step", 5)]) rfl sc_Lterm.nd (di_rng1 (pi_range1 rfl T.range (da_cons (de_call c_Ldraw (hr.mono (by decide)) hgd rfl (da_cons (de_var (pv 0)) (da_cons de_int da_nil))) da_nil))) (blkOk_by (own := [("step", 5)]) (N := n_Lterm) (sc := defScope s_Lterm) (by decide +kernel)) (fun _ _ _ _ _ => (dg_name (pg_name (i := 5) sc_Lterm.nd rfl (Or.inl rfl)))) (fun _ _ _ _ _ => dts_nil) (fun _ _ _ _ _ => (de_call c_Lform (hr.mono (by decide)) hgd rfl (da_cons (de_var (pv 0)) (da_cons (de_var (pv 1)) (da_cons de_int da_nil))))))) da_nil))))
  (dss_cons (ds_set (ps_set (i := 3) sc_Lterm.nd rfl (Or.inl rfl) (de_ty call_tuple_of rc_tupOf rfl T.tuple (by decide +kernel) (da_cons (de_lc (own := [("step", 5)]) (by decide) (pe_lc (own := [("step", 5)]) rfl sc_Lterm.nd (di_rng1 (pi_range1 rfl T.range (da_cons (de_call c_Lof (hr.mono (by decide)) hgd rfl (da_cons (de_var (pv 0)) (da_cons (de_lst (da_cons de_int (da_cons de_int (da_cons de_int (da_cons de_int da_nil))))) da_nil))) da_nil))) (blkOk_by (own := [("step", 5)]) (N := n_Lterm) (sc := defScope s_Lterm) (by decide +kernel)) (fun _ _ _ _ _ => (dg_name (pg_name (i := 5) sc_Lterm.nd rfl (Or.inl rfl)))) (fun _ _ _ _ _ => dts_nil) (fun _ _ _ _ _ => (de_tup (da_cons (de_add de_int (de_call c_Ldraw (hr.mono (by decide)) hgd rfl (da_cons (de_var (pv 0)) (da_cons de_int da_nil)))) (da_cons (de_call c_Lform (hr.mono (by decide)) hgd rfl (da_cons (de_var (pv 0)) (da_cons (de_var (pv 1)) (da_cons de_int da_nil)))) da_nil)))))) da_nil))))
  (dss_cons (ds_set (ps_set (i := 4) sc_Lterm.nd rfl (Or.inl rfl) (de_ty call_tuple_of rc_tupOf rfl T.tuple (by decide +kernel) (da_cons (de_lc (own := [("step", 5)]) (by decide) (pe_lc (own := [("step", 5)]) rfl sc_Lterm.nd (di_rng1 (pi_range1 rfl T.range (da_cons (de_call c_Ldraw (hr.mono (by decide)) hgd rfl (da_cons (de_var (pv 0)) (da_cons de_int da_nil))) da_nil))) (blkOk_by (own := [("step", 5)]) (N := n_Lterm) (sc := defScope s_Lterm) (by decide +kernel)) (fun _ _ _ _ _ => (dg_name (pg_name (i := 5) sc_Lterm.nd rfl (Or.inl rfl)))) (fun _ _ _ _ _ => dts_nil) (fun _ _ _ _ _ => (de_tup (da_cons (de_add de_int (de_call c_Ldraw (hr.mono (by decide)) hgd rfl (da_cons (de_var (pv 0)) (da_cons de_int da_nil)))) (da_cons (de_call c_Lform (hr.mono (by decide)) hgd rfl (da_cons (de_var (pv 0)) (da_cons (de_var (pv 1)) (da_cons de_int da_nil)))) da_nil)))))) da_nil))))
  (dss_one (ds_ret (de_tup (da_cons (de_var (pv 2)) (da_cons (de_var (pv 3)) (da_cons (de_var (pv 4)) (da_cons (de_call c_Lpoly (hr.mono (by decide)) hgd rfl (da_cons (de_var (pv 0)) (da_cons (de_bi call_len rc_len rfl T.len PySem.boot_len (da_cons (de_var (pv 4)) da_nil)) (da_cons de_int da_nil)))) da_nil)))))))))), run_Lterm h⟩
theorem ok_Lis_term {f : Addr} {fd : FuncData} (F : Fun K "_law_is_term" "_law_is_term" s_Lis_term f fd) (gm : mg "_law_is_term" = some (.ref f)) (hb : Binds K fd p_Lis_term []) (T : Bt mg) (c_Lare_pairs : Callee P w K mg base 3 "_law_are_pairs" p_Lare_pairs sp_Lare_pairs) (c_Lis_poly : Callee P w K mg base 2 "_law_is_poly" p_Lis_poly sp_Lis_poly) (c_Lare_forms : Callee P w K mg base 3 "_law_are_forms" p_Lare_forms sp_Lare_forms) : Callee P w K mg base 4 "_law_is_term" p_Lis_term sp_Lis_term :=
  callee_of F gm hb sc_Lis_term len_Lis_term fun cdv A outer s H ds S Q hr hgd h => by
    have hu1 := hu_of hr
    have hu0 := hr.units0
    have hu64 := hr.units
    exact ⟨t_Lis_term, (dss_cons (ds_if (PW.pt (dw_or (dt_not (dt_val (de_bi call_isi rc_isi rfl T.isinstance (by decide +kernel) (da_cons (de_var (pv 0)) (da_cons (de_tyname rfl T.tuple (by decide +kernel)) da_nil))))) (dw_one_or (dt_cmp (op_neD hu64) rr_ne (de_bi call_len rc_len rfl T.len PySem.boot_len (da_cons (de_var (pv 0)) da_nil)) de_int (nomark _))))) (dss_one (ds_ret de_bl)) dss_nil)
  (dss_cons (ds_asg (de_var (pv 0)) (dg_tup (dgs_cons (dg_name (pg_name (i := 2) sc_Lis_term.nd rfl (Or.inl rfl))) (dgs_cons (dg_name (pg_name (i := 3) sc_Lis_term.nd rfl (Or.inl rfl))) (dgs_cons (dg_name (pg_name (i := 4) sc_Lis_term.nd rfl (Or.inl rfl))) (dgs_cons (dg_name (pg_name (i := 5) sc_Lis_term.nd rfl (Or.inl rfl))) dgs_nil)))) (pg_tup rfl (dgs_cons (dg_name (pg_name (i := 2) sc_Lis_term.nd rfl (Or.inl rfl))) (dgs_cons (dg_name (pg_name (i := 3) sc_Lis_term.nd rfl (Or.inl rfl))) (dgs_cons (dg_name (pg_name (i := 4) sc_Lis_term.nd rfl (Or.inl rfl))) (dgs_cons (dg_name (pg_name (i := 5) sc_Lis_term.nd rfl (Or.inl rfl))) dgs_nil)))))))
  (dss_cons (ds_if (PW.pt (dw_or (dt_not (dt_val (de_call c_Lare_forms (hr.mono (by decide)) hgd rfl (da_cons (de_var (pv 2)) (da_cons (de_var (pv 1)) da_nil))))) (dw_one_or (dt_not (dt_val (de_call c_Lare_pairs (hr.mono (by decide)) hgd rfl (da_cons (de_var (pv 3)) (da_cons (de_var (pv 1)) (da_cons de_int da_nil))))))))) (dss_one (ds_ret de_bl)) dss_nil)
  (dss_one (ds_ret (de_and (de_call c_Lare_pairs (hr.mono (by decide)) hgd rfl (da_cons (de_var (pv 4)) (da_cons (de_var (pv 1)) (da_cons de_int da_nil)))) (de_one (de_call c_Lis_poly (hr.mono (by decide)) hgd rfl (da_cons (de_var (pv 5)) (da_cons (de_bi call_len rc_len rfl T.len PySem.boot_len (da_cons (de_var (pv 4)) da_nil)) da_nil)))))))))), run_Lis_term h⟩
theorem ok_Lforms {f : Addr} {fd : FuncData} (F : Fun K "_law_forms" "_law_forms" s_Lforms f fd) (gm : mg "_law_forms" = some (.ref f)) (hb : Binds K fd p_Lforms []) (T : Bt mg) (c_Ldraw : Callee P w K mg base 1 "_law_draw" p_Ldraw sp_Ldraw) (c_Lform : Callee P w K mg base 3 "_law_form" p_Lform sp_Lform) : Callee P w K mg base 4 "_law_forms" p_Lforms sp_Lforms :=
  callee_of F gm hb sc_Lforms len_Lforms fun cdv A outer s H ds S Q hr hgd h => by
    have hu1 := hu_of hr
    have hu0 := hr.units0
    have hu64 := hr.units
    exact ⟨t_Lforms, (dss_cons (ds_par (ps_par rfl sc_Lforms.nd rfl rfl (by decide) rfl rfl (da_cons (de_lst da_nil) (da_cons (de_call c_Ldraw (hr.mono (by decide)) hgd rfl (da_cons (de_var (pv 0)) (da_cons de_int da_nil))) da_nil)) rfl))
  (dss_cons (ds_for PassesOwn.never rfl (di_rng1 (pi_range1 rfl T.range (da_cons (de_var (pv 1)) da_nil))) (dg_name (pg_name (i := 5) sc_Lforms.nd rfl (Or.inl rfl))) (dss_cons (ds_set (ps_set (i := 6) sc_Lforms.nd rfl (Or.inl rfl) (de_call c_Lform (hr.mono (by decide)) hgd rfl (da_cons (de_var (pv 0)) (da_cons (de_var (pv 2)) (da_cons de_int da_nil))))))
  (dss_cons (ds_if (PW.pt (dw_and (dt_cmp (op_eqD hu64) rr_eq (de_var (pv 4)) de_int (nomark _)) (dw_one_and (dt_cmp op_gt rr_cmp (de_var (pv 2)) de_int (nomark _))))) (dss_cons (ds_set (ps_set (i := 7) sc_Lforms.nd rfl (Or.inr rfl) (de_call c_Ldraw (hr.mono (by decide)) hgd rfl (da_cons (de_var (pv 0)) (da_cons (de_var (pv 2)) da_nil)))))
  (dss_one (ds_set (ps_set (i := 6) sc_Lforms.nd rfl (Or.inl rfl) (de_add (de_tup (da_cons de_int da_nil)) (de_ty call_tuple_of rc_tupOf rfl T.tuple (by decide +kernel) (da_cons (de_lc (own := [("i", 9)]) (by decide) (pe_lc (own := [("i", 9)]) rfl sc_Lforms.nd (di_rng1 (pi_range1 rfl T.range (da_cons (de_var (pv 2)) da_nil))) (blkOk_by (own := [("i", 9)]) (N := n_Lforms) (sc := defScope s_Lforms) (by decide +kernel)) (fun _ _ _ _ _ => (dg_name (pg_name (i := 9) sc_Lforms.nd rfl (Or.inl rfl)))) (fun _ _ _ _ _ => dts_nil) (fun _ _ _ _ _ => (de_if (dt_cmp (op_eqD hu64) rr_eq (de_var (pv 9)) (de_var (pv 7)) (nomark _)) de_int de_int)))) da_nil))))))) dss_nil)
  (dss_cons (ds_if (dt_cmp (op_eqD hu64) rr_eq (de_var (pv 4)) de_int (nomark _)) (dss_one (ds_set (ps_set (i := 6) sc_Lforms.nd rfl (Or.inl rfl) (de_add (de_tup (da_cons (de_ix hu1 (de_var (pv 6)) de_int) da_nil)) (de_mul (de_tup (da_cons de_int da_nil)) (de_var (pv 2))))))) dss_nil)
  (dss_cons (ds_if (dt_cmp (op_eqD hu64) rr_eq (de_var (pv 4)) de_int (nomark _)) (dss_one (ds_set (ps_set (i := 6) sc_Lforms.nd rfl (Or.inl rfl) (de_ty call_tuple_of rc_tupOf rfl T.tuple (by decide +kernel) (da_cons (de_lc (own := [("c", 8)]) (by decide) (pe_lc (own := [("c", 8)]) rfl sc_Lforms.nd (di_iter (de_var (pv 6))) (blkOk_by (own := [("c", 8)]) (N := n_Lforms) (sc := defScope s_Lforms) (by decide +kernel)) (fun _ _ _ _ _ => (dg_name (pg_name (i := 8) sc_Lforms.nd rfl (Or.inl rfl)))) (fun _ _ _ _ _ => dts_nil) (fun _ _ _ _ _ => (de_mul de_int (de_var (pv 8)))))) da_nil))))) dss_nil)
  (dss_one (ds_expr (de_append (pe_bm PySem.F.plainAttrs_list PySem.F.slot_list_append PySem.F.type_list_append mt_append (de_var (pv 3)) (da_cons (de_var (pv 6)) da_nil))))))))))
  (dss_one (ds_ret (de_ty call_tuple_of rc_tupOf rfl T.tuple (by decide +kernel) (da_cons (de_var (pv 3)) da_nil)))))), run_Lforms h⟩
theorem ok_Lworth {f : Addr} {fd : FuncData} (F : Fun K "_law_worth" "_law_worth" s_Lworth f fd) (gm : mg "_law_worth" = some (.ref f)) (hb : Binds K fd p_Lworth []) (T : Bt mg) (c_Lplus : Callee P w K mg base 3 "_law_plus" p_Lplus sp_Lplus) (c_Lpoly_value : Callee P w K mg base 4 "_law_poly_value" p_Lpoly_value sp_Lpoly_value) (c_Lform_value : Callee P w K mg base 1 "_law_form_value" p_Lform_value sp_Lform_value) : Callee P w K mg base 5 "_law_worth" p_Lworth sp_Lworth :=
  callee_of F gm hb sc_Lworth len_Lworth fun cdv A outer s H ds S Q hr hgd h => by
    have hu1 := hu_of hr
    have hu0 := hr.units0
    have hu64 := hr.units
    exact ⟨t_Lworth, (dss_cons (ds_set (ps_set (i := 2) sc_Lworth.nd rfl (Or.inl rfl) (de_tup (da_cons de_int (da_cons de_int da_nil)))))
  (dss_cons (ds_for PassesOwn.never rfl (di_iter (de_var (pv 0))) (dg_tup (dgs_cons (dg_name (pg_name (i := 3) sc_Lworth.nd rfl (Or.inl rfl))) (dgs_cons (dg_name (pg_name (i := 4) sc_Lworth.nd rfl (Or.inl rfl))) (dgs_cons (dg_name (pg_name (i := 5) sc_Lworth.nd rfl (Or.inl rfl))) (dgs_cons (dg_name (pg_name (i := 6) sc_Lworth.nd rfl (Or.inl rfl))) dgs_nil)))) (pg_tup rfl (dgs_cons (dg_name (pg_name (i := 3) sc_Lworth.nd rfl (Or.inl rfl))) (dgs_cons (dg_name (pg_name (i := 4) sc_Lworth.nd rfl (Or.inl rfl))) (dgs_cons (dg_name (pg_name (i := 5) sc_Lworth.nd rfl (Or.inl rfl))) (dgs_cons (dg_name (pg_name (i := 6) sc_Lworth.nd rfl (Or.inl rfl))) dgs_nil)))))) (dss_cons (ds_setLc (own := [("row", 10)]) (by decide) (ps_setLc (i := 7) (own := [("row", 10)]) rfl sc_Lworth.nd rfl rfl (sw_true rfl rfl rfl (by decide +kernel)) (di_iter (de_var (pv 3))) (blkOk_by (own := [("row", 10)]) (N := n_Lworth) (sc := defScope s_Lworth) (by decide +kernel)) (fun _ _ _ _ _ => (dg_name (pg_name (i := 10) sc_Lworth.nd rfl (Or.inl rfl)))) (fun _ _ _ _ _ => (dts_one (dt_cmp (op_ltD hu0) rr_lt (de_call c_Lform_value (hr.mono (by decide)) hgd rfl (da_cons (de_var (pv 10)) (da_cons (de_var (pv 1)) da_nil))) de_int (nomark _)))) (fun _ _ _ _ _ => (de_var (pv 10)))))
  (dss_cons (ds_setLc (own := [("n", 11), ("form", 12)]) (by decide) (ps_setLc (i := 8) (own := [("n", 11), ("form", 12)]) rfl sc_Lworth.nd rfl rfl (sw_true rfl rfl rfl (by decide +kernel)) (di_iter (de_var (pv 4))) (blkOk_by (own := [("n", 11), ("form", 12)]) (N := n_Lworth) (sc := defScope s_Lworth) (by decide +kernel)) (fun _ _ _ _ _ => (dg_tup (dgs_cons (dg_name (pg_name (i := 11) sc_Lworth.nd rfl (Or.inl rfl))) (dgs_cons (dg_name (pg_name (i := 12) sc_Lworth.nd rfl (Or.inl rfl))) dgs_nil)) (pg_tup rfl (dgs_cons (dg_name (pg_name (i := 11) sc_Lworth.nd rfl (Or.inl rfl))) (dgs_cons (dg_name (pg_name (i := 12) sc_Lworth.nd rfl (Or.inl rfl))) dgs_nil))))) (fun _ _ _ _ _ => (dts_one (dt_cmp (op_neD hu64) rr_ne (de_mod (de_ty call_int1 rc_int rfl T.int (by decide +kernel) (da_cons (de_call c_Lform_value (hr.mono (by decide)) hgd rfl (da_cons (de_var (pv 12)) (da_cons (de_var (pv 1)) da_nil))) da_nil)) (de_var (pv 11))) de_int (nomark _)))) (fun _ _ _ _ _ => de_int)))
  (dss_one (ds_if (PW.pt (dw_and (dt_cmp (op_eqD hu64) rr_eq (de_var (pv 7)) (de_lst da_nil) (nomark _)) (dw_one_and (dt_cmp (op_eqD hu64) rr_eq (de_var (pv 8)) (de_lst da_nil) (nomark _))))) (dss_cons (ds_setLc (own := [("n", 11), ("form", 12)]) (by decide) (ps_setLc (i := 9) (own := [("n", 11), ("form", 12)]) rfl sc_Lworth.nd rfl rfl (sw_true rfl rfl rfl (by decide +kernel)) (di_iter (de_var (pv 5))) (blkOk_by (own := [("n", 11), ("form", 12)]) (N := n_Lworth) (sc := defScope s_Lworth) (by decide +kernel)) (fun _ _ _ _ _ => (dg_tup (dgs_cons (dg_name (pg_name (i := 11) sc_Lworth.nd rfl (Or.inl rfl))) (dgs_cons (dg_name (pg_name (i := 12) sc_Lworth.nd rfl (Or.inl rfl))) dgs_nil)) (pg_tup rfl (dgs_cons (dg_name (pg_name (i := 11) sc_Lworth.nd rfl (Or.inl rfl))) (dgs_cons (dg_name (pg_name (i := 12) sc_Lworth.nd rfl (Or.inl rfl))) dgs_nil))))) (fun _ _ _ _ _ => dts_nil) (fun _ _ _ _ _ => (de_div (de_call c_Lform_value (hr.mono (by decide)) hgd rfl (da_cons (de_var (pv 12)) (da_cons (de_var (pv 1)) da_nil))) (de_var (pv 11))))))
  (dss_one (ds_set (ps_set (i := 2) sc_Lworth.nd rfl (Or.inl rfl) (de_call c_Lplus (hr.mono (by decide)) hgd rfl (da_cons (de_var (pv 2)) (da_cons (de_call c_Lpoly_value (hr.mono (by decide)) hgd rfl (da_cons (de_var (pv 6)) (da_cons (de_var (pv 9)) da_nil))) da_nil))))))) dss_nil)))))
  (dss_one (ds_ret (de_var (pv 2)))))), run_Lworth h⟩
theorem ok_Ltally {f : Addr} {fd : FuncData} (F : Fun K "_law_tally" "_law_tally" s_Ltally f fd) (gm : mg "_law_tally" = some (.ref f)) (hb : Binds K fd p_Ltally []) (T : Bt mg) (c_Lterm : Callee P w K mg base 4 "_law_term" p_Lterm sp_Lterm) (c_Ldraw : Callee P w K mg base 1 "_law_draw" p_Ldraw sp_Ldraw) : Callee P w K mg base 5 "_law_tally" p_Ltally sp_Ltally :=
  callee_of F gm hb sc_Ltally len_Ltally fun cdv A outer s H ds S Q hr hgd h => by
    have hu1 := hu_of hr
    have hu0 := hr.units0
    have hu64 := hr.units
    exact ⟨t_Ltally, (dss_one (ds_ret (de_ty call_tuple_of rc_tupOf rfl T.tuple (by decide +kernel) (da_cons (de_lc (own := [("step", 2)]) (by decide) (pe_lc (own := [("step", 2)]) rfl sc_Ltally.nd (di_rng1 (pi_range1 rfl T.range (da_cons (de_call c_Ldraw (hr.mono (by decide)) hgd rfl (da_cons (de_var (pv 0)) (da_cons de_int da_nil))) da_nil))) (blkOk_by (own := [("step", 2)]) (N := n_Ltally) (sc := defScope s_Ltally) (by decide +kernel)) (fun _ _ _ _ _ => (dg_name (pg_name (i := 2) sc_Ltally.nd rfl (Or.inl rfl)))) (fun _ _ _ _ _ => dts_nil) (fun _ _ _ _ _ => (de_call c_Lterm (hr.mono (by decide)) hgd rfl (da_cons (de_var (pv 0)) (da_cons (de_var (pv 1)) da_nil)))))) da_nil)))), run_Ltally h⟩
theorem ok_Lbreach {f : Addr} {fd : FuncData} (F : Fun K "_law_breach" "_law_breach" s_Lbreach f fd) (gm : mg "_law_breach" = some (.ref f)) (hb : Binds K fd p_Lbreach []) (T : Bt mg) (c_Lis_term : Callee P w K mg base 4 "_law_is_term" p_Lis_term sp_Lis_term) : Callee P w K mg base 5 "_law_breach" p_Lbreach sp_Lbreach :=
  callee_of F gm hb sc_Lbreach len_Lbreach fun cdv A outer s H ds S Q hr hgd h => by
    have hu1 := hu_of hr
    have hu0 := hr.units0
    have hu64 := hr.units
    exact ⟨t_Lbreach, (dss_cons (ds_if (dt_not (dt_val (de_bi call_isi rc_isi rfl T.isinstance (by decide +kernel) (da_cons (de_var (pv 0)) (da_cons (de_tyname rfl T.tuple (by decide +kernel)) da_nil))))) (dss_one (ds_ret (de_neg de_int))) dss_nil)
  (dss_cons (ds_setLc (own := [("i", 3)]) (by decide) (ps_setLc (i := 2) (own := [("i", 3)]) rfl sc_Lbreach.nd rfl rfl (sw_true rfl rfl rfl (by decide +kernel)) (di_rng1 (pi_range1 rfl T.range (da_cons (de_bi call_len rc_len rfl T.len PySem.boot_len (da_cons (de_var (pv 0)) da_nil)) da_nil))) (blkOk_by (own := [("i", 3)]) (N := n_Lbreach) (sc := defScope s_Lbreach) (by decide +kernel)) (fun _ _ _ _ _ => (dg_name (pg_name (i := 3) sc_Lbreach.nd rfl (Or.inl rfl)))) (fun _ _ _ _ _ => (dts_one (dt_not (dt_val (de_call c_Lis_term (hr.mono (by decide)) hgd rfl (da_cons (de_ix hu1 (de_var (pv 0)) (de_var (pv 3))) (da_cons (de_var (pv 1)) da_nil))))))) (fun _ _ _ _ _ => (de_var (pv 3)))))
  (dss_one (ds_ret (de_if (dt_cmp (op_neD hu64) rr_ne (de_var (pv 2)) (de_lst da_nil) (nomark _)) (de_ix hu1 (de_var (pv 2)) de_int) de_non))))), run_Lbreach h⟩
theorem ok_law {f : Addr} {fd : FuncData} (F : Fun K "law" "law" s_law f fd) (gm : mg "law" = some (.ref f)) (hb : Binds K fd p_law []) (T : Bt mg) (c_Lbegun : Callee P w K mg base 1 "_law_begun" p_Lbegun sp_Lbegun) (c_Ltally : Callee P w K mg base 5 "_law_tally" p_Ltally sp_Ltally) (c_Lforms : Callee P w K mg base 4 "_law_forms" p_Lforms sp_Lforms) (c_put_in_tally : Callee P w K mg base 4 "put_in_tally" p_put_in_tally sp_put_in_tally) (c_Lchoices : Callee P w K mg base 3 "_law_choices" p_Lchoices sp_Lchoices) (c_Lbreach : Callee P w K mg base 5 "_law_breach" p_Lbreach sp_Lbreach) (c_Ldraw : Callee P w K mg base 1 "_law_draw" p_Ldraw sp_Ldraw) (c_Llike : Callee P w K mg base 1 "_law_like" p_Llike sp_Llike) (c_Lform_value : Callee P w K mg base 1 "_law_form_value" p_Lform_value sp_Lform_value) (c_Lworth : Callee P w K mg base 5 "_law_worth" p_Lworth sp_Lworth) : FnD P w K mg base 6 f fd p_law sp_law :=
  fnD_of F sc_law len_law fun cdv A outer s H ds S Q hr hgd h => by
    have hu1 := hu_of hr
    have hu0 := hr.units0
    have hu64 := hr.units
    exact ⟨t_law, (dss_cons (ds_for PassesOwn.never rfl (di_rng1 (pi_range1 rfl T.range (da_cons de_int da_nil))) (dg_name (pg_name (i := 1) sc_law.nd rfl (Or.inl rfl))) (dss_cons (ds_set (ps_set (i := 2) sc_law.nd rfl (Or.inl rfl) (de_call c_Lbegun (hr.mono (by decide)) hgd rfl (da_cons (de_var (pv 0)) (da_cons (de_var (pv 1)) da_nil)))))
  (dss_cons (ds_par3 (ps_par3 rfl sc_law.nd rfl rfl rfl (by decide) (by decide) (by decide) rfl rfl rfl (da_cons (de_call c_Ldraw (hr.mono (by decide)) hgd rfl (da_cons (de_var (pv 2)) (da_cons de_int da_nil))) (da_cons (de_call c_Ldraw (hr.mono (by decide)) hgd rfl (da_cons (de_var (pv 2)) (da_cons de_int da_nil))) (da_cons (de_call c_Ldraw (hr.mono (by decide)) hgd rfl (da_cons (de_var (pv 2)) (da_cons de_int da_nil))) da_nil))) rfl))
  (dss_cons (ds_set (ps_set (i := 6) sc_law.nd rfl (Or.inl rfl) (de_call c_Ltally (hr.mono (by decide)) hgd rfl (da_cons (de_var (pv 2)) (da_cons (de_var (pv 3)) da_nil)))))
  (dss_cons (ds_set (ps_set (i := 7) sc_law.nd rfl (Or.inl rfl) (de_call c_Lforms (hr.mono (by decide)) hgd rfl (da_cons (de_var (pv 2)) (da_cons (de_var (pv 3)) (da_cons (de_var (pv 4)) da_nil))))))
  (dss_cons (ds_set (ps_set (i := 8) sc_law.nd rfl (Or.inl rfl) (de_call c_put_in_tally (hr.mono (by decide)) hgd rfl (da_cons (de_var (pv 6)) (da_cons (de_var (pv 7)) (da_cons (de_var (pv 4)) da_nil))))))
  (dss_cons (ds_if (dt_cmp op_isNotD rr_isNot (de_call c_Lbreach (hr.mono (by decide)) hgd rfl (da_cons (de_var (pv 8)) (da_cons (de_var (pv 4)) da_nil))) de_non (nomark _)) (dss_one (ds_ret de_bl)) dss_nil)
  (dss_cons (ds_for PassesOwn.never rfl (di_iter (de_call c_Lchoices (hr.mono (by decide)) hgd rfl (da_cons (de_var (pv 2)) (da_cons (de_var (pv 4)) (da_cons de_int da_nil))))) (dg_name (pg_name (i := 9) sc_law.nd rfl (Or.inr rfl))) (dss_cons (ds_set (ps_set (i := 12) sc_law.nd rfl (Or.inr rfl) (de_ty call_tuple_of rc_tupOf rfl T.tuple (by decide +kernel) (da_cons (de_lc (own := [("form", 13)]) (by decide) (pe_lc (own := [("form", 13)]) rfl sc_law.nd (di_iter (de_var (pv 7))) (blkOk_by (own := [("form", 13)]) (N := n_law) (sc := defScope s_law) (by decide +kernel)) (fun _ _ _ _ _ => (dg_name (pg_name (i := 13) sc_law.nd rfl (Or.inl rfl)))) (fun _ _ _ _ _ => dts_nil) (fun _ _ _ _ _ => (de_call c_Lform_value (hr.mono (by decide)) hgd rfl (da_cons (de_var (pv 13)) (da_cons (de_var (pv 9)) da_nil)))))) da_nil))))
  (dss_one (ds_if (dt_not (dt_val (de_call c_Llike (hr.mono (by decide)) hgd rfl (da_cons (de_call c_Lworth (hr.mono (by decide)) hgd rfl (da_cons (de_var (pv 8)) (da_cons (de_var (pv 9)) da_nil))) (da_cons (de_call c_Lworth (hr.mono (by decide)) hgd rfl (da_cons (de_var (pv 6)) (da_cons (de_var (pv 12)) da_nil))) da_nil))))) (dss_one (ds_ret de_bl)) dss_nil))))
  (dss_cons (ds_set (ps_set (i := 10) sc_law.nd rfl (Or.inl rfl) (de_call c_Lforms (hr.mono (by decide)) hgd rfl (da_cons (de_var (pv 2)) (da_cons (de_var (pv 4)) (da_cons (de_var (pv 5)) da_nil))))))
  (dss_cons (ds_set (ps_set (i := 11) sc_law.nd rfl (Or.inl rfl) (de_call c_put_in_tally (hr.mono (by decide)) hgd rfl (da_cons (de_var (pv 8)) (da_cons (de_var (pv 10)) (da_cons (de_var (pv 5)) da_nil))))))
  (dss_cons (ds_if (dt_cmp op_isNotD rr_isNot (de_call c_Lbreach (hr.mono (by decide)) hgd rfl (da_cons (de_var (pv 11)) (da_cons (de_var (pv 5)) da_nil))) de_non (nomark _)) (dss_one (ds_ret de_bl)) dss_nil)
  (dss_one (ds_for PassesOwn.never rfl (di_iter (de_call c_Lchoices (hr.mono (by decide)) hgd rfl (da_cons (de_var (pv 2)) (da_cons (de_var (pv 5)) (da_cons de_int da_nil))))) (dg_name (pg_name (i := 9) sc_law.nd rfl (Or.inr rfl))) (dss_cons (ds_set (ps_set (i := 12) sc_law.nd rfl (Or.inr rfl) (de_ty call_tuple_of rc_tupOf rfl T.tuple (by decide +kernel) (da_cons (de_lc (own := [("form", 13)]) (by decide) (pe_lc (own := [("form", 13)]) rfl sc_law.nd (di_iter (de_var (pv 10))) (blkOk_by (own := [("form", 13)]) (N := n_law) (sc := defScope s_law) (by decide +kernel)) (fun _ _ _ _ _ => (dg_name (pg_name (i := 13) sc_law.nd rfl (Or.inl rfl)))) (fun _ _ _ _ _ => dts_nil) (fun _ _ _ _ _ => (de_call c_Lform_value (hr.mono (by decide)) hgd rfl (da_cons (de_var (pv 13)) (da_cons (de_var (pv 9)) da_nil)))))) da_nil))))
  (dss_cons (ds_set (ps_set (i := 12) sc_law.nd rfl (Or.inr rfl) (de_ty call_tuple_of rc_tupOf rfl T.tuple (by decide +kernel) (da_cons (de_lc (own := [("form", 13)]) (by decide) (pe_lc (own := [("form", 13)]) rfl sc_law.nd (di_iter (de_var (pv 7))) (blkOk_by (own := [("form", 13)]) (N := n_law) (sc := defScope s_law) (by decide +kernel)) (fun _ _ _ _ _ => (dg_name (pg_name (i := 13) sc_law.nd rfl (Or.inl rfl)))) (fun _ _ _ _ _ => dts_nil) (fun _ _ _ _ _ => (de_call c_Lform_value (hr.mono (by decide)) hgd rfl (da_cons (de_var (pv 13)) (da_cons (de_var (pv 12)) da_nil)))))) da_nil))))
  (dss_one (ds_if (dt_not (dt_val (de_call c_Llike (hr.mono (by decide)) hgd rfl (da_cons (de_call c_Lworth (hr.mono (by decide)) hgd rfl (da_cons (de_var (pv 11)) (da_cons (de_var (pv 9)) da_nil))) (da_cons (de_call c_Lworth (hr.mono (by decide)) hgd rfl (da_cons (de_var (pv 6)) (da_cons (de_var (pv 12)) da_nil))) da_nil))))) (dss_one (ds_ret de_bl)) dss_nil)))))))))))))))))
  (dss_one (ds_ret (de_cmp op_isD rr_is (de_call c_Lbreach (hr.mono (by decide)) hgd rfl (da_cons (de_call c_put_in_tally (hr.mono (by decide)) hgd rfl (da_cons (de_tup da_nil) (da_cons (de_tup da_nil) (da_cons de_int da_nil)))) (da_cons de_int da_nil))) de_non (nomark _))))), run_law h⟩
end
theorem all_mk {P : Program} {w : World} {K : PySem.W.Frag} {h : Heap} {mg : Str → Option Value} {fa : Addr} {od0 an0 : Option Addr} {sl0 : Array (Option Value)} {oc0 kV0 dc0 pm0 cd0 ct0 : Value} {f0 : Addr}
  {od1 an1 : Option Addr} {sl1 : Array (Option Value)} {oc1 kV1 dc1 pm1 cd1 ct1 : Value} {f1 : Addr}
  {od2 an2 : Option Addr} {sl2 : Array (Option Value)} {oc2 kV2 dc2 pm2 cd2 ct2 : Value} {f2 : Addr}
  {od3 an3 : Option Addr} {sl3 : Array (Option Value)} {oc3 kV3 dc3 pm3 cd3 ct3 : Value} {f3 : Addr}
  {od4 an4 : Option Addr} {sl4 : Array (Option Value)} {oc4 kV4 dc4 pm4 cd4 ct4 : Value} {f4 : Addr}
  {od5 an5 : Option Addr} {sl5 : Array (Option Value)} {oc5 kV5 dc5 pm5 cd5 ct5 : Value} {f5 : Addr}
  {od6 an6 : Option Addr} {sl6 : Array (Option Value)} {oc6 kV6 dc6 pm6 cd6 ct6 : Value} {f6 : Addr}
  {od7 an7 : Option Addr} {sl7 : Array (Option Value)} {oc7 kV7 dc7 pm7 cd7 ct7 : Value} {f7 : Addr}
  {od8 an8 : Option Addr} {sl8 : Array (Option Value)} {oc8 kV8 dc8 pm8 cd8 ct8 : Value} {f8 : Addr}
  {od9 an9 : Option Addr} {sl9 : Array (Option Value)} {oc9 kV9 dc9 pm9 cd9 ct9 : Value} {f9 : Addr}
  {od10 an10 : Option Addr} {sl10 : Array (Option Value)} {oc10 kV10 dc10 pm10 cd10 ct10 : Value} {f10 : Addr}
  {od11 an11 : Option Addr} {sl11 : Array (Option Value)} {oc11 kV11 dc11 pm11 cd11 ct11 : Value} {f11 : Addr}
  {od12 an12 : Option Addr} {sl12 : Array (Option Value)} {oc12 kV12 dc12 pm12 cd12 ct12 : Value} {f12 : Addr}
  {od13 an13 : Option Addr} {sl13 : Array (Option Value)} {oc13 kV13 dc13 pm13 cd13 ct13 : Value} {f13 : Addr}
  {od14 an14 : Option Addr} {sl14 : Array (Option Value)} {oc14 kV14 dc14 pm14 cd14 ct14 : Value} {f14 : Addr}
  {od15 an15 : Option Addr} {sl15 : Array (Option Value)} {oc15 kV15 dc15 pm15 cd15 ct15 : Value} {f15 : Addr}
  {od16 an16 : Option Addr} {sl16 : Array (Option Value)} {oc16 kV16 dc16 pm16 cd16 ct16 : Value} {f16 : Addr}
  {od17 an17 : Option Addr} {sl17 : Array (Option Value)} {oc17 kV17 dc17 pm17 cd17 ct17 : Value} {f17 : Addr}
  {od18 an18 : Option Addr} {sl18 : Array (Option Value)} {oc18 kV18 dc18 pm18 cd18 ct18 : Value} {f18 : Addr}
  {od19 an19 : Option Addr} {sl19 : Array (Option Value)} {oc19 kV19 dc19 pm19 cd19 ct19 : Value} {f19 : Addr}
  {od20 an20 : Option Addr} {sl20 : Array (Option Value)} {oc20 kV20 dc20 pm20 cd20 ct20 : Value} {f20 : Addr}
  {od21 an21 : Option Addr} {sl21 : Array (Option Value)} {oc21 kV21 dc21 pm21 cd21 ct21 : Value} {f21 : Addr}
  {od22 an22 : Option Addr} {sl22 : Array (Option Value)} {oc22 kV22 dc22 pm22 cd22 ct22 : Value} {f22 : Addr}
  {od23 an23 : Option Addr} {sl23 : Array (Option Value)} {oc23 kV23 dc23 pm23 cd23 ct23 : Value} {f23 : Addr}
  {od24 an24 : Option Addr} {sl24 : Array (Option Value)} {oc24 kV24 dc24 pm24 cd24 ct24 : Value} {f24 : Addr}
  {od25 an25 : Option Addr} {sl25 : Array (Option Value)} {oc25 kV25 dc25 pm25 cd25 ct25 : Value} {f25 : Addr}
  {od26 an26 : Option Addr} {sl26 : Array (Option Value)} {oc26 kV26 dc26 pm26 cd26 ct26 : Value} {f26 : Addr}
  {od27 an27 : Option Addr} {sl27 : Array (Option Value)} {oc27 kV27 dc27 pm27 cd27 ct27 : Value} {f27 : Addr}
  {od28 an28 : Option Addr} {sl28 : Array (Option Value)} {oc28 kV28 dc28 pm28 cd28 ct28 : Value} {f28 : Addr}
  {od29 an29 : Option Addr} {sl29 : Array (Option Value)} {oc29 kV29 dc29 pm29 cd29 ct29 : Value} {f29 : Addr}
  (X : K.In h) (G : h.Ns mainGlobals mg) (hfa : mg "law" = some (.ref fa))
  (a0 : PySem.W.nsIn K mainGlobals "form_sum" = some (some (.ref f0))) (l0 : K.lookup f0 = some ⟨oc0, od0, .func (PySem.W.fnOf "form_sum" "form_sum" (defArgs s_form_sum) (defBody s_form_sum) (defScope s_form_sum) .none kV0 dc0 pm0 an0 cd0 ct0), sl0⟩) (e0 : PySem.W.codeIn K cd0 "form_sum" = true) (k0 : PySem.W.keepIn K (.ref f0) = true)
  (a1 : PySem.W.nsIn K mainGlobals "form_times" = some (some (.ref f1))) (l1 : K.lookup f1 = some ⟨oc1, od1, .func (PySem.W.fnOf "form_times" "form_times" (defArgs s_form_times) (defBody s_form_times) (defScope s_form_times) .none kV1 dc1 pm1 an1 cd1 ct1), sl1⟩) (e1 : PySem.W.codeIn K cd1 "form_times" = true) (k1 : PySem.W.keepIn K (.ref f1) = true)
  (a2 : PySem.W.nsIn K mainGlobals "_law_begun" = some (some (.ref f2))) (l2 : K.lookup f2 = some ⟨oc2, od2, .func (PySem.W.fnOf "_law_begun" "_law_begun" (defArgs s_Lbegun) (defBody s_Lbegun) (defScope s_Lbegun) .none kV2 dc2 pm2 an2 cd2 ct2), sl2⟩) (e2 : PySem.W.codeIn K cd2 "_law_begun" = true) (k2 : PySem.W.keepIn K (.ref f2) = true)
  (a3 : PySem.W.nsIn K mainGlobals "_law_draw" = some (some (.ref f3))) (l3 : K.lookup f3 = some ⟨oc3, od3, .func (PySem.W.fnOf "_law_draw" "_law_draw" (defArgs s_Ldraw) (defBody s_Ldraw) (defScope s_Ldraw) .none kV3 dc3 pm3 an3 cd3 ct3), sl3⟩) (e3 : PySem.W.codeIn K cd3 "_law_draw" = true) (k3 : PySem.W.keepIn K (.ref f3) = true)
  (a4 : PySem.W.nsIn K mainGlobals "_law_like" = some (some (.ref f4))) (l4 : K.lookup f4 = some ⟨oc4, od4, .func (PySem.W.fnOf "_law_like" "_law_like" (defArgs s_Llike) (defBody s_Llike) (defScope s_Llike) .none kV4 dc4 pm4 an4 cd4 ct4), sl4⟩) (e4 : PySem.W.codeIn K cd4 "_law_like" = true) (k4 : PySem.W.keepIn K (.ref f4) = true)
  (a5 : PySem.W.nsIn K mainGlobals "_law_gcd" = some (some (.ref f5))) (l5 : K.lookup f5 = some ⟨oc5, od5, .func (PySem.W.fnOf "_law_gcd" "_law_gcd" (defArgs s_Lgcd) (defBody s_Lgcd) (defScope s_Lgcd) .none kV5 dc5 pm5 an5 cd5 ct5), sl5⟩) (e5 : PySem.W.codeIn K cd5 "_law_gcd" = true) (k5 : PySem.W.keepIn K (.ref f5) = true)
  (a6 : PySem.W.nsIn K mainGlobals "_law_form_value" = some (some (.ref f6))) (l6 : K.lookup f6 = some ⟨oc6, od6, .func (PySem.W.fnOf "_law_form_value" "_law_form_value" (defArgs s_Lform_value) (defBody s_Lform_value) (defScope s_Lform_value) .none kV6 dc6 pm6 an6 cd6 ct6), sl6⟩) (e6 : PySem.W.codeIn K cd6 "_law_form_value" = true) (k6 : PySem.W.keepIn K (.ref f6) = true)
  (a7 : PySem.W.nsIn K mainGlobals "_law_is_int" = some (some (.ref f7))) (l7 : K.lookup f7 = some ⟨oc7, od7, .func (PySem.W.fnOf "_law_is_int" "_law_is_int" (defArgs s_Lis_int) (defBody s_Lis_int) (defScope s_Lis_int) .none kV7 dc7 pm7 an7 cd7 ct7), sl7⟩) (e7 : PySem.W.codeIn K cd7 "_law_is_int" = true) (k7 : PySem.W.keepIn K (.ref f7) = true)
  (a8 : PySem.W.nsIn K mainGlobals "put_in" = some (some (.ref f8))) (l8 : K.lookup f8 = some ⟨oc8, od8, .func (PySem.W.fnOf "put_in" "put_in" (defArgs s_put_in) (defBody s_put_in) (defScope s_put_in) .none kV8 dc8 pm8 an8 cd8 ct8), sl8⟩) (e8 : PySem.W.codeIn K cd8 "put_in" = true) (k8 : PySem.W.keepIn K (.ref f8) = true)
  (a9 : PySem.W.nsIn K mainGlobals "_law_of" = some (some (.ref f9))) (l9 : K.lookup f9 = some ⟨oc9, od9, .func (PySem.W.fnOf "_law_of" "_law_of" (defArgs s_Lof) (defBody s_Lof) (defScope s_Lof) .none kV9 dc9 pm9 an9 cd9 ct9), sl9⟩) (e9 : PySem.W.codeIn K cd9 "_law_of" = true) (k9 : PySem.W.keepIn K (.ref f9) = true)
  (a10 : PySem.W.nsIn K mainGlobals "_law_lowest" = some (some (.ref f10))) (l10 : K.lookup f10 = some ⟨oc10, od10, .func (PySem.W.fnOf "_law_lowest" "_law_lowest" (defArgs s_Llowest) (defBody s_Llowest) (defScope s_Llowest) .none kV10 dc10 pm10 an10 cd10 ct10), sl10⟩) (e10 : PySem.W.codeIn K cd10 "_law_lowest" = true) (k10 : PySem.W.keepIn K (.ref f10) = true)
  (a11 : PySem.W.nsIn K mainGlobals "_law_signed" = some (some (.ref f11))) (l11 : K.lookup f11 = some ⟨oc11, od11, .func (PySem.W.fnOf "_law_signed" "_law_signed" (defArgs s_Lsigned) (defBody s_Lsigned) (defScope s_Lsigned) .none kV11 dc11 pm11 an11 cd11 ct11), sl11⟩) (e11 : PySem.W.codeIn K cd11 "_law_signed" = true) (k11 : PySem.W.keepIn K (.ref f11) = true)
  (a12 : PySem.W.nsIn K mainGlobals "_law_is_form" = some (some (.ref f12))) (l12 : K.lookup f12 = some ⟨oc12, od12, .func (PySem.W.fnOf "_law_is_form" "_law_is_form" (defArgs s_Lis_form) (defBody s_Lis_form) (defScope s_Lis_form) .none kV12 dc12 pm12 an12 cd12 ct12), sl12⟩) (e12 : PySem.W.codeIn K cd12 "_law_is_form" = true) (k12 : PySem.W.keepIn K (.ref f12) = true)
  (a13 : PySem.W.nsIn K mainGlobals "_law_is_poly" = some (some (.ref f13))) (l13 : K.lookup f13 = some ⟨oc13, od13, .func (PySem.W.fnOf "_law_is_poly" "_law_is_poly" (defArgs s_Lis_poly) (defBody s_Lis_poly) (defScope s_Lis_poly) .none kV13 dc13 pm13 an13 cd13 ct13), sl13⟩) (e13 : PySem.W.codeIn K cd13 "_law_is_poly" = true) (k13 : PySem.W.keepIn K (.ref f13) = true)
  (a14 : PySem.W.nsIn K mainGlobals "put_in_pairs" = some (some (.ref f14))) (l14 : K.lookup f14 = some ⟨oc14, od14, .func (PySem.W.fnOf "put_in_pairs" "put_in_pairs" (defArgs s_put_in_pairs) (defBody s_put_in_pairs) (defScope s_put_in_pairs) .none kV14 dc14 pm14 an14 cd14 ct14), sl14⟩) (e14 : PySem.W.codeIn K cd14 "put_in_pairs" = true) (k14 : PySem.W.keepIn K (.ref f14) = true)
  (a15 : PySem.W.nsIn K mainGlobals "_law_plus" = some (some (.ref f15))) (l15 : K.lookup f15 = some ⟨oc15, od15, .func (PySem.W.fnOf "_law_plus" "_law_plus" (defArgs s_Lplus) (defBody s_Lplus) (defScope s_Lplus) .none kV15 dc15 pm15 an15 cd15 ct15), sl15⟩) (e15 : PySem.W.codeIn K cd15 "_law_plus" = true) (k15 : PySem.W.keepIn K (.ref f15) = true)
  (a16 : PySem.W.nsIn K mainGlobals "_law_form" = some (some (.ref f16))) (l16 : K.lookup f16 = some ⟨oc16, od16, .func (PySem.W.fnOf "_law_form" "_law_form" (defArgs s_Lform) (defBody s_Lform) (defScope s_Lform) .none kV16 dc16 pm16 an16 cd16 ct16), sl16⟩) (e16 : PySem.W.codeIn K cd16 "_law_form" = true) (k16 : PySem.W.keepIn K (.ref f16) = true)
  (a17 : PySem.W.nsIn K mainGlobals "_law_poly" = some (some (.ref f17))) (l17 : K.lookup f17 = some ⟨oc17, od17, .func (PySem.W.fnOf "_law_poly" "_law_poly" (defArgs s_Lpoly) (defBody s_Lpoly) (defScope s_Lpoly) .none kV17 dc17 pm17 an17 cd17 ct17), sl17⟩) (e17 : PySem.W.codeIn K cd17 "_law_poly" = true) (k17 : PySem.W.keepIn K (.ref f17) = true)
  (a18 : PySem.W.nsIn K mainGlobals "_law_choices" = some (some (.ref f18))) (l18 : K.lookup f18 = some ⟨oc18, od18, .func (PySem.W.fnOf "_law_choices" "_law_choices" (defArgs s_Lchoices) (defBody s_Lchoices) (defScope s_Lchoices) .none kV18 dc18 pm18 an18 cd18 ct18), sl18⟩) (e18 : PySem.W.codeIn K cd18 "_law_choices" = true) (k18 : PySem.W.keepIn K (.ref f18) = true)
  (a19 : PySem.W.nsIn K mainGlobals "_law_are_forms" = some (some (.ref f19))) (l19 : K.lookup f19 = some ⟨oc19, od19, .func (PySem.W.fnOf "_law_are_forms" "_law_are_forms" (defArgs s_Lare_forms) (defBody s_Lare_forms) (defScope s_Lare_forms) .none kV19 dc19 pm19 an19 cd19 ct19), sl19⟩) (e19 : PySem.W.codeIn K cd19 "_law_are_forms" = true) (k19 : PySem.W.keepIn K (.ref f19) = true)
  (a20 : PySem.W.nsIn K mainGlobals "_law_are_pairs" = some (some (.ref f20))) (l20 : K.lookup f20 = some ⟨oc20, od20, .func (PySem.W.fnOf "_law_are_pairs" "_law_are_pairs" (defArgs s_Lare_pairs) (defBody s_Lare_pairs) (defScope s_Lare_pairs) .none kV20 dc20 pm20 an20 cd20 ct20), sl20⟩) (e20 : PySem.W.codeIn K cd20 "_law_are_pairs" = true) (k20 : PySem.W.keepIn K (.ref f20) = true)
  (a21 : PySem.W.nsIn K mainGlobals "put_in_tally" = some (some (.ref f21))) (l21 : K.lookup f21 = some ⟨oc21, od21, .func (PySem.W.fnOf "put_in_tally" "put_in_tally" (defArgs s_put_in_tally) (defBody s_put_in_tally) (defScope s_put_in_tally) .none kV21 dc21 pm21 an21 cd21 ct21), sl21⟩) (e21 : PySem.W.codeIn K cd21 "put_in_tally" = true) (k21 : PySem.W.keepIn K (.ref f21) = true)
  (a22 : PySem.W.nsIn K mainGlobals "_law_poly_value" = some (some (.ref f22))) (l22 : K.lookup f22 = some ⟨oc22, od22, .func (PySem.W.fnOf "_law_poly_value" "_law_poly_value" (defArgs s_Lpoly_value) (defBody s_Lpoly_value) (defScope s_Lpoly_value) .none kV22 dc22 pm22 an22 cd22 ct22), sl22⟩) (e22 : PySem.W.codeIn K cd22 "_law_poly_value" = true) (k22 : PySem.W.keepIn K (.ref f22) = true)
  (a23 : PySem.W.nsIn K mainGlobals "_law_term" = some (some (.ref f23))) (l23 : K.lookup f23 = some ⟨oc23, od23, .func (PySem.W.fnOf "_law_term" "_law_term" (defArgs s_Lterm) (defBody s_Lterm) (defScope s_Lterm) .none kV23 dc23 pm23 an23 cd23 ct23), sl23⟩) (e23 : PySem.W.codeIn K cd23 "_law_term" = true) (k23 : PySem.W.keepIn K (.ref f23) = true)
  (a24 : PySem.W.nsIn K mainGlobals "_law_is_term" = some (some (.ref f24))) (l24 : K.lookup f24 = some ⟨oc24, od24, .func (PySem.W.fnOf "_law_is_term" "_law_is_term" (defArgs s_Lis_term) (defBody s_Lis_term) (defScope s_Lis_term) .none kV24 dc24 pm24 an24 cd24 ct24), sl24⟩) (e24 : PySem.W.codeIn K cd24 "_law_is_term" = true) (k24 : PySem.W.keepIn K (.ref f24) = true)
  (a25 : PySem.W.nsIn K mainGlobals "_law_forms" = some (some (.ref f25))) (l25 : K.lookup f25 = some ⟨oc25, od25, .func (PySem.W.fnOf "_law_forms" "_law_forms" (defArgs s_Lforms) (defBody s_Lforms) (defScope s_Lforms) .none kV25 dc25 pm25 an25 cd25 ct25), sl25⟩) (e25 : PySem.W.codeIn K cd25 "_law_forms" = true) (k25 : PySem.W.keepIn K (.ref f25) = true)
  (a26 : PySem.W.nsIn K mainGlobals "_law_worth" = some (some (.ref f26))) (l26 : K.lookup f26 = some ⟨oc26, od26, .func (PySem.W.fnOf "_law_worth" "_law_worth" (defArgs s_Lworth) (defBody s_Lworth) (defScope s_Lworth) .none kV26 dc26 pm26 an26 cd26 ct26), sl26⟩) (e26 : PySem.W.codeIn K cd26 "_law_worth" = true) (k26 : PySem.W.keepIn K (.ref f26) = true)
  (a27 : PySem.W.nsIn K mainGlobals "_law_tally" = some (some (.ref f27))) (l27 : K.lookup f27 = some ⟨oc27, od27, .func (PySem.W.fnOf "_law_tally" "_law_tally" (defArgs s_Ltally) (defBody s_Ltally) (defScope s_Ltally) .none kV27 dc27 pm27 an27 cd27 ct27), sl27⟩) (e27 : PySem.W.codeIn K cd27 "_law_tally" = true) (k27 : PySem.W.keepIn K (.ref f27) = true)
  (a28 : PySem.W.nsIn K mainGlobals "_law_breach" = some (some (.ref f28))) (l28 : K.lookup f28 = some ⟨oc28, od28, .func (PySem.W.fnOf "_law_breach" "_law_breach" (defArgs s_Lbreach) (defBody s_Lbreach) (defScope s_Lbreach) .none kV28 dc28 pm28 an28 cd28 ct28), sl28⟩) (e28 : PySem.W.codeIn K cd28 "_law_breach" = true) (k28 : PySem.W.keepIn K (.ref f28) = true)
  (a29 : PySem.W.nsIn K mainGlobals "law" = some (some (.ref f29))) (l29 : K.lookup f29 = some ⟨oc29, od29, .func (PySem.W.fnOf "law" "law" (defArgs s_law) (defBody s_law) (defScope s_law) .none kV29 dc29 pm29 an29 cd29 ct29), sl29⟩) (e29 : PySem.W.codeIn K cd29 "law" = true) (k29 : PySem.W.keepIn K (.ref f29) = true)
  (z_abs : PySem.W.nsIn K mainGlobals "abs" = some none) (z_bool : PySem.W.nsIn K mainGlobals "bool" = some none) (z_int : PySem.W.nsIn K mainGlobals "int" = some none) (z_isinstance : PySem.W.nsIn K mainGlobals "isinstance" = some none) (z_len : PySem.W.nsIn K mainGlobals "len" = some none) (z_range : PySem.W.nsIn K mainGlobals "range" = some none) (z_repr : PySem.W.nsIn K mainGlobals "repr" = some none) (z_sorted : PySem.W.nsIn K mainGlobals "sorted" = some none) (z_sum : PySem.W.nsIn K mainGlobals "sum" = some none) (z_tuple : PySem.W.nsIn K mainGlobals "tuple" = some none) (z_zip : PySem.W.nsIn K mainGlobals "zip" = some none) :
  ∃ fd : FuncData, (∀ (s : Shared) (v : Value), BindsTo s fd ⟨[v], []⟩ [("script", v)]) ∧ ∀ base : Heap, K.In base → base.Ns mainGlobals mg → FnD P w K mg base 6 fa fd ["script"] sp_law := by
  have T : Bt mg := ⟨PySem.W.mg_none_of X G z_abs, PySem.W.mg_none_of X G z_bool, PySem.W.mg_none_of X G z_int, PySem.W.mg_none_of X G z_isinstance, PySem.W.mg_none_of X G z_len, PySem.W.mg_none_of X G z_range, PySem.W.mg_none_of X G z_repr, PySem.W.mg_none_of X G z_sorted, PySem.W.mg_none_of X G z_sum, PySem.W.mg_none_of X G z_tuple, PySem.W.mg_none_of X G z_zip⟩
  have F0 := fun_mk (st := s_form_sum) l0 e0 k0
  have b0 := F0.binds (ps := p_form_sum) fun _ _ _ _ _ _ us hl => match us, hl with | [_, _], _ => rfl
  have F1 := fun_mk (st := s_form_times) l1 e1 k1
  have b1 := F1.binds (ps := p_form_times) fun _ _ _ _ _ _ us hl => match us, hl with | [_, _], _ => rfl
  have F2 := fun_mk (st := s_Lbegun) l2 e2 k2
  have b2 := F2.binds (ps := p_Lbegun) fun _ _ _ _ _ _ us hl => match us, hl with | [_, _], _ => rfl
  have F3 := fun_mk (st := s_Ldraw) l3 e3 k3
  have b3 := F3.binds (ps := p_Ldraw) fun _ _ _ _ _ _ us hl => match us, hl with | [_, _], _ => rfl
  have F4 := fun_mk (st := s_Llike) l4 e4 k4
  have b4 := F4.binds (ps := p_Llike) fun _ _ _ _ _ _ us hl => match us, hl with | [_, _], _ => rfl
  have F5 := fun_mk (st := s_Lgcd) l5 e5 k5
  have b5 := F5.binds (ps := p_Lgcd) fun _ _ _ _ _ _ us hl => match us, hl with | [_, _], _ => rfl
  have F6 := fun_mk (st := s_Lform_value) l6 e6 k6
  have b6 := F6.binds (ps := p_Lform_value) fun _ _ _ _ _ _ us hl => match us, hl with | [_, _], _ => rfl
  have F7 := fun_mk (st := s_Lis_int) l7 e7 k7
  have b7 := F7.binds (ps := p_Lis_int) fun _ _ _ _ _ _ us hl => match us, hl with | [_], _ => rfl
  have F8 := fun_mk (st := s_put_in) l8 e8 k8
  have b8 := F8.binds (ps := p_put_in) fun _ _ _ _ _ _ us hl => match us, hl with | [_, _, _], _ => rfl
  have F9 := fun_mk (st := s_Lof) l9 e9 k9
  have b9 := F9.binds (ps := p_Lof) fun _ _ _ _ _ _ us hl => match us, hl with | [_, _], _ => rfl
  have F10 := fun_mk (st := s_Llowest) l10 e10 k10
  have b10 := F10.binds (ps := p_Llowest) fun _ _ _ _ _ _ us hl => match us, hl with | [_, _], _ => rfl
  have F11 := fun_mk (st := s_Lsigned) l11 e11 k11
  have b11 := F11.binds (ps := p_Lsigned) fun _ _ _ _ _ _ us hl => match us, hl with | [_, _], _ => rfl
  have F12 := fun_mk (st := s_Lis_form) l12 e12 k12
  have b12 := F12.binds (ps := p_Lis_form) fun _ _ _ _ _ _ us hl => match us, hl with | [_, _], _ => rfl
  have F13 := fun_mk (st := s_Lis_poly) l13 e13 k13
  have b13 := F13.binds (ps := p_Lis_poly) fun _ _ _ _ _ _ us hl => match us, hl with | [_, _], _ => rfl
  have F14 := fun_mk (st := s_put_in_pairs) l14 e14 k14
  have b14 := F14.binds (ps := p_put_in_pairs) fun _ _ _ _ _ _ us hl => match us, hl with | [_, _, _], _ => rfl
  have F15 := fun_mk (st := s_Lplus) l15 e15 k15
  have b15 := F15.binds (ps := p_Lplus) fun _ _ _ _ _ _ us hl => match us, hl with | [_, _], _ => rfl
  have F16 := fun_mk (st := s_Lform) l16 e16 k16
  have b16 := F16.binds (ps := p_Lform) fun _ _ _ _ _ _ us hl => match us, hl with | [_, _, _], _ => rfl
  have F17 := fun_mk (st := s_Lpoly) l17 e17 k17
  have b17 := F17.binds (ps := p_Lpoly) fun _ _ _ _ _ _ us hl => match us, hl with | [_, _, _], _ => rfl
  have F18 := fun_mk (st := s_Lchoices) l18 e18 k18
  have b18 := F18.binds (ps := p_Lchoices) fun _ _ _ _ _ _ us hl => match us, hl with | [_, _, _], _ => rfl
  have F19 := fun_mk (st := s_Lare_forms) l19 e19 k19
  have b19 := F19.binds (ps := p_Lare_forms) fun _ _ _ _ _ _ us hl => match us, hl with | [_, _], _ => rfl
  have F20 := fun_mk (st := s_Lare_pairs) l20 e20 k20
  have b20 := F20.binds (ps := p_Lare_pairs) fun _ _ _ _ _ _ us hl => match us, hl with | [_, _, _], _ => rfl
  have F21 := fun_mk (st := s_put_in_tally) l21 e21 k21
  have b21 := F21.binds (ps := p_put_in_tally) fun _ _ _ _ _ _ us hl => match us, hl with | [_, _, _], _ => rfl
  have F22 := fun_mk (st := s_Lpoly_value) l22 e22 k22
  have b22 := F22.binds (ps := p_Lpoly_value) fun _ _ _ _ _ _ us hl => match us, hl with | [_, _], _ => rfl
  have F23 := fun_mk (st := s_Lterm) l23 e23 k23
  have b23 := F23.binds (ps := p_Lterm) fun _ _ _ _ _ _ us hl => match us, hl with | [_, _], _ => rfl
  have F24 := fun_mk (st := s_Lis_term) l24 e24 k24
  have b24 := F24.binds (ps := p_Lis_term) fun _ _ _ _ _ _ us hl => match us, hl with | [_, _], _ => rfl
  have F25 := fun_mk (st := s_Lforms) l25 e25 k25
  have b25 := F25.binds (ps := p_Lforms) fun _ _ _ _ _ _ us hl => match us, hl with | [_, _, _], _ => rfl
  have F26 := fun_mk (st := s_Lworth) l26 e26 k26
  have b26 := F26.binds (ps := p_Lworth) fun _ _ _ _ _ _ us hl => match us, hl with | [_, _], _ => rfl
  have F27 := fun_mk (st := s_Ltally) l27 e27 k27
  have b27 := F27.binds (ps := p_Ltally) fun _ _ _ _ _ _ us hl => match us, hl with | [_, _], _ => rfl
  have F28 := fun_mk (st := s_Lbreach) l28 e28 k28
  have b28 := F28.binds (ps := p_Lbreach) fun _ _ _ _ _ _ us hl => match us, hl with | [_, _], _ => rfl
  have F29 := fun_mk (st := s_law) l29 e29 k29
  have el := hfa.symm.trans (PySem.W.mg_of X G a29)
  cases el
  have fin : ∀ base : Heap, FnD P w K mg base 6 _ _ p_law sp_law := fun base => by
    have C_form_sum := ok_form_sum (P := P) (w := w) (base := base) F0 (PySem.W.mg_of X G a0) b0 T 
    have C_form_times := ok_form_times (P := P) (w := w) (base := base) F1 (PySem.W.mg_of X G a1) b1 T 
    have C_Lbegun := ok_Lbegun (P := P) (w := w) (base := base) F2 (PySem.W.mg_of X G a2) b2 T 
    have C_Ldraw := ok_Ldraw (P := P) (w := w) (base := base) F3 (PySem.W.mg_of X G a3) b3 T 
    have C_Llike := ok_Llike (P := P) (w := w) (base := base) F4 (PySem.W.mg_of X G a4) b4 T 
    have C_Lgcd := ok_Lgcd (P := P) (w := w) (base := base) F5 (PySem.W.mg_of X G a5) b5 T 
    have C_Lform_value := ok_Lform_value (P := P) (w := w) (base := base) F6 (PySem.W.mg_of X G a6) b6 T 
    have C_Lis_int := ok_Lis_int (P := P) (w := w) (base := base) F7 (PySem.W.mg_of X G a7) b7 T 
    have C_put_in := ok_put_in (P := P) (w := w) (base := base) F8 (PySem.W.mg_of X G a8) b8 T C_form_sum C_form_times
    have C_Lof := ok_Lof (P := P) (w := w) (base := base) F9 (PySem.W.mg_of X G a9) b9 T C_Ldraw
    have C_Llowest := ok_Llowest (P := P) (w := w) (base := base) F10 (PySem.W.mg_of X G a10) b10 T C_Lgcd
    have C_Lsigned := ok_Lsigned (P := P) (w := w) (base := base) F11 (PySem.W.mg_of X G a11) b11 T C_Ldraw
    have C_Lis_form := ok_Lis_form (P := P) (w := w) (base := base) F12 (PySem.W.mg_of X G a12) b12 T C_Lis_int
    have C_Lis_poly := ok_Lis_poly (P := P) (w := w) (base := base) F13 (PySem.W.mg_of X G a13) b13 T C_Lgcd C_Lis_int
    have C_put_in_pairs := ok_put_in_pairs (P := P) (w := w) (base := base) F14 (PySem.W.mg_of X G a14) b14 T C_put_in
    have C_Lplus := ok_Lplus (P := P) (w := w) (base := base) F15 (PySem.W.mg_of X G a15) b15 T C_Llowest
    have C_Lform := ok_Lform (P := P) (w := w) (base := base) F16 (PySem.W.mg_of X G a16) b16 T C_Lsigned
    have C_Lpoly := ok_Lpoly (P := P) (w := w) (base := base) F17 (PySem.W.mg_of X G a17) b17 T C_Ldraw C_Llowest
    have C_Lchoices := ok_Lchoices (P := P) (w := w) (base := base) F18 (PySem.W.mg_of X G a18) b18 T C_Lsigned C_Lof
    have C_Lare_forms := ok_Lare_forms (P := P) (w := w) (base := base) F19 (PySem.W.mg_of X G a19) b19 T C_Lis_form
    have C_Lare_pairs := ok_Lare_pairs (P := P) (w := w) (base := base) F20 (PySem.W.mg_of X G a20) b20 T C_Lis_int C_Lis_form
    have C_put_in_tally := ok_put_in_tally (P := P) (w := w) (base := base) F21 (PySem.W.mg_of X G a21) b21 T C_put_in C_put_in_pairs
    have C_Lpoly_value := ok_Lpoly_value (P := P) (w := w) (base := base) F22 (PySem.W.mg_of X G a22) b22 T C_Lplus C_Llowest
    have C_Lterm := ok_Lterm (P := P) (w := w) (base := base) F23 (PySem.W.mg_of X G a23) b23 T C_Lpoly C_Lform C_Ldraw C_Lof
    have C_Lis_term := ok_Lis_term (P := P) (w := w) (base := base) F24 (PySem.W.mg_of X G a24) b24 T C_Lare_pairs C_Lis_poly C_Lare_forms
    have C_Lforms := ok_Lforms (P := P) (w := w) (base := base) F25 (PySem.W.mg_of X G a25) b25 T C_Ldraw C_Lform
    have C_Lworth := ok_Lworth (P := P) (w := w) (base := base) F26 (PySem.W.mg_of X G a26) b26 T C_Lplus C_Lpoly_value C_Lform_value
    have C_Ltally := ok_Ltally (P := P) (w := w) (base := base) F27 (PySem.W.mg_of X G a27) b27 T C_Lterm C_Ldraw
    have C_Lbreach := ok_Lbreach (P := P) (w := w) (base := base) F28 (PySem.W.mg_of X G a28) b28 T C_Lis_term
    exact ok_law (P := P) (w := w) (base := base) F29 (PySem.W.mg_of X G a29) (F29.binds (ps := p_law) fun _ _ _ _ _ _ us hl => match us, hl with | [_], _ => rfl) T C_Lbegun C_Ltally C_Lforms C_put_in_tally C_Lchoices C_Lbreach C_Ldraw C_Llike C_Lform_value C_Lworth
  exact ⟨_, fun s v => .of_eq rfl, fun base _ _ => fin base⟩
end LW
open PySem PySem.W PyProof.Rows
set_option maxHeartbeats 0 in
theorem PySem.Challenge.cw_pointtally_k59_whole_tallies_with_forms_holds : PySem.Challenge.rw_pointtally_k59_whole_tallies_with_forms.Holds := by
  w_on; o_law; k_head; (case hw => w_witness2)
  k_fill
  refine DL.walk_ofD (l := PySem.Challenge.rw_pointtally_k59_whole_tallies_with_forms) (n := 63) (k := 6) (x := "script") (sp := LW.sp_law) rfl (by decide) rfl ⟨rfl, by decide, by decide⟩ (fun w h Y => PySem.W.kIn_of Y) ?F (fun ns hl => ⟨ns, rfl, hl, fun _ => rfl⟩)
  case F =>
    intro w mg fa h KX G hmg
    refine' LW.all_mk KX G hmg ?a0 ?l0 ?e0 ?k0 ?a1 ?l1 ?e1 ?k1 ?a2 ?l2 ?e2 ?k2 ?a3 ?l3 ?e3 ?k3 ?a4 ?l4 ?e4 ?k4 ?a5 ?l5 ?e5 ?k5 ?a6 ?l6 ?e6 ?k6 ?a7 ?l7 ?e7 ?k7 ?a8 ?l8 ?e8 ?k8 ?a9 ?l9 ?e9 ?k9 ?a10 ?l10 ?e10 ?k10 ?a11 ?l11 ?e11 ?k11 ?a12 ?l12 ?e12 ?k12 ?a13 ?l13 ?e13 ?k13 ?a14 ?l14 ?e14 ?k14 ?a15 ?l15 ?e15 ?k15 ?a16 ?l16 ?e16 ?k16 ?a17 ?l17 ?e17 ?k17 ?a18 ?l18 ?e18 ?k18 ?a19 ?l19 ?e19 ?k19 ?a20 ?l20 ?e20 ?k20 ?a21 ?l21 ?e21 ?k21 ?a22 ?l22 ?e22 ?k22 ?a23 ?l23 ?e23 ?k23 ?a24 ?l24 ?e24 ?k24 ?a25 ?l25 ?e25 ?k25 ?a26 ?l26 ?e26 ?k26 ?a27 ?l27 ?e27 ?k27 ?a28 ?l28 ?e28 ?k28 ?a29 ?l29 ?e29 ?k29 ?z_abs ?z_bool ?z_int ?z_isinstance ?z_len ?z_range ?z_repr ?z_sorted ?z_sum ?z_tuple ?z_zip
    (case a0 => k_is); (case l0 => k_is); (case e0 => k_is); (case k0 => k_is); (case a1 => k_is); (case l1 => k_is); (case e1 => k_is); (case k1 => k_is); (case a2 => k_is); (case l2 => k_is); (case e2 => k_is); (case k2 => k_is); (case a3 => k_is); (case l3 => k_is); (case e3 => k_is); (case k3 => k_is); (case a4 => k_is); (case l4 => k_is); (case e4 => k_is); (case k4 => k_is); (case a5 => k_is); (case l5 => k_is); (case e5 => k_is); (case k5 => k_is); (case a6 => k_is); (case l6 => k_is); (case e6 => k_is); (case k6 => k_is); (case a7 => k_is); (case l7 => k_is); (case e7 => k_is); (case k7 => k_is); (case a8 => k_is); (case l8 => k_is); (case e8 => k_is); (case k8 => k_is); (case a9 => k_is); (case l9 => k_is); (case e9 => k_is); (case k9 => k_is); (case a10 => k_is); (case l10 => k_is); (case e10 => k_is); (case k10 => k_is); (case a11 => k_is); (case l11 => k_is); (case e11 => k_is); (case k11 => k_is); (case a12 => k_is); (case l12 => k_is); (case e12 => k_is); (case k12 => k_is); (case a13 => k_is); (case l13 => k_is); (case e13 => k_is); (case k13 => k_is); (case a14 => k_is); (case l14 => k_is); (case e14 => k_is); (case k14 => k_is); (case a15 => k_is); (case l15 => k_is); (case e15 => k_is); (case k15 => k_is); (case a16 => k_is); (case l16 => k_is); (case e16 => k_is); (case k16 => k_is); (case a17 => k_is); (case l17 => k_is); (case e17 => k_is); (case k17 => k_is); (case a18 => k_is); (case l18 => k_is); (case e18 => k_is); (case k18 => k_is); (case a19 => k_is); (case l19 => k_is); (case e19 => k_is); (case k19 => k_is); (case a20 => k_is); (case l20 => k_is); (case e20 => k_is); (case k20 => k_is); (case a21 => k_is); (case l21 => k_is); (case e21 => k_is); (case k21 => k_is); (case a22 => k_is); (case l22 => k_is); (case e22 => k_is); (case k22 => k_is); (case a23 => k_is); (case l23 => k_is); (case e23 => k_is); (case k23 => k_is); (case a24 => k_is); (case l24 => k_is); (case e24 => k_is); (case k24 => k_is); (case a25 => k_is); (case l25 => k_is); (case e25 => k_is); (case k25 => k_is); (case a26 => k_is); (case l26 => k_is); (case e26 => k_is); (case k26 => k_is); (case a27 => k_is); (case l27 => k_is); (case e27 => k_is); (case k27 => k_is); (case a28 => k_is); (case l28 => k_is); (case e28 => k_is); (case k28 => k_is); (case a29 => k_is); (case l29 => k_is); (case e29 => k_is); (case k29 => k_is); (case z_abs => k_is); (case z_bool => k_is); (case z_int => k_is); (case z_isinstance => k_is); (case z_len => k_is); (case z_range => k_is); (case z_repr => k_is); (case z_sorted => k_is); (case z_sum => k_is); (case z_tuple => k_is); (case z_zip => k_is)

