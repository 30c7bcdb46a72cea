import PyProof.Rows.All
import Wide.All
import OpenK.AllK
import Wide.FinOn
import PySem.Challenge.RW_everyohm_k16_values_and_their_texts
import HandS.ForMost
import HandS.ForExc
import HandS.IsInst
import HandS.TupAny
import HandS.Wide
import HandS.Zip
import HandS.StrMore
import HandS.CallSlots
import HandS.HotCalls
import HandS.ExcInit
import HandS.ExcField
import HandS.ExcIs
import HandS.TryMany
import HandS.TupLe
import HandS.Conv
import HandS.Gcd
import HandS.Flow
import HandS.SortInts
import HandS.More
import KE.GoesMore
import KE.GoesEnum
import HandS.Walk
import HandS.List
set_option Elab.async false
set_option linter.all false
section TextPx1
set_option autoImplicit false
set_option maxRecDepth 100000
set_option maxHeartbeats 2000000
/-! Px1: data, objects, the relation to the layer's values and heap. -/
namespace Px
open PySem PySem.Spec PyProof.Rows L2

/-- data: what a value is, tuples as they are, mutable objects by their numbers -/
inductive D where
  | non | bl (b : Bool) | int (i : Int) | str (s : Str) | tup (ds : List D) | obj (n : Nat) | rol (ds : List D)
  | exn (c : Str) (ks : List Str) (ds : List D)
  deriving Inhabited
/-- what a numbered object is -/
inductive O where
  | lst (ds : List D) | ro (ds : List D) | dic (kvs : List (Key × D)) | gone
  deriving Inhabited
abbrev Ht := List O
abbrev Rho := List (Option D)
/-- the handled exception: its address, its class, its dict -/
abbrev HX := Option (Addr × Str × Addr)
/-- the classes of errors: where they lie, the names of their fields -/
abbrev Tab := Str → Option (Addr × List Str)

/-- a list that nobody writes: it is at hand from outside, or it is the text's own -/
def RoL (K : PySem.W.Frag) (H : Hp) (a : Addr) (xs : List V) : Prop := (∃ o, H a = some (.frz o (.lst xs))) ∨
  ∃ (o : Obj) (its : Array Value) (n : Nat), K.lookup a = some o ∧ o.cls = .type "list" ∧ o.dict = none ∧ o.data = .seq its n ∧ its.size ≤ sizeLine ∧ Vals xs its.toList
theorem RoL.sq {K : PySem.W.Frag} {H : Hp} {a : Addr} {xs : List V} (h : RoL K H a xs) : SqL K H a xs := h.elim (fun ⟨o, e⟩ => .inl (.inr ⟨o, e⟩)) .inr
mutual
def RelD (K : PySem.W.Frag) (μ : List Addr) (H : Hp) : D → V → Prop
  | .non, v => v = .non
  | .bl b, v => v = .bl b
  | .int i, v => v = .int i
  | .str s, v => v = .str s
  | .tup ds, v => ∃ a vs, v = .ref a ∧ SqT K H a vs ∧ RelDs K μ H ds vs
  | .obj n, v => ∃ a, μ[n]? = some a ∧ v = .ref a
  | .rol ds, v => ∃ a vs, v = .ref a ∧ RoL K H a vs ∧ RelDs K μ H ds vs
  | .exn _ _ _, _ => False
def RelDs (K : PySem.W.Frag) (μ : List Addr) (H : Hp) : List D → List V → Prop
  | [], vs => vs = []
  | d :: ds, vs => ∃ v r, vs = v :: r ∧ RelD K μ H d v ∧ RelDs K μ H ds r
end

/-- what never changes -/
def Fix : HO → Prop
  | .tup _ => True | .frz _ _ => True | .xd _ => True | _ => False
structure Stp (μ : List Addr) (H : Hp) (μ' : List Addr) (H' : Hp) : Prop where
  pre : μ <+: μ'
  fix : ∀ a o, H a = some o → Fix o → H' a = some o
  new : ∀ a, a ∈ μ' → a ∈ μ ∨ H a = none
  frame : ∀ a o, H a = some o → a ∉ μ → H' a = some o
theorem Stp.refl {μ : List Addr} {H : Hp} : Stp μ H μ H := ⟨List.prefix_refl _, fun _ _ h _ => h, fun _ h => .inl h, fun _ _ h _ => h⟩
theorem Stp.trans {μ μ1 μ2 : List Addr} {H H1 H2 : Hp} (a : Stp μ H μ1 H1) (b : Stp μ1 H1 μ2 H2) : Stp μ H μ2 H2 where
  pre := a.pre.trans b.pre
  fix := fun x o h f => b.fix x o (a.fix x o h f) f
  new := fun x h => by
    rcases b.new x h with h | h
    · exact a.new x h
    · cases e : H x with
      | none => exact .inr rfl
      | some o =>
        refine .inl (Classical.byContradiction fun n => ?_)
        rw [a.frame x o e n] at h
        cases h
  frame := fun x o h n => by
    refine b.frame x o (a.frame x o h n) fun m => ?_
    rcases a.new x m with q | q
    · exact n q
    · rw [h] at q; cases q
theorem pre_get {α : Type} {l l' : List α} (h : l <+: l') {n : Nat} {a : α} (e : l[n]? = some a) : l'[n]? = some a := by
  obtain ⟨t, rfl⟩ := h
  rw [List.getElem?_append_left (List.getElem?_eq_some_iff.mp e).1]
  exact e
theorem sqT_fix {K : PySem.W.Frag} {H H' : Hp} (f : ∀ a o, H a = some o → Fix o → H' a = some o) {a : Addr} {xs : List V} (h : SqT K H a xs) : SqT K H' a xs := by
  rcases h with (h | ⟨o, h⟩) | h
  · exact .inl (.inl (f _ _ h trivial))
  · exact .inl (.inr ⟨o, f _ _ h trivial⟩)
  · exact .inr h
theorem Stp.sqT {K : PySem.W.Frag} {μ μ' : List Addr} {H H' : Hp} (s : Stp μ H μ' H') {a : Addr} {xs : List V} (h : SqT K H a xs) : SqT K H' a xs := by
  rcases h with (h | ⟨o, h⟩) | h
  · exact .inl (.inl (s.fix _ _ h trivial))
  · exact .inl (.inr ⟨o, s.fix _ _ h trivial⟩)
  · exact .inr h

theorem RoL.fix {K : PySem.W.Frag} {H H' : Hp} (f : ∀ a o, H a = some o → Fix o → H' a = some o) {a : Addr} {xs : List V} (h : RoL K H a xs) : RoL K H' a xs :=
  h.elim (fun ⟨o, e⟩ => .inl ⟨o, f _ _ e trivial⟩) .inr
section
variable {K : PySem.W.Frag} {μ μ' : List Addr} {H H' : Hp}
mutual
theorem RelD.mono' (p : μ <+: μ') (f : ∀ a o, H a = some o → Fix o → H' a = some o) : ∀ (d : D) (v : V), RelD K μ H d v → RelD K μ' H' d v
  | .non, _, h => by simp only [RelD] at h ⊢; exact h
  | .bl _, _, h => by simp only [RelD] at h ⊢; exact h
  | .int _, _, h => by simp only [RelD] at h ⊢; exact h
  | .str _, _, h => by simp only [RelD] at h ⊢; exact h
  | .tup ds, _, h => by
    simp only [RelD] at h ⊢
    obtain ⟨a, vs, e, hs, hr⟩ := h
    exact ⟨a, vs, e, sqT_fix f hs, RelDs.mono' p f ds vs hr⟩
  | .obj n, _, h => by
    simp only [RelD] at h ⊢
    obtain ⟨a, e, ev⟩ := h
    exact ⟨a, pre_get p e, ev⟩
  | .rol ds, _, h => by
    simp only [RelD] at h ⊢
    obtain ⟨a, vs, e, hs, hr⟩ := h
    exact ⟨a, vs, e, hs.fix f, RelDs.mono' p f ds vs hr⟩
  | .exn c ks ds, _, h => by simp only [RelD] at h
theorem RelDs.mono' (p : μ <+: μ') (f : ∀ a o, H a = some o → Fix o → H' a = some o) : ∀ (ds : List D) (vs : List V), RelDs K μ H ds vs → RelDs K μ' H' ds vs
  | [], _, h => by simp only [RelDs] at h ⊢; exact h
  | d :: ds, _, h => by
    simp only [RelDs] at h ⊢
    obtain ⟨v, r, e, h1, h2⟩ := h
    exact ⟨v, r, e, RelD.mono' p f d v h1, RelDs.mono' p f ds r h2⟩
end
theorem RelD.mono (s : Stp μ H μ' H') (d : D) (v : V) (h : RelD K μ H d v) : RelD K μ' H' d v := RelD.mono' s.pre s.fix d v h
theorem RelDs.mono (s : Stp μ H μ' H') (ds : List D) (vs : List V) (h : RelDs K μ H ds vs) : RelDs K μ' H' ds vs := RelDs.mono' s.pre s.fix ds vs h
theorem RelDs.nil_iff {vs : List V} : RelDs K μ H [] vs ↔ vs = [] := by simp only [RelDs]
theorem RelDs.cons_iff {d : D} {ds : List D} {vs : List V} : RelDs K μ H (d :: ds) vs ↔ ∃ v r, vs = v :: r ∧ RelD K μ H d v ∧ RelDs K μ H ds r := by simp only [RelDs]
theorem RelDs.nil : RelDs K μ H [] [] := RelDs.nil_iff.mpr rfl
theorem RelDs.cons {d : D} {ds : List D} {v : V} {vs : List V} (h : RelD K μ H d v) (t : RelDs K μ H ds vs) : RelDs K μ H (d :: ds) (v :: vs) :=
  RelDs.cons_iff.mpr ⟨v, vs, rfl, h, t⟩
theorem RelDs.length : ∀ {ds : List D} {vs : List V}, RelDs K μ H ds vs → ds.length = vs.length
  | [], vs, h => by rw [RelDs.nil_iff.mp h]; rfl
  | d :: ds, vs, h => by
    obtain ⟨v, r, rfl, _, t⟩ := RelDs.cons_iff.mp h
    simp [RelDs.length t]
theorem RelDs.append : ∀ {ds es : List D} {vs ws : List V}, RelDs K μ H ds vs → RelDs K μ H es ws → RelDs K μ H (ds ++ es) (vs ++ ws)
  | [], _, _, _, h, t => by rw [RelDs.nil_iff.mp h]; exact t
  | d :: ds, es, vs, ws, h, t => by
    obtain ⟨v, r, rfl, h1, h2⟩ := RelDs.cons_iff.mp h
    exact .cons h1 (RelDs.append h2 t)
theorem RelDs.get : ∀ {ds : List D} {vs : List V} {i : Nat} {d : D}, RelDs K μ H ds vs → ds[i]? = some d → ∃ v, vs[i]? = some v ∧ RelD K μ H d v
  | [], _, _, _, _, e => by simp at e
  | d :: ds, vs, 0, x, h, e => by
    obtain ⟨v, r, rfl, h1, _⟩ := RelDs.cons_iff.mp h
    have e' : d = x := by simpa using e
    subst e'
    exact ⟨v, rfl, h1⟩
  | d :: ds, vs, i + 1, x, h, e => by
    obtain ⟨v, r, rfl, _, h2⟩ := RelDs.cons_iff.mp h
    exact RelDs.get (ds := ds) (vs := r) (i := i) h2 (by simpa using e)
theorem RelDs.getV {ds : List D} {vs : List V} {i : Nat} {v : V} (h : RelDs K μ H ds vs) (e : vs[i]? = some v) : ∃ d, ds[i]? = some d ∧ RelD K μ H d v := by
  have hl := h.length
  have hi : i < ds.length := by rw [hl]; exact (List.getElem?_eq_some_iff.mp e).1
  obtain ⟨v', e', r⟩ := h.get (List.getElem?_eq_getElem hi)
  rw [e] at e'; cases e'
  exact ⟨_, List.getElem?_eq_getElem hi, r⟩
theorem RelDs.set {d : D} {v : V} (r : RelD K μ H d v) : ∀ {ds : List D} {vs : List V} (i : Nat), RelDs K μ H ds vs → RelDs K μ H (ds.set i d) (vs.set i v)
  | [], _, _, h => by rw [RelDs.nil_iff.mp h]; exact .nil
  | x :: ds, vs, 0, h => by
    obtain ⟨w, t, rfl, _, h2⟩ := RelDs.cons_iff.mp h
    exact .cons r h2
  | x :: ds, vs, i + 1, h => by
    obtain ⟨w, t, rfl, h1, h2⟩ := RelDs.cons_iff.mp h
    exact .cons h1 (RelDs.set r i h2)
theorem RelDs.take : ∀ {ds : List D} {vs : List V} (n : Nat), RelDs K μ H ds vs → RelDs K μ H (ds.take n) (vs.take n)
  | _, _, 0, _ => by simpa using RelDs.nil
  | [], _, n + 1, h => by rw [RelDs.nil_iff.mp h]; exact .nil
  | d :: ds, vs, n + 1, h => by
    obtain ⟨w, t, rfl, h1, h2⟩ := RelDs.cons_iff.mp h
    exact .cons h1 (RelDs.take n h2)
theorem RelDs.drop : ∀ {ds : List D} {vs : List V} (n : Nat), RelDs K μ H ds vs → RelDs K μ H (ds.drop n) (vs.drop n)
  | _, _, 0, h => by simpa using h
  | [], _, n + 1, h => by rw [RelDs.nil_iff.mp h]; exact .nil
  | d :: ds, vs, n + 1, h => by
    obtain ⟨w, t, rfl, h1, h2⟩ := RelDs.cons_iff.mp h
    exact RelDs.drop n h2
theorem RelDs.reverse : ∀ {ds : List D} {vs : List V}, RelDs K μ H ds vs → RelDs K μ H ds.reverse vs.reverse
  | [], _, h => by rw [RelDs.nil_iff.mp h]; exact .nil
  | d :: ds, vs, h => by
    obtain ⟨w, t, rfl, h1, h2⟩ := RelDs.cons_iff.mp h
    rw [List.reverse_cons, List.reverse_cons]
    exact (RelDs.reverse h2).append (.cons h1 .nil)
theorem RelDs.eraseIdx : ∀ {ds : List D} {vs : List V} (n : Nat), RelDs K μ H ds vs → RelDs K μ H (ds.eraseIdx n) (vs.eraseIdx n)
  | [], _, _, h => by rw [RelDs.nil_iff.mp h]; exact .nil
  | d :: ds, vs, 0, h => by
    obtain ⟨w, t, rfl, h1, h2⟩ := RelDs.cons_iff.mp h
    exact h2
  | d :: ds, vs, n + 1, h => by
    obtain ⟨w, t, rfl, h1, h2⟩ := RelDs.cons_iff.mp h
    exact .cons h1 (RelDs.eraseIdx n h2)

/-- an object as it stands -/
def RelO (K : PySem.W.Frag) (μ : List Addr) (H : Hp) : O → Option HO → Prop
  | .lst ds, h => ∃ vs, h = some (.lst vs) ∧ RelDs K μ H ds vs
  | .ro ds, h => ∃ o vs, h = some (.frz o (.lst vs)) ∧ RelDs K μ H ds vs
  | .dic kvs, h => ∃ ws, h = some (.dK ws) ∧ ws.map (·.1) = kvs.map (·.1) ∧ RelDs K μ H (kvs.map (·.2)) (ws.map (·.2))
  | .gone, h => h ≠ none
theorem RelO.mono' (p : μ <+: μ') (f : ∀ a o, H a = some o → Fix o → H' a = some o) {o : O} {h : Option HO} (r : RelO K μ H o h) : RelO K μ' H' o h := by
  cases o with
  | lst ds => obtain ⟨vs, e, h⟩ := r; exact ⟨vs, e, h.mono' p f _ _⟩
  | ro ds => obtain ⟨o, vs, e, h⟩ := r; exact ⟨o, vs, e, h.mono' p f _ _⟩
  | dic kvs => obtain ⟨ws, e, e2, h⟩ := r; exact ⟨ws, e, e2, h.mono' p f _ _⟩
  | gone => exact r
theorem RelO.mono (s : Stp μ H μ' H') {o : O} {h : Option HO} (r : RelO K μ H o h) : RelO K μ' H' o h := RelO.mono' s.pre s.fix r
theorem RelO.some {o : O} {h : Option HO} (r : RelO K μ H o h) : h ≠ none := by
  cases o with
  | lst ds => obtain ⟨vs, e, h⟩ := r; rw [e]; simp
  | ro ds => obtain ⟨o, vs, e, h⟩ := r; rw [e]; simp
  | dic kvs => obtain ⟨ws, e, e2, h⟩ := r; rw [e]; simp
  | gone => exact r

structure HR (K : PySem.W.Frag) (μ : List Addr) (A : Ht) (H : Hp) : Prop where
  len : μ.length = A.length
  nd : μ.Nodup
  obj : ∀ (i : Nat) (o : O) (a : Addr), A[i]? = some o → μ[i]? = some a → RelO K μ H o (H a)
end
section
variable {K : PySem.W.Frag} {μ μ' : List Addr} {H H' : Hp} {A : Ht}
theorem nodup_at {α : Type} {l : List α} (h : l.Nodup) {i j : Nat} {a : α} (e : l[i]? = some a) (e' : l[j]? = some a) : i = j := by
  obtain ⟨h1, e1⟩ := List.getElem?_eq_some_iff.mp e
  obtain ⟨h2, e2⟩ := List.getElem?_eq_some_iff.mp e'
  exact (List.getElem_inj h).mp (e1.trans e2.symm)
theorem HR.at (h : HR K μ A H) {i : Nat} {o : O} (e : A[i]? = some o) : ∃ a, μ[i]? = some a ∧ RelO K μ H o (H a) := by
  have hi : i < μ.length := by rw [h.len]; exact (List.getElem?_eq_some_iff.mp e).1
  exact ⟨_, List.getElem?_eq_getElem hi, h.obj i o _ e (List.getElem?_eq_getElem hi)⟩
theorem HR.atV (h : HR K μ A H) {i : Nat} {o : O} {v : V} (e : A[i]? = some o) (r : RelD K μ H (.obj i) v) : ∃ a, μ[i]? = some a ∧ v = .ref a ∧ RelO K μ H o (H a) := by
  simp only [RelD] at r
  obtain ⟨a, ea, ev⟩ := r
  exact ⟨a, ea, ev, h.obj i o a e ea⟩
theorem stp_upd {p : Addr} {o : HO} (hp : H p = none) (t : List Addr) (ht : ∀ a ∈ t, a = p := by simp) : Stp μ H (μ ++ t) (upd H p o) :=
  ⟨List.prefix_append _ _, fun a u e _ => by rw [upd_ne (ne_of_none e hp)]; exact e, fun a h => by
    rcases List.mem_append.mp h with h | h
    · exact .inl h
    · rw [ht a h]; exact .inr hp, fun a u e _ => by rw [upd_ne (ne_of_none e hp)]; exact e⟩
theorem stp_upd0 {p : Addr} {o : HO} (hp : H p = none) : Stp μ H μ (upd H p o) := by simpa using (stp_upd (μ := μ) (o := o) hp [])
theorem HR.notIn (h : HR K μ A H) {p : Addr} (hp : H p = none) : p ∉ μ := by
  intro hm
  obtain ⟨i, hi⟩ := List.mem_iff_getElem?.mp hm
  have hl : i < A.length := by rw [← h.len]; exact (List.getElem?_eq_some_iff.mp hi).1
  exact (h.obj i _ p (List.getElem?_eq_getElem hl) hi).some hp
/-- a new object -/
theorem HR.push (h : HR K μ A H) {p : Addr} {ho : HO} {o : O} (hp : H p = none) (r : RelO K (μ ++ [p]) (upd H p ho) o (some ho)) : HR K (μ ++ [p]) (A ++ [o]) (upd H p ho) := by
  refine ⟨by rw [List.length_append, List.length_append, h.len]; rfl, ?_, fun i o' a e ea => ?_⟩
  · rw [List.nodup_append]
    refine ⟨h.nd, by simp, fun a ha b hb => ?_⟩
    have eb : b = p := by simpa using hb
    subst eb
    intro e
    exact h.notIn hp (e ▸ ha)
  · by_cases hi : i < A.length
    · rw [List.getElem?_append_left hi] at e
      rw [List.getElem?_append_left (by rw [h.len]; exact hi)] at ea
      have q := h.obj i o' a e ea
      have ne : a ≠ p := fun z => q.some (by rw [z]; exact hp)
      rw [upd_ne ne]
      exact q.mono (stp_upd hp [p])
    · have hi' : i = A.length := by
        have z := (List.getElem?_eq_some_iff.mp e).1
        rw [List.length_append] at z
        simp at z
        omega
      subst hi'
      rw [List.getElem?_concat_length] at e
      cases e
      rw [← h.len, List.getElem?_concat_length] at ea
      cases ea
      rw [upd_same]
      exact r
/-- an object that stands already gets a number -/
theorem HR.adopt (h : HR K μ A H) {p : Addr} {o : O} (hp : p ∉ μ) (r : RelO K μ H o (H p)) : HR K (μ ++ [p]) (A ++ [o]) H := by
  have pf : μ <+: μ ++ [p] := List.prefix_append _ _
  refine ⟨by rw [List.length_append, List.length_append, h.len]; rfl, ?_, fun i o' a e ea => ?_⟩
  · rw [List.nodup_append]
    refine ⟨h.nd, by simp, fun a ha b hb => ?_⟩
    have eb : b = p := by simpa using hb
    subst eb
    intro e
    exact hp (e ▸ ha)
  · by_cases hi : i < A.length
    · rw [List.getElem?_append_left hi] at e
      rw [List.getElem?_append_left (by rw [h.len]; exact hi)] at ea
      exact (h.obj i o' a e ea).mono' pf fun _ _ h _ => h
    · have hi' : i = A.length := by
        have z := (List.getElem?_eq_some_iff.mp e).1
        rw [List.length_append] at z
        simp at z
        omega
      subst hi'
      rw [List.getElem?_concat_length] at e
      cases e
      rw [← h.len, List.getElem?_concat_length] at ea
      cases ea
      exact r.mono' pf fun _ _ h _ => h
/-- a thing that bears no number is written -/
theorem HR.aside (h : HR K μ A H) {p : Addr} {old ho : HO} (hp : p ∉ μ) (e : H p = some old) (hf : ¬ Fix old) : HR K μ A (upd H p ho) := by
  refine ⟨h.len, h.nd, fun i o' a ei ea => ?_⟩
  have ne : a ≠ p := fun z => hp (z ▸ List.mem_of_getElem? ea)
  rw [upd_ne ne]
  exact (h.obj i o' a ei ea).mono' (List.prefix_refl _) fun b u eb f => by
    by_cases z : b = p
    · subst z; rw [e] at eb; cases eb; exact absurd f hf
    · rw [upd_ne z]; exact eb
/-- a new thing that bears no number (a tuple) -/
theorem HR.tupd (h : HR K μ A H) {p : Addr} {ho : HO} (hp : H p = none) : HR K μ A (upd H p ho) := by
  refine ⟨h.len, h.nd, fun i o a e ea => ?_⟩
  have q := h.obj i o a e ea
  have ne : a ≠ p := fun z => q.some (by rw [z]; exact hp)
  rw [upd_ne ne]
  exact q.mono (stp_upd0 hp)
theorem stp_write {n : Nat} {p : Addr} {old ho : HO} (en : μ[n]? = some p) (hp : H p = some old) (hf : ¬ Fix old) : Stp μ H μ (upd H p ho) :=
  ⟨List.prefix_refl _, fun a u e f => by
    by_cases z : a = p
    · subst z; rw [hp] at e; cases e; exact absurd f hf
    · rw [upd_ne z]; exact e, fun _ h => .inl h, fun a u e n => by
    have z : a ≠ p := fun z => n (z ▸ List.mem_of_getElem? en)
    rw [upd_ne z]; exact e⟩
/-- an object written -/
theorem HR.write (h : HR K μ A H) {n : Nat} {p : Addr} {old ho : HO} {o : O} (en : μ[n]? = some p) (hp : H p = some old) (hf : ¬ Fix old) (r : RelO K μ (upd H p ho) o (some ho)) : HR K μ (A.set n o) (upd H p ho) := by
  refine ⟨by rw [List.length_set]; exact h.len, h.nd, fun i o' a e ea => ?_⟩
  have hn : n < A.length := by rw [← h.len]; exact (List.getElem?_eq_some_iff.mp en).1
  by_cases hi : i = n
  · subst hi
    rw [List.getElem?_set_self hn] at e
    cases e
    rw [en] at ea; cases ea
    rw [upd_same]; exact r
  · rw [List.getElem?_set_ne (Ne.symm hi)] at e
    have ne : a ≠ p := fun z => by
      subst z
      exact hi (nodup_at h.nd ea en)
    rw [upd_ne ne]
    exact (h.obj i o' a e ea).mono (stp_write en hp hf)

/-- the slots; a slot may hold the handled exception -/
def RelX (K : PySem.W.Frag) (hx : HX) (μ : List Addr) (H : Hp) : D → V → Prop
  | .exn c ks ds, v => ∃ a d vs, v = .ref a ∧ hx = some (a, c, d) ∧ ks.length = vs.length ∧ H d = some (.xd (ks.zip vs)) ∧ RelDs K μ H ds vs
  | d, v => RelD K μ H d v
theorem RelX.of {hx : HX} {d : D} {v : V} (r : RelD K μ H d v) : RelX K hx μ H d v := by
  cases d with
  | exn c ks ds => simp only [RelD] at r
  | _ => exact r
theorem RelX.mono {hx : HX} (s : Stp μ H μ' H') {d : D} {v : V} (r : RelX K hx μ H d v) : RelX K hx μ' H' d v := by
  cases d with
  | exn c ks ds =>
    obtain ⟨a, d, vs, e, e2, hl, hd, hr⟩ := r
    exact ⟨a, d, vs, e, e2, hl, s.fix _ _ hd trivial, RelDs.mono s ds vs hr⟩
  | non => exact RelD.mono s _ _ r
  | bl _ => exact RelD.mono s _ _ r
  | int _ => exact RelD.mono s _ _ r
  | str _ => exact RelD.mono s _ _ r
  | tup _ => exact RelD.mono s _ _ r
  | obj _ => exact RelD.mono s _ _ r
  | rol _ => exact RelD.mono s _ _ r
structure RelS (K : PySem.W.Frag) (hx : HX) (μ : List Addr) (H : Hp) (ρ : Rho) (σ : L2.St) : Prop where
  len : ρ.length = σ.length
  val : ∀ (i : Nat) (d : D), ρ[i]? = some (some d) → ∃ v, σ[i]? = some (some v) ∧ RelX K hx μ H d v
theorem RelS.mono {hx : HX} {ρ : Rho} {σ : L2.St} (s : Stp μ H μ' H') (r : RelS K hx μ H ρ σ) : RelS K hx μ' H' ρ σ :=
  ⟨r.len, fun i d e => let ⟨v, e', q⟩ := r.val i d e; ⟨v, e', q.mono s⟩⟩
theorem RelS.setX {hx : HX} {ρ : Rho} {σ : L2.St} {d : D} {v : V} (r : RelS K hx μ H ρ σ) (i : Nat) (q : RelX K hx μ H d v) : RelS K hx μ H (ρ.set i (some d)) (σ.set i (some v)) := by
  refine ⟨by simp [r.len], fun j x e => ?_⟩
  by_cases hj : i = j
  · subst hj
    have hl : i < ρ.length := by
      have z := (List.getElem?_eq_some_iff.mp e).1
      simpa using z
    rw [List.getElem?_set_self hl] at e
    cases e
    exact ⟨v, by rw [List.getElem?_set_self (by rw [← r.len]; exact hl)], q⟩
  · rw [List.getElem?_set_ne hj] at e ⊢
    exact r.val j x e
theorem RelS.set {hx : HX} {ρ : Rho} {σ : L2.St} {d : D} {v : V} (r : RelS K hx μ H ρ σ) (i : Nat) (q : RelD K μ H d v) : RelS K hx μ H (ρ.set i (some d)) (σ.set i (some v)) := r.setX i (.of q)
theorem RelS.forget {hx : HX} {ρ : Rho} {σ : L2.St} (r : RelS K hx μ H ρ σ) (i : Nat) : RelS K hx μ H (ρ.set i none) (σ.set i none) := by
  refine ⟨by simp [r.len], fun j x e => ?_⟩
  by_cases hj : i = j
  · subst hj
    by_cases hl : i < ρ.length
    · rw [List.getElem?_set_self hl] at e; cases e
    · rw [List.getElem?_eq_none (by simpa using hl)] at e; cases e
  · rw [List.getElem?_set_ne hj] at e ⊢
    exact r.val j x e
/-- the slots without an exception -/
def clean : Rho → Rho
  | [] => []
  | some (.exn _ _ _) :: r => none :: clean r
  | x :: r => x :: clean r
theorem clean_length : ∀ ρ : Rho, (clean ρ).length = ρ.length
  | [] => rfl
  | none :: r => by simp [clean, clean_length r]
  | some d :: r => by cases d <;> simp [clean, clean_length r]
theorem clean_get : ∀ {ρ : Rho} {i : Nat} {d : D}, (clean ρ)[i]? = some (some d) → ρ[i]? = some (some d) ∧ ∀ c ks ds, d ≠ .exn c ks ds
  | [], i, d, h => by simp [clean] at h
  | none :: r, 0, d, h => by simp [clean] at h
  | none :: r, i + 1, d, h => by simpa using clean_get (ρ := r) (i := i) (d := d) (by simpa [clean] using h)
  | some x :: r, 0, d, h => by
    cases x with
    | exn c ks ds => simp [clean] at h
    | _ => (simp [clean] at h; subst h; exact ⟨rfl, fun _ _ _ z => nomatch z⟩)
  | some x :: r, i + 1, d, h => by
    have h' : (clean r)[i]? = some (some d) := by cases x <;> simpa [clean] using h
    simpa using clean_get (ρ := r) (i := i) (d := d) h'
theorem RelS.clean {hx hx' : HX} {ρ : Rho} {σ : L2.St} (r : RelS K hx μ H ρ σ) : RelS K hx' μ H (Px.clean ρ) σ :=
  ⟨by rw [clean_length]; exact r.len, fun i d e => by
    obtain ⟨e1, n⟩ := clean_get e
    obtain ⟨v, e2, q⟩ := r.val i d e1
    refine ⟨v, e2, ?_⟩
    cases d with
    | exn c ks ds => exact absurd rfl (n c ks ds)
    | _ => exact q⟩

/-- what is wanted, one level down -/
def Up (K : PySem.W.Frag) (μ : List Addr) (H : Hp) (Q : D → Ht → Prop) : VK := fun v H' =>
  ∃ μ' d A', Stp μ H μ' H' ∧ RelD K μ' H' d v ∧ HR K μ' A' H' ∧ Q d A'
def UpX (K : PySem.W.Frag) (T : Tab) (μ : List Addr) (H : Hp) (E : D → Ht → Prop) : XK := fun cls dd H' =>
  ∃ μ' A' c ca ks ds a vs, Stp μ H μ' H' ∧ HR K μ' A' H' ∧ T c = some (ca, ks) ∧ cls = .ref ca ∧ dd = some a ∧ ks.length = vs.length ∧ H' a = some (.xd (ks.zip vs)) ∧ RelDs K μ' H' ds vs ∧ E (.exn c ks ds) A'
theorem Up.mk {Q : D → Ht → Prop} {v : V} {d : D} (r : RelD K μ H d v) (h : HR K μ A H) (q : Q d A) : Up K μ H Q v H := ⟨μ, d, A, .refl, r, h, q⟩
theorem Up.step {Q : D → Ht → Prop} {v : V} {H2 : Hp} (s : Stp μ H μ' H') (u : Up K μ' H' Q v H2) : Up K μ H Q v H2 := by
  obtain ⟨μ2, d, A2, s2, r⟩ := u
  exact ⟨μ2, d, A2, s.trans s2, r⟩
theorem UpX.step {T : Tab} {E : D → Ht → Prop} {c : Value} {dd : Option Addr} {H2 : Hp} (s : Stp μ H μ' H') (u : UpX K T μ' H' E c dd H2) : UpX K T μ H E c dd H2 := by
  obtain ⟨μ2, A2, c, ca, ks, ds, a, vs, s2, r⟩ := u
  exact ⟨μ2, A2, c, ca, ks, ds, a, vs, s.trans s2, r⟩
/-- a new list -/
theorem Up.list {Q : D → Ht → Prop} {p : Addr} {ds : List D} {vs : List V} (h : HR K μ A H) (r : RelDs K μ H ds vs) (hp : H p = none) (q : Q (.obj A.length) (A ++ [.lst ds])) : Up K μ H Q (.ref p) (upd H p (.lst vs)) := by
  refine ⟨μ ++ [p], .obj A.length, A ++ [.lst ds], stp_upd hp _, ?_, h.push (o := .lst ds) hp ⟨vs, rfl, r.mono (stp_upd hp _) _ _⟩, q⟩
  simp only [RelD]
  exact ⟨p, by rw [← h.len, List.getElem?_concat_length], rfl⟩
/-- a new tuple -/
theorem Up.tuple {Q : D → Ht → Prop} {p : Addr} {ds : List D} {vs : List V} (h : HR K μ A H) (r : RelDs K μ H ds vs) (hp : H p = none) (q : Q (.tup ds) A) : Up K μ H Q (.ref p) (upd H p (.tup vs)) := by
  have s : Stp μ H μ (upd H p (.tup vs)) := stp_upd0 hp
  refine ⟨μ, .tup ds, A, s, ?_, h.tupd hp, q⟩
  simp only [RelD]
  exact ⟨p, vs, rfl, .inl (.inl upd_same), r.mono s _ _⟩
end
end Px
end TextPx1

section TextPx2
set_option autoImplicit false
set_option maxRecDepth 100000
set_option maxHeartbeats 2000000
/-! Px2: a small language of our own, and what its parts ask (predicate transformers over data and numbered objects). -/
namespace Px
open PySem PySem.Spec PyProof.Rows L2

inductive BI where
  | len | int | abs | min | max | tuple | list | str | sorted | sum | all | any
  deriving DecidableEq, Repr
inductive MI where
  | append | pop | reverse | extend | join | find | upper | index | count | split | insert | replace | isdigit | startswith
  deriving DecidableEq, Repr
inductive TI' where
  | int | bool | str | tuple | list | dict
  deriving DecidableEq, Repr
mutual
inductive Tg where
  | name (i : Nat) | tup (gs : Tgs)
inductive Tgs where
  | nil | cons (g : Tg) (gs : Tgs)
end
mutual
inductive Ie where
  | var (i : Nat) | cst (d : D) | glob (x : Str)
  | bin (op : Operator) (a b : Ie) | neg (a : Ie)
  | cmp (op : CmpOp) (a b : Ie) | chain (o1 o2 : CmpOp) (a b c : Ie)
  | andv (a b : Ie) | orv (a b : Ie) | notv (a : Ie) | ite (t a b : Ie)
  | tup (es : Ies) | lst (es : Ies) | dic (ks vs : Ies)
  | ix (a i : Ie) | sl (a : Ie) (lo hi : Ieo)
  | call (f : Str) (es : Ies) | callk (f : Str) (pm : List Nat) (es ws : Ies)
  | bi (b : BI) (es : Ies) | isi (e : Ie) (t : TI') | mt (m : MI) (o : Ie) (es : Ies)
  | lc (g : Tg) (it : Ii) (t : Ieo) (elt : Ie) (ws : List Nat)
  | fld (i : Nat) (f : Str) | isx (i : Nat) (c : Str)
inductive Ies where
  | nil | cons (e : Ie) (es : Ies)
inductive Ieo where
  | no | so (e : Ie)
inductive Ii where
  | seq (e : Ie) | rng1 (a : Ie) | rng2 (a b : Ie) | rng3 (a b c : Ie) | enum (e : Ie) | zip (a b : Ie) | rev (e : Ie)
end
mutual
inductive Is where
  | set (i : Nat) (e : Ie) | asg (g : Tg) (e : Ie) | par (i j : Nat) (a b : Ie) | asgS (o i e : Ie)
  | aug (i : Nat) (op : Operator) (e : Ie) | augS (o i : Ie) (op : Operator) (e : Ie)
  | ex (e : Ie) | ret (e : Ie) | retN
  | ife (t : Ie) (a b : Iss) | whl (t : Ie) (b : Iss) | fr (g : Tg) (it : Ii) (b : Iss)
  | rse (c : Str) (es : Ies) | tri (b : Iss) (hs : Ihs)
  | brk | cnt | pss
inductive Iss where
  | nil | cons (s : Is) (ss : Iss)
inductive Ihs where
  | nil | cons (c : Str) (i : Option Nat) (b : Iss) (hs : Ihs)
end

/-- a contract: arguments, objects, what is wanted of an error, what is wanted of the answer -/
abbrev Con := List D → Ht → (D → Ht → Prop) → (D → Ht → Prop) → Prop
structure Env' where
  con : Str → Con
  ct : Str → Option D
  sub : Str → Str → Bool
  fds : Str → List Str

/-! ### reading -/
mutual
def toPw (f : Nat → Option PyData) : D → Option PyData
  | .non => some .none | .bl b => some (.bool b) | .int i => some (.int i) | .str s => some (.str s)
  | .tup ds => (toPws f ds).map .tuple | .obj n => f n | .rol _ => none | .exn _ _ _ => none
def toPws (f : Nat → Option PyData) : List D → Option (List PyData)
  | [] => some []
  | d :: ds => (toPw f d).bind fun p => (toPws f ds).map fun ps => p :: ps
end
def toP : Nat → Ht → D → Option PyData
  | 0, _ => toPw fun _ => none
  | k + 1, A => toPw fun n => match A[n]? with
    | some (.lst ds) => (ds.mapM (toP k A)).map .list
    | some (.ro ds) => (ds.mapM (toP k A)).map .list
    | _ => none
/-- == as a truth value -/
def eqD : D → D → Ht → (Bool → Prop) → Prop
  | .int i, .int j, _, k => k (decide (i = j))
  | .str s, .str t, _, k => k (decide (s = t))
  | x, y, A, k => match toP 3 A x, toP 3 A y with
    | some p, some q => SeqAt.shaped p = true ∧ SeqAt.shaped q = true ∧ k (PyData.eqv p q)
    | _, _ => False
/-- truth -/
def truD : D → Ht → (Bool → Prop) → Prop
  | .bl b, _, k => k b
  | .non, _, k => k false
  | .int i, _, k => k (i != 0)
  | .str s, _, k => s.length ≤ sizeLine ∧ k ((s.length : Int) != 0)
  | .tup ds, _, k => k (!ds.isEmpty)
  | .obj n, A, k => match A[n]? with
    | some (.lst ds) => k (!ds.isEmpty)
    | some (.ro ds) => k (!ds.isEmpty)
    | some (.dic kvs) => k (!kvs.isEmpty)
    | _ => False
  | .rol ds, _, k => k (!ds.isEmpty)
  | .exn _ _ _, _, _ => False
def lookK : List (Key × D) → Key → Option D
  | [], _ => none
  | (j, e) :: r, k => if j = k then some e else lookK r k
def putK (kvs : List (Key × D)) (k : Key) (d : D) : List (Key × D) :=
  match kvs with
  | [] => [(k, d)]
  | (j, e) :: r => if j = k then (j, d) :: r else (j, e) :: putK r k d
def keyD : D → Option Key
  | .int i => some (.inl i) | .str s => some (.inr s) | _ => none
def seqD (A : Ht) : D → Option (List D)
  | .tup ds => some ds
  | .obj n => match A[n]? with | some (.lst ds) => some ds | some (.ro ds) => some ds | _ => none
  | _ => none
def binD (op : Operator) (x y : D) (A : Ht) (Q : D → Ht → Prop) : Prop :=
  match op, x, y with
  | .Add, .int i, .int j => Q (.int (i + j)) A
  | .Add, .str s, .str t => s.length + t.length ≤ sizeLine ∧ Q (.str (s ++ t)) A
  | .Add, .tup a, .tup b => a.length + b.length ≤ sizeLine ∧ Q (.tup (a ++ b)) A
  | .Add, .obj n, .obj m => match A[n]?, A[m]? with
    | some (.lst a), some (.lst b) => a.length + b.length ≤ sizeLine ∧ Q (.obj A.length) (A ++ [.lst (a ++ b)])
    | _, _ => False
  | .Sub, .int i, .int j => Q (.int (i - j)) A
  | .Mult, .int i, .int j => (CMul i j ∨ CMulW i j) ∧ Q (.int (i * j)) A
  | .Mult, .obj n, .int k => match A[n]? with
    | some (.lst a) => -(2 ^ 63) ≤ k ∧ k < 2 ^ 63 ∧ a.length * k.toNat ≤ sizeLine ∧ Q (.obj A.length) (A ++ [.lst (List.replicate k.toNat a).flatten])
    | _ => False
  | .FloorDiv, .int i, .int j => 0 < j ∧ (j < 1073741824 ∨ j.natAbs.log2 < 9000) ∧ Q (.int (i / j)) A
  | .Mod, .int i, .int j => 0 < j ∧ Q (.int (i % j)) A
  | .Pow, .int i, .int j => CPow i j ∧ Q (.int (i ^ j.toNat)) A
  | .LShift, .int i, .int j => CPow i j ∧ Q (.int (i * 2 ^ j.toNat)) A
  | .RShift, .int i, .int j => 0 ≤ j ∧ Q (.int (i / 2 ^ j.toNat)) A
  | _, _, _ => False
def flatD : D → Bool
  | .non => true | .bl _ => true | .int _ => true | .str _ => true | _ => false
def eqF : D → D → Bool
  | .non, .non => true
  | .bl a, .bl b => a == b
  | .bl a, .int b => (if a then 1 else 0) == b
  | .int a, .bl b => a == (if b then 1 else 0)
  | .int a, .int b => a == b
  | .str a, .str b => a == b
  | _, _ => false
def inD (x y : D) (A : Ht) (k : Bool → Prop) : Prop :=
  match y with
  | .str t => match x with | .str s => k (!(Builtin.Str.occurrences t s 0 t.length 1).isEmpty) | _ => False
  | .tup ds => flatD x = true ∧ ds.all flatD = true ∧ k (ds.any fun z => eqF z x)
  | .obj n => match A[n]? with
    | some (.lst ds) => flatD x = true ∧ ds.all flatD = true ∧ k (ds.any fun z => eqF z x)
    | some (.ro ds) => flatD x = true ∧ ds.all flatD = true ∧ k (ds.any fun z => eqF z x)
    | some (.dic kvs) => match keyD x with | some q => k (lookK kvs q).isSome | none => False
    | _ => False
  | _ => False
def isBlD (b : Bool) : D → Bool
  | .bl a => a == b
  | _ => false
def isNonD : D → Bool
  | .non => true
  | _ => false
def isD (x y : D) (k : Bool → Prop) : Prop :=
  match y with
  | .non => k (isNonD x)
  | .bl b => k (isBlD b x)
  | _ => False
def cmpD (op : CmpOp) (x y : D) (A : Ht) (k : Bool → Prop) : Prop :=
  match op with
  | .Eq => eqD x y A k
  | .NotEq => eqD x y A fun b => k (!b)
  | .Is => isD x y k
  | .IsNot => isD x y fun b => k (!b)
  | .In => inD x y A k
  | .NotIn => inD x y A fun b => k (!b)
  | .Lt => match x, y with | .int i, .int j => k (decide (i < j)) | .str s, .str t => k (decide (s.cps.toList < t.cps.toList)) | _, _ => False
  | .LtE => match x, y with | .int i, .int j => k (decide (i ≤ j)) | .str s, .str t => k (!decide (t.cps.toList < s.cps.toList)) | _, _ => False
  | .Gt => match x, y with | .int i, .int j => k (decide (j < i)) | .str s, .str t => k (decide (t.cps.toList < s.cps.toList)) | _, _ => False
  | .GtE => match x, y with | .int i, .int j => k (decide (j ≤ i)) | .str s, .str t => k (!decide (s.cps.toList < t.cps.toList)) | _, _ => False
def ixD (x y : D) (A : Ht) (Q : D → Ht → Prop) : Prop :=
  match x, y with
  | .tup ds, .int i => match atI ds i with | some d => Q d A | none => False
  | .str z, .int i => z.length ≤ sizeLine ∧ match atI z.cps.toList i with | some c => Q (.str ⟨#[c]⟩) A | none => False
  | .obj n, y => match A[n]?, y with
    | some (.lst ds), .int i => (match atI ds i with | some d => Q d A | none => False)
    | some (.ro ds), .int i => (match atI ds i with | some d => Q d A | none => False)
    | some (.dic kvs), y => (match keyD y with | some k => (match lookK kvs k with | some d => Q d A | none => False) | none => False)
    | _, _ => False
  | _, _ => False
def cutD (xs : List D) (lo hi : Option Int) : List D := (xs.drop (HT.sIx xs.length 0 lo)).take (HT.sIx xs.length xs.length hi - HT.sIx xs.length 0 lo)
def slD (x : D) (lo hi : Option Int) (A : Ht) (Q : D → Ht → Prop) : Prop :=
  match x with
  | .tup ds => Q (.tup (cutD ds lo hi)) A
  | .str z => z.length ≤ sizeLine ∧ Q (.str (cutS z lo hi)) A
  | .obj n => match A[n]? with
    | some (.lst ds) => Q (.obj A.length) (A ++ [.lst (cutD ds lo hi)])
    | some (.ro ds) => Q (.obj A.length) (A ++ [.lst (cutD ds lo hi)])
    | _ => False
  | _ => False
def setD (o i v : D) (A : Ht) (k : Ht → Prop) : Prop :=
  match o with
  | .obj n => match A[n]? with
    | some (.lst ds) => (match i with | .int j => (match ixN ds.length j with | some m => k (A.set n (.lst (ds.set m v))) | none => False) | _ => False)
    | some (.dic kvs) => (match keyD i with | some q => kvs.length < sizeLine ∧ k (A.set n (.dic (putK kvs q v))) | none => False)
    | _ => False
  | _ => False
def intsD : List D → Option (List Int)
  | [] => some []
  | .int i :: r => (intsD r).map (i :: ·)
  | _ => none
def blsD : List D → Option (List Bool)
  | [] => some []
  | .bl i :: r => (blsD r).map (i :: ·)
  | _ => none
def strsD : List D → Option (List Str)
  | [] => some []
  | .str i :: r => (strsD r).map (i :: ·)
  | _ => none
def keysI : List (Key × D) → Option (List Int)
  | [] => some []
  | (.inl i, _) :: r => (keysI r).map (i :: ·)
  | _ => none
def isort : List Int → List Int := fun l => l.mergeSort (fun a b => decide (a ≤ b))
def biD (b : BI) (xs : List D) (A : Ht) (Q : D → Ht → Prop) : Prop :=
  match b, xs with
  | .len, [.str s] => s.length ≤ sizeLine ∧ Q (.int s.length) A
  | .len, [.tup ds] => Q (.int ds.length) A
  | .len, [.obj n] => match A[n]? with
    | some (.lst ds) => Q (.int ds.length) A
    | some (.ro ds) => Q (.int ds.length) A
    | some (.dic kvs) => Q (.int kvs.length) A
    | _ => False
  | .int, [.int i] => Q (.int i) A
  | .int, [.bl k] => Q (.int (if k then 1 else 0)) A
  | .int, [.str s] => s.length ≤ 640 ∧ match PySem.intText? s with | some n => Q (.int n) A | none => False
  | .abs, [.int i] => Q (.int (if i < 0 then -i else i)) A
  | .min, [.int i, .int j] => Q (.int (if j < i then j else i)) A
  | .max, [.int i, .int j] => Q (.int (if j > i then j else i)) A
  | .tuple, [.tup ds] => Q (.tup ds) A
  | .tuple, [.obj n] => match A[n]? with
    | some (.lst ds) => Q (.tup ds) A
    | some (.ro ds) => Q (.tup ds) A
    | _ => False
  | .list, [.tup ds] => Q (.obj A.length) (A ++ [.lst ds])
  | .list, [.obj n] => match A[n]? with
    | some (.lst ds) => Q (.obj A.length) (A ++ [.lst ds])
    | some (.ro ds) => Q (.obj A.length) (A ++ [.lst ds])
    | some (.dic kvs) => Q (.obj A.length) (A ++ [.lst (kvs.map fun p => match p.1 with | .inl i => .int i | .inr s => .str s)])
    | _ => False
  | .str, [.int i] => i.natAbs.log2 < 1920 ∧ Q (.str (toString i)) A
  | .sorted, [.obj n] => match A[n]? with
    | some (.lst ds) => (match intsD ds with | some ns => Q (.obj A.length) (A ++ [.lst ((isort ns).map .int)]) | none => False)
    | some (.ro ds) => (match intsD ds with | some ns => Q (.obj A.length) (A ++ [.lst ((isort ns).map .int)]) | none => False)
    | some (.dic kvs) => (match keysI kvs with | some ns => ns.length < 64 ∧ Q (.obj A.length) (A ++ [.lst ((isort ns).map .int)]) | none => False)
    | _ => False
  | .sum, [.obj n] => match A[n]? with
    | some (.lst ds) => (match intsD ds with | some ns => Q (.int ns.sum) A | none => False)
    | _ => False
  | .all, [.obj n] => match A[n]? with
    | some (.lst ds) => (match blsD ds with | some ns => Q (.bl (ns.all id)) A | none => False)
    | _ => False
  | .any, [.obj n] => match A[n]? with
    | some (.lst ds) => (match blsD ds with | some ns => Q (.bl (ns.any id)) A | none => False)
    | _ => False
  | _, _ => False
def mtD (m : MI) (o : D) (xs : List D) (A : Ht) (Q : D → Ht → Prop) : Prop :=
  match m, o, xs with
  | .append, .obj n, [x] => match A[n]? with
    | some (.lst ds) => ds.length < sizeLine ∧ Q .non (A.set n (.lst (ds ++ [x])))
    | _ => False
  | .pop, .obj n, [] => match A[n]? with
    | some (.lst ds) => (match ds[ds.length - 1]? with | some d => Q d (A.set n (.lst ds.dropLast)) | none => False)
    | _ => False
  | .reverse, .obj n, [] => match A[n]? with
    | some (.lst ds) => Q .non (A.set n (.lst ds.reverse))
    | _ => False
  | .extend, .obj n, [.obj m] => match A[n]?, A[m]? with
    | some (.lst ds), some (.lst es) => ds.length + es.length ≤ sizeLine ∧ Q .non (A.set n (.lst (ds ++ es)))
    | _, _ => False
  | .join, .str s, [x] => match seqD A x with
    | some ds => (match strsD ds with
      | some ys => (ys.map (·.length)).sum + ys.length * s.length ≤ 16777216 ∧ Q (.str (Txt.join s ys)) A
      | none => False)
    | none => False
  | .find, .str s, [.str t] => Q (.int (Txt.find s t)) A
  | .find, .str s, [.str t, .int i] => Q (.int (Txt.find3 s t i)) A
  | .upper, .str s, [] => s.length ≤ 5592405 ∧ Q (.str (Txt.upper s)) A
  | .isdigit, .str s, [] => Q (.bl (Txt.isdigit s)) A
  | .startswith, .str s, [.str t] => Q (.bl (Txt.startswith s t)) A
  | .split, .str s, [.str t] => (t.length == 0) = false ∧ s.length + 2 ≤ sizeLine ∧ Q (.obj A.length) (A ++ [.lst ((Txt.split s t).map .str)])
  | _, _, _ => False
/-- the receiver's kind, ahead of the arguments -/
def recvD (m : MI) (x : D) (A : Ht) : Prop :=
  match m, x with
  | .append, .obj n => (match A[n]? with | some (.lst _) => True | _ => False)
  | .pop, .obj n => (match A[n]? with | some (.lst _) => True | _ => False)
  | .reverse, .obj n => (match A[n]? with | some (.lst _) => True | _ => False)
  | .extend, .obj n => (match A[n]? with | some (.lst _) => True | _ => False)
  | .index, .obj n => (match A[n]? with | some (.lst _) => True | _ => False)
  | .join, .str _ => True | .find, .str _ => True | .upper, .str _ => True | .isdigit, .str _ => True | .startswith, .str _ => True | .split, .str _ => True
  | _, _ => False
def isiD (A : Ht) : D → TI' → Option Bool
  | .int _, t => some (t == .int)
  | .bl _, t => some (t == .int || t == .bool)
  | .str _, t => some (t == .str)
  | .tup _, t => some (t == .tuple)
  | .non, _ => some false
  | .obj n, t => match A[n]? with
    | some (.lst _) => some (t == .list)
    | some (.ro _) => some (t == .list)
    | some (.dic _) => some (t == .dict)
    | _ => none
  | .rol _, t => some (t == .list)
  | .exn _ _ _, _ => none

/-! ### targets, walks -/
mutual
def bindT : Tg → D → Rho → Option Rho
  | .name i, d, ρ => some (ρ.set i (some d))
  | .tup gs, d, ρ => match d with | .tup ds => bindTs gs ds ρ | _ => none
def bindTs : Tgs → List D → Rho → Option Rho
  | .nil, ds, ρ => match ds with | [] => some ρ | _ :: _ => none
  | .cons g gs, ds, ρ => match ds with | [] => none | d :: r => (bindT g d ρ).bind fun ρ' => bindTs gs r ρ'
end
/-- what is walked: the items, and what must stand at each turn -/
structure Wk where
  items : List D
  ok : Ht → Prop
def wkD (d : D) (A : Ht) (k : Wk → Prop) : Prop :=
  match d with
  | .tup ds => k ⟨ds, fun _ => True⟩
  | .rol ds => k ⟨ds, fun _ => True⟩
  | .str s => k ⟨s.cps.toList.map fun c => .str ⟨#[c]⟩, fun _ => True⟩
  | .obj n => match A[n]? with
    | some (.lst ds) => k ⟨ds, fun A' => A'[n]? = some (.lst ds)⟩
    | some (.ro ds) => k ⟨ds, fun _ => True⟩
    | _ => False
  | _ => False
def rngD (lo : Int) (n : Nat) : List D := (List.range n).map fun (i : Nat) => .int (lo + (i : Int))
def loopD (ok : Ht → Prop) (st : D → Rho → Ht → (Rho → Ht → Prop) → Prop) (fin : Rho → Ht → Prop) : List D → Rho → Ht → Prop
  | [], ρ, A => ok A ∧ fin ρ A
  | d :: ds, ρ, A => ok A ∧ st d ρ A fun ρ' A' => loopD ok st fin ds ρ' A'
/-- a comprehension's turns; what is made so far -/
def compD (ok : Ht → Prop) (st : D → Ht → (Option D → Ht → Prop) → Prop) (fin : List D → Ht → Prop) : List D → List D → Ht → Prop
  | [], acc, A => ok A ∧ fin acc A
  | d :: ds, acc, A => ok A ∧ st d A fun y A' => match y with
    | none => compD ok st fin ds acc A'
    | some v => acc.length < sizeLine ∧ compD ok st fin ds (acc ++ [v]) A'
def wipeD (ρ : Rho) : List Nat → Rho
  | [] => ρ
  | v :: vs => (wipeD ρ vs).set v none
def nonX : D → Prop
  | .exn _ _ _ => False | _ => True
def varD (ρ : Rho) (i : Nat) (k : D → Prop) : Prop :=
  match ρ[i]? with
  | some (some d) => nonX d ∧ k d
  | _ => False
def optD (o : Option Bool) (k : Bool → Prop) : Prop := match o with | some b => k b | none => False

def permD {α : Type} (pm : List Nat) (l : List α) : List α := pm.filterMap fun i => l[i]?
/-! ### expressions -/
mutual
def wE (G : Env') : Ie → Rho → Ht → (D → Ht → Prop) → (D → Ht → Prop) → Prop
  | .var i, ρ, A, _, Q => varD ρ i fun d => Q d A
  | .cst d, _, A, _, Q => Q d A
  | .glob x, _, A, _, Q => match G.ct x with | some d => Q d A | none => False
  | .bin op a b, ρ, A, X, Q => wE G a ρ A X fun x A1 => wE G b ρ A1 X fun y A2 => binD op x y A2 Q
  | .neg a, ρ, A, X, Q => wE G a ρ A X fun x A1 => match x with | .int i => Q (.int (-i)) A1 | _ => False
  | .cmp op a b, ρ, A, X, Q => wE G a ρ A X fun x A1 => wE G b ρ A1 X fun y A2 => cmpD op x y A2 fun c => Q (.bl c) A2
  | .chain o1 o2 a b c, ρ, A, X, Q => wE G a ρ A X fun x A1 => wE G b ρ A1 X fun y A2 => cmpD o1 x y A2 fun k =>
      if k = true then wE G c ρ A2 X fun z A3 => cmpD o2 y z A3 fun k' => Q (.bl k') A3 else Q (.bl false) A2
  | .andv a b, ρ, A, X, Q => wE G a ρ A X fun x A1 => match x with
      | .bl c => if c = true then wE G b ρ A1 X Q else Q (.bl false) A1
      | _ => False
  | .orv a b, ρ, A, X, Q => wE G a ρ A X fun x A1 => match x with
      | .bl c => if c = true then Q (.bl true) A1 else wE G b ρ A1 X Q
      | _ => False
  | .notv a, ρ, A, X, Q => wE G a ρ A X fun x A1 => match x with | .bl c => Q (.bl (!c)) A1 | _ => False
  | .ite t a b, ρ, A, X, Q => wT G t ρ A X fun c A1 => if c = true then wE G a ρ A1 X Q else wE G b ρ A1 X Q
  | .tup es, ρ, A, X, Q => wEs G es ρ A X fun ds A1 => ds.length ≤ sizeLine ∧ Q (.tup ds) A1
  | .lst es, ρ, A, X, Q => wEs G es ρ A X fun ds A1 => ds.length ≤ sizeLine ∧ Q (.obj A1.length) (A1 ++ [.lst ds])
  | .dic _ _, _, _, _, _ => False
  | .ix a i, ρ, A, X, Q => wE G a ρ A X fun x A1 => wE G i ρ A1 X fun y A2 => ixD x y A2 Q
  | .sl a lo hi, ρ, A, X, Q => wE G a ρ A X fun x A1 => wEo G lo ρ A1 X fun l A2 => wEo G hi ρ A2 X fun h A3 => slD x l h A3 Q
  | .call f es, ρ, A, X, Q => wEs G es ρ A X fun ds A1 => G.con f ds A1 X Q
  | .callk f pm es ws, ρ, A, X, Q => wEs G es ρ A X fun ds A1 => wEs G ws ρ A1 X fun bs A2 => G.con f (permD pm (ds ++ bs)) A2 X Q
  | .bi b es, ρ, A, X, Q => wEs G es ρ A X fun ds A1 => biD b ds A1 Q
  | .isi e t, ρ, A, X, Q => wE G e ρ A X fun x A1 => optD (isiD A1 x t) fun c => Q (.bl c) A1
  | .mt m o es, ρ, A, X, Q => wE G o ρ A X fun x A1 => recvD m x A1 ∧ wEs G es ρ A1 X fun ds A2 => mtD m x ds A2 Q
  | .lc g it t elt ws, ρ, A, X, Q => wI G it ρ A X fun w A1 => compD w.ok
      (fun d A2 k => match bindT g d (wipeD ρ ws) with
        | some ρ2 => wTo G t ρ2 A2 (fun _ _ => False) fun c A3 => if c = true then wE G elt ρ2 A3 (fun _ _ => False) fun y A4 => k (some y) A4 else k none A3
        | none => False)
      (fun acc A2 => Q (.obj A2.length) (A2 ++ [.lst acc])) w.items [] A1
  | .fld i f, ρ, A, _, Q => match ρ[i]? with
      | some (some (.exn _ ks ds)) => (match (ks.zip ds).lookup f with | some d => Q d A | none => False)
      | _ => False
  | .isx i c, ρ, A, _, Q => match ρ[i]? with
      | some (some (.exn c' _ _)) => Q (.bl (G.sub c' c)) A
      | _ => False
def wT (G : Env') : Ie → Rho → Ht → (D → Ht → Prop) → (Bool → Ht → Prop) → Prop
  | .andv a b, ρ, A, X, Q => wT G a ρ A X fun c A1 => if c = true then wT G b ρ A1 X Q else Q false A1
  | .orv a b, ρ, A, X, Q => wT G a ρ A X fun c A1 => if c = true then Q true A1 else wT G b ρ A1 X Q
  | .notv a, ρ, A, X, Q => wT G a ρ A X fun c A1 => Q (!c) A1
  | .ite t a b, ρ, A, X, Q => wT G t ρ A X fun c A1 => if c = true then wT G a ρ A1 X Q else wT G b ρ A1 X Q
  | .cmp op a b, ρ, A, X, Q => wE G a ρ A X fun x A1 => wE G b ρ A1 X fun y A2 => cmpD op x y A2 fun c => Q c A2
  | .chain o1 o2 a b c, ρ, A, X, Q => wE G a ρ A X fun x A1 => wE G b ρ A1 X fun y A2 => cmpD o1 x y A2 fun k =>
      if k = true then wE G c ρ A2 X fun z A3 => cmpD o2 y z A3 fun k' => Q k' A3 else Q false A2
  | .var i, ρ, A, _, Q => varD ρ i fun d => truD d A fun c => Q c A
  | .bin op a b, ρ, A, X, Q => wE G a ρ A X fun x A1 => wE G b ρ A1 X fun y A2 => binD op x y A2 fun d A3 => truD d A3 fun c => Q c A3
  | .ix a i, ρ, A, X, Q => wE G a ρ A X fun x A1 => wE G i ρ A1 X fun y A2 => ixD x y A2 fun d A3 => truD d A3 fun c => Q c A3
  | .call f es, ρ, A, X, Q => wEs G es ρ A X fun ds A1 => G.con f ds A1 X fun d A3 => truD d A3 fun c => Q c A3
  | .callk f pm es ws, ρ, A, X, Q => wEs G es ρ A X fun ds A1 => wEs G ws ρ A1 X fun bs A2 => G.con f (permD pm (ds ++ bs)) A2 X fun d A3 => truD d A3 fun c => Q c A3
  | .bi b es, ρ, A, X, Q => wEs G es ρ A X fun ds A1 => biD b ds A1 fun d A3 => truD d A3 fun c => Q c A3
  | .isi e t, ρ, A, X, Q => wE G e ρ A X fun x A1 => optD (isiD A1 x t) fun c => Q c A1
  | .mt m o es, ρ, A, X, Q => wE G o ρ A X fun x A1 => recvD m x A1 ∧ wEs G es ρ A1 X fun ds A2 => mtD m x ds A2 fun d A3 => truD d A3 fun c => Q c A3
  | .isx i c, ρ, A, _, Q => match ρ[i]? with
      | some (some (.exn c' _ _)) => Q (G.sub c' c) A
      | _ => False
  | _, _, _, _, _ => False
def wTo (G : Env') : Ieo → Rho → Ht → (D → Ht → Prop) → (Bool → Ht → Prop) → Prop
  | .no, _, A, _, Q => Q true A
  | .so e, ρ, A, X, Q => wT G e ρ A X Q
def wEs (G : Env') : Ies → Rho → Ht → (D → Ht → Prop) → (List D → Ht → Prop) → Prop
  | .nil, _, A, _, Q => Q [] A
  | .cons e es, ρ, A, X, Q => wE G e ρ A X fun d A1 => wEs G es ρ A1 X fun ds A2 => Q (d :: ds) A2
def wEo (G : Env') : Ieo → Rho → Ht → (D → Ht → Prop) → (Option Int → Ht → Prop) → Prop
  | .no, _, A, _, Q => Q none A
  | .so e, ρ, A, X, Q => wE G e ρ A X fun d A1 => match d with | .int i => Q (some i) A1 | _ => False
def wI (G : Env') : Ii → Rho → Ht → (D → Ht → Prop) → (Wk → Ht → Prop) → Prop
  | .seq e, ρ, A, X, Q => wE G e ρ A X fun d A1 => wkD d A1 fun w => Q w A1
  | .rng1 a, ρ, A, X, Q => wE G a ρ A X fun d A1 => match d with
      | .int j => -(2 ^ 62) ≤ j ∧ j < 2 ^ 62 ∧ Q ⟨rngD 0 j.toNat, fun _ => True⟩ A1
      | _ => False
  | .rng2 a b, ρ, A, X, Q => wE G a ρ A X fun d A1 => wE G b ρ A1 X fun e A2 => match d, e with
      | .int i, .int j => (-(2 ^ 62) ≤ i ∧ i < 2 ^ 62 ∧ -(2 ^ 62) ≤ j ∧ j < 2 ^ 62) ∧ Q ⟨rngD i (j - i).toNat, fun _ => True⟩ A2
      | _, _ => False
  | .enum e, ρ, A, X, Q => wE G e ρ A X fun d A1 => wkD d A1 fun w => Q ⟨w.items.zipIdx.map fun p => .tup [.int (p.2 : Int), p.1], w.ok⟩ A1
  | .zip a b, ρ, A, X, Q => wE G a ρ A X fun d A1 => wE G b ρ A1 X fun e A2 => wkD d A2 fun w => wkD e A2 fun v =>
      Q ⟨(w.items.zip v.items).map fun p => .tup [p.1, p.2], fun A' => w.ok A' ∧ v.ok A'⟩ A2
  | _, _, _, _, _ => False
end

/-! ### statements -/
structure Dn where
  nx : Rho → Ht → Prop
  rt : D → Ht → Prop
  bk : Rho → Ht → Prop := fun _ _ => False
  ct : Rho → Ht → Prop := fun _ _ => False
  xe : Rho → D → Ht → Prop := fun _ _ _ => False
def tgD (g : Tg) (d : D) (ρ : Rho) (k : Rho → Prop) : Prop := match bindT g d ρ with | some ρ' => k ρ' | none => False
def whileD (t : Rho → Ht → (Bool → Ht → Prop) → Prop) (b : (Rho → Ht → Prop) → Rho → Ht → Prop) (fin : Rho → Ht → Prop) (ρ : Rho) (A : Ht) : Prop :=
  ∃ I : Nat → Rho → Ht → Prop, (∃ m, I m ρ A) ∧ ∀ m ρ A, I m ρ A → t ρ A fun c A1 => if c = true then b (fun ρ' A' => ∃ m', m' < m ∧ I m' ρ' A') ρ A1 else fin ρ A1
def clsOf : D → Str
  | .exn c _ _ => c
  | _ => ⟨#[]⟩
mutual
def wS (G : Env') : Is → Dn → Rho → Ht → Prop
  | .set i e, D, ρ, A => wE G e ρ A (D.xe ρ) fun d A1 => D.nx (ρ.set i (some d)) A1
  | .asg g e, D, ρ, A => wE G e ρ A (D.xe ρ) fun d A1 => tgD g d ρ fun ρ' => D.nx ρ' A1
  | .par i j a b, D, ρ, A => wE G a ρ A (D.xe ρ) fun d A1 => wE G b ρ A1 (D.xe ρ) fun e A2 => D.nx ((ρ.set i (some d)).set j (some e)) A2
  | .asgS o i e, D, ρ, A => wE G e ρ A (D.xe ρ) fun d A1 => wE G o ρ A1 (D.xe ρ) fun x A2 => wE G i ρ A2 (D.xe ρ) fun y A3 => setD x y d A3 fun A4 => D.nx ρ A4
  | .aug i op e, D, ρ, A => varD ρ i fun x => wE G e ρ A (D.xe ρ) fun y A1 => (match x, y with | .int _, .int _ => True | _, _ => False) ∧ binD op x y A1 fun z A2 => D.nx (ρ.set i (some z)) A2
  | .augS _ _ _ _, _, _, _ => False
  | .ex e, D, ρ, A => wE G e ρ A (D.xe ρ) fun _ A1 => D.nx ρ A1
  | .ret e, D, ρ, A => wE G e ρ A (D.xe ρ) D.rt
  | .retN, D, _, A => D.rt .non A
  | .ife t a b, D, ρ, A => wT G t ρ A (D.xe ρ) fun c A1 => if c = true then wSs G a D ρ A1 else wSs G b D ρ A1
  | .whl t b, D, ρ, A => whileD (fun ρ A k => wT G t ρ A (D.xe ρ) k) (fun k ρ A => wSs G b { D with nx := k, ct := k, bk := D.nx } ρ A) D.nx ρ A
  | .fr g it b, D, ρ, A => wI G it ρ A (D.xe ρ) fun w A1 => loopD w.ok (fun d ρ A k => tgD g d ρ fun ρ' => wSs G b { D with nx := k, ct := k, bk := D.nx } ρ' A) D.nx w.items ρ A1
  | .rse c es, D, ρ, A => wEs G es ρ A (D.xe ρ) fun ds A1 => (G.fds c).length = ds.length ∧ 0 < ds.length ∧ D.xe ρ (.exn c (G.fds c) ds) A1
  | .tri b hs, D, ρ, A => wSs G b { D with xe := fun ρ' d A' => wHs G hs d D ρ' A' } ρ A
  | .brk, D, ρ, A => D.bk ρ A
  | .cnt, D, ρ, A => D.ct ρ A
  | .pss, D, ρ, A => D.nx ρ A
def wSs (G : Env') : Iss → Dn → Rho → Ht → Prop
  | .nil, D, ρ, A => D.nx ρ A
  | .cons s ss, D, ρ, A => wS G s { D with nx := fun ρ' A' => wSs G ss D ρ' A' } ρ A
def wHs (G : Env') : Ihs → D → Dn → Rho → Ht → Prop
  | .nil, d, D, ρ, A => D.xe ρ d A
  | .cons c i b hs, d, D, ρ, A => if G.sub (clsOf d) c = true then
      (match i with
        | some i => wSs G b { nx := fun ρ' A' => D.nx (clean (ρ'.set i none)) A', rt := D.rt, bk := fun ρ' A' => D.bk (clean (ρ'.set i none)) A', ct := fun ρ' A' => D.ct (clean (ρ'.set i none)) A' } (ρ.set i (some d)) A
        | none => wSs G b { nx := D.nx, rt := D.rt, bk := D.bk, ct := D.ct } ρ A)
    else wHs G hs d D ρ A
end
end Px
end TextPx2

section TextPx3
set_option autoImplicit false
set_option maxRecDepth 100000
set_option maxHeartbeats 2000000
/-! Px3: the judgements, operators by values. -/
namespace Px
open PySem PySem.Spec PyProof.Rows L2

abbrev WE := Rho → Ht → (D → Ht → Prop) → (D → Ht → Prop) → Prop
abbrev WEs := Rho → Ht → (D → Ht → Prop) → (List D → Ht → Prop) → Prop
abbrev WTt := Rho → Ht → (D → Ht → Prop) → (Bool → Ht → Prop) → Prop
section
variable (K : PySem.W.Frag) (T : Tab) (hx : HX) (W : WX)
/-- where one stands -/
structure Pk (μ : List Addr) (ρ : Rho) (A : Ht) (E : D → Ht → Prop) (σ : L2.St) (H : Hp) : Prop where
  s : RelS K hx μ H ρ σ
  h : HR K μ A H
  x : ∀ c dd H', UpX K T μ H E c dd H' → W c dd σ H'
def tDE (w : WE) : TE := fun σ H Q => ∃ μ ρ A E Q', Pk K T hx W μ ρ A E σ H ∧ w ρ A E Q' ∧ ∀ v H' μ' d A', Stp μ H μ' H' → RelD K μ' H' d v → HR K μ' A' H' → Q' d A' → Q v H'
def tDT (w : WTt) : TT := fun σ H Q => ∃ μ ρ A E Q', Pk K T hx W μ ρ A E σ H ∧ w ρ A E Q' ∧ ∀ b H' μ' A', Stp μ H μ' H' → HR K μ' A' H' → Q' b A' → Q b H'
def tDA (n : Nat) (w : WEs) : TA := fun σ H Q => ∃ μ ρ A E Q', Pk K T hx W μ ρ A E σ H ∧ w ρ A E Q' ∧ ∀ vs H' μ' ds A', ds.length = n → Stp μ H μ' H' → RelDs K μ' H' ds vs → HR K μ' A' H' → Q' ds A' → Q vs H'
end
section
variable {K : PySem.W.Frag} {T : Tab} {hx : HX} {W : WX} {μ μ' : List Addr} {ρ : Rho} {A A' : Ht} {E : D → Ht → Prop} {σ : L2.St} {H H' : Hp}
theorem Pk.step (p : Pk K T hx W μ ρ A E σ H) (s : Stp μ H μ' H') (h : HR K μ' A' H') : Pk K T hx W μ' ρ A' E σ H' :=
  ⟨p.s.mono s, h, fun c dd H2 u => p.x c dd H2 (u.step s)⟩
theorem tDE.go {w : WE} {Q' : D → Ht → Prop} {R : VK} (p : Pk K T hx W μ ρ A E σ H) (h : w ρ A E Q')
    (k : ∀ v H' μ' d A', Stp μ H μ' H' → RelD K μ' H' d v → Pk K T hx W μ' ρ A' E σ H' → Q' d A' → R v H') : tDE K T hx W w σ H R :=
  ⟨μ, ρ, A, E, Q', p, h, fun v H' μ' d A' s r hr q => k v H' μ' d A' s r (p.step s hr) q⟩
theorem tDT.go {w : WTt} {Q' : Bool → Ht → Prop} {R : Bool → Hp → Prop} (p : Pk K T hx W μ ρ A E σ H) (h : w ρ A E Q')
    (k : ∀ b H' μ' A', Stp μ H μ' H' → Pk K T hx W μ' ρ A' E σ H' → Q' b A' → R b H') : tDT K T hx W w σ H R :=
  ⟨μ, ρ, A, E, Q', p, h, fun b H' μ' A' s hr q => k b H' μ' A' s (p.step s hr) q⟩
theorem tDA.go {n : Nat} {w : WEs} {Q' : List D → Ht → Prop} {R : List V → Hp → Prop} (p : Pk K T hx W μ ρ A E σ H) (h : w ρ A E Q')
    (k : ∀ vs H' μ' ds A', ds.length = n → Stp μ H μ' H' → RelDs K μ' H' ds vs → Pk K T hx W μ' ρ A' E σ H' → Q' ds A' → R vs H') : tDA K T hx W n w σ H R :=
  ⟨μ, ρ, A, E, Q', p, h, fun vs H' μ' ds A' l s r hr q => k vs H' μ' ds A' l s r (p.step s hr) q⟩
end
theorem PE.weaken {X : Cx} {e : Expr} {t t' : TE} (h : PE X e t) (k : ∀ σ H Q, t' σ H Q → t σ H Q) : PE X e t' := ⟨fun pins s σ H Q I q => h.run pins s σ H Q I (k σ H Q q)⟩
theorem PT.weaken {X : Cx} {e : Expr} {t t' : TT} (h : PT X e t) (k : ∀ σ H Q, t' σ H Q → t σ H Q) : PT X e t' := ⟨fun pins s σ H Q I q => h.run pins s σ H Q I (k σ H Q q)⟩
theorem PA.weaken {X : Cx} {es : List Expr} {t t' : TA} (h : PA X es t) (k : ∀ σ H Q, t' σ H Q → t σ H Q) : PA X es t' := ⟨fun pos pins s σ H Q I q => h.run pos pins s σ H Q I (k σ H Q q)⟩

/-! ### operations by values -/
section
variable (K : PySem.W.Frag)
def rD2 (d : D → D → Ht → (D → Ht → Prop) → Prop) : R2 := fun x y H Q => ∃ μ A dx dy Q', HR K μ A H ∧ RelD K μ H dx x ∧ RelD K μ H dy y ∧ d dx dy A Q' ∧ ∀ v H', Up K μ H Q' v H' → Q v H'
def rDn (d : List D → Ht → (D → Ht → Prop) → Prop) : List V → Hp → VK → Prop := fun xs H Q => ∃ μ A ds Q', HR K μ A H ∧ RelDs K μ H ds xs ∧ d ds A Q' ∧ ∀ v H', Up K μ H Q' v H' → Q v H'
def rDm (d : D → List D → Ht → (D → Ht → Prop) → Prop) : V → List V → Hp → VK → Prop := fun x xs H Q => ∃ μ A dx ds Q', HR K μ A H ∧ RelD K μ H dx x ∧ RelDs K μ H ds xs ∧ d dx ds A Q' ∧ ∀ v H', Up K μ H Q' v H' → Q v H'
end
section
variable {K : PySem.W.Frag} {μ : List Addr} {H : Hp} {A : Ht}
theorem rel_int {i : Int} {v : V} (r : RelD K μ H (.int i) v) : v = .int i := by simpa only [RelD] using r
theorem rel_str {i : Str} {v : V} (r : RelD K μ H (.str i) v) : v = .str i := by simpa only [RelD] using r
theorem rel_bl {i : Bool} {v : V} (r : RelD K μ H (.bl i) v) : v = .bl i := by simpa only [RelD] using r
theorem rel_non {v : V} (r : RelD K μ H .non v) : v = .non := by simpa only [RelD] using r
theorem rel_tup {ds : List D} {v : V} (r : RelD K μ H (.tup ds) v) : ∃ a vs, v = .ref a ∧ SqT K H a vs ∧ RelDs K μ H ds vs := by simpa only [RelD] using r
theorem rel_obj {n : Nat} {v : V} (r : RelD K μ H (.obj n) v) : ∃ a, μ[n]? = some a ∧ v = .ref a := by simpa only [RelD] using r
theorem rel_rol {ds : List D} {v : V} (r : RelD K μ H (.rol ds) v) : ∃ a vs, v = .ref a ∧ RoL K H a vs ∧ RelDs K μ H ds vs := by simpa only [RelD] using r
theorem to_int {i : Int} : RelD K μ H (.int i) (.int i) := by simp only [RelD]
theorem to_str {i : Str} : RelD K μ H (.str i) (.str i) := by simp only [RelD]
theorem to_bl {i : Bool} : RelD K μ H (.bl i) (.bl i) := by simp only [RelD]
theorem to_non : RelD K μ H .non .non := by simp only [RelD]
theorem to_tup {ds : List D} {a : Addr} {vs : List V} (h : SqT K H a vs) (r : RelDs K μ H ds vs) : RelD K μ H (.tup ds) (.ref a) := by simp only [RelD]; exact ⟨a, vs, rfl, h, r⟩
theorem to_obj {n : Nat} {a : Addr} (h : μ[n]? = some a) : RelD K μ H (.obj n) (.ref a) := by simp only [RelD]; exact ⟨a, h, rfl⟩
theorem no_exn {c : Str} {ks : List Str} {ds : List D} {v : V} (r : RelD K μ H (.exn c ks ds) v) : False := by simpa only [RelD] using r
/-- a list at a number -/
theorem HR.lst (h : HR K μ A H) {n : Nat} {ds : List D} (e : A[n]? = some (.lst ds)) {v : V} (r : RelD K μ H (.obj n) v) : ∃ a vs, μ[n]? = some a ∧ v = .ref a ∧ H a = some (.lst vs) ∧ RelDs K μ H ds vs := by
  obtain ⟨a, e1, e2, vs, e3, q⟩ := h.atV e r
  exact ⟨a, vs, e1, e2, e3, q⟩
theorem HR.ro (h : HR K μ A H) {n : Nat} {ds : List D} (e : A[n]? = some (.ro ds)) {v : V} (r : RelD K μ H (.obj n) v) : ∃ a vs, μ[n]? = some a ∧ v = .ref a ∧ (∃ o, H a = some (.frz o (.lst vs))) ∧ RelDs K μ H ds vs := by
  obtain ⟨a, e1, e2, o, vs, e3, q⟩ := h.atV e r
  exact ⟨a, vs, e1, e2, ⟨o, e3⟩, q⟩
theorem HR.dic (h : HR K μ A H) {n : Nat} {kvs : List (Key × D)} (e : A[n]? = some (.dic kvs)) {v : V} (r : RelD K μ H (.obj n) v) :
    ∃ a ws, μ[n]? = some a ∧ v = .ref a ∧ H a = some (.dK ws) ∧ ws.map (·.1) = kvs.map (·.1) ∧ RelDs K μ H (kvs.map (·.2)) (ws.map (·.2)) := by
  obtain ⟨a, e1, e2, ws, e3, e4, q⟩ := h.atV e r
  exact ⟨a, ws, e1, e2, e3, e4, q⟩
/-- a list that is read: of either kind -/
theorem HR.sq (h : HR K μ A H) {n : Nat} {ds : List D} (e : A[n]? = some (.lst ds) ∨ A[n]? = some (.ro ds)) {v : V} (r : RelD K μ H (.obj n) v) : ∃ a vs, μ[n]? = some a ∧ v = .ref a ∧ SqL K H a vs ∧ RelDs K μ H ds vs := by
  rcases e with e | e
  · obtain ⟨a, vs, e1, e2, e3, q⟩ := h.lst e r
    exact ⟨a, vs, e1, e2, .inl (.inl e3), q⟩
  · obtain ⟨a, vs, e1, e2, ⟨o, e3⟩, q⟩ := h.ro e r
    exact ⟨a, vs, e1, e2, .inl (.inr ⟨o, e3⟩), q⟩
end

section
variable {X : Cx}
theorem OpR.cases {f : Value → Value → Sem Value} {K : PySem.W.Frag} {d : D → D → Ht → (D → Ht → Prop) → Prop} (h : ∀ (pins : List (Addr × Obj)) (s : Shared) (σ : L2.St) (H : Hp) (x y : V) (v u : Value) (μ : List Addr) (A : Ht) (dx dy : D) (Q : D → Ht → Prop),
      Inv X pins σ H s → RelV x v → RelV y u → HR K μ A H → RelD K μ H dx x → RelD K μ H dy y → d dx dy A Q → wpAny (model X.prog X.w) X.A (f v u) (EP X pins σ (Up K μ H Q)) X.xe s) : OpR X f (rD2 K d) := by
  rintro pins s σ H x y v u Q I rx ry ⟨μ, A, dx, dy, Q', hr, hx, hy, hd, k⟩
  exact thn (h pins s σ H x y v u μ A dx dy Q' I rx ry hr hx hy hd) fun a s1 ⟨w, H1, I1, r1, q1⟩ => ⟨w, H1, I1, r1, k _ _ q1⟩
theorem mapset {α β : Type} (f : α → β) : ∀ (l : List α) (n : Nat), (l.map f)[n]? = (l[n]?).map f := fun l n => by simp

theorem rep_rel {K : PySem.W.Frag} {μ : List Addr} {H : Hp} {ds : List D} {vs : List V} (r : RelDs K μ H ds vs) : ∀ n : Nat, RelDs K μ H (List.replicate n ds).flatten (List.replicate n vs).flatten
  | 0 => by simpa using RelDs.nil
  | n + 1 => by
    rw [List.replicate_succ, List.replicate_succ, List.flatten_cons, List.flatten_cons]
    exact r.append (rep_rel r n)

theorem sd_bin (op : Operator) : OpR X (binaryOp op) (rD2 X.K (binD op)) := by
  refine OpR.cases fun pins s σ H x y v u μ A dx dy Q I rx ry hr hx hy h => ?_
  unfold binD at h
  split at h
  · cases rel_int hx; cases rel_int hy
    exact op_add pins s σ H _ _ v u _ I rx ry ⟨_, _, rfl, rfl, .mk to_int hr h⟩
  · cases rel_str hx; cases rel_str hy
    exact op_add_str pins s σ H _ _ v u _ I rx ry ⟨_, _, rfl, rfl, h.1, .mk to_str hr h.2⟩
  · obtain ⟨a, vs, rfl, hs, hv⟩ := rel_tup hx
    obtain ⟨b, ws, rfl, hs2, hw⟩ := rel_tup hy
    refine op_catA pins s σ H _ _ v u _ I rx ry ⟨a, b, vs, ws, rfl, rfl, hs, hs2, by rw [← hv.length, ← hw.length]; exact h.1, fun e => ?_, fun e e2 => ?_, fun e e2 p hp => ?_⟩
    · subst e
      have e := hv.length
      have e' : _ = [] := List.length_eq_zero_iff.mp e
      refine .mk (to_tup hs2 hw) hr ?_
      rw [e'] at h
      exact h.2
    · subst e2
      have e := hw.length
      have e' : _ = [] := List.length_eq_zero_iff.mp e
      refine .mk (to_tup hs hv) hr ?_
      rw [e', List.append_nil] at h
      exact h.2
    · exact Up.tuple hr (hv.append hw) hp h.2
  · split at h
    · rename_i e1 e2
      obtain ⟨a, vs, e3, rfl, ea, hv⟩ := hr.lst e1 hx
      obtain ⟨b, ws, e4, rfl, eb, hw⟩ := hr.lst e2 hy
      refine op_cat pins s σ H _ _ v u _ I rx ry ⟨a, b, vs, ws, rfl, rfl, ea, eb, by rw [← hv.length, ← hw.length]; exact h.1, fun p hp => Up.list hr (hv.append hw) hp h.2⟩
    · exact h.elim
  · cases rel_int hx; cases rel_int hy
    exact op_sub pins s σ H _ _ v u _ I rx ry ⟨_, _, rfl, rfl, .mk to_int hr h⟩
  · cases rel_int hx; cases rel_int hy
    obtain ⟨h1 | h1, h⟩ := h
    · exact op_mul pins s σ H _ _ v u _ I rx ry ⟨_, _, rfl, rfl, h1, .mk to_int hr h⟩
    · exact op_mulW pins s σ H _ _ v u _ I rx ry ⟨_, _, rfl, rfl, h1, .mk to_int hr h⟩
  · split at h
    · rename_i e1
      obtain ⟨a, vs, e3, rfl, ea, hv⟩ := hr.lst e1 hx
      cases rel_int hy
      refine op_rep pins s σ H _ _ v u _ I rx ry ⟨a, _, vs, rfl, rfl, ea, h.1, h.2.1, by rw [← hv.length]; exact h.2.2.1, fun p hp => Up.list hr (rep_rel hv _) hp h.2.2.2⟩
    · exact h.elim
  · cases rel_int hx; cases rel_int hy
    obtain ⟨h0, h1 | h1, h⟩ := h
    · exact op_fdiv pins s σ H _ _ v u _ I rx ry ⟨_, _, rfl, rfl, ⟨h0, h1⟩, .mk to_int hr h⟩
    · exact op_fdivW pins s σ H _ _ v u _ I rx ry ⟨_, _, rfl, rfl, ⟨h0, h1⟩, .mk to_int hr h⟩
  · cases rel_int hx; cases rel_int hy
    exact op_mod pins s σ H _ _ v u _ I rx ry ⟨_, _, rfl, rfl, h.1, .mk to_int hr h.2⟩
  · cases rel_int hx; cases rel_int hy
    exact op_pow pins s σ H _ _ v u _ I rx ry ⟨_, _, rfl, rfl, h.1, .mk to_int hr h.2⟩
  · cases rel_int hx; cases rel_int hy
    exact op_shl pins s σ H _ _ v u _ I rx ry ⟨_, _, rfl, rfl, h.1, .mk to_int hr h.2⟩
  · cases rel_int hx; cases rel_int hy
    exact op_shr pins s σ H _ _ v u _ I rx ry ⟨_, _, rfl, rfl, h.1, .mk to_int hr h.2⟩
  · exact h.elim
end
end Px
end TextPx3

section TextPx4
set_option autoImplicit false
set_option maxRecDepth 100000
set_option maxHeartbeats 2000000
/-! Px4: comparisons, subscripts, slices, stores by values. -/
namespace Px
open PySem PySem.Spec PyProof.Rows L2

section
variable {K : PySem.W.Frag} {μ : List Addr} {H : Hp} {A : Ht}
mutual
theorem dp_of {f : Nat → Option PyData} (hf : ∀ n p v, f n = some p → RelD K μ H (.obj n) v → Dp K H v p) : ∀ (d : D) (p : PyData) (v : V), toPw f d = some p → RelD K μ H d v → Dp K H v p
  | .non, p, v, h, r => by simp only [toPw, Option.some.injEq] at h; subst h; cases rel_non r; exact .non
  | .bl b, p, v, h, r => by simp only [toPw, Option.some.injEq] at h; subst h; cases rel_bl r; exact .bl b
  | .int b, p, v, h, r => by simp only [toPw, Option.some.injEq] at h; subst h; cases rel_int r; exact .int b
  | .str b, p, v, h, r => by simp only [toPw, Option.some.injEq] at h; subst h; cases rel_str r; exact .str b
  | .tup ds, p, v, h, r => by
    simp only [toPw, Option.map_eq_some_iff] at h
    obtain ⟨ps, hp, rfl⟩ := h
    obtain ⟨a, vs, rfl, hs, hv⟩ := rel_tup r
    exact .tup hs (dps_of hf ds ps vs hp hv)
  | .obj n, p, v, h, r => hf n p v (by simpa only [toPw] using h) r
  | .exn _ _ _, p, v, h, r => by simp only [toPw] at h; cases h
theorem dps_of {f : Nat → Option PyData} (hf : ∀ n p v, f n = some p → RelD K μ H (.obj n) v → Dp K H v p) : ∀ (ds : List D) (ps : List PyData) (vs : List V), toPws f ds = some ps → RelDs K μ H ds vs → DpAll K H vs ps
  | [], ps, vs, h, r => by
    simp only [toPws, Option.some.injEq] at h; subst h
    rw [RelDs.nil_iff.mp r]; exact .nil
  | d :: ds, ps, vs, h, r => by
    simp only [toPws, Option.bind_eq_some_iff, Option.map_eq_some_iff] at h
    obtain ⟨p, hp, q, hq, rfl⟩ := h
    obtain ⟨v, t, rfl, r1, r2⟩ := RelDs.cons_iff.mp r
    exact .cons (dp_of hf d p v hp r1) (dps_of hf ds q t hq r2)
end
theorem mapM_all {f : D → Option PyData} (hf : ∀ d p v, f d = some p → RelD K μ H d v → Dp K H v p) : ∀ (ds : List D) (ps : List PyData) (vs : List V), ds.mapM f = some ps → RelDs K μ H ds vs → DpAll K H vs ps
  | [], ps, vs, h, r => by
    have h' : ps = [] := by simpa using h.symm
    subst h'
    rw [RelDs.nil_iff.mp r]; exact .nil
  | d :: ds, ps, vs, h, r => by
    rw [List.mapM_cons] at h
    cases hp : f d with
    | none => rw [hp] at h; simp at h
    | some p =>
      cases hq : ds.mapM f with
      | none => rw [hp, hq] at h; simp at h
      | some q =>
        rw [hp, hq] at h
        have h' : p :: q = ps := by simpa using h
        subst h'
        obtain ⟨v, t, rfl, r1, r2⟩ := RelDs.cons_iff.mp r
        exact .cons (hf d p v hp r1) (mapM_all hf ds q t hq r2)
theorem dp_toP (hr : HR K μ A H) : ∀ (k : Nat) (d : D) (p : PyData) (v : V), toP k A d = some p → RelD K μ H d v → Dp K H v p
  | 0, d, p, v, h, r => dp_of (fun n p v h => by cases h) d p v h r
  | k + 1, d, p, v, h, r => by
    refine dp_of (fun n p v h r => ?_) d p v h r
    split at h
    · rename_i ds e
      obtain ⟨ps, hp, rfl⟩ := Option.map_eq_some_iff.mp h
      obtain ⟨a, vs, _, rfl, ea, hv⟩ := hr.lst e r
      exact .lst (.inl (.inl ea)) (mapM_all (fun d p v => dp_toP hr k d p v) ds ps vs hp hv)
    · rename_i ds e
      obtain ⟨ps, hp, rfl⟩ := Option.map_eq_some_iff.mp h
      obtain ⟨a, vs, _, rfl, ⟨o, ea⟩, hv⟩ := hr.ro e r
      exact .lst (.inl (.inr ⟨o, ea⟩)) (mapM_all (fun d p v => dp_toP hr k d p v) ds ps vs hp hv)
    · cases h
end
section
variable {X : Cx}
/-- comparisons end with a truth value, the objects stay -/
theorem up_bl {K : PySem.W.Frag} {μ : List Addr} {H : Hp} {A : Ht} {Q : D → Ht → Prop} {b : Bool} (hr : HR K μ A H) (q : Q (.bl b) A) : Up K μ H Q (.bl b) H := .mk to_bl hr q
def isBlV (b : Bool) : V → Bool
  | .bl a => a == b
  | _ => false
theorem is_bl_gen {M : Model} {Ar : Around} {E : Value → Shared → Prop} {s : Shared} {Q : Value → Shared → Prop} {x : V} {v : Value} {b : Bool} (r : RelV x v)
    (h : Q (.bool (isBlV b x)) s) : wpAny M Ar (compareOp .Is v (.bool b)) Q E s := by
  cases x with
  | bl a =>
    cases r
    by_cases e : a = b
    · subst e; exact wpAny_is_self rfl (by simpa [isBlV] using h)
    · have e' : (a == b) = false := by simpa using e
      exact wpAny_is_other rfl (fun z => e (Value.bool.inj z)) (by simp only [isBlV, e'] at h; exact h)
  | non => cases r; exact wpAny_is_other rfl (fun z => nomatch z) h
  | int i => obtain ⟨t, rfl⟩ := r; exact wpAny_is_other rfl (fun z => nomatch z) h
  | str i => obtain ⟨t, rfl⟩ := r; exact wpAny_is_other rfl (fun z => nomatch z) h
  | byt i => obtain ⟨t, rfl⟩ := r; exact wpAny_is_other rfl (fun z => nomatch z) h
  | flt i => obtain ⟨t, rfl⟩ := r; exact wpAny_is_other rfl (fun z => nomatch z) h
  | ref a => cases r; exact wpAny_is_other rfl (fun z => nomatch z) h
  | ty n => cases r; exact wpAny_is_other rfl (fun z => nomatch z) h
theorem isnot_bl_gen {M : Model} {Ar : Around} {E : Value → Shared → Prop} {s : Shared} {Q : Value → Shared → Prop} {x : V} {v : Value} {b : Bool} (r : RelV x v)
    (h : Q (.bool (!(isBlV b x))) s) : wpAny M Ar (compareOp .IsNot v (.bool b)) Q E s := by
  cases x with
  | bl a =>
    cases r
    by_cases e : a = b
    · subst e; exact wpAny_isNot_self rfl (by simpa [isBlV] using h)
    · have e' : (a == b) = false := by simpa using e
      exact wpAny_isNot_other rfl (fun z => e (Value.bool.inj z)) (by simp only [isBlV, e'] at h; exact h)
  | non => cases r; exact wpAny_isNot_other rfl (fun z => nomatch z) h
  | int i => obtain ⟨t, rfl⟩ := r; exact wpAny_isNot_other rfl (fun z => nomatch z) h
  | str i => obtain ⟨t, rfl⟩ := r; exact wpAny_isNot_other rfl (fun z => nomatch z) h
  | byt i => obtain ⟨t, rfl⟩ := r; exact wpAny_isNot_other rfl (fun z => nomatch z) h
  | flt i => obtain ⟨t, rfl⟩ := r; exact wpAny_isNot_other rfl (fun z => nomatch z) h
  | ref a => cases r; exact wpAny_isNot_other rfl (fun z => nomatch z) h
  | ty n => cases r; exact wpAny_isNot_other rfl (fun z => nomatch z) h
theorem rel_bl_val {K : PySem.W.Frag} {μ : List Addr} {H : Hp} {d : D} {x : V} (r : RelD K μ H d x) (b : Bool) : isBlD b d = (isBlV b x) := by
  cases d with
  | non => cases rel_non r; rfl
  | bl _ => cases rel_bl r; rfl
  | int _ => cases rel_int r; rfl
  | str _ => cases rel_str r; rfl
  | tup _ => obtain ⟨a, vs, rfl, _⟩ := rel_tup r; rfl
  | obj _ => obtain ⟨a, _, rfl⟩ := rel_obj r; rfl
  | rol _ => obtain ⟨a, vs, rfl, _⟩ := rel_rol r; rfl
  | exn _ _ _ => exact (no_exn r).elim
theorem rel_non_val {K : PySem.W.Frag} {μ : List Addr} {H : Hp} {d : D} {x : V} (r : RelD K μ H d x) : isNonD d = decide (x = .non) := by
  cases d with
  | non => cases rel_non r; rfl
  | bl _ => cases rel_bl r; rfl
  | int _ => cases rel_int r; rfl
  | str _ => cases rel_str r; rfl
  | tup _ => obtain ⟨a, vs, rfl, _⟩ := rel_tup r; rfl
  | obj _ => obtain ⟨a, _, rfl⟩ := rel_obj r; rfl
  | rol _ => obtain ⟨a, vs, rfl, _⟩ := rel_rol r; rfl
  | exn _ _ _ => exact (no_exn r).elim

theorem eq_v (i j : Int) : decide (V.int i = V.int j) = decide (i = j) := by
  by_cases e : i = j
  · subst e; simp
  · simp [e]
theorem eq_s (i j : Str) : decide (V.str i = V.str j) = decide (i = j) := by
  by_cases e : i = j
  · subst e; simp
  · simp [e]
/-- == as in eqD: hands a truth value to what both == and != do with it -/
theorem sd_eq (hu : X.A.units + 64 < cLine) {μ : List Addr} {H : Hp} {A : Ht} {dx dy : D} {x y : V} {k : Bool → Prop} (hr : HR X.K μ A H) (hx : RelD X.K μ H dx x) (hy : RelD X.K μ H dy y) (h : eqD dx dy A k) :
    ∃ b, k b ∧ (∀ Q : VK, Q (.bl b) H → rEq x y H Q ∨ rEqD X.K x y H Q) ∧ (∀ Q : VK, Q (.bl (!b)) H → rNe x y H Q ∨ rNeD X.K x y H Q) := by
  unfold eqD at h
  split at h
  · cases rel_int hx; cases rel_int hy
    exact ⟨_, h, fun Q q => .inl ⟨rfl, by rw [eq_v]; exact q⟩, fun Q q => .inl ⟨rfl, by rw [eq_v]; exact q⟩⟩
  · cases rel_str hx; cases rel_str hy
    exact ⟨_, h, fun Q q => .inl ⟨rfl, by rw [eq_s]; exact q⟩, fun Q q => .inl ⟨rfl, by rw [eq_s]; exact q⟩⟩
  · split at h
    · rename_i p q e1 e2
      obtain ⟨s1, s2, h⟩ := h
      have d1 := dp_toP hr _ _ _ _ e1 hx
      have d2 := dp_toP hr _ _ _ _ e2 hy
      exact ⟨_, h, fun Q z => .inr ⟨_, _, d1, d2, s1, s2, z⟩, fun Q z => .inr ⟨_, _, d1, d2, s1, s2, z⟩⟩
    · exact h.elim
theorem flat_v {K : PySem.W.Frag} {μ : List Addr} {H : Hp} {d : D} {x : V} (r : RelD K μ H d x) (f : flatD d = true) : flatV x = true := by
  cases d with
  | non => cases rel_non r; rfl
  | bl _ => cases rel_bl r; rfl
  | int _ => cases rel_int r; rfl
  | str _ => cases rel_str r; rfl
  | _ => cases f
theorem eqF_v {K : PySem.W.Frag} {μ : List Addr} {H : Hp} {d e : D} {x y : V} (r : RelD K μ H d x) (q : RelD K μ H e y) (f : flatD d = true) (g : flatD e = true) : eqF d e = eqV x y := by
  cases d with
  | non => cases rel_non r; (cases e with
    | non => cases rel_non q; rfl
    | bl _ => cases rel_bl q; rfl
    | int _ => cases rel_int q; rfl
    | str _ => cases rel_str q; rfl
    | _ => cases g)
  | bl _ => cases rel_bl r; (cases e with
    | non => cases rel_non q; rfl
    | bl _ => cases rel_bl q; rfl
    | int _ => cases rel_int q; rfl
    | str _ => cases rel_str q; rfl
    | _ => cases g)
  | int _ => cases rel_int r; (cases e with
    | non => cases rel_non q; rfl
    | bl _ => cases rel_bl q; rfl
    | int _ => cases rel_int q; rfl
    | str _ => cases rel_str q; rfl
    | _ => cases g)
  | str _ => cases rel_str r; (cases e with
    | non => cases rel_non q; rfl
    | bl _ => cases rel_bl q; rfl
    | int _ => cases rel_int q; rfl
    | str _ => cases rel_str q; rfl
    | _ => cases g)
  | _ => cases f
theorem flats_v {K : PySem.W.Frag} {μ : List Addr} {H : Hp} : ∀ {ds : List D} {vs : List V}, RelDs K μ H ds vs → ds.all flatD = true → vs.all flatV = true
  | [], vs, r, _ => by rw [RelDs.nil_iff.mp r]; rfl
  | d :: ds, vs, r, f => by
    obtain ⟨v, t, rfl, r1, r2⟩ := RelDs.cons_iff.mp r
    simp only [List.all_cons, Bool.and_eq_true] at f ⊢
    exact ⟨flat_v r1 f.1, flats_v r2 f.2⟩
theorem any_v {K : PySem.W.Frag} {μ : List Addr} {H : Hp} {d : D} {x : V} (r : RelD K μ H d x) (f : flatD d = true) : ∀ {ds : List D} {vs : List V}, RelDs K μ H ds vs → ds.all flatD = true → (ds.any fun z => eqF z d) = inV x vs
  | [], vs, r, _ => by rw [RelDs.nil_iff.mp r]; rfl
  | e :: ds, vs, q, g => by
    obtain ⟨v, t, rfl, r1, r2⟩ := RelDs.cons_iff.mp q
    simp only [List.all_cons, Bool.and_eq_true] at g
    have ih := any_v r f r2 g.2
    unfold inV at ih ⊢
    rw [List.any_cons, List.any_cons, ih, eqF_v r1 r g.1 f]
theorem keyD_v {K : PySem.W.Frag} {μ : List Addr} {H : Hp} {d : D} {x : V} {k : Key} (r : RelD K μ H d x) (e : keyD d = some k) : x = kV k := by
  unfold keyD at e
  split at e
  · cases e; exact rel_int r
  · cases e; exact rel_str r
  · cases e
/-- a dict's places -/
theorem dic_look {K : PySem.W.Frag} {μ : List Addr} {H : Hp} {k : Key} : ∀ {kvs : List (Key × D)} {ws : List (Key × V)}, ws.map (·.1) = kvs.map (·.1) → RelDs K μ H (kvs.map (·.2)) (ws.map (·.2)) →
    (lookK kvs k = none ∧ L2.valV ws k = none) ∨ ∃ d v, lookK kvs k = some d ∧ L2.valV ws k = some v ∧ RelD K μ H d v
  | [], [], _, _ => .inl ⟨rfl, rfl⟩
  | [], _ :: _, e, _ => by simp at e
  | _ :: _, [], e, _ => by simp at e
  | (a, d) :: r, (b, v) :: t, e, q => by
    simp only [List.map_cons, List.cons.injEq] at e
    obtain ⟨e1, e2⟩ := e
    subst e1
    obtain ⟨v', t', e3, r1, r2⟩ := RelDs.cons_iff.mp q
    simp only [List.map_cons, List.cons.injEq] at e3
    obtain ⟨e4, e5⟩ := e3
    subst e4 e5
    by_cases hk : b = k
    · subst hk
      refine .inr ⟨d, v, ?_, L2.valV_pos rfl, r1⟩
      unfold lookK; rw [if_pos rfl]
    · rcases dic_look (k := k) e2 r2 with ⟨h1, h2⟩ | ⟨d', v', h1, h2, h3⟩
      · refine .inl ⟨?_, ?_⟩
        · unfold lookK
          rw [if_neg hk]
          exact h1
        · unfold L2.valV at h2 ⊢
          rw [List.find?_cons, show decide ((b, v).1 = k) = false from decide_eq_false hk]
          exact h2
      · refine .inr ⟨d', v', ?_, ?_, h3⟩
        · unfold lookK
          rw [if_neg hk]
          exact h1
        · unfold L2.valV at h2 ⊢
          rw [List.find?_cons, show decide ((b, v).1 = k) = false from decide_eq_false hk]
          exact h2
/-- in: a truth value for both in and not in -/
theorem sd_in {pins : List (Addr × Obj)} {s : Shared} {σ : L2.St} (hu : X.A.units + 64 < cLine) {μ : List Addr} {H : Hp} {A : Ht} {dx dy : D} {x y : V} {v u : Value} {k : Bool → Prop} (I : Inv X pins σ H s) (rx : RelV x v) (ry : RelV y u) (hr : HR X.K μ A H) (hx : RelD X.K μ H dx x) (hy : RelD X.K μ H dy y) (h : inD dx dy A k) :
    ∃ b, k b ∧ (∀ Q : VK, Q (.bl b) H → wpAny (model X.prog X.w) X.A (compareOp .In v u) (EP X pins σ Q) X.xe s) ∧ (∀ Q : VK, Q (.bl (!b)) H → wpAny (model X.prog X.w) X.A (compareOp .NotIn v u) (EP X pins σ Q) X.xe s) := by
  unfold inD at h
  have sq : ∀ {a : Addr} {vs : List V} {ds : List D}, y = .ref a → (SqL X.K H a vs ∨ SqT X.K H a vs) → RelDs X.K μ H ds vs → flatD dx = true → ds.all flatD = true → k (ds.any fun z => eqF z dx) →
      ∃ b, k b ∧ (∀ Q : VK, Q (.bl b) H → wpAny (model X.prog X.w) X.A (compareOp .In v u) (EP X pins σ Q) X.xe s) ∧ (∀ Q : VK, Q (.bl (!b)) H → wpAny (model X.prog X.w) X.A (compareOp .NotIn v u) (EP X pins σ Q) X.xe s) := by
    intro a vs ds e hs hv f g q
    subst e
    have ea := any_v hx f hv g
    refine ⟨_, q, fun Q z => op_in_seq pins s σ H _ _ v u Q I rx ry ⟨a, vs, rfl, hs, flat_v hx f, flats_v hv g, ?_⟩, fun Q z => op_notIn_seq pins s σ H _ _ v u Q I rx ry ⟨a, vs, rfl, hs, flat_v hx f, flats_v hv g, ?_⟩⟩
    · rw [ea] at z; simpa using z
    · rw [ea] at z; simpa using z
  split at h
  · split at h
    · cases rel_str hx; cases rel_str hy
      exact ⟨_, h, fun Q q => op_in_str pins s σ H _ _ v u Q I rx ry ⟨_, _, rfl, rfl, q⟩, fun Q q => op_notin_str pins s σ H _ _ v u Q I rx ry ⟨_, _, rfl, rfl, q⟩⟩
    · exact h.elim
  · obtain ⟨a, vs, e, hs, hv⟩ := rel_tup hy
    exact sq e (.inr hs) hv h.1 h.2.1 h.2.2
  · split at h
    · rename_i e
      obtain ⟨a, vs, _, e', ea, hv⟩ := hr.lst e hy
      exact sq e' (.inl (.inl (.inl ea))) hv h.1 h.2.1 h.2.2
    · rename_i e
      obtain ⟨a, vs, _, e', ⟨o, ea⟩, hv⟩ := hr.ro e hy
      exact sq e' (.inl (.inl (.inr ⟨o, ea⟩))) hv h.1 h.2.1 h.2.2
    · rename_i kvs e
      split at h
      · rename_i q eq
        obtain ⟨a, ws, _, e', ea, hk, hv⟩ := hr.dic e hy
        subst e'
        cases ry
        have ex := keyD_v hx eq
        subst ex
        have g : DGet H a (kV q) (L2.valV ws q) := DGet.k ea
        have hu1 : X.A.units + 1 < cLine := by omega
        have same : (lookK kvs q).isSome = (L2.valV ws q).isSome := by
          rcases dic_look (k := q) hk hv with ⟨h1, h2⟩ | ⟨d', v', h1, h2, h3⟩
          · rw [h1, h2]; rfl
          · rw [h1, h2]; rfl
        refine ⟨_, h, fun Q z => d_in hu1 I g rx fun s3 I3 => ⟨.bl _, H, I3, rfl, by rw [← same]; exact z⟩, fun Q z => d_notIn hu1 I g rx fun s3 I3 => ⟨.bl _, H, I3, rfl, by rw [← same]; exact z⟩⟩
      · exact h.elim
    · exact h.elim
  · exact h.elim
/-- a comparison, its answer a truth value -/
theorem sd_cmp (hu : X.A.units + 64 < cLine) (op : CmpOp) : OpR X (compareOp op) (rD2 X.K fun x y A Q => cmpD op x y A fun c => Q (.bl c) A) := by
  refine OpR.cases (d := fun x y A Q => cmpD op x y A fun c => Q (.bl c) A) fun pins s σ H x y v u μ A dx dy Q I rx ry hr hx hy h => ?_
  cases op with
  | Eq =>
    simp only [cmpD] at h
    obtain ⟨b, q, k1, _⟩ := sd_eq hu hr hx hy h
    rcases k1 _ (up_bl hr q) with z | z
    · exact op_eq pins s σ H _ _ v u _ I rx ry z
    · exact op_eqD hu pins s σ H _ _ v u _ I rx ry z
  | NotEq =>
    simp only [cmpD] at h
    obtain ⟨b, q, _, k1⟩ := sd_eq hu hr hx hy h
    rcases k1 _ (up_bl hr q) with z | z
    · exact op_ne pins s σ H _ _ v u _ I rx ry z
    · exact op_neD hu pins s σ H _ _ v u _ I rx ry z
  | In =>
    simp only [cmpD] at h
    obtain ⟨b, q, k1, _⟩ := sd_in hu I rx ry hr hx hy h
    exact k1 _ (up_bl hr q)
  | NotIn =>
    simp only [cmpD] at h
    obtain ⟨b, q, _, k1⟩ := sd_in hu I rx ry hr hx hy h
    exact k1 _ (up_bl hr q)
  | Is =>
    simp only [cmpD] at h
    unfold isD at h
    split at h
    · cases rel_non hy
      exact op_isN pins s σ H _ _ v u _ I rx ry ⟨rfl, up_bl hr (by rw [rel_non_val hx] at h; exact h)⟩
    · cases rel_bl hy
      cases ry
      exact is_bl_gen rx ⟨.bl _, H, I, rfl, up_bl hr (by rw [rel_bl_val hx] at h; exact h)⟩
    · exact h.elim
  | IsNot =>
    simp only [cmpD] at h
    unfold isD at h
    split at h
    · cases rel_non hy
      exact op_notN pins s σ H _ _ v u _ I rx ry ⟨rfl, up_bl hr (by rw [rel_non_val hx] at h; exact h)⟩
    · cases rel_bl hy
      cases ry
      exact isnot_bl_gen rx ⟨.bl _, H, I, rfl, up_bl hr (by rw [rel_bl_val hx] at h; exact h)⟩
    · exact h.elim
  | Lt =>
    simp only [cmpD] at h
    split at h
    · cases rel_int hx; cases rel_int hy
      exact op_lt pins s σ H _ _ v u _ I rx ry ⟨_, _, rfl, rfl, up_bl hr h⟩
    · cases rel_str hx; cases rel_str hy
      exact op_lt_str pins s σ H _ _ v u _ I rx ry ⟨_, _, rfl, rfl, up_bl hr h⟩
    · exact h.elim
  | LtE =>
    simp only [cmpD] at h
    split at h
    · cases rel_int hx; cases rel_int hy
      exact op_le pins s σ H _ _ v u _ I rx ry ⟨_, _, rfl, rfl, up_bl hr h⟩
    · cases rel_str hx; cases rel_str hy
      exact op_le_str pins s σ H _ _ v u _ I rx ry ⟨_, _, rfl, rfl, up_bl hr h⟩
    · exact h.elim
  | Gt =>
    simp only [cmpD] at h
    split at h
    · cases rel_int hx; cases rel_int hy
      exact op_gt pins s σ H _ _ v u _ I rx ry ⟨_, _, rfl, rfl, up_bl hr h⟩
    · cases rel_str hx; cases rel_str hy
      exact op_gt_str pins s σ H _ _ v u _ I rx ry ⟨_, _, rfl, rfl, up_bl hr h⟩
    · exact h.elim
  | GtE =>
    simp only [cmpD] at h
    split at h
    · cases rel_int hx; cases rel_int hy
      exact op_ge pins s σ H _ _ v u _ I rx ry ⟨_, _, rfl, rfl, up_bl hr h⟩
    · cases rel_str hx; cases rel_str hy
      exact op_ge_str pins s σ H _ _ v u _ I rx ry ⟨_, _, rfl, rfl, up_bl hr h⟩
    · exact h.elim
end
end Px
end TextPx4

section TextPx5
set_option autoImplicit false
set_option maxRecDepth 100000
set_option maxHeartbeats 2000000
/-! Px5: subscripts, slices, stores, truth, built-ins and methods by values. -/
namespace Px
open PySem PySem.Spec PyProof.Rows L2
section
variable {X : Cx}
theorem atI_rel {K : PySem.W.Frag} {μ : List Addr} {H : Hp} {ds : List D} {vs : List V} {i : Int} {d : D} (r : RelDs K μ H ds vs) (e : atI ds i = some d) : ∃ v, atI vs i = some v ∧ RelD K μ H d v := by
  unfold atI at e ⊢
  rw [← r.length]
  obtain ⟨j, e1, e2⟩ := Option.bind_eq_some_iff.mp e
  obtain ⟨v, e3, q⟩ := r.get e2
  exact ⟨v, by rw [e1]; exact e3, q⟩
theorem sd_ix (hu : X.A.units + 64 < cLine) : IxR X (rD2 X.K ixD) := by
  rintro value slice pins s σ H x y v u Q I rx ry ⟨μ, A, dx, dy, Q', hr, hx, hy, h, k⟩ hs
  unfold ixD at h
  split at h
  · cases rel_int hy
    obtain ⟨a, vs, rfl, hq, hv⟩ := rel_tup hx
    split at h
    · rename_i d e
      obtain ⟨w, ew, rw'⟩ := atI_rel hv e
      exact ix_tup value slice pins s σ H _ _ v u Q I rx ry ⟨a, vs, _, w, rfl, rfl, hq, ew, k _ _ (.mk rw' hr h)⟩ hs
    · exact h.elim
  · cases rel_int hy; cases rel_str hx
    obtain ⟨hl, h⟩ := h
    split at h
    · rename_i c e
      exact ix_str value slice pins s σ H _ _ v u Q I rx ry ⟨_, _, c, rfl, rfl, hl, e, k _ _ (.mk to_str hr h)⟩ hs
    · exact h.elim
  · rename_i _ _ n
    have lst : ∀ {ds : List D} {i : Int}, (A[n]? = some (O.lst ds) ∨ A[n]? = some (O.ro ds)) → RelD X.K μ H (.int i) y → (match atI ds i with | some d => Q' d A | none => False) → wpAny (model X.prog X.w) X.A (subscriptTail value slice v u) (EP X pins σ Q) X.xe s := fun {ds i} e hy h => by
      obtain ⟨a, vs, _, rfl, hq, hv⟩ := hr.sq e hx
      cases rel_int hy
      split at h
      · rename_i d e
        obtain ⟨w, ew, rw'⟩ := atI_rel hv e
        exact ix_list value slice pins s σ H _ _ v u Q I rx ry ⟨a, vs, _, w, rfl, rfl, hq, ew, k _ _ (.mk rw' hr h)⟩ hs
      · exact h.elim
    split at h
    · rename_i e; exact lst (.inl e) hy h
    · rename_i e; exact lst (.inr e) hy h
    · rename_i kvs _ e
      obtain ⟨a, ws, _, rfl, ea, hk, hv⟩ := hr.dic e hx
      split at h
      · rename_i q eq
        have ey := keyD_v hy eq
        subst ey
        rcases dic_look (k := q) hk hv with ⟨h1, h2⟩ | ⟨d', v', h1, h2, h3⟩
        · rw [h1] at h; exact h.elim
        · rw [h1] at h
          have g : DGet H a (kV q) (some v') := by rw [← h2]; exact DGet.k ea
          cases rx
          refine tail_any (dict_typeIs I g) PySem.F.slot_dict_getitem.lookup (d_getItem (by omega) I g ry fun w' s3 I3 rw' => ⟨v', H, I3, rw', k _ _ (.mk h3 hr h)⟩) hs
      · exact h.elim
    · exact h.elim
  · exact h.elim
theorem cut_rel {K : PySem.W.Frag} {μ : List Addr} {H : Hp} {ds : List D} {vs : List V} (r : RelDs K μ H ds vs) (lo hi : Option Int) : RelDs K μ H (cutD ds lo hi) (cutV vs lo hi) := by
  unfold cutD cutV
  rw [← r.length]
  exact (r.drop _).take _
theorem sd_sl : SlR X (fun x lo hi H Q => ∃ μ A dx Q', HR X.K μ A H ∧ RelD X.K μ H dx x ∧ slD dx lo hi A Q' ∧ ∀ v H', Up X.K μ H Q' v H' → Q v H') := by
  rintro pins s σ H x v vl vu lo hi sl Q I rx hs pl pu ⟨μ, A, dx, Q', hr, hx, h, k⟩
  unfold slD at h
  split at h
  · obtain ⟨a, vs, rfl, hq, hv⟩ := rel_tup hx
    refine sl_tupA pins s σ H _ v vl vu lo hi sl Q I rx hs pl pu ⟨a, vs, rfl, hq, fun e => ?_, fun _ p hp => k _ _ (Up.tuple hr (cut_rel hv lo hi) hp h)⟩
    refine k _ _ (.mk (to_tup hq ?_) hr h)
    have c := cut_rel hv lo hi
    unfold cutV at c
    rw [e.1, e.2] at c
    simpa using c
  · cases rel_str hx
    exact sl_str pins s σ H _ v vl vu lo hi sl Q I rx hs pl pu ⟨_, rfl, h.1, k _ _ (.mk to_str hr h.2)⟩
  · split at h
    · rename_i e
      obtain ⟨a, vs, _, rfl, hq, hv⟩ := hr.sq (.inl e) hx
      exact sl_list pins s σ H _ v vl vu lo hi sl Q I rx hs pl pu ⟨a, vs, rfl, hq, fun p hp => k _ _ (Up.list hr (cut_rel hv lo hi) hp h)⟩
    · rename_i e
      obtain ⟨a, vs, _, rfl, hq, hv⟩ := hr.sq (.inr e) hx
      exact sl_list pins s σ H _ v vl vu lo hi sl Q I rx hs pl pu ⟨a, vs, rfl, hq, fun p hp => k _ _ (Up.list hr (cut_rel hv lo hi) hp h)⟩
    · exact h.elim
  · exact h.elim
/-- an object written: the new world -/
theorem HR.wr {K : PySem.W.Frag} {μ : List Addr} {H : Hp} {A : Ht} (hr : HR K μ A H) {n : Nat} {a : Addr} {vs vs' : List V} {ds' : List D} (en : μ[n]? = some a) (ea : H a = some (.lst vs)) (r : RelDs K μ H ds' vs') :
    Stp μ H μ (upd H a (.lst vs')) ∧ HR K μ (A.set n (.lst ds')) (upd H a (.lst vs')) := by
  have s : Stp μ H μ (upd H a (.lst vs')) := stp_write en ea (fun z => z)
  exact ⟨s, hr.write en ea (fun z => z) ⟨vs', rfl, r.mono s _ _⟩⟩
theorem dic_put {K : PySem.W.Frag} {μ : List Addr} {H : Hp} {k : Key} {d : D} {v : V} (q : RelD K μ H d v) : ∀ {kvs : List (Key × D)} {ws : List (Key × V)}, (kvs.map (·.1)).Nodup → ws.map (·.1) = kvs.map (·.1) → RelDs K μ H (kvs.map (·.2)) (ws.map (·.2)) →
    (L2.putK ws k v).map (·.1) = (putK kvs k d).map (·.1) ∧ RelDs K μ H ((putK kvs k d).map (·.2)) ((L2.putK ws k v).map (·.2)) := by
  intro kvs
  induction kvs with
  | nil =>
    intro ws _ e r
    have ew : ws = [] := by simpa using e
    subst ew
    refine ⟨by simp [L2.putK, putK], ?_⟩
    simp only [L2.putK, putK, List.any_nil, Bool.false_eq_true, if_false, List.nil_append, List.map_cons, List.map_nil]
    exact .cons q .nil
  | cons p r ih =>
    obtain ⟨j, e0⟩ := p
    intro ws nd e hr
    cases ws with
    | nil => simp at e
    | cons w t =>
      obtain ⟨j', v0⟩ := w
      simp only [List.map_cons, List.cons.injEq] at e
      obtain ⟨e1, e2⟩ := e
      subst e1
      obtain ⟨v', t', e3, r1, r2⟩ := RelDs.cons_iff.mp hr
      simp only [List.map_cons, List.cons.injEq] at e3
      obtain ⟨e4, e5⟩ := e3
      subst e4 e5
      simp only [List.map_cons, List.nodup_cons] at nd
      by_cases hk : j' = k
      · subst hk
        have nk : ∀ kv ∈ t, kv.1 ≠ j' := fun kv hkv z => nd.1 (by rw [← e2, ← z]; exact List.mem_map_of_mem hkv)
        have et : t.map (fun kv => if kv.1 = j' then (kv.1, v) else kv) = t := by
          conv => rhs; rw [← List.map_id t]
          exact List.map_congr_left fun kv hkv => if_neg (nk kv hkv)
        have eL : L2.putK ((j', v0) :: t) j' v = (j', v) :: t := by
          unfold L2.putK
          rw [if_pos (by simp)]
          rw [List.map_cons, et]; simp
        have eR : putK ((j', e0) :: r) j' d = (j', d) :: r := by unfold putK; rw [if_pos rfl]
        rw [eL, eR]
        exact ⟨by simp [e2], .cons q r2⟩
      · obtain ⟨i1, i2⟩ := ih (ws := t) nd.2 e2 r2
        have eL : L2.putK ((j', v0) :: t) k v = (j', v0) :: L2.putK t k v := by
          unfold L2.putK
          simp only [List.any_cons, decide_eq_false hk, Bool.false_or, List.map_cons, if_neg hk]
          split <;> simp
        have eR : putK ((j', e0) :: r) k d = (j', e0) :: putK r k d := by
          conv => lhs; unfold putK
          rw [if_neg hk]
        rw [eL, eR]
        simp only [List.map_cons]
        exact ⟨by rw [i1], .cons r1 i2⟩
theorem kv_keys {kvs : List (Key × V)} {vs : List (Key × Value)} (r : KV kvs vs) : kvs.map (·.1) = vs.map (·.1) := by
  induction r with
  | nil => rfl
  | cons h t ih => simp [h.1, ih]
/-- what the key list of a tracked dict says -/
theorem dk_nodup {P : Program} {w : World} {H : Hp} {h : Heap} {a : Addr} {kvs : List (Key × V)} (x : ObjOk P w H h a (.dK kvs)) : (kvs.map (·.1)).Nodup := by
  obtain ⟨_, _, vs, r, o, es, ep, d⟩ := x
  rw [kv_keys r]
  first | exact d.2.2.2.2.2 | exact d.2.2.2.2.1 | exact d.2.2.2.2 | exact d.2.2.2.1 | exact d.2.2.2
theorem sd_set {pins : List (Addr × Obj)} {s : Shared} {σ : L2.St} (hu : X.A.units + 64 < cLine) {μ : List Addr} {H : Hp} {A : Ht} {do' di dv : D} {o i x : V} {ov iv u : Value} {k : Ht → Prop} (I : Inv X pins σ H s) (ro : RelV o ov) (ri : RelV i iv) (rv : RelV x u)
    (hr : HR X.K μ A H) (ho : RelD X.K μ H do' o) (hi : RelD X.K μ H di i) (hv : RelD X.K μ H dv x) (h : setD do' di dv A k) :
    wpAny (model X.prog X.w) X.A (setItem ov iv u) (fun _ s' => ∃ H' A', Inv X pins σ H' s' ∧ Stp μ H μ H' ∧ HR X.K μ A' H' ∧ k A') X.xe s := by
  unfold setD at h
  split at h
  · split at h
    · rename_i e
      split at h
      · split at h
        · rename_i j m ej
          obtain ⟨a, vs, en, rfl, ea, hvs⟩ := hr.lst e ho
          cases rel_int hi
          obtain ⟨s1, h1⟩ := hr.wr en ea (RelDs.set hv m hvs)
          exact thn (set_list pins s σ H _ _ _ ov iv u (fun H' => H' = upd H a (.lst (vs.set m x))) I ro ri rv ⟨a, vs, _, m, rfl, rfl, ea, by rw [← hvs.length]; exact ej, rfl⟩) fun _ s2 ⟨H', I2, e2⟩ => ⟨H', _, I2, by rw [e2]; exact s1, by rw [e2]; exact h1, h⟩
        · exact h.elim
      · exact h.elim
    · rename_i kvs e
      split at h
      · rename_i q eq
        obtain ⟨a, ws, en, rfl, ea, hk, hvs⟩ := hr.dic e ho
        have ei := keyD_v hi eq
        subst ei
        have nd : (kvs.map (·.1)).Nodup := by rw [← hk]; exact dk_nodup (show ObjOk X.prog X.w H s.heap a (.dK ws) from I.hok a _ ea)
        obtain ⟨p1, p2⟩ := dic_put (k := q) hv nd hk hvs
        have hl : ws.length < sizeLine := by
          have := congrArg List.length hk
          simp only [List.length_map] at this
          rw [this]; exact h.1
        have g : DPut H a (kV q) x (upd H a (.dK (L2.putK ws q x))) := DPut.k ea hl
        have s1 : Stp μ H μ (upd H a (.dK (L2.putK ws q x))) := stp_write en ea (fun z => z)
        cases ro
        refine d_setItem (by omega) I g ri rv fun s3 I3 => ⟨_, _, I3, s1, hr.write (o := .dic (putK kvs q dv)) en ea (fun z => z) ⟨_, rfl, p1, p2.mono s1 _ _⟩, h.2⟩
      · exact h.elim
    · exact h.elim
  · exact h.elim
theorem isE {α : Type} {β : Type} {l : List α} {m : List β} (h : l.length = m.length) : l.isEmpty = m.isEmpty := by
  cases l <;> cases m <;> simp at h ⊢
theorem sd_tru {μ : List Addr} {H : Hp} {A : Ht} {d : D} {x : V} {k : Bool → Prop} (hr : HR X.K μ A H) (hx : RelD X.K μ H d x) (h : truD d A k) : ∃ b, TruV X.K x H b ∧ k b := by
  unfold truD at h
  split at h
  · cases rel_bl hx; exact ⟨_, rfl, h⟩
  · cases rel_non hx; exact ⟨_, rfl, h⟩
  · cases rel_int hx; exact ⟨_, rfl, h⟩
  · cases rel_str hx; exact ⟨_, ⟨h.1, rfl⟩, h.2⟩
  · obtain ⟨a, vs, rfl, hq, hv⟩ := rel_tup hx
    exact ⟨_, .inr (.inl ⟨vs, hq, by rw [isE hv.length]⟩), h⟩
  · split at h
    · rename_i e
      obtain ⟨a, vs, _, rfl, hq, hv⟩ := hr.sq (.inl e) hx
      exact ⟨_, .inl ⟨vs, hq, by rw [isE hv.length]⟩, h⟩
    · rename_i e
      obtain ⟨a, vs, _, rfl, hq, hv⟩ := hr.sq (.inr e) hx
      exact ⟨_, .inl ⟨vs, hq, by rw [isE hv.length]⟩, h⟩
    · rename_i kvs e
      obtain ⟨a, ws, _, rfl, ea, hk, hv⟩ := hr.dic e hx
      have hl : kvs.length = ws.length := by have := congrArg List.length hk; simpa using this.symm
      exact ⟨_, .inr (.inr ⟨ws, ea, by rw [isE hl]⟩), h⟩
    · exact h.elim
  · obtain ⟨a, vs, rfl, hq, hv⟩ := rel_rol hx
    exact ⟨_, .inl ⟨vs, hq.sq, by rw [isE hv.length]⟩, h⟩
  · exact h.elim
/-! ### isinstance -/
def tyN : TI' → String
  | .int => "int" | .bool => "bool" | .str => "str" | .tuple => "tuple" | .list => "list" | .dict => "dict"
theorem kit_all (a : String) (t : TI') (b : Bool) (h : kitB a (tyN t) = some b) {K : PySem.W.Frag} : PySem.W.kitOne K (.type a) (.type (tyN t)) = some b := kit_ty h
theorem sq_ty {K : PySem.W.Frag} {H : Hp} {a : Addr} {vs : List V} (h : SqT K H a vs) : TyX K H (.ref a) (.type "tuple") := by
  rcases h with (h | ⟨o, h⟩) | ⟨o, its, n, h1, h2, _⟩
  · exact .base (.tup h)
  · exact .fTuple h
  · exact .kTuple h1 h2
theorem sl_ty {K : PySem.W.Frag} {H : Hp} {a : Addr} {vs : List V} (h : SqL K H a vs) : TyX K H (.ref a) (.type "list") := by
  rcases h with (h | ⟨o, h⟩) | ⟨o, its, n, h1, h2, _⟩
  · exact .base (.lst h)
  · exact .base (.frz h)
  · exact .kList h1 h2
theorem sd_isi {μ : List Addr} {H : Hp} {A : Ht} {d : D} {x : V} {t : TI'} {b : Bool} (hr : HR X.K μ A H) (hx : RelD X.K μ H d x) (h : isiD A d t = some b) :
    ∃ ty, TyX X.K H x ty ∧ PySem.W.kitOne X.K ty (.type (tyN t)) = some b := by
  unfold isiD at h
  split at h
  · cases rel_int hx; cases h
    exact ⟨_, .base (.int _), kit_all "int" t _ (by cases t <;> decide +kernel)⟩
  · cases rel_bl hx; cases h
    exact ⟨_, .base (.bl _), kit_all "bool" t _ (by cases t <;> decide +kernel)⟩
  · cases rel_str hx; cases h
    exact ⟨_, .base (.str _), kit_all "str" t _ (by cases t <;> decide +kernel)⟩
  · obtain ⟨a, vs, rfl, hq, hv⟩ := rel_tup hx; cases h
    exact ⟨_, sq_ty hq, kit_all "tuple" t _ (by cases t <;> decide +kernel)⟩
  · cases rel_non hx; cases h
    exact ⟨_, .base .non, kit_all "NoneType" t _ (by cases t <;> decide +kernel)⟩
  · split at h
    · rename_i e
      obtain ⟨a, vs, _, rfl, hq, hv⟩ := hr.sq (.inl e) hx; cases h
      exact ⟨_, sl_ty hq, kit_all "list" t _ (by cases t <;> decide +kernel)⟩
    · rename_i e
      obtain ⟨a, vs, _, rfl, hq, hv⟩ := hr.sq (.inr e) hx; cases h
      exact ⟨_, sl_ty hq, kit_all "list" t _ (by cases t <;> decide +kernel)⟩
    · rename_i kvs e
      obtain ⟨a, ws, _, rfl, ea, hk, hv⟩ := hr.dic e hx; cases h
      exact ⟨_, .base (.dK ea), kit_all "dict" t _ (by cases t <;> decide +kernel)⟩
    · cases h
  · obtain ⟨a, vs, rfl, hq, hv⟩ := rel_rol hx; cases h
    exact ⟨_, sl_ty hq.sq, kit_all "list" t _ (by cases t <;> decide +kernel)⟩
  · cases h
end
end Px
end TextPx5

section TextPx6
set_option autoImplicit false
set_option maxRecDepth 100000
set_option maxHeartbeats 2000000
/-! Px6: built-ins and methods by values. -/
namespace Px
open PySem PySem.Spec PyProof.Rows L2
section
variable {X : Cx}
theorem ints_rel {K : PySem.W.Frag} {μ : List Addr} {H : Hp} : ∀ {ds : List D} {ns : List Int} {vs : List V}, intsD ds = some ns → RelDs K μ H ds vs → vs = ns.map V.int
  | [], ns, vs, e, r => by
    simp only [intsD, Option.some.injEq] at e; subst e
    rw [RelDs.nil_iff.mp r]; rfl
  | d :: ds, ns, vs, e, r => by
    obtain ⟨v, t, rfl, r1, r2⟩ := RelDs.cons_iff.mp r
    cases d with
    | int i =>
      simp only [intsD, Option.map_eq_some_iff] at e
      obtain ⟨q, e1, rfl⟩ := e
      rw [rel_int r1, ints_rel e1 r2]; rfl
    | _ => simp [intsD] at e
theorem bls_rel {K : PySem.W.Frag} {μ : List Addr} {H : Hp} : ∀ {ds : List D} {ns : List Bool} {vs : List V}, blsD ds = some ns → RelDs K μ H ds vs → vs = ns.map V.bl
  | [], ns, vs, e, r => by
    simp only [blsD, Option.some.injEq] at e; subst e
    rw [RelDs.nil_iff.mp r]; rfl
  | d :: ds, ns, vs, e, r => by
    obtain ⟨v, t, rfl, r1, r2⟩ := RelDs.cons_iff.mp r
    cases d with
    | bl i =>
      simp only [blsD, Option.map_eq_some_iff] at e
      obtain ⟨q, e1, rfl⟩ := e
      rw [rel_bl r1, bls_rel e1 r2]; rfl
    | _ => simp [blsD] at e
theorem strs_rel {K : PySem.W.Frag} {μ : List Addr} {H : Hp} : ∀ {ds : List D} {ns : List Str} {vs : List V}, strsD ds = some ns → RelDs K μ H ds vs → vs = ns.map V.str
  | [], ns, vs, e, r => by
    simp only [strsD, Option.some.injEq] at e; subst e
    rw [RelDs.nil_iff.mp r]; rfl
  | d :: ds, ns, vs, e, r => by
    obtain ⟨v, t, rfl, r1, r2⟩ := RelDs.cons_iff.mp r
    cases d with
    | str i =>
      simp only [strsD, Option.map_eq_some_iff] at e
      obtain ⟨q, e1, rfl⟩ := e
      rw [rel_str r1, strs_rel e1 r2]; rfl
    | _ => simp [strsD] at e
theorem rel_ints {K : PySem.W.Frag} {μ : List Addr} {H : Hp} : ∀ ns : List Int, RelDs K μ H (ns.map D.int) (ns.map V.int)
  | [] => .nil
  | n :: ns => .cons to_int (rel_ints ns)
theorem rel_strs {K : PySem.W.Frag} {μ : List Addr} {H : Hp} : ∀ ns : List Str, RelDs K μ H (ns.map D.str) (ns.map V.str)
  | [] => .nil
  | n :: ns => .cons to_str (rel_strs ns)
theorem keysI_eq : ∀ {kvs : List (Key × D)} {ns : List Int}, keysI kvs = some ns → kvs.map (·.1) = ns.map Sum.inl
  | [], ns, e => by simp only [keysI, Option.some.injEq] at e; subst e; rfl
  | (.inl i, d) :: r, ns, e => by
    simp only [keysI, Option.map_eq_some_iff] at e
    obtain ⟨q, e1, rfl⟩ := e
    rw [List.map_cons, keysI_eq e1]; rfl
  | (.inr i, d) :: r, ns, e => by simp [keysI] at e
theorem isort_perm (ns : List Int) : (isort ns).Perm ns := List.mergeSort_perm _ _
theorem isort_sorted (ns : List Int) : (isort ns).Pairwise (· ≤ ·) := by
  have h := List.pairwise_mergeSort (le := fun (a b : Int) => decide (a ≤ b)) (fun a b c h1 h2 => by simp at *; omega) (fun a b => by simp; omega) ns
  exact h.imp fun h => by simpa using h
theorem isort_unique {ns ns' : List Int} (h : ns'.Perm ns) (s : ns'.Pairwise (· ≤ ·)) : ns' = isort ns :=
  PySem.W.ksm_same (h.trans (isort_perm ns).symm) s (isort_sorted ns)
def needCalm : BI → Bool
  | .min => true | .max => true | .sum => true | .all => true | .any => true | .list => true | .sorted => true
  | _ => false
/-- what stands behind a built-in's name -/
def biV : BI → Value
  | .len => .builtin "len" | .int => .type "int" | .abs => .builtin "abs" | .min => .builtin "min" | .max => .builtin "max" | .tuple => .type "tuple" | .list => .type "list"
  | .str => .type "str" | .sorted => .builtin "sorted" | .sum => .builtin "sum" | .all => .builtin "all" | .any => .builtin "any"
theorem rel1 {K : PySem.W.Frag} {μ : List Addr} {H : Hp} {d : D} {xs : List V} (r : RelDs K μ H [d] xs) : ∃ v, xs = [v] ∧ RelD K μ H d v := by
  obtain ⟨v, t, rfl, r1, r2⟩ := RelDs.cons_iff.mp r
  rw [RelDs.nil_iff.mp r2]; exact ⟨v, rfl, r1⟩
theorem rel2 {K : PySem.W.Frag} {μ : List Addr} {H : Hp} {d e : D} {xs : List V} (r : RelDs K μ H [d, e] xs) : ∃ v w, xs = [v, w] ∧ RelD K μ H d v ∧ RelD K μ H e w := by
  obtain ⟨v, t, rfl, r1, r2⟩ := RelDs.cons_iff.mp r
  obtain ⟨w, rfl, r3⟩ := rel1 r2
  exact ⟨v, w, rfl, r1, r3⟩
theorem rel0 {K : PySem.W.Frag} {μ : List Addr} {H : Hp} {xs : List V} (r : RelDs K μ H [] xs) : xs = [] := RelDs.nil_iff.mp r
theorem keys_rel {K : PySem.W.Frag} {μ : List Addr} {H : Hp} : ∀ {kvs : List (Key × D)} {ws : List (Key × V)}, ws.map (·.1) = kvs.map (·.1) →
    RelDs K μ H (kvs.map fun p => match p.1 with | .inl i => D.int i | .inr s => D.str s) (ws.map fun kv => kV kv.1)
  | [], [], _ => .nil
  | [], _ :: _, e => by simp at e
  | _ :: _, [], e => by simp at e
  | (a, d) :: r, (b, v) :: t, e => by
    simp only [List.map_cons, List.cons.injEq] at e
    obtain ⟨e1, e2⟩ := e
    subst e1
    refine .cons ?_ (keys_rel e2)
    cases b with
    | inl i => exact to_int
    | inr s => exact to_str
theorem sd_bi (b : BI) (hc : needCalm b = true → X.calm = true) : CallR X (biV b) (rDn X.K (biD b)) := by
  rintro pins s σ H xs us Q I rs ⟨μ, A, ds, Q', hr, hd, h, k⟩
  unfold biD at h
  split at h
  · obtain ⟨v, rfl, r1⟩ := rel1 hd; cases rel_str r1
    exact call_len_str pins s σ H _ us Q I rs ⟨_, rfl, h.1, k _ _ (.mk to_int hr h.2)⟩
  · obtain ⟨v, rfl, r1⟩ := rel1 hd
    obtain ⟨a, vs, rfl, hq, hv⟩ := rel_tup r1
    exact call_len_seq pins s σ H _ us Q I rs ⟨a, vs, rfl, .inr hq, k _ _ (by rw [← hv.length]; exact .mk to_int hr h)⟩
  · obtain ⟨v, rfl, r1⟩ := rel1 hd
    split at h
    · rename_i e
      obtain ⟨a, vs, _, rfl, hq, hv⟩ := hr.sq (.inl e) r1
      exact call_len_seq pins s σ H _ us Q I rs ⟨a, vs, rfl, .inl hq, k _ _ (by rw [← hv.length]; exact .mk to_int hr h)⟩
    · rename_i e
      obtain ⟨a, vs, _, rfl, hq, hv⟩ := hr.sq (.inr e) r1
      exact call_len_seq pins s σ H _ us Q I rs ⟨a, vs, rfl, .inl hq, k _ _ (by rw [← hv.length]; exact .mk to_int hr h)⟩
    · rename_i kvs e
      obtain ⟨a, ws, _, rfl, ea, hk, hv⟩ := hr.dic e r1
      have hl : kvs.length = ws.length := by have := congrArg List.length hk; simpa using this.symm
      exact call_lenD pins s σ H _ us Q I rs ⟨a, ws, rfl, ea, k _ _ (by rw [← hl]; exact .mk to_int hr h)⟩
    · exact h.elim
  · obtain ⟨v, rfl, r1⟩ := rel1 hd; cases rel_int r1
    exact call_int1 pins s σ H _ us Q I rs (.inl ⟨_, rfl, k _ _ (.mk to_int hr h)⟩)
  · obtain ⟨v, rfl, r1⟩ := rel1 hd; cases rel_bl r1
    exact call_int1 pins s σ H _ us Q I rs (.inr ⟨_, rfl, k _ _ (.mk to_int hr h)⟩)
  · obtain ⟨v, rfl, r1⟩ := rel1 hd; cases rel_str r1
    obtain ⟨hl, h⟩ := h
    split at h
    · rename_i n e
      exact call_int_str pins s σ H _ us Q I rs ⟨_, n, rfl, e, hl, k _ _ (.mk to_int hr h)⟩
    · exact h.elim
  · obtain ⟨v, rfl, r1⟩ := rel1 hd; cases rel_int r1
    exact call_abs pins s σ H _ us Q I rs ⟨_, rfl, k _ _ (.mk to_int hr h)⟩
  · obtain ⟨v, w, rfl, r1, r2⟩ := rel2 hd; cases rel_int r1; cases rel_int r2
    exact call_min2 (hc rfl) pins s σ H _ us Q I rs ⟨_, _, rfl, k _ _ (.mk to_int hr h)⟩
  · obtain ⟨v, w, rfl, r1, r2⟩ := rel2 hd; cases rel_int r1; cases rel_int r2
    exact call_max2 (hc rfl) pins s σ H _ us Q I rs ⟨_, _, rfl, k _ _ (.mk to_int hr h)⟩
  · obtain ⟨v, rfl, r1⟩ := rel1 hd
    obtain ⟨a, vs, rfl, hq, hv⟩ := rel_tup r1
    exact call_tuple_of pins s σ H _ us Q I rs ⟨a, vs, rfl, .inr ⟨hq, k _ _ (.mk (to_tup hq hv) hr h)⟩⟩
  · obtain ⟨v, rfl, r1⟩ := rel1 hd
    split at h
    · rename_i e
      obtain ⟨a, vs, _, rfl, hq, hv⟩ := hr.sq (.inl e) r1
      exact call_tuple_of pins s σ H _ us Q I rs ⟨a, vs, rfl, .inl ⟨hq, fun p hp => k _ _ (Up.tuple hr hv hp h)⟩⟩
    · rename_i e
      obtain ⟨a, vs, _, rfl, hq, hv⟩ := hr.sq (.inr e) r1
      exact call_tuple_of pins s σ H _ us Q I rs ⟨a, vs, rfl, .inl ⟨hq, fun p hp => k _ _ (Up.tuple hr hv hp h)⟩⟩
    · exact h.elim
  · obtain ⟨v, rfl, r1⟩ := rel1 hd
    obtain ⟨a, vs, rfl, hq, hv⟩ := rel_tup r1
    exact call_list_of pins s σ H _ us Q I rs ⟨a, vs, rfl, .inr hq, fun p hp => k _ _ (Up.list hr hv hp h)⟩
  · obtain ⟨v, rfl, r1⟩ := rel1 hd
    split at h
    · rename_i e
      obtain ⟨a, vs, _, rfl, hq, hv⟩ := hr.sq (.inl e) r1
      exact call_list_of pins s σ H _ us Q I rs ⟨a, vs, rfl, .inl hq, fun p hp => k _ _ (Up.list hr hv hp h)⟩
    · rename_i e
      obtain ⟨a, vs, _, rfl, hq, hv⟩ := hr.sq (.inr e) r1
      exact call_list_of pins s σ H _ us Q I rs ⟨a, vs, rfl, .inl hq, fun p hp => k _ _ (Up.list hr hv hp h)⟩
    · rename_i kvs e
      obtain ⟨a, ws, _, rfl, ea, hk, hv⟩ := hr.dic e r1
      exact call_list_dK (hc rfl) pins s σ H _ us Q I rs ⟨a, ws, rfl, ea, fun p hp => k _ _ (Up.list hr (keys_rel hk) hp h)⟩
    · exact h.elim
  · obtain ⟨v, rfl, r1⟩ := rel1 hd; cases rel_int r1
    exact call_str_int pins s σ H _ us Q I rs ⟨_, rfl, h.1, k _ _ (.mk to_str hr h.2)⟩
  · obtain ⟨v, rfl, r1⟩ := rel1 hd
    have lst : ∀ {n : Nat} {ds : List D}, (A[n]? = some (O.lst ds) ∨ A[n]? = some (O.ro ds)) → RelD X.K μ H (.obj n) v → (match intsD ds with | some ns => Q' (.obj A.length) (A ++ [.lst ((isort ns).map .int)]) | none => False) → wpAny (model X.prog X.w) X.A (call (biV .sorted) us) (EP X pins σ Q) X.xe s := fun {n ds} e r1 h => by
      obtain ⟨a, vs, _, rfl, hq, hv⟩ := hr.sq e r1
      split at h
      · rename_i ns e1
        have ev := ints_rel e1 hv
        subst ev
        refine cr_sortedI pins s σ H _ us Q I rs ⟨a, ns, rfl, hq, fun ns' p hp so hn => ?_⟩
        rw [isort_unique hp so]
        exact k _ _ (Up.list hr (rel_ints _) hn h)
      · exact h.elim
    split at h
    · rename_i e; exact lst (.inl e) r1 h
    · rename_i e; exact lst (.inr e) r1 h
    · rename_i kvs e
      obtain ⟨a, ws, _, rfl, ea, hk, hv⟩ := hr.dic e r1
      split at h
      · rename_i ns e1
        refine call_sortedDI (hc rfl) pins s σ H _ us Q I rs ⟨a, ws, ns, rfl, .inl ea, by rw [hk]; exact keysI_eq e1, h.1, fun ns' p hp so hn => ?_⟩
        rw [isort_unique hp so]
        exact k _ _ (Up.list hr (rel_ints _) hn h.2)
      · exact h.elim
    · exact h.elim
  · obtain ⟨v, rfl, r1⟩ := rel1 hd
    split at h
    · rename_i e
      obtain ⟨a, vs, _, rfl, hq, hv⟩ := hr.sq (.inl e) r1
      split at h
      · rename_i ns e1
        have ev := ints_rel e1 hv
        subst ev
        exact cr_sum (hc rfl) pins s σ H _ us Q I rs ⟨a, ns, rfl, hq, k _ _ (.mk to_int hr h)⟩
      · exact h.elim
    · exact h.elim
  · obtain ⟨v, rfl, r1⟩ := rel1 hd
    split at h
    · rename_i e
      obtain ⟨a, vs, _, rfl, hq, hv⟩ := hr.sq (.inl e) r1
      split at h
      · rename_i ns e1
        have ev := bls_rel e1 hv
        subst ev
        exact cr_all (hc rfl) pins s σ H _ us Q I rs ⟨a, ns, rfl, hq, k _ _ (.mk to_bl hr h)⟩
      · exact h.elim
    · exact h.elim
  · obtain ⟨v, rfl, r1⟩ := rel1 hd
    split at h
    · rename_i e
      obtain ⟨a, vs, _, rfl, hq, hv⟩ := hr.sq (.inl e) r1
      split at h
      · rename_i ns e1
        have ev := bls_rel e1 hv
        subst ev
        exact cr_any (hc rfl) pins s σ H _ us Q I rs ⟨a, ns, rfl, hq, k _ _ (.mk to_bl hr h)⟩
      · exact h.elim
    · exact h.elim
  · exact h.elim
end
end Px
end TextPx6

section TextPx7
set_option autoImplicit false
set_option maxRecDepth 100000
set_option maxHeartbeats 2000000
/-! Px7: methods by values. -/
namespace Px
open PySem PySem.Spec PyProof.Rows L2
section
variable {X : Cx}
def mtT : MI → String
  | .append => "list" | .pop => "list" | .reverse => "list" | .extend => "list" | .index => "list" | .insert => "list" | _ => "str"
def mtId : MI → String
  | .append => "list.append" | .pop => "list.pop" | .reverse => "list.reverse" | .extend => "list.extend" | .index => "list.index" | .insert => "list.insert"
  | .join => "str.join" | .find => "str.find" | .upper => "str.upper" | .count => "str.count" | .split => "str.split" | .replace => "str.replace" | .isdigit => "str.isdigit" | .startswith => "str.startswith"
def mtName : MI → Str
  | .append => "append" | .pop => "pop" | .reverse => "reverse" | .extend => "extend" | .index => "index" | .insert => "insert"
  | .join => "join" | .find => "find" | .upper => "upper" | .count => "count" | .split => "split" | .replace => "replace" | .isdigit => "isdigit" | .startswith => "startswith"
theorem mt_plain (m : MI) : PlainAttrs (mtT m) := by
  cases m <;> first | exact PySem.F.plainAttrs_list | exact PySem.F.plainAttrs_str
theorem mt_slot (m : MI) : Slot (mtT m) (mtName m) (mtId m) := by
  cases m
  · exact PySem.F.slot_list_append
  · exact PySem.F.slot_list_pop
  · exact PySem.F.slot_list_reverse
  · exact PySem.F.slot_list_extend
  · exact PySem.F.slot_str_join
  · exact PySem.F.slot_str_find
  · exact PySem.F.slot_str_upper
  · exact PySem.F.slot_list_index
  · exact PySem.F.slot_str_count
  · exact PySem.F.slot_str_split
  · exact PySem.F.slot_list_insert
  · exact PySem.F.slot_str_replace
  · exact PySem.F.slot_str_isdigit
  · exact PySem.F.slot_str_startswith
theorem mt_type (m : MI) : typeOf (.builtin (mtId m)) = pure (.type "method_descriptor") := by
  cases m
  · exact PySem.F.type_list_append
  · exact PySem.F.type_list_pop
  · exact PySem.F.type_list_reverse
  · exact PySem.F.type_list_extend
  · exact PySem.F.type_str_join
  · exact PySem.F.type_str_find
  · exact PySem.F.type_str_upper
  · exact PySem.F.type_list_index
  · exact PySem.F.type_str_count
  · exact PySem.F.type_str_split
  · exact PySem.F.type_list_insert
  · exact PySem.F.type_str_replace
  · exact PySem.F.type_str_isdigit
  · exact PySem.F.type_str_startswith
theorem sd_recv {m : MI} {μ : List Addr} {H : Hp} {A : Ht} {d : D} {x : V} (hr : HR X.K μ A H) (hx : RelD X.K μ H d x) (h : recvD m d A) : tyV X.K (mtT m) x H := by
  unfold recvD at h
  have lst : ∀ {n : Nat} {ds : List D}, A[n]? = some (.lst ds) → RelD X.K μ H (.obj n) x → tyV X.K "list" x H := fun {n ds} e hx => by
    obtain ⟨a, vs, _, rfl, ea, hv⟩ := hr.lst e hx
    exact .inl ⟨rfl, _, .inl (.inl ea)⟩
  split at h
  all_goals first
    | exact h.elim
    | (cases rel_str hx; exact rfl)
    | (split at h
       · rename_i e; exact lst e hx
       · exact h.elim)
theorem drop_rel {K : PySem.W.Frag} {μ : List Addr} {H : Hp} {ds : List D} {vs : List V} (r : RelDs K μ H ds vs) : RelDs K μ H ds.dropLast vs.dropLast := by
  rw [List.dropLast_eq_take, List.dropLast_eq_take, ← r.length]
  exact r.take _
theorem sd_mt (m : MI) : MtR X (mtId m) (rDm X.K (mtD m)) := by
  rintro pins s σ H x xs v us Q I rx rs ⟨μ, A, dx, ds, Q', hr, hx, hd, h, k⟩
  unfold mtD at h
  have wr : ∀ {n : Nat} {a : Addr} {vs vs' : List V} {ds' : List D} {dr : D} {vr : V}, μ[n]? = some a → H a = some (.lst vs) → RelDs X.K μ H ds' vs' → RelD X.K μ H dr vr → Q' dr (A.set n (.lst ds')) → Q vr (upd H a (.lst vs')) := fun {n a vs vs' ds' dr vr} en ea r1 r2 q => by
    obtain ⟨s1, h1⟩ := hr.wr en ea r1
    exact k _ _ ⟨μ, dr, _, s1, r2.mono s1 _ _, h1, q⟩
  split at h
  · obtain ⟨w, rfl, r1⟩ := rel1 hd
    split at h
    · rename_i e
      obtain ⟨a, vs, en, rfl, ea, hv⟩ := hr.lst e hx
      exact mt_append pins s σ H _ _ v us Q I rx rs ⟨a, vs, w, rfl, rfl, ea, by rw [← hv.length]; exact h.1, wr en ea (hv.append (.cons r1 .nil)) to_non h.2⟩
    · exact h.elim
  · cases rel0 hd
    split at h
    · rename_i ds e
      obtain ⟨a, vs, en, rfl, ea, hv⟩ := hr.lst e hx
      split at h
      · rename_i d ed
        obtain ⟨w, ew, rw'⟩ := hv.get ed
        exact mt_pop pins s σ H _ _ v us Q I rx rs ⟨a, vs, w, rfl, rfl, ea, by rw [← hv.length]; exact ew, wr en ea (drop_rel hv) rw' h⟩
      · exact h.elim
    · exact h.elim
  · cases rel0 hd
    split at h
    · rename_i ds e
      obtain ⟨a, vs, en, rfl, ea, hv⟩ := hr.lst e hx
      exact mt_reverse pins s σ H _ _ v us Q I rx rs ⟨a, vs, rfl, rfl, ea, wr en ea hv.reverse to_non h⟩
    · exact h.elim
  · obtain ⟨w, rfl, r1⟩ := rel1 hd
    split at h
    · rename_i e1 e2
      obtain ⟨a, vs, en, rfl, ea, hv⟩ := hr.lst e1 hx
      obtain ⟨b, ws, eb, rfl, eb2, hw⟩ := hr.lst e2 r1
      exact mt_extend pins s σ H _ _ v us Q I rx rs ⟨a, b, vs, ws, rfl, rfl, ea, eb2, by rw [← hv.length, ← hw.length]; exact h.1, wr en ea (hv.append hw) to_non h.2⟩
    · exact h.elim
  · cases rel_str hx
    obtain ⟨w, rfl, r1⟩ := rel1 hd
    rename_i d
    split at h
    · rename_i es e
      split at h
      · rename_i ys e2
        unfold seqD at e
        split at e
        · cases e
          obtain ⟨a, vs, rfl, hq, hv⟩ := rel_tup r1
          have ev := strs_rel e2 hv
          subst ev
          exact mt_join pins s σ H _ _ v us Q I rx rs ⟨_, a, ys, rfl, rfl, .inr hq, h.1, k _ _ (.mk to_str hr h.2)⟩
        · split at e
          · rename_i e3
            cases e
            obtain ⟨a, vs, _, rfl, hq, hv⟩ := hr.sq (.inl e3) r1
            have ev := strs_rel e2 hv
            subst ev
            exact mt_join pins s σ H _ _ v us Q I rx rs ⟨_, a, ys, rfl, rfl, .inl hq, h.1, k _ _ (.mk to_str hr h.2)⟩
          · rename_i e3
            cases e
            obtain ⟨a, vs, _, rfl, hq, hv⟩ := hr.sq (.inr e3) r1
            have ev := strs_rel e2 hv
            subst ev
            exact mt_join pins s σ H _ _ v us Q I rx rs ⟨_, a, ys, rfl, rfl, .inl hq, h.1, k _ _ (.mk to_str hr h.2)⟩
          · cases e
        · cases e
      · exact h.elim
    · exact h.elim
  · cases rel_str hx
    obtain ⟨w, rfl, r1⟩ := rel1 hd
    cases rel_str r1
    exact mt_find pins s σ H _ _ v us Q I rx rs ⟨_, _, rfl, rfl, k _ _ (.mk to_int hr h)⟩
  · cases rel_str hx
    obtain ⟨w, w2, rfl, r1, r2⟩ := rel2 hd
    cases rel_str r1; cases rel_int r2
    exact mt_find3 pins s σ H _ _ v us Q I rx rs ⟨_, _, _, rfl, rfl, k _ _ (.mk to_int hr h)⟩
  · cases rel_str hx
    cases rel0 hd
    exact mt_upper pins s σ H _ _ v us Q I rx rs ⟨_, rfl, rfl, h.1, k _ _ (.mk to_str hr h.2)⟩
  · cases rel_str hx
    cases rel0 hd
    exact mt_isdigit pins s σ H _ _ v us Q I rx rs ⟨_, rfl, rfl, trivial, k _ _ (.mk to_bl hr h)⟩
  · cases rel_str hx
    obtain ⟨w, rfl, r1⟩ := rel1 hd
    cases rel_str r1
    exact mt_startswith pins s σ H _ _ v us Q I rx rs ⟨_, _, rfl, rfl, k _ _ (.mk to_bl hr h)⟩
  · cases rel_str hx
    obtain ⟨w, rfl, r1⟩ := rel1 hd
    cases rel_str r1
    refine mt_split pins s σ H _ _ v us Q I rx rs ⟨_, _, rfl, rfl, h.1, h.2.1, fun p hp => ?_⟩
    exact k _ _ (Up.list hr (rel_strs _) hp h.2.2)
  · exact h.elim
end
end Px
end TextPx7

section TextPx8
set_option autoImplicit false
set_option maxRecDepth 100000
set_option maxHeartbeats 2000000
/-! Px8: what is walked: lists, tuples, texts; enumerate and zip of these in any mix. -/
namespace Px
open PySem PySem.Spec PyProof.Rows L2

/-- a source of a walk -/
inductive Sr where
  | lst (a : Addr) | tup (a : Addr) | txt (x : Str) (t : Tok)
def Sr.val : Sr → Value
  | .lst a => .ref a | .tup a => .ref a | .txt x t => .str x t
def signs (x : Str) : List V := x.cps.toList.map fun c => .str ⟨#[c]⟩
def Sr.Hd (K : PySem.W.Frag) : Sr → List V → Hp → Prop
  | .lst a, xs, H => SqL K H a xs | .tup a, xs, H => SqT K H a xs | .txt x _, xs, _ => xs = signs x
def Sr.It (it : Addr) (i : Nat) (h : Heap) : Sr → Prop
  | .lst a => h.IsListIter it a i | .tup a => h.IsTupleIter it a i | .txt x t => h.IsStrIter it (strIterType x) x t i
def Sr.adr : Sr → List Addr
  | .lst a => [a] | .tup a => [a] | .txt _ _ => []
def Sr.obj : Sr → Obj
  | .lst a => { cls := .type "list_iterator", data := .fields #[.ref a, .int 0 0] }
  | .tup a => { cls := .type "tuple_iterator", data := .fields #[.ref a, .int 0 0] }
  | .txt x t => { cls := .type (strIterType x), data := .fields #[.str x t, .int 0 0] }
theorem Sr.free (r : Sr) : r.obj.isFreed = false := by cases r <;> rfl
theorem Sr.it_obj {r : Sr} {it : Addr} {i : Nat} {h : Heap} (x : Sr.It it i h r) : ∃ o, h.get? it = some o ∧ (∃ c, o.cls = .type c ∧ c ≠ "list" ∧ c ≠ "tuple" ∧ c ≠ "enumerate" ∧ c ≠ "zip") ∧ ∀ v, o.data ≠ .cell v := by
  cases r with
  | lst a => obtain ⟨o, h1, h2, h3⟩ := x; exact ⟨o, h1, ⟨_, h2, by decide, by decide, by decide, by decide⟩, fun v z => by rw [h3] at z; cases z⟩
  | tup a => obtain ⟨o, h1, h2, h3⟩ := x; exact ⟨o, h1, ⟨_, h2, by decide, by decide, by decide, by decide⟩, fun v z => by rw [h3] at z; cases z⟩
  | txt y t =>
    obtain ⟨o, h1, h2, h3⟩ := x
    refine ⟨o, h1, ⟨_, h2, ?_⟩, fun v z => by rw [h3] at z; cases z⟩
    unfold strIterType
    split <;> exact ⟨by decide, by decide, by decide, by decide⟩
theorem Sr.it_at {r : Sr} {it : Addr} {i : Nat} {h h' : Heap} (x : Sr.It it i h r) (k : ∀ o, h.get? it = some o → h'.get? it = some o) : Sr.It it i h' r := by
  cases r with
  | lst a => obtain ⟨o, h1, h2⟩ := x; exact ⟨o, k _ h1, h2⟩
  | tup a => obtain ⟨o, h1, h2⟩ := x; exact ⟨o, k _ h1, h2⟩
  | txt y t => obtain ⟨o, h1, h2⟩ := x; exact ⟨o, k _ h1, h2⟩
theorem Sr.start {r : Sr} {it : Addr} {h : Heap} (x : h.get? it = some r.obj) : Sr.It it 0 h r := by
  cases r <;> exact ⟨_, x, rfl, rfl⟩
section
variable {X : Cx} {pins : List (Addr × Obj)} {σ : L2.St} {H : Hp} {s : Shared}
/-- how it draws: the source's own cell may stand in its footprint -/
theorem Sr.draws {r : Sr} {xs : List V} {it : Addr} {j : Nat} (I : Inv X pins σ H s) (hd : r.Hd X.K xs H) (hi : Sr.It it j s.heap r) : ∃ (P : Nat → Value → Prop) (St : Nat → Heap → Prop),
    (∀ A : Around, A.handled = none → Draws X.prog X.w A it (it :: r.adr) xs.length P St) ∧ (∀ i, Sr.It it i s.heap r → St i s.heap) ∧ (∀ i h, St i h → Sr.It it i h r) ∧ (∀ i u, P i u → ∃ x, xs[i]? = some x ∧ RelV x u) := by
  obtain ⟨oi, ei, ⟨ci, ec, n1, n2, n3, n4⟩, _⟩ := Sr.it_obj hi
  cases r with
  | lst a =>
    obtain ⟨its, rv, p, hz⟩ := I.list hd
    have hne : a ≠ it := fun z => by
      obtain ⟨o, _, e, c, _, _⟩ := p
      rw [z, ei] at e; cases e
      rw [ec] at c; exact n1 (Value.type.inj c)
    refine ⟨fun i v => its.toArray[i]? = some v, fun i h => h.IsListIter it a i ∧ h.IsList a its.toArray, fun A hh => ?_, fun i h => ⟨h, p.isList⟩, fun i h x => x.1, fun i u hu => ?_⟩
    · have := Draws.list (prog := X.prog) (w := X.w) hh it a hne its.toArray
      rw [List.size_toArray, ← rv.length] at this
      exact this
    · have hu' : its[i]? = some u := by simpa using hu
      have hil : i < xs.length := by rw [rv.length]; exact (List.getElem?_eq_some_iff.mp hu').1
      obtain ⟨u', e1, r1⟩ := rv.get (List.getElem?_eq_getElem hil)
      rw [hu'] at e1; cases e1
      exact ⟨_, List.getElem?_eq_getElem hil, r1⟩
  | tup a =>
    obtain ⟨its, rv, p, hz⟩ := I.tuple hd
    have hne : a ≠ it := fun z => by
      obtain ⟨o, e, c, _⟩ := p
      rw [z, ei] at e; cases e
      rw [ec] at c; exact n2 (Value.type.inj c)
    refine ⟨fun i v => its.toArray[i]? = some v, fun i h => h.IsTupleIter it a i ∧ h.IsTuple a its.toArray, fun A hh => ?_, fun i h => ⟨h, p⟩, fun i h x => x.1, fun i u hu => ?_⟩
    · have := Draws.tuple (prog := X.prog) (w := X.w) hh it a hne its.toArray
      rw [List.size_toArray, ← rv.length] at this
      exact this
    · have hu' : its[i]? = some u := by simpa using hu
      have hil : i < xs.length := by rw [rv.length]; exact (List.getElem?_eq_some_iff.mp hu').1
      obtain ⟨u', e1, r1⟩ := rv.get (List.getElem?_eq_getElem hil)
      rw [hu'] at e1; cases e1
      exact ⟨_, List.getElem?_eq_getElem hil, r1⟩
  | txt y t =>
    cases (show xs = signs y from hd)
    refine ⟨fun i v => ∃ c u, y.cps[i]? = some c ∧ v = .str ⟨#[c]⟩ u, fun i h => h.IsStrIter it (strIterType y) y t i, fun A hh => ?_, fun i h => h, fun i h x => x, fun i u hu => ?_⟩
    · have := Draws.text (prog := X.prog) (w := X.w) hh it y t
      unfold signs
      rw [List.length_map, Array.length_toList]
      exact this
    · obtain ⟨c, u', hc, rfl⟩ := hu
      exact ⟨.str ⟨#[c]⟩, by unfold signs; rw [List.getElem?_map, Array.getElem?_toList, hc]; rfl, ⟨u', rfl⟩⟩
theorem Sr.begins {r : Sr} {xs : List V} (I : Inv X pins σ H s) (hd : r.Hd X.K xs H) : ∃ Hh : Heap → Prop, Begins r.val r.obj Hh ∧ Hh s.heap := by
  cases r with
  | lst a => obtain ⟨its, rv, p, hz⟩ := I.list hd; exact ⟨_, begins_list a its.toArray, p.isList⟩
  | tup a => obtain ⟨its, rv, p, hz⟩ := I.tuple hd; exact ⟨_, begins_tuple a its.toArray, p⟩
  | txt y t => exact ⟨_, begins_text y t, trivial⟩
theorem Sr.hd_inj {r : Sr} {xs ys : List V} (I : Inv X pins σ H s) (h : r.Hd X.K xs H) (h' : r.Hd X.K ys H) : xs = ys := by
  cases r with
  | lst a => exact I.list_inj h h'
  | tup a => exact I.tuple_inj h h'
  | txt y t => exact (show xs = signs y from h).trans (show ys = signs y from h').symm
end
/-- an element after another -/
def ItE (K : PySem.W.Frag) (r : Sr) : It :=
  ⟨fun i H => ∃ (xs : List V) (x : V), r.Hd K xs H ∧ xs[i]? = some x, fun i H v H' => ∃ T x, v = .ref T ∧ H T = none ∧ H' = upd H T (.tup [.int (i : Nat), x]) ∧ ∀ xs, r.Hd K xs H → xs[i]? = some x,
    fun i H => ∃ xs : List V, r.Hd K xs H ∧ xs.length = i⟩
def ItZ (K : PySem.W.Frag) (r q : Sr) : It :=
  ⟨fun i H => ∃ (xs ys : List V) (x y : V), r.Hd K xs H ∧ q.Hd K ys H ∧ xs[i]? = some x ∧ ys[i]? = some y,
    fun i H v H' => ∃ T x y, v = .ref T ∧ H T = none ∧ H' = upd H T (.tup [x, y]) ∧ (∀ xs, r.Hd K xs H → xs[i]? = some x) ∧ ∀ ys, q.Hd K ys H → ys[i]? = some y,
    fun i H => ∃ xs ys : List V, r.Hd K xs H ∧ q.Hd K ys H ∧ min xs.length ys.length = i⟩
theorem is_two {a b : Value} {x y : V} (h1 : RelV x a) (h2 : RelV y b) : Vals [x, y] [a, b] := .cons h1 (.cons h2 .nil)
/-- from the library's walk over pairs -/
theorem turn_pairs {P : Program} {w : World} {K : PySem.W.Frag} {elts : List Expr} {kk : Nat} {tpos : Pos} {J : It} {fp : List Addr} {it : Addr} {tn : Nat → Heap → Prop} (mem : it ∈ fp)
    (obj : ∀ i h, tn i h → ∀ b ∈ fp, ∃ o, h.get? b = some o ∧ ∀ v, o.data ≠ .cell v)
    (keep : ∀ i h h', tn i h → (∀ b ∈ fp, ∀ o, h.get? b = some o → h'.get? b = some o) → tn i h')
    (self : ∀ (A : Around) (i : Nat) (s : Shared) (Q : Value → Shared → Prop) (E : Value → Shared → Prop), tn i s.heap → Q (.ref it) s → wpAny (model P w) A (pyIter (.ref it)) Q E s)
    (go : ∀ (X : Cx), X.prog = P → X.w = w → X.K = K → X.calm = true → ∀ (i : Nat) (pins : List (Addr × Obj)) (s : Shared) (σ : L2.St) (H : Hp), Inv X pins σ H s → tn i s.heap → (J.go i H ∨ J.stop i H) →
      ∃ (fp' wr : List Addr) (n : Nat) (Pt : Nat → Array Value → Prop) (St : Nat → Heap → Prop) (Mid : Nat → Addr → Heap → Prop), WalksT P w X.A it fp' wr n Pt St Mid ∧ St i s.heap ∧ (∀ b ∈ wr, b ∈ fp) ∧ (∀ j h, St j h → tn j h) ∧
        (J.go i H → i < n ∧ ∀ vals, Pt i vals → ∃ x y, Vals [x, y] vals.toList ∧ ∀ T, H T = none → J.yld i H (.ref T) (upd H T (.tup [x, y]))) ∧ (J.stop i H → i = n)) :
    Turn P w K (.Tuple elts kk tpos) J fp it tn where
  mem := mem
  obj := obj
  keep := keep
  self := self
  item := by
    intro X hP hw hK hc i pins s σ H E I hf st hg
    obtain ⟨fp', wr, n, Pt, St, Mid, W, hs, hwr, back, hgo, _⟩ := go X hP hw hK hc i pins s σ H I st (.inl hg)
    obtain ⟨hi, hv⟩ := hgo hg
    subst hP hw hK
    refine W.item i s _ _ hi hs fun T vals h' tk hp hT hIs hm hk => ?_
    refine ⟨_, rfl, W.go elts kk tpos i T { s with heap := h', toks := tk } _ _ hm fun h'' hs' hk' => ?_⟩
    obtain ⟨x, y, rv, hy⟩ := hv vals hp
    have nT : T ∉ wr := W.apart i T h' hm
    have hT2 : IsTup h'' T vals := hIs.at fun o e => hk' T o nT e
    have new : ObjOk X.prog X.w (upd H T (.tup [x, y])) h'' T (.tup [x, y]) := by
      refine ⟨by show 2 ≤ sizeLine; decide, vals.toList, rv, ?_⟩
      simpa using hT2
    have I1 : Inv X pins σ (upd H T (.tup [x, y])) { s with heap := h'', toks := tk } :=
      I.turnedNew (ch := wr) (fun b ob hb q => hk' b ob hb (hk b ob hb q)) (fun b hb => hf b (hwr b hb)) hT new
    refine ⟨.ref T, _, I1, rfl, hy T (I.hok.fresh hT), back _ _ hs', fun b hb => ?_⟩
    obtain ⟨o, eo, _⟩ := obj i s.heap st b hb
    have hb' : b ≠ T := fun z => absurd (Nat.lt_of_lt_of_le (Heap.lt_size eo) (z ▸ hT)) (Nat.lt_irrefl _)
    rw [upd_ne hb']
    exact (hf b hb).1
  done := by
    intro X hP hw hK hc i pins s σ H E I hf st hg
    obtain ⟨fp', wr, n, Pt, St, Mid, W, hs, hwr, back, _, hst⟩ := go X hP hw hK hc i pins s σ H I st (.inr hg)
    have e := hst hg
    subst hP hw hK
    rw [e] at hs
    exact W.done s _ _ hs fun h' tk hk => ⟨rfl, I.turnedL (ch := wr) hk fun b hb => hf b (hwr b hb)⟩
theorem turn_enumA {P : Program} {w : World} {K : PySem.W.Frag} {elts : List Expr} {kk : Nat} {tpos : Pos} (r : Sr) (e it : Addr) (hne : e ≠ it) (hea : e ∉ r.adr) :
    Turn P w K (.Tuple elts kk tpos) (ItE K r) [e, it] e (fun i h => (∃ old, IsEnum h e it ((i : Nat) : Int) old) ∧ Sr.It it i h r) := by
  refine turn_pairs (by simp) (fun i h st b hb => ?_) (fun i h h' st k => ?_) (fun A i s Q E st h => let ⟨⟨_, he⟩, _⟩ := st; wpAny_pyIter_enum he h) fun X hP hw hK hc i pins s σ H I st hg => ?_
  · obtain ⟨⟨old, he⟩, hi⟩ := st
    rcases (by simpa using hb : b = e ∨ b = it) with z | z
    · rw [z]; exact ⟨_, he, fun v q => nomatch q⟩
    · obtain ⟨o, ho, _, hd⟩ := Sr.it_obj hi
      rw [z]; exact ⟨o, ho, hd⟩
  · obtain ⟨⟨old, he⟩, hi⟩ := st
    exact ⟨⟨old, k e (by simp) _ he⟩, Sr.it_at hi fun o q => k it (by simp) o q⟩
  · obtain ⟨⟨old, he⟩, hi⟩ := st
    obtain ⟨xs, hd⟩ : ∃ xs, r.Hd K xs H := by
      rcases hg with ⟨xs, _, h, _⟩ | ⟨xs, h, _⟩ <;> exact ⟨xs, h⟩
    subst hP hw hK
    obtain ⟨Pp, St, D, s1, s2, hp⟩ := Sr.draws I hd hi
    have hef : e ∉ it :: r.adr := fun z => (List.mem_cons.mp z).elim hne hea
    have W := WalksT.enumerateD (prog := X.prog) (w := X.w) (A := X.A) (D X.A.in1 (I.ok.hd hc)) e hne hef List.mem_cons_self
    refine ⟨_, _, _, _, _, _, W, ⟨⟨old, he⟩, s1 i hi⟩, fun b hb => hb, fun j h ⟨he', hs'⟩ => ⟨he', s2 j h hs'⟩, fun hgo => ?_, fun hst => ?_⟩
    · obtain ⟨ys, y, hy, ey⟩ := hgo
      have exy := Sr.hd_inj I hd hy
      subst exy
      refine ⟨(List.getElem?_eq_some_iff.mp ey).1, fun vals ⟨t, u, hu, ev⟩ => ?_⟩
      obtain ⟨x, ex, rx⟩ := hp i u hu
      rw [ey] at ex; cases ex
      subst ev
      exact ⟨.int i, y, is_two ⟨t, rfl⟩ rx, fun T hT => ⟨T, y, rfl, hT, rfl, fun zs hz => by rw [← Sr.hd_inj I hd hz]; exact ey⟩⟩
    · obtain ⟨ys, hy, el⟩ := hst
      rw [Sr.hd_inj I hd hy, el]
theorem turn_zipA {P : Program} {w : World} {K : PySem.W.Frag} {elts : List Expr} {kk : Nat} {tpos : Pos} (r q : Sr) {N : Addr} (h1 : ∀ b ∈ r.adr, b < N) (h2 : ∀ b ∈ q.adr, b < N) :
    Turn P w K (.Tuple elts kk tpos) (ItZ K r q) [N + 4, N + 2, N + 3, N, N + 1] (N + 4) (fun i h => IsZip h (N + 4) (N + 2) (N + 3) .none ∧ IsTupOf2 h (N + 2) (.ref N) (.ref (N + 1)) ∧ (∃ a1 a2, IsTupOf2 h (N + 3) a1 a2) ∧ Sr.It N i h r ∧ Sr.It (N + 1) i h q) := by
  refine turn_pairs (by simp) (fun i h st b hb => ?_) (fun i h h' st k => ?_) (fun A i s Q E st h => wpAny_pyIter_zip st.1 h) fun X hP hw hK hc i pins s σ H I st hg => ?_
  · obtain ⟨g1, g2, ⟨a1, a2, g3⟩, g4, g5⟩ := st
    rcases (by simpa using hb : b = N + 4 ∨ b = N + 2 ∨ b = N + 3 ∨ b = N ∨ b = N + 1) with e | e | e | e | e
    · rw [e]; exact ⟨_, g1, fun v q => nomatch q⟩
    · rw [e]; exact ⟨_, g2, fun v q => nomatch q⟩
    · rw [e]; exact ⟨_, g3, fun v q => nomatch q⟩
    · obtain ⟨o, ho, _, hd⟩ := Sr.it_obj g4
      rw [e]; exact ⟨o, ho, hd⟩
    · obtain ⟨o, ho, _, hd⟩ := Sr.it_obj g5
      rw [e]; exact ⟨o, ho, hd⟩
  · obtain ⟨g1, g2, ⟨a1, a2, g3⟩, g4, g5⟩ := st
    exact ⟨k (N + 4) (by simp) _ g1, k (N + 2) (by simp) _ g2, ⟨a1, a2, k (N + 3) (by simp) _ g3⟩, Sr.it_at g4 fun o e => k N (by simp) o e, Sr.it_at g5 fun o e => k (N + 1) (by simp) o e⟩
  · obtain ⟨g1, g2, g3, g4, g5⟩ := st
    obtain ⟨xs, ys, hx, hy⟩ : ∃ xs ys, r.Hd K xs H ∧ q.Hd K ys H := by
      rcases hg with ⟨xs, ys, _, _, h, h', _⟩ | ⟨xs, ys, h, h', _⟩ <;> exact ⟨xs, ys, h, h'⟩
    subst hP hw hK
    obtain ⟨P1, St1, D1, s1, b1, p1⟩ := Sr.draws I hx g4
    obtain ⟨P2, St2, D2, s2, b2, p2⟩ := Sr.draws I hy g5
    have hh := I.ok.hd hc
    have W := WalksT.zipD2 (prog := X.prog) (w := X.w) (A := X.A) (zip_sep2 h1 h2) (D1 X.A.in1 hh) (D2 X.A.in1 hh)
    refine ⟨_, _, _, _, _, _, W, ⟨g1, g2, g3, s1 i g4, s2 i g5⟩, fun b hb => ?_, fun j h ⟨x1, x2, x3, x4, x5⟩ => ⟨x1, x2, x3, b1 j h x4, b2 j h x5⟩, fun hgo => ?_, fun hst => ?_⟩
    · rcases (by simpa using hb : b = N + 4 ∨ b = N + 3 ∨ b = N ∨ b = N + 1) with e | e | e | e <;> simp [e]
    · obtain ⟨xs', ys', x, y, hx', hy', ex, ey⟩ := hgo
      have e1 := Sr.hd_inj I hx hx'
      have e2 := Sr.hd_inj I hy hy'
      subst e1 e2
      have l1 := (List.getElem?_eq_some_iff.mp ex).1
      have l2 := (List.getElem?_eq_some_iff.mp ey).1
      refine ⟨by omega, fun vals ⟨u1, u2, hu1, hu2, ev⟩ => ?_⟩
      obtain ⟨x', ex', rx⟩ := p1 i u1 hu1
      obtain ⟨y', ey', ry⟩ := p2 i u2 hu2
      rw [ex] at ex'; cases ex'
      rw [ey] at ey'; cases ey'
      subst ev
      exact ⟨x, y, is_two rx ry, fun T hT => ⟨T, x, y, rfl, hT, rfl, fun zs hz => by rw [← Sr.hd_inj I hx hz]; exact ex, fun zs hz => by rw [← Sr.hd_inj I hy hz]; exact ey⟩⟩
    · obtain ⟨xs', ys', hx', hy', el⟩ := hst
      rw [Sr.hd_inj I hx hx', Sr.hd_inj I hy hy', el]

/-! ### what a walk yields, over data -/
structure WalkD (K : PySem.W.Frag) (J : It) (μ0 : List Addr) (H0 : Hp) (wk : Wk) : Prop where
  go : ∀ (i : Nat) (μ : List Addr) (A : Ht) (H : Hp), i < wk.items.length → Stp μ0 H0 μ H → HR K μ A H → wk.ok A → J.go i H
  stop : ∀ (μ : List Addr) (A : Ht) (H : Hp), Stp μ0 H0 μ H → HR K μ A H → wk.ok A → J.stop wk.items.length H
  yld : ∀ (i : Nat) (μ : List Addr) (A : Ht) (H : Hp) (x : V) (H' : Hp), i < wk.items.length → Stp μ0 H0 μ H → HR K μ A H → wk.ok A → J.yld i H x H' →
    ∃ d, wk.items[i]? = some d ∧ RelD K μ H' d x ∧ Stp μ H μ H' ∧ HR K μ A H'
/-- what stands at a source -/
def SrD (K : PySem.W.Frag) (r : Sr) (μ0 : List Addr) (H0 : Hp) (wk : Wk) : Prop :=
  ∀ (μ : List Addr) (A : Ht) (H : Hp), Stp μ0 H0 μ H → HR K μ A H → wk.ok A → ∃ xs, r.Hd K xs H ∧ RelDs K μ H wk.items xs
theorem signs_rel {K : PySem.W.Frag} {μ : List Addr} {H : Hp} (x : Str) : RelDs K μ H (x.cps.toList.map fun c => D.str ⟨#[c]⟩) (signs x) := by
  unfold signs
  induction x.cps.toList with
  | nil => exact .nil
  | cons c r ih => exact .cons to_str ih
theorem src_of {K : PySem.W.Frag} {μ : List Addr} {A : Ht} {H : Hp} {d : D} {v : V} {u : Value} {k : Wk → Prop} (hr : HR K μ A H) (hv : RelD K μ H d v) (ru : RelV v u) (h : wkD d A k) :
    ∃ r wk, r.val = u ∧ SrD K r μ H wk ∧ wk.ok A ∧ (∀ a ∈ r.adr, (∃ o, H a = some o) ∨ (K.lookup a).isSome = true) ∧ k wk := by
  have adrL : ∀ {a : Addr} {vs : List V}, (SqL K H a vs ∨ SqT K H a vs) → (∃ o, H a = some o) ∨ (K.lookup a).isSome = true := fun {a vs} h => by
    rcases h with ((h | ⟨o, h⟩) | ⟨o, _, _, h, _⟩) | ((h | ⟨o, h⟩) | ⟨o, _, _, h, _⟩)
    · exact .inl ⟨_, h⟩
    · exact .inl ⟨_, h⟩
    · exact .inr (by rw [h]; rfl)
    · exact .inl ⟨_, h⟩
    · exact .inl ⟨_, h⟩
    · exact .inr (by rw [h]; rfl)
  unfold wkD at h
  split at h
  · obtain ⟨a, vs, rfl, hq, hvs⟩ := rel_tup hv
    cases ru
    exact ⟨.tup a, _, rfl, fun μ' A' H' s _ _ => ⟨vs, s.sqT hq, hvs.mono s _ _⟩, trivial, fun b hb => by rw [(by simpa [Sr.adr] using hb : b = a)]; exact adrL (.inr hq), h⟩
  · obtain ⟨a, vs, rfl, hq, hvs⟩ := rel_rol hv
    cases ru
    exact ⟨.lst a, _, rfl, fun μ' A' H' s _ _ => ⟨vs, (hq.fix s.fix).sq, hvs.mono s _ _⟩, trivial, fun b hb => by rw [(by simpa [Sr.adr] using hb : b = a)]; exact adrL (.inl hq.sq), h⟩
  · cases rel_str hv
    obtain ⟨t, rfl⟩ := ru
    exact ⟨.txt _ t, _, rfl, fun μ' A' H' s _ _ => ⟨_, rfl, signs_rel _⟩, trivial, fun b hb => by simp [Sr.adr] at hb, h⟩
  · split at h
    · rename_i n ds e
      obtain ⟨a, vs, en, rfl, ea, hvs⟩ := hr.lst e hv
      cases ru
      refine ⟨.lst a, _, rfl, fun μ' A' H' s hr' e' => ?_, e, fun b hb => by rw [(by simpa [Sr.adr] using hb : b = a)]; exact .inl ⟨_, ea⟩, h⟩
      obtain ⟨b, ws, eb, _, eb2, hw⟩ := hr'.lst e' (to_obj (pre_get s.pre en))
      rw [pre_get s.pre en] at eb; cases eb
      exact ⟨ws, .inl (.inl eb2), hw⟩
    · rename_i n ds e
      obtain ⟨a, vs, en, rfl, ⟨o, ea⟩, hvs⟩ := hr.ro e hv
      cases ru
      refine ⟨.lst a, _, rfl, fun μ' A' H' s hr' _ => ?_, trivial, fun b hb => by rw [(by simpa [Sr.adr] using hb : b = a)]; exact .inl ⟨_, ea⟩, h⟩
      exact ⟨vs, .inl (.inr ⟨o, s.fix _ _ ea trivial⟩), hvs.mono s _ _⟩
    · exact h.elim
  · exact h.elim
theorem walk_enumD {K : PySem.W.Frag} {r : Sr} {μ0 : List Addr} {H0 : Hp} {wk : Wk} (S : SrD K r μ0 H0 wk) :
    WalkD K (ItE K r) μ0 H0 ⟨wk.items.zipIdx.map fun p => .tup [.int (p.2 : Int), p.1], wk.ok⟩ := by
  have ln : (wk.items.zipIdx.map fun p => D.tup [.int (p.2 : Int), p.1]).length = wk.items.length := by simp
  refine ⟨fun i μ A H hi s hr ok => ?_, fun μ A H s hr ok => ?_, fun i μ A H x H' hi s hr ok hy => ?_⟩
  · obtain ⟨xs, h, r1⟩ := S μ A H s hr ok
    rw [ln] at hi
    obtain ⟨v, ev, _⟩ := r1.get (List.getElem?_eq_getElem hi)
    exact ⟨xs, v, h, ev⟩
  · obtain ⟨xs, h, r1⟩ := S μ A H s hr ok
    exact ⟨xs, h, by rw [ln]; exact r1.length.symm⟩
  · obtain ⟨xs, h, r1⟩ := S μ A H s hr ok
    obtain ⟨T, v, rfl, hT, rfl, hx⟩ := hy
    obtain ⟨d, ed, rd⟩ := r1.getV (hx xs h)
    have s1 : Stp μ H μ (upd H T (.tup [.int (i : Nat), v])) := stp_upd0 hT
    refine ⟨.tup [.int (i : Int), d], ?_, to_tup (.inl (.inl upd_same)) (.cons to_int (.cons (rd.mono s1 _ _) .nil)), s1, hr.tupd hT⟩
    rw [List.getElem?_map, List.getElem?_zipIdx, ed]
    simp
theorem walk_zipD {K : PySem.W.Frag} {r q : Sr} {μ0 : List Addr} {H0 : Hp} {wk wk2 : Wk} (S : SrD K r μ0 H0 wk) (S2 : SrD K q μ0 H0 wk2) :
    WalkD K (ItZ K r q) μ0 H0 ⟨(wk.items.zip wk2.items).map fun p => .tup [p.1, p.2], fun A' => wk.ok A' ∧ wk2.ok A'⟩ := by
  have ln : ((wk.items.zip wk2.items).map fun p => D.tup [p.1, p.2]).length = min wk.items.length wk2.items.length := by simp
  refine ⟨fun i μ A H hi s hr ok => ?_, fun μ A H s hr ok => ?_, fun i μ A H x H' hi s hr ok hy => ?_⟩
  · obtain ⟨xs, h, r1⟩ := S μ A H s hr ok.1
    obtain ⟨ys, h2, r2⟩ := S2 μ A H s hr ok.2
    rw [ln] at hi
    obtain ⟨v, ev, _⟩ := r1.get (List.getElem?_eq_getElem (by omega : i < wk.items.length))
    obtain ⟨v2, ev2, _⟩ := r2.get (List.getElem?_eq_getElem (by omega : i < wk2.items.length))
    exact ⟨xs, ys, v, v2, h, h2, ev, ev2⟩
  · obtain ⟨xs, h, r1⟩ := S μ A H s hr ok.1
    obtain ⟨ys, h2, r2⟩ := S2 μ A H s hr ok.2
    exact ⟨xs, ys, h, h2, by rw [ln, r1.length, r2.length]⟩
  · obtain ⟨xs, h, r1⟩ := S μ A H s hr ok.1
    obtain ⟨ys, h2, r2⟩ := S2 μ A H s hr ok.2
    obtain ⟨T, v, v2, rfl, hT, rfl, hx, hx2⟩ := hy
    obtain ⟨d, ed, rd⟩ := r1.getV (hx xs h)
    obtain ⟨d2, ed2, rd2⟩ := r2.getV (hx2 ys h2)
    have s1 : Stp μ H μ (upd H T (.tup [v, v2])) := stp_upd0 hT
    refine ⟨.tup [d, d2], ?_, to_tup (.inl (.inl upd_same)) (.cons (rd.mono s1 _ _) (.cons (rd2.mono s1 _ _) .nil)), s1, hr.tupd hT⟩
    rw [List.getElem?_map, List.zip_eq_zipWith, List.getElem?_zipWith, ed, ed2]
    rfl
/-- an element after another, plainly -/
def ItS (K : PySem.W.Frag) (r : Sr) : It := match r with
  | .lst a => Itl K a | .tup a => Itt K a | .txt x _ => Its x
theorem walk_seqD {K : PySem.W.Frag} {r : Sr} {μ0 : List Addr} {H0 : Hp} {wk : Wk} (S : SrD K r μ0 H0 wk) : WalkD K (ItS K r) μ0 H0 wk := by
  cases r with
  | lst a =>
    refine ⟨fun i μ A H hi s hr ok => ?_, fun μ A H s hr ok => ?_, fun i μ A H x H' hi s hr ok hy => ?_⟩
    · obtain ⟨xs, h, r1⟩ := S μ A H s hr ok
      obtain ⟨v, ev, _⟩ := r1.get (List.getElem?_eq_getElem hi)
      exact ⟨xs, v, h, ev⟩
    · obtain ⟨xs, h, r1⟩ := S μ A H s hr ok
      exact ⟨xs, h, Nat.le_of_eq r1.length.symm⟩
    · obtain ⟨xs, h, r1⟩ := S μ A H s hr ok
      obtain ⟨rfl, hx⟩ := hy
      obtain ⟨d, ed, rd⟩ := r1.getV (hx xs h)
      exact ⟨d, ed, rd, .refl, hr⟩
  | tup a =>
    refine ⟨fun i μ A H hi s hr ok => ?_, fun μ A H s hr ok => ?_, fun i μ A H x H' hi s hr ok hy => ?_⟩
    · obtain ⟨xs, h, r1⟩ := S μ A H s hr ok
      obtain ⟨v, ev, _⟩ := r1.get (List.getElem?_eq_getElem hi)
      exact ⟨xs, v, h, ev⟩
    · obtain ⟨xs, h, r1⟩ := S μ A H s hr ok
      exact ⟨xs, h, Nat.le_of_eq r1.length.symm⟩
    · obtain ⟨xs, h, r1⟩ := S μ A H s hr ok
      obtain ⟨rfl, hx⟩ := hy
      obtain ⟨d, ed, rd⟩ := r1.getV (hx xs h)
      exact ⟨d, ed, rd, .refl, hr⟩
  | txt y t =>
    have wkt := walk_str (z := y)
    refine ⟨fun i μ A H hi s hr ok => ?_, fun μ A H s hr ok => ?_, fun i μ A H x H' hi s hr ok hy => ?_⟩
    · obtain ⟨xs, h, r1⟩ := S μ A H s hr ok
      cases (show xs = signs y from h)
      have l := r1.length
      unfold signs at l
      rw [List.length_map, Array.length_toList] at l
      exact wkt.goes i H (by omega) trivial
    · obtain ⟨xs, h, r1⟩ := S μ A H s hr ok
      cases (show xs = signs y from h)
      have l := r1.length
      unfold signs at l
      rw [List.length_map, Array.length_toList] at l
      rw [l]
      exact wkt.stops H trivial
    · obtain ⟨xs, h, r1⟩ := S μ A H s hr ok
      cases (show xs = signs y from h)
      have l := r1.length
      unfold signs at l
      rw [List.length_map, Array.length_toList] at l
      obtain ⟨rfl, c, hc, rfl⟩ := wkt.yields i H x H' (by omega) trivial hy
      obtain ⟨d, ed, rd⟩ := r1.getV (i := i) (v := .str ⟨#[c]⟩) (by unfold signs; rw [List.getElem?_map, Array.getElem?_toList, hc]; rfl)
      exact ⟨d, ed, rd, .refl, hr⟩
theorem walk_rngD {K : PySem.W.Frag} {μ0 : List Addr} {H0 : Hp} (lo : Int) (n : Nat) : WalkD K (Itr lo n) μ0 H0 ⟨rngD lo n, fun _ => True⟩ := by
  have ln : (rngD lo n).length = n := by simp [rngD]
  refine ⟨fun i μ A H hi s hr ok => ?_, fun μ A H s hr ok => ?_, fun i μ A H x H' hi s hr ok hy => ?_⟩
  · show i < n
    have hi' : i < (rngD lo n).length := hi
    omega
  · show n ≤ (rngD lo n).length
    omega
  · obtain ⟨rfl, rfl⟩ := hy
    have hi' : i < (rngD lo n).length := hi
    refine ⟨.int (lo + i), ?_, to_int, .refl, hr⟩
    show (rngD lo n)[i]? = _
    unfold rngD
    rw [List.getElem?_map, List.getElem?_range (by omega)]
    rfl
end Px
end TextPx8

section TextPx9
set_option autoImplicit false
set_option maxRecDepth 100000
set_option maxHeartbeats 2000000
/-! Px9: walks begun, loops, comprehensions. -/
namespace Px
open PySem PySem.Spec PyProof.Rows L2
abbrev WIt := Rho → Ht → (D → Ht → Prop) → (Wk → Ht → Prop) → Prop
section
variable (K : PySem.W.Frag) (T : Tab) (hx : HX) (W : WX)
def tDI (w : WIt) : TI := fun σ H R => ∃ μ ρ A E Q', Pk K T hx W μ ρ A E σ H ∧ w ρ A E Q' ∧ ∀ J H' μ' wk A', Stp μ H μ' H' → HR K μ' A' H' → WalkD K J μ' H' wk → Q' wk A' → R J H'
end
section
variable {X : Cx} {T : Tab} {hx : HX} {W : WX}
theorem PI.weaken {tg iter : Expr} {t t' : TI} (h : PI X tg iter t) (k : ∀ σ H R, t' σ H R → t σ H R) : PI X tg iter t' := ⟨fun pins s σ H R I q => h.run pins s σ H R I (k σ H R q)⟩
/-- for x in e, e a list, a tuple, a text -/
theorem pi_seqX {tg e : Expr} {we : WE} (he : PE X e (tDE X.K T hx W we)) : PI X tg e (tDI X.K T hx W fun ρ A E Q => we ρ A E fun d A1 => wkD d A1 fun w => Q w A1) := by
  refine ⟨fun pins s σ H R I h => ?_⟩
  obtain ⟨μ, ρ, A, E, Q', p, h, fin⟩ := h
  refine thn (he.run pins s σ H _ I (tDE.go (R := fun v H1 => ∃ μ1 A1 d, Stp μ H μ1 H1 ∧ HR X.K μ1 A1 H1 ∧ RelD X.K μ1 H1 d v ∧ wkD d A1 fun w => Q' w A1) p h fun v H1 μ1 d A1 s1 r p1 q => ⟨μ1, A1, d, s1, p1.h, r, q⟩)) fun u s1 ⟨v, H1, I1, ru, μ1, A1, d, st1, hr, rd, q⟩ => ?_
  obtain ⟨r, wk, ev, S, ok, _, q⟩ := src_of hr rd ru q
  have wd := walk_seqD S
  have hR : ∀ H', H' = H1 → R (ItS X.K r) H' := fun H' e => by rw [e]; exact fin _ _ μ1 wk A1 st1 hr wd q
  obtain ⟨xs, hd, _⟩ := S μ1 A1 H1 .refl hr ok
  subst ev
  have fresh : ∀ b ∈ [s1.heap.objs.size], FpOk X pins H1 b := fun b hb => by
    have e : b = s1.heap.objs.size := by simpa using hb
    subst e
    exact I1.fpOk (Nat.le_refl _) (I1.hok.fresh (Nat.le_refl _))
  cases r with
  | lst a =>
    obtain ⟨its, rv, p', hz⟩ := I1.list hd
    exact wpAny_pyIter_list p'.isList ⟨s1.heap.objs.size, [s1.heap.objs.size], _, _, H1, rfl, I1.kept (t' := s1.toks) fun b o e => Heap.get?_push_of_some _ e, turn_list a _, ⟨_, Heap.get?_push_size _ rfl, rfl, rfl⟩, fresh, hR _ rfl⟩
  | tup a =>
    obtain ⟨its, rv, p', hz⟩ := I1.tuple hd
    exact wpAny_pyIter_tuple (show s1.heap.IsTuple a its.toArray from p') ⟨s1.heap.objs.size, [s1.heap.objs.size], _, _, H1, rfl, I1.kept (t' := s1.toks) fun b o e => Heap.get?_push_of_some _ e, turn_tuple a _, ⟨_, Heap.get?_push_size _ rfl, rfl, rfl⟩, fresh, hR _ rfl⟩
  | txt x t =>
    cases ha : x.cps.all (· < 128)
    · exact wpAny_pyIter_wide ha (pi_one (tk := s1.toks) I1 _ (turn_str _ x t "str_iterator" (.inr rfl)) ⟨_, Heap.get?_push_size _ rfl, rfl, rfl⟩ (hR _ rfl))
    · exact wpAny_pyIter_ascii ha (pi_one (tk := s1.toks) I1 _ (turn_str _ x t "str_ascii_iterator" (.inl rfl)) ⟨_, Heap.get?_push_size _ rfl, rfl, rfl⟩ (hR _ rfl))
/-- the cells of a source are old -/
theorem adr_lt {pins : List (Addr × Obj)} {σ : L2.St} {H : Hp} {s : Shared} (I : Inv X pins σ H s) {a : Addr} (h : (∃ o, H a = some o) ∨ (X.K.lookup a).isSome = true) : a < s.heap.objs.size := by
  rcases h with ⟨o, h⟩ | h
  · exact I.hok.lt h
  · obtain ⟨o, e⟩ := Option.isSome_iff_exists.mp h
    exact Heap.lt_size (I.kIn a o e)
end
set_option maxHeartbeats 1000000 in
theorem meets_enumerate_new1 {v : Value} {o : Obj} {H : Heap → Prop} (B : Begins v o H) :
    Meets (Builtin.«enumerate.__new__» ⟨[.type "enumerate", v], []⟩) (fun _ R s => H s.heap ∧
      R (.ok (.ret (.ref (s.heap.push o).objs.size))) { s with heap := (s.heap.push o).push { cls := .type "enumerate", data := .fields #[.none, .bool false, .ref s.heap.objs.size, rawInt 0, .none, .none] } }) :=
  .of_wp fun prog w A R s h => by
    obtain ⟨hp, g, d, tk, os⟩ := s; obtain ⟨h1, h⟩ := h
    have hsub := sub_enumerate
    have q1 : ∀ {A' : Around} {E : Value → Shared → Prop} {Q : Value → Shared → Prop}, Q (.ref hp.objs.size) ⟨hp.push o, g, d, tk, os⟩ → wpAny (model prog w) A' (pyIter v) Q E ⟨hp, g, d, tk, os⟩ :=
      fun q => B.iter prog w _ _ ⟨hp, g, d, tk, os⟩ _ h1 q
    wp_walk using q1
    first
      | exact ⟨_, rfl, h⟩
      | (refine wpAny_stack_any fun st => wpAny_pure ?_
         split
         · rename_i c _ _ _ _ _
           cases (c == Value.type "enumerate")
           · wp_walk using q1
             exact ⟨_, rfl, h⟩
           · wp_walk using q1
             exact ⟨_, rfl, h⟩
         · wp_walk using q1
           exact ⟨_, rfl, h⟩)
section
variable {X : Cx} {T : Tab} {hx : HX} {W : WX}
/-- enumerate(v) of anything that begins -/
theorem call_enumerate_any {prog : Program} {w : World} {A : Around} {E : Value → Shared → Prop} {s : Shared} {v : Value} {o : Obj} {Hh : Heap → Prop} {Q : Value → Shared → Prop} (B : Begins v o Hh) (h1 : Hh s.heap)
    (h : ∀ h', IsEnum h' (s.heap.objs.size + 1) s.heap.objs.size 0 .none → h'.get? s.heap.objs.size = some o → h'.objs.size = s.heap.objs.size + 2 → (∀ b o, s.heap.get? b = some o → h'.get? b = some o) → Q (.ref (s.heap.objs.size + 1)) { s with heap := h' }) :
    wpAny (model prog w) A (call (.type "enumerate") [v]) Q E s := by
  refine callType_new F.called_enumerate (by decide) (F.typeCall_enumerate_1 _) (F.newCall_enumerate_1 _) (fun obj => F.args_object_init_2 obj _) F.entry_enumerate_new
    (meets_enumerate_new1 B) ⟨h1, ?_⟩
  have hz : (s.heap.push o).objs.size = s.heap.objs.size + 1 := Heap.size_push ..
  show _ ∧ _
  rw [hz]
  have he : IsEnum ((s.heap.push o).push { cls := .type "enumerate", data := .fields #[.none, .bool false, .ref s.heap.objs.size, rawInt 0, .none, .none] }) (s.heap.objs.size + 1) s.heap.objs.size 0 .none := by
    have := Heap.get?_push_size (s.heap.push o) (o := { cls := .type "enumerate", data := .fields #[.none, .bool false, .ref s.heap.objs.size, rawInt 0, .none, .none] }) rfl
    rw [hz] at this; exact this
  exact ⟨⟨_, he, rfl⟩, h _ he (Heap.get?_push_of_some _ (Heap.get?_push_size _ B.free)) (by rw [Heap.size_push, hz]) fun b o x => Heap.get?_push_of_some _ (Heap.get?_push_of_some _ x)⟩
/-- for i, x in enumerate(e) -/
theorem pi_enumX {e : Expr} {we : WE} {p pos tpos : Pos} {elts : List Expr} {kk : Nat} (hg : Gl X "enumerate") (hm : X.mg "enumerate" = none) (he : PE X e (tDE X.K T hx W we)) (hs : starEach [e] X.env = (false, eval e X.env) :: starEach [] X.env) :
    PI X (.Tuple elts kk tpos) (.Call (.Name "enumerate" p) [e] [] pos) (tDI X.K T hx W fun ρ A E Q => we ρ A E fun d A1 => wkD d A1 fun w => Q ⟨w.items.zipIdx.map fun p => .tup [.int (p.2 : Int), p.1], w.ok⟩ A1) := by
  refine ⟨fun pins s σ H R I h => ?_⟩
  obtain ⟨μ, ρ, A, E, Q', p, h, fin⟩ := h
  have hA := (pa_cons he pa_nil hs).run pos pins s σ H (fun vs H1 => ∃ v, vs = [v] ∧ ∃ μ1 A1 d, Stp μ H μ1 H1 ∧ HR X.K μ1 A1 H1 ∧ RelD X.K μ1 H1 d v ∧ wkD d A1 fun w => Q' ⟨w.items.zipIdx.map fun p => .tup [.int (p.2 : Int), p.1], w.ok⟩ A1) I
    (tDE.go p h fun v H1 μ1 d A1 s1 r p1 q => ⟨v, rfl, μ1, A1, d, s1, p1.h, r, q⟩)
  refine Call_ (ld_blt I hg hm boot_enumerate (PyProof.Rows.callWith_type1 (thn hA fun us s1 ⟨vs, H1, I1, r1, v, ev, μ1, A1, d, st1, hr, rd, q⟩ => ?_) hs rfl))
  subst ev
  obtain ⟨u, rfl, ru⟩ := Vals.one r1
  obtain ⟨r, wk, eu, S, ok, hadr, q⟩ := src_of hr rd ru q
  subst eu
  obtain ⟨xs, hd, _⟩ := S μ1 A1 H1 .refl hr ok
  obtain ⟨Hh, B, hB⟩ := Sr.begins I1 hd
  refine call_enumerate_any B hB fun h' he' hit hsz hk => wpAny_pyIter_enum he' ?_
  have I2 : Inv X pins σ H1 { s1 with heap := h' } := I1.kept (t' := s1.toks) hk
  have hne : s1.heap.objs.size + 1 ≠ s1.heap.objs.size := Nat.succ_ne_self _
  have hea : s1.heap.objs.size + 1 ∉ r.adr := fun z => by
    exact absurd (adr_lt I1 (hadr _ z)) (Nat.not_lt.mpr (Nat.le_add_right _ _))
  refine ⟨s1.heap.objs.size + 1, [s1.heap.objs.size + 1, s1.heap.objs.size], _, _, H1, rfl, I2, turn_enumA r _ _ hne hea, ⟨⟨.none, he'⟩, Sr.start hit⟩, fun b hb => ?_, fin _ _ μ1 _ A1 st1 hr (walk_enumD S) q⟩
  have hle : s1.heap.objs.size ≤ b := by
    rcases (by simpa using hb : b = s1.heap.objs.size + 1 ∨ b = s1.heap.objs.size) with z | z
    · rw [z]; exact Nat.le_add_right _ _
    · rw [z]; exact Nat.le_refl _
  exact I1.fpOk hle (I1.hok.fresh hle)
/-- for x, y in zip(a, b) -/
theorem pi_zipX {a b : Expr} {wa wb : WE} {p pos tpos : Pos} {elts : List Expr} {kk : Nat} (hg : Gl X "zip") (hm : X.mg "zip" = none) (ha : PE X a (tDE X.K T hx W wa)) (hb : PE X b (tDE X.K T hx W wb))
    (hs : starEach [a, b] X.env = (false, eval a X.env) :: starEach [b] X.env) (hs2 : starEach [b] X.env = (false, eval b X.env) :: starEach [] X.env) :
    PI X (.Tuple elts kk tpos) (.Call (.Name "zip" p) [a, b] [] pos) (tDI X.K T hx W fun ρ A E Q => wa ρ A E fun d A1 => wb ρ A1 E fun e A2 => wkD d A2 fun w => wkD e A2 fun v =>
      Q ⟨(w.items.zip v.items).map fun p => .tup [p.1, p.2], fun A' => w.ok A' ∧ v.ok A'⟩ A2) := by
  refine ⟨fun pins s σ H R I h => ?_⟩
  obtain ⟨μ, ρ, A, E, Q', p, h, fin⟩ := h
  have hA := (pa_cons ha (pa_cons hb pa_nil hs2) hs).run pos pins s σ H (fun vs H1 => ∃ v u, vs = [v, u] ∧ ∃ μ1 A1 d e, Stp μ H μ1 H1 ∧ HR X.K μ1 A1 H1 ∧ RelD X.K μ1 H1 d v ∧ RelD X.K μ1 H1 e u ∧ wkD d A1 fun w => wkD e A1 fun v => Q' ⟨(w.items.zip v.items).map fun p => .tup [p.1, p.2], fun A' => w.ok A' ∧ v.ok A'⟩ A1) I
    (tDE.go p h fun v H1 μ1 d A1 s1 r p1 q => tDE.go p1 q fun u H2 μ2 e A2 s2 r2 p2 q2 => ⟨v, u, rfl, μ2, A2, d, e, s1.trans s2, p2.h, r.mono s2 _ _, r2, q2⟩)
  refine Call_ (ld_blt I hg hm (show bootBuiltins "zip" = some (.type "zip") from by decide +kernel) (PyProof.Rows.callWith_type1 (thn hA fun us s1 ⟨vs, H1, I1, r1, v, u, ev, μ1, A1, d, e, st1, hr, rd, re, q⟩ => ?_) (by rw [hs]) (by rw [hs2]; rfl)))
  subst ev
  obtain ⟨v1, v2, rfl, rv1, rv2⟩ := Vals.two r1
  obtain ⟨r, wk, e1, S, ok, adr1, q⟩ := src_of hr rd rv1 q
  obtain ⟨r', wk2, e2, S2, ok2, adr2, q⟩ := src_of hr re rv2 q
  subst e1 e2
  obtain ⟨xs, hd, _⟩ := S μ1 A1 H1 .refl hr ok
  obtain ⟨ys, hd2, _⟩ := S2 μ1 A1 H1 .refl hr ok2
  obtain ⟨Hh, B, hB⟩ := Sr.begins I1 hd
  obtain ⟨Hh2, B2, hB2⟩ := Sr.begins I1 hd2
  refine zip_begins2 B B2 hB hB2 fun h' hz hT hO g1 g2 hsz hk => wpAny_pyIter_zip hz ?_
  have I2 : Inv X pins σ H1 { s1 with heap := h' } := I1.kept (t' := s1.toks) hk
  refine ⟨s1.heap.objs.size + 4, _, _, _, H1, rfl, I2, turn_zipA (N := s1.heap.objs.size) r r' (fun b hb => adr_lt I1 (adr1 b hb)) (fun b hb => adr_lt I1 (adr2 b hb)), ⟨hz, hT, ⟨_, _, hO⟩, Sr.start g1, Sr.start g2⟩, fun b hb => ?_, fin _ _ μ1 _ A1 st1 hr (walk_zipD S S2) q⟩
  have hle : s1.heap.objs.size ≤ b := by
    rcases (by simpa using hb : b = s1.heap.objs.size + 4 ∨ b = s1.heap.objs.size + 2 ∨ b = s1.heap.objs.size + 3 ∨ b = s1.heap.objs.size ∨ b = s1.heap.objs.size + 1) with z | z | z | z | z <;> (rw [z]; first | exact Nat.le_add_right _ _ | exact Nat.le_refl _)
  exact I1.fpOk hle (I1.hok.fresh hle)
theorem pi_rng1X {tg a : Expr} {wa : WE} {p pos : Pos} (hg : Gl X "range") (hm : X.mg "range" = none) (ha : PE X a (tDE X.K T hx W wa)) (hs : starEach [a] X.env = (false, eval a X.env) :: starEach [] X.env) :
    PI X tg (.Call (.Name "range" p) [a] [] pos) (tDI X.K T hx W fun ρ A E Q => wa ρ A E fun d A1 => match d with
      | .int j => -(2 ^ 62) ≤ j ∧ j < 2 ^ 62 ∧ Q ⟨rngD 0 j.toNat, fun _ => True⟩ A1
      | _ => False) := by
  refine PI.weaken (pi_range1 hg hm (pa_cons ha pa_nil hs) hs) fun σ H R h => ?_
  obtain ⟨μ, ρ, A, E, Q', p, h, fin⟩ := h
  refine tDE.go p h fun v H1 μ1 d A1 s1 r p1 q => ?_
  split at q
  · cases rel_int r
    exact ⟨_, rfl, q.1, q.2.1, fin _ _ μ1 _ A1 s1 p1.h (walk_rngD _ _) q.2.2⟩
  · exact q.elim
theorem pi_rng2X {tg a b : Expr} {wa wb : WE} {p pos : Pos} (hg : Gl X "range") (hm : X.mg "range" = none) (ha : PE X a (tDE X.K T hx W wa)) (hb : PE X b (tDE X.K T hx W wb))
    (hs : starEach [a, b] X.env = (false, eval a X.env) :: starEach [b] X.env) (hs2 : starEach [b] X.env = (false, eval b X.env) :: starEach [] X.env) :
    PI X tg (.Call (.Name "range" p) [a, b] [] pos) (tDI X.K T hx W fun ρ A E Q => wa ρ A E fun d A1 => wb ρ A1 E fun e A2 => match d, e with
      | .int i, .int j => (-(2 ^ 62) ≤ i ∧ i < 2 ^ 62 ∧ -(2 ^ 62) ≤ j ∧ j < 2 ^ 62) ∧ Q ⟨rngD i (j - i).toNat, fun _ => True⟩ A2
      | _, _ => False) := by
  refine PI.weaken (pi_range2 hg hm (pa_cons ha (pa_cons hb pa_nil hs2) hs) (by rw [hs, hs2]; rfl) (by rw [hs2]; rfl)) fun σ H R h => ?_
  obtain ⟨μ, ρ, A, E, Q', p, h, fin⟩ := h
  refine tDE.go p h fun v H1 μ1 d A1 s1 r p1 q => tDE.go p1 q fun u H2 μ2 e A2 s2 r2 p2 q2 => ?_
  split at q2
  · cases rel_int r; cases rel_int r2
    exact ⟨_, _, rfl, q2.1, fin _ _ μ2 _ A2 (s1.trans s2) p2.h (walk_rngD _ _) q2.2⟩
  · exact q2.elim

/-! ### targets -/
mutual
def tgSlots : Tg → List Nat
  | .name i => [i] | .tup gs => tgsSlots gs
def tgsSlots : Tgs → List Nat
  | .nil => [] | .cons g gs => tgSlots g ++ tgsSlots gs
end
/-- only the slots of l differ -/
def Only (l : List Nat) (σ σ' : L2.St) : Prop := σ'.length = σ.length ∧ ∀ i, i ∉ l → σ'[i]? = σ[i]?
def gD (K : PySem.W.Frag) (hx : HX) (g : Tg) : TG := fun v σ H Q => ∃ μ ρ d ρ', RelS K hx μ H ρ σ ∧ RelD K μ H d v ∧ bindT g d ρ = some ρ' ∧ ∀ σ', RelS K hx μ H ρ' σ' → Only (tgSlots g) σ σ' → Q σ' H
def gDs (K : PySem.W.Frag) (hx : HX) (gs : Tgs) : TGs := fun vs σ H Q => ∃ μ ρ ds ρ', RelS K hx μ H ρ σ ∧ RelDs K μ H ds vs ∧ bindTs gs ds ρ = some ρ' ∧ ∀ σ', RelS K hx μ H ρ' σ' → Only (tgsSlots gs) σ σ' → Q σ' H
theorem PG.weaken {tg : Expr} {t t' : TG} (h : PG X tg t) (k : ∀ v σ H Q, t' v σ H Q → t v σ H Q) : PG X tg t' := ⟨fun pins s σ H v u Q I r q => h.run pins s σ H v u Q I r (k v σ H Q q)⟩
theorem PGs.weaken {tg : List Expr} {t t' : TGs} (h : PGs X tg t) (k : ∀ v σ H Q, t' v σ H Q → t v σ H Q) : PGs X tg t' := ⟨fun pins s σ H v u Q I r q => h.run pins s σ H v u Q I r (k v σ H Q q)⟩
theorem pg_nameX {i : Nat} {x : Str} {pos : Pos} (hN : X.N.Nodup) (hi : X.N[i]? = some x) (hl : Loc X.env.scope x) (hf : X.fn x = true ∨ X.env.scope.names.lookup x = some .local) : PG X (.Name x pos) (gD X.K hx (.name i)) :=
  PG.weaken (pg_name hN hi hl hf) fun v σ H Q ⟨μ, ρ, d, ρ', rs, rd, e, k⟩ => by
    simp only [bindT, Option.some.injEq] at e
    subst e
    exact k _ (rs.set i rd) ⟨by simp, fun j hj => by rw [List.getElem?_set_ne (fun z => hj (by simp [tgSlots, z]))]⟩
theorem pgs_nilX : PGs X [] (gDs X.K hx .nil) :=
  PGs.weaken pgs_nil fun vs σ H Q ⟨μ, ρ, ds, ρ', rs, rd, e, k⟩ => by
    cases ds with
    | nil =>
      simp only [bindTs, Option.some.injEq] at e
      subst e
      exact ⟨RelDs.nil_iff.mp rd, k _ rs ⟨rfl, fun _ _ => rfl⟩⟩
    | cons d r => simp [bindTs] at e
theorem pgs_consX {e : Expr} {es : List Expr} {g : Tg} {gs : Tgs} (h1 : PG X e (gD X.K hx g)) (h2 : PGs X es (gDs X.K hx gs)) (hs : (assignEach (e :: es) X.env).map (·.2) = assign e X.env :: (assignEach es X.env).map (·.2)) : PGs X (e :: es) (gDs X.K hx (.cons g gs)) :=
  PGs.weaken (pgs_cons h1 h2 hs) fun vs σ H Q ⟨μ, ρ, ds, ρ', rs, rd, e, k⟩ => by
    cases ds with
    | nil => simp [bindTs] at e
    | cons d r =>
      obtain ⟨v, t, rfl, r1, r2⟩ := RelDs.cons_iff.mp rd
      simp only [bindTs, Option.bind_eq_some_iff] at e
      obtain ⟨ρ1, e1, e2⟩ := e
      exact ⟨v, t, rfl, μ, ρ, d, ρ1, rs, r1, e1, fun σ1 rs1 o1 => ⟨μ, ρ1, r, ρ', rs1, r2, e2, fun σ2 rs2 o2 => k σ2 rs2 ⟨o2.1.trans o1.1, fun i hi => (o2.2 i fun z => hi (by simp [tgsSlots, z])).trans (o1.2 i fun z => hi (by simp [tgsSlots, z]))⟩⟩⟩
def tgsLen : Tgs → Nat
  | .nil => 0
  | .cons _ r => tgsLen r + 1
theorem bindTs_len : ∀ {gs : Tgs} {ds : List D} {ρ ρ' : Rho}, bindTs gs ds ρ = some ρ' → ds.length = tgsLen gs
  | .nil, [], _, _, _ => rfl
  | .nil, d :: r, _, _, e => by simp [bindTs] at e
  | .cons g gs, [], _, _, e => by simp [bindTs] at e
  | .cons g gs, d :: r, ρ, ρ', e => by
    simp only [bindTs, Option.bind_eq_some_iff] at e
    obtain ⟨ρ1, e1, e2⟩ := e
    rw [List.length_cons, bindTs_len e2]; rfl
theorem pg_tupX {es : List Expr} {k : Nat} {pos : Pos} {gs : Tgs} (hc : X.calm = true) (h : PGs X es (gDs X.K hx gs)) (hn : (assignEach es X.env).length = tgsLen gs) (hst : (assignEach es X.env).findIdx? (·.1) = none) : PG X (.Tuple es k pos) (gD X.K hx (.tup gs)) :=
  PG.weaken (pg_tup hc h hn hst) fun v σ H Q ⟨μ, ρ, d, ρ', rs, rd, e, kk⟩ => by
    cases d with
    | tup ds =>
      obtain ⟨a, vs, rfl, hq, hv⟩ := rel_tup rd
      simp only [bindT] at e
      exact ⟨a, vs, rfl, hq, by rw [← hv.length]; exact bindTs_len e, μ, ρ, ds, ρ', rs, hv, e, kk⟩
    | _ => simp [bindT] at e

/-! ### comprehensions -/
theorem wipe_rel {K : PySem.W.Frag} {μ : List Addr} {H : Hp} {ρ : Rho} {σ : L2.St} (r : RelS K hx μ H ρ σ) : ∀ ws : List Nat, RelS K hx μ H (wipeD ρ ws) (wipe σ ws)
  | [] => r
  | v :: vs => (wipe_rel r vs).forget v
theorem wipe_out' {σ : L2.St} {i : Nat} : ∀ {vs : List Nat}, i ∉ vs → (wipe σ vs)[i]? = σ[i]?
  | [], _ => rfl
  | v :: vs, h => by
    unfold wipe
    rw [List.getElem?_set_ne (fun z => h (by simp [z]))]
    exact wipe_out' fun z => h (by simp [z])
theorem wipe_in {σ : L2.St} {i : Nat} : ∀ {vs : List Nat}, i ∈ vs → i < σ.length → (wipe σ vs)[i]? = some none
  | [], h, _ => by simp at h
  | v :: vs, h, hl => by
    unfold wipe
    by_cases e : v = i
    · subst e
      rw [List.getElem?_set_self (by rw [wipe_length]; exact hl)]
    · rw [List.getElem?_set_ne e]
      exact wipe_in ((List.mem_cons.mp h).resolve_left fun z => e z.symm) hl
theorem wipe_only {σ σ2 : L2.St} {vs l : List Nat} (o : Only l (wipe σ vs) σ2) (hl : ∀ i ∈ l, i ∈ vs) : wipe σ2 vs = wipe σ vs := by
  have ln : σ2.length = σ.length := o.1.trans (wipe_length σ vs)
  apply List.ext_getElem?
  intro i
  by_cases hi : i ∈ vs
  · by_cases hs : i < σ.length
    · rw [wipe_in hi (by omega), wipe_in hi hs]
    · rw [List.getElem?_eq_none (by rw [wipe_length]; omega), List.getElem?_eq_none (by rw [wipe_length]; omega)]
  · rw [wipe_out' hi, o.2 i (fun z => hi (hl i z)), wipe_out' hi]
def W0 : WX := fun _ _ _ _ => False
theorem UpX.no {K : PySem.W.Frag} {μ : List Addr} {H H' : Hp} {c : Value} {dd : Option Addr} (u : UpX K T μ H (fun _ _ => False) c dd H') : False := by
  obtain ⟨_, _, _, _, _, _, _, _, _, _, _, _, _, _, _, _, h⟩ := u
  exact h
theorem stp_aside {μ μ' : List Addr} {H H' : Hp} {p : Addr} {ho : HO} (s : Stp μ H μ' H') (hp : H p = none) : Stp μ H μ' (upd H' p ho) :=
  ⟨s.pre, fun a o e f => by rw [upd_ne (ne_of_none e hp)]; exact s.fix a o e f, s.new, fun a o e n => by rw [upd_ne (ne_of_none e hp)]; exact s.frame a o e n⟩
theorem fix_aside {H : Hp} {p : Addr} {old ho : HO} (e : H p = some old) (hf : ¬ Fix old) : ∀ a o, H a = some o → Fix o → upd H p ho a = some o := fun b u eb f => by
  by_cases z : b = p
  · subst z; rw [e] at eb; cases eb; exact absurd f hf
  · rw [upd_ne z]; exact eb
theorem Stp.apart {μ μ' : List Addr} {H H' : Hp} (s : Stp μ H μ' H') {p : Addr} {o : HO} (n : p ∉ μ) (e : H p = some o) : p ∉ μ' ∧ H' p = some o := by
  refine ⟨fun m => ?_, s.frame p o e n⟩
  rcases s.new p m with h | h
  · exact n h
  · rw [e] at h; cases h
theorem tLc_of {K : PySem.W.Frag} {wi : WIt} {g : Tg} {wt : WTt} {we : WE} {ws : List Nat} {σ : L2.St} {H : Hp} {Q : VK} (hsl : ∀ i ∈ tgSlots g, i ∈ ws)
    (h : tDE K T hx W (fun ρ A E Q => wi ρ A E fun w A1 => compD w.ok
      (fun d A2 k => match bindT g d (wipeD ρ ws) with
        | some ρ2 => wt ρ2 A2 (fun _ _ => False) fun c A3 => if c = true then we ρ2 A3 (fun _ _ => False) fun y A4 => k (some y) A4 else k none A3
        | none => False)
      (fun acc A2 => Q (.obj A2.length) (A2 ++ [.lst acc])) w.items [] A1) σ H Q) : tLc (tDI K T hx W wi) (gD K hx g) (tDT K T hx W0 wt) (tDE K T hx W0 we) ws σ H Q := by
  obtain ⟨μ0, ρ, A0, E, Q', p, h, fin⟩ := h
  refine ⟨μ0, ρ, A0, E, _, p, h, fun J H1 μ1 wk A1 s1 hr1 wd q L hL => ?_⟩
  refine ⟨fun i m H' => m = wk.items.length - i ∧ i ≤ wk.items.length ∧ ∃ (μ : List Addr) (A : Ht) (acc : List D) (vs : List V), Stp μ1 H1 μ H' ∧ HR K μ A H' ∧ L ∉ μ ∧ H' L = some (.lst vs) ∧ RelDs K μ H' acc vs ∧ compD wk.ok
      (fun d A2 k => match bindT g d (wipeD ρ ws) with
        | some ρ2 => wt ρ2 A2 (fun _ _ => False) fun c A3 => if c = true then we ρ2 A3 (fun _ _ => False) fun y A4 => k (some y) A4 else k none A3
        | none => False)
      (fun acc A2 => Q' (.obj A2.length) (A2 ++ [.lst acc])) (wk.items.drop i) acc A,
    ⟨wk.items.length, by simp, Nat.zero_le _, μ1, A1, [], [], stp_upd0 hL, hr1.tupd hL, hr1.notIn hL, upd_same, .nil, by simpa using q⟩, ?_⟩
  rintro i m H2 ⟨rfl, hi, μ, A, acc, vs, s, hr, nD, eD, ra, c⟩
  by_cases hlt : i < wk.items.length
  · rw [List.drop_eq_getElem_cons hlt] at c
    obtain ⟨ok, c⟩ := c
    refine .inr ⟨wd.go i μ A H2 hlt s hr ok, fun H' => ∃ (μ : List Addr) (A : Ht) (acc : List D) (vs : List V), Stp μ1 H1 μ H' ∧ HR K μ A H' ∧ L ∉ μ ∧ H' L = some (.lst vs) ∧ RelDs K μ H' acc vs ∧ compD wk.ok
      (fun d A2 k => match bindT g d (wipeD ρ ws) with
        | some ρ2 => wt ρ2 A2 (fun _ _ => False) fun c A3 => if c = true then we ρ2 A3 (fun _ _ => False) fun y A4 => k (some y) A4 else k none A3
        | none => False)
      (fun acc A2 => Q' (.obj A2.length) (A2 ++ [.lst acc])) (wk.items.drop (i + 1)) acc A, fun H' n => ⟨wk.items.length - (i + 1), by omega, rfl, hlt, n⟩, fun x H3 y => ?_⟩
    obtain ⟨d, ed, rd, s3, hr3⟩ := wd.yld i μ A H2 x H3 hlt s hr ok y
    rw [List.getElem?_eq_getElem hlt] at ed
    cases ed
    dsimp only at c
    split at c
    · rename_i ρ2 e
      refine ⟨μ, wipeD ρ ws, _, ρ2, wipe_rel (p.s.mono (s1.trans (s.trans s3))) ws, rd, e, fun σ2 rs2 o2 => ⟨wipe_only o2 hsl, ?_⟩⟩
      have pk : Pk K T hx W0 μ ρ2 A (fun _ _ => False) σ2 H3 := ⟨rs2, hr3, fun _ _ _ u => u.no.elim⟩
      obtain ⟨nD3, eD3⟩ := s3.apart nD eD
      refine tDT.go pk c fun b H4 μ4 A4 s4 p4 c4 => ?_
      obtain ⟨nD4, eD4⟩ := s4.apart nD3 eD3
      cases b with
      | true =>
        simp only [if_true] at c4 ⊢
        refine tDE.go p4 c4 fun yv H5 μ5 dy A5 s5 ry p5 c5 => ?_
        obtain ⟨nD5, eD5⟩ := s5.apart nD4 eD4
        have ra5 : RelDs K μ5 H5 acc vs := ((ra.mono s3 _ _).mono s4 _ _).mono s5 _ _
        refine ⟨vs, eD5, by rw [← ra5.length]; exact c5.1, μ5, A5, acc ++ [dy], vs ++ [yv], stp_aside (s.trans (s3.trans (s4.trans s5))) hL, p5.h.aside nD5 eD5 (fun z => z), nD5, upd_same, ?_, c5.2⟩
        exact (ra5.append (.cons ry .nil)).mono' (List.prefix_refl _) (fix_aside eD5 (fun z => z))
      | false =>
        simp only [Bool.false_eq_true, if_false] at c4 ⊢
        exact ⟨μ4, A4, acc, vs, s.trans (s3.trans s4), p4.h, nD4, eD4, (ra.mono s3 _ _).mono s4 _ _, c4⟩
    · exact c.elim
  · have e : i = wk.items.length := by omega
    subst e
    rw [List.drop_length] at c
    obtain ⟨ok, c⟩ := c
    refine .inl ⟨wd.stop μ A H2 s hr ok, ?_⟩
    have sF : Stp μ1 H1 (μ ++ [L]) H2 := ⟨s.pre.trans (List.prefix_append _ _), s.fix, fun a ha => by
      rcases List.mem_append.mp ha with z | z
      · exact s.new a z
      · rw [(by simpa using z : a = L)]; exact .inr hL, s.frame⟩
    refine fin (.ref L) H2 (μ ++ [L]) (.obj A.length) (A ++ [.lst acc]) (s1.trans sF) (to_obj (by rw [← hr.len, List.getElem?_concat_length])) (hr.adopt nD ?_) c
    rw [eD]
    exact ⟨vs, rfl, ra⟩
theorem pe_lcX {elt tg iter : Expr} {ifs : List Expr} {scope : Scope} {own : List (Str × Nat)} {pos : Pos} {wi : WIt} {g : Tg} {wt : WTt} {we : WE} (hc : X.calm = true) (hN : X.N.Nodup) (hi : PI X tg iter (tDI X.K T hx W wi)) (ok : BlkOk X.N X.env.scope scope own)
    (hg : ∀ (s : Shared) (H : Hp) (C : Addr) (cl : List (Str × Addr)) (fp : List Addr), PG (X.blk s H scope (compEnvC scope cl C X.env) fp) tg (gD X.K hx g)) (ht : ∀ (s : Shared) (H : Hp) (C : Addr) (cl : List (Str × Addr)) (fp : List Addr), PTs (X.blk s H scope (compEnvC scope cl C X.env) fp) ifs (tDT X.K T hx W0 wt))
    (he : ∀ (s : Shared) (H : Hp) (C : Addr) (cl : List (Str × Addr)) (fp : List Addr), PE (X.blk s H scope (compEnvC scope cl C X.env) fp) elt (tDE X.K T hx W0 we)) (hs : ∀ x, foldedSetIterable iter X.env x = pure x) (hsl : ∀ i ∈ tgSlots g, i ∈ own.map (·.2)) :
    PE X (.ListComp elt [⟨tg, iter, ifs, 0⟩] scope pos) (tDE X.K T hx W fun ρ A E Q => wi ρ A E fun w A1 => compD w.ok
      (fun d A2 k => match bindT g d (wipeD ρ (own.map (·.2))) with
        | some ρ2 => wt ρ2 A2 (fun _ _ => False) fun c A3 => if c = true then we ρ2 A3 (fun _ _ => False) fun y A4 => k (some y) A4 else k none A3
        | none => False)
      (fun acc A2 => Q (.obj A2.length) (A2 ++ [.lst acc])) w.items [] A1) := by
  refine PE.weaken (pe_lc hc hN hi ok hg ht he hs) fun σ H Q h => ?_
  exact tLc_of hsl h
end
end Px
end TextPx9

section TextPx10
set_option autoImplicit false
set_option maxRecDepth 100000
set_option maxHeartbeats 2000000
/-! Px10: from the model's syntax to ours; expressions are sound. -/
namespace Px
open PySem PySem.Spec PyProof.Rows L2

structure CC where
  N : List Str
  sc : Scope
  blk : Option Scope
  fns : List (Str × Nat)
  cts : List Str
  exs : List Str
  hot : Bool
  exv : Option Str
  rss : List (Str × Nat) := []
  hfns : List (Str × Nat) := []
  hds : List Str := []
  flds : List Str := []
  kwp : List ((Str × Nat × List Str) × List Nat) := []
def CC.kind (c : CC) (x : Str) : Option NameKind := c.sc.names.lookup x
def CC.vis (c : CC) (x : Str) : Bool := match c.kind x with | some .local => true | some .cell => true | some .free => true | _ => false
def CC.gl (c : CC) (x : Str) : Bool := match c.kind x with | some .globalImplicit => true | _ => false
def CC.slot (c : CC) (x : Str) : Option Nat := match c.N.findIdx? (fun y => decide (y = x)) with
  | some i => if c.N[i]? = some x then some i else none
  | none => none
/-- a name that may be stored, and its slot -/
def CC.sto (c : CC) (x : Str) : Option Nat := match c.kind x, c.blk with
  | some .local, _ => c.slot x
  | some .cell, none => c.slot x
  | some .cell, some s => if s.names.lookup x = some .cell then c.slot x else none
  | _, _ => none
def okName (x : Str) : Bool := !(x == ("__debug__" : Str)) && !(x == ("__classdict__" : Str)) && !decide (x = ("__name__" : Str))
def CC.fnOf (c : CC) (x : Str) : Option Nat := c.fns.lookup x
def biOf (x : Str) : Option BI :=
  if x = "len" then some .len else if x = "int" then some .int else if x = "abs" then some .abs else if x = "min" then some .min else if x = "max" then some .max
  else if x = "tuple" then some .tuple else if x = "list" then some .list else if x = "str" then some .str else if x = "sorted" then some .sorted else if x = "sum" then some .sum
  else if x = "all" then some .all else if x = "any" then some .any else none
def tyOf (x : Str) : Option TI' :=
  if x = "int" then some .int else if x = "bool" then some .bool else if x = "str" then some .str else if x = "tuple" then some .tuple else if x = "list" then some .list else if x = "dict" then some .dict else none
def miOf (x : Str) : Option MI :=
  if x = "append" then some .append else if x = "pop" then some .pop else if x = "reverse" then some .reverse else if x = "extend" then some .extend else if x = "join" then some .join
  else if x = "find" then some .find else if x = "upper" then some .upper else if x = "split" then some .split else if x = "isdigit" then some .isdigit else if x = "startswith" then some .startswith else none
def plainBase : Expr → Bool
  | .Call (.Name _ _) [] [] _ => false
  | _ => true
def noStar : Expr → Bool
  | .Starred .. => false
  | _ => true
def noSlice : Expr → Bool
  | .Slice .. => false
  | _ => true
section
variable (f : Expr → Option Ie)
def cList : List Expr → Option Ies
  | [] => some .nil
  | e :: es => match noStar e, f e, cList es with | true, some a, some b => some (.cons a b) | _, _, _ => none
def cOpt : Option Expr → Option Ieo
  | none => some .no
  | some e => (f e).map .so
def cBools (op : BoolOp) : List Expr → Option Ie
  | [] => none
  | [e] => f e
  | e :: es => match f e, cBools op es with | some a, some b => some (match op with | .And => .andv a b | .Or => .orv a b) | _, _ => none
end
def kwNames : List Keyword → Option (List Str)
  | [] => some []
  | ⟨some x, _, _⟩ :: r => (kwNames r).map (x :: ·)
  | _ => none
def kwVals : List Keyword → List Expr
  | [] => []
  | ⟨_, e, _⟩ :: r => e :: kwVals r
mutual
def cTg (c : CC) : Nat → Expr → Option Tg
  | 0, _ => none
  | n + 1, .Name x _ => (c.sto x).map .name
  | n + 1, .Tuple es _ _ => if c.hot then none else (cTgs c n es).map .tup
  | _, _ => none
def cTgs (c : CC) : Nat → List Expr → Option Tgs
  | _, [] => some .nil
  | 0, _ => none
  | n + 1, e :: es => match noStar e, cTg c n e, cTgs c n es with | true, some g, some gs => some (.cons g gs) | _, _, _ => none
end
def CC.inner (c : CC) (scope : Scope) : CC := { c with sc := relS scope c.sc, blk := some scope, exv := none }
def ownOf (c : CC) (ws : List Nat) : List (Str × Nat) := ws.map fun i => ((c.N[i]?).getD ⟨#[]⟩, i)
mutual
def cE (c : CC) : Nat → Expr → Option Ie
  | 0, _ => none
  | n + 1, .Name x _ => if okName x then (if c.vis x then (c.slot x).map .var else if c.gl x && c.cts.contains x then some (.glob x) else none) else none
  | n + 1, .Constant k _ _ => match k with
    | .none => some (.cst .non) | .bool b => some (.cst (.bl b)) | .int i => some (.cst (.int i)) | .str s => some (.cst (.str s)) | _ => none
  | n + 1, .BinOp a op b _ => match cE c n a, cE c n b with | some x, some y => some (.bin op x y) | _, _ => none
  | n + 1, .UnaryOp .USub a _ => (cE c n a).map .neg
  | n + 1, .UnaryOp .Not a _ => (cE c n a).map .notv
  | n + 1, .BoolOp op (a :: b :: es) _ => cBools (cE c n) op (a :: b :: es)
  | n + 1, .Compare a [op] [b] _ => if behindInMarks op b then none else match cE c n a, cE c n b with | some x, some y => some (.cmp op x y) | _, _ => none
  | n + 1, .Compare a [op, op'] [b, d] _ => if lastMarks [op, op'] [b, d] then none else match cE c n a, cE c n b, cE c n d with | some x, some y, some z => some (.chain op op' x y z) | _, _, _ => none
  | n + 1, .IfExp t a b _ => match cE c n t, cE c n a, cE c n b with | some x, some y, some z => some (.ite x y z) | _, _, _ => none
  | n + 1, .Tuple es _ _ => (cList (cE c n) es).map .tup
  | n + 1, .List es _ => (cList (cE c n) es).map .lst
  | n + 1, .Subscript a (.Slice lo hi none _) _ => match cE c n a, cOpt (cE c n) lo, cOpt (cE c n) hi with | some x, some y, some z => some (.sl x y z) | _, _, _ => none
  | n + 1, .Subscript a b _ => match noSlice b, cE c n a, cE c n b with | true, some x, some y => some (.ix x y) | _, _, _ => none
  | n + 1, .Call (.Name f _) es [] _ => if okName f && c.gl f then
      (match c.fnOf f with
      | some k => if es.length = k then (cList (cE c n) es).map (.call f) else none
      | none => match es with
        | [a, .Name t _] => if f = "isinstance" then (match tyOf t with
            | some ty => if c.gl t && okName t && noStar a then (cE c n a).map (.isi · ty) else none
            | none => match a with
              | .Name e _ => if decide (c.exv = some e) && c.vis e && c.exs.contains t && c.gl t && okName t && okName e then (c.slot e).map (.isx · t) else none
              | _ => none)
            else (match biOf f with | some b => if c.hot && needCalm b then none else (cList (cE c n) es).map (.bi b) | none => none)
        | e :: r => (match biOf f with | some b => if c.hot && needCalm b then none else (cList (cE c n) (e :: r)).map (.bi b) | none => none)
        | [] => none)
      else none
  | n + 1, .Call (.Name f _) es (k :: ks) pos => if okName f && c.gl f && !c.hot then
      (match kwNames (k :: ks), c.fnOf f with
      | some ns, some kk => (match c.kwp.lookup (f, es.length, ns), cList (cE c n) es, cList (cE c n) (kwVals (k :: ks)) with
        | some pm, some xs, some ys => if decide (pm.length = kk) && pm.all (fun i => decide (i < es.length + (k :: ks).length)) then some (.callk f pm xs ys) else none
        | _, _, _ => none)
      | _, _ => none) else none
  | n + 1, .Call (.Attribute o m apos) es [] pos => match miOf m, cE c n o, cList (cE c n) es with
      | some mi, some x, some ys => if apos.endLine == pos.line && decide (es.length < 20) && plainBase o then some (.mt mi x ys) else none
      | _, _, _ => none
  | n + 1, .Attribute (.Name e _) f _ => if decide (c.exv = some e) && c.vis e && c.flds.contains f && okName e then (c.slot e).map (.fld · f) else none
  | n + 1, .ListComp elt [⟨tg, iter, ifs, 0⟩] scope _ => if c.hot then none else
      (match cTg (c.inner scope) n tg, cI c n tg iter, cE (c.inner scope) n elt with
      | some g, some it, some el => if blkC c.N c.sc scope (ownOf c (tgSlots g)) then
          (match ifs with
          | [] => some (.lc g it .no el (tgSlots g))
          | [t] => (cE (c.inner scope) n t).map fun t => .lc g it (.so t) el (tgSlots g)
          | _ => none) else none
      | _, _, _ => none)
  | _, _ => none
def cI (c : CC) : Nat → Expr → Expr → Option Ii
  | 0, _, _ => none
  | n + 1, tg, .Call (.Name f p) es [] pos => if okName f && c.gl f && (c.fnOf f).isNone then
      (match es with
      | [a] => if noStar a then (if f = "range" then (cE c n a).map .rng1 else if f = "enumerate" then (match tg with | .Tuple .. => (cE c n a).map .enum | _ => none)
          else (cE c n (.Call (.Name f p) [a] [] pos)).map .seq) else none
      | [a, b] => if noStar a && noStar b then (match cE c n a, cE c n b with
          | some x, some y => if f = "range" then some (.rng2 x y) else if f = "zip" then (match tg with | .Tuple .. => some (.zip x y) | _ => none) else none
          | _, _ => none) else none
      | _ => none)
      else (cE c n (.Call (.Name f p) es [] pos)).map .seq
  | n + 1, _, e => match e with | .Set .. => none | e => (cE c n e).map .seq
end

/-! ### what the compiler leans on -/
def blNames : List Str := ["len", "int", "abs", "min", "max", "tuple", "list", "str", "sorted", "sum", "all", "any", "bool", "dict", "isinstance", "range", "enumerate", "zip"]
/-- a contract, one level down -/
def spD (K : PySem.W.Frag) (T : Tab) (con : Con) (k : Nat) : Sp := fun vs H Q E => vs.length = k ∧ ∃ μ A ds E' Q', HR K μ A H ∧ RelDs K μ H ds vs ∧ con ds A E' Q' ∧ (∀ v H', Up K μ H Q' v H' → Q v H') ∧ ∀ c dd H', UpX K T μ H E' c dd H' → E c dd H'
/-- a def that keeps its contract, callable here -/
structure FnC (P : Program) (w : World) (K : PySem.W.Frag) (mg : Str → Option Value) (base : Heap) (A : Around) (T : Tab) (con : Con) (f : Str) (k : Nat) : Prop where
  ex : ∃ (fa : Addr) (fd : FuncData) (ps : List Str) (lv : Nat), FnOk P w K mg base (L2N.CX P w) lv fa fd ps (spD K T con k) ∧ Room lv A ∧ mg f = some (.ref fa) ∧ PySem.W.keepIn K (.ref fa) = true ∧ Binds K fd ps [] ∧ ps.length = k
structure FnHt (P : Program) (w : World) (K : PySem.W.Frag) (mg : Str → Option Value) (base : Heap) (A : Around) (T : Tab) (con : Con) (f : Str) (k : Nat) : Prop where
  ex : ∃ (fa : Addr) (fd : FuncData) (ps : List Str) (lv : Nat), L2H.FnH P w K mg base (L2N.CX P w) lv fa fd ps (spD K T con k) ∧ L2H.RoomH lv A ∧ mg f = some (.ref fa) ∧ PySem.W.keepIn K (.ref fa) = true ∧ Binds K fd ps [] ∧ ps.length = k
/-- a def that keeps its contract, called with keywords -/
structure FnK (P : Program) (w : World) (K : PySem.W.Frag) (mg : Str → Option Value) (base : Heap) (A : Around) (T : Tab) (con : Con) (f : Str) (m : Nat) (ns : List Str) (pm : List Nat) : Prop where
  ex : ∃ (fa : Addr) (fd : FuncData) (ps : List Str) (lv : Nat), FnOk P w K mg base (L2N.CX P w) lv fa fd ps (spD K T con pm.length) ∧ Room lv A ∧ mg f = some (.ref fa) ∧ PySem.W.keepIn K (.ref fa) = true ∧ ps.length = pm.length ∧
    ∀ (s : Shared) (us ws : List Value), K.In s.heap → us.length = m → ws.length = ns.length → BindsTo s fd ⟨us, ns.zip ws⟩ (ps.zip (permD pm (us ++ ws)))
structure Snd (c : CC) (X : Cx) (G : Env') (T : Tab) (hx : HX) (W : WX) : Prop where
  N : X.N = c.N
  nd : c.N.Nodup
  sc : X.env.scope = c.sc
  calm : c.hot = false → X.calm = true
  fnv : ∀ x, c.blk = none ∨ (∃ s, c.blk = some s ∧ s.names.lookup x = some .cell) → X.fn x = true
  hu : X.A.units + 64 < cLine
  bl : ∀ x ∈ blNames, X.mg x = none
  cts : ∀ x, c.cts.contains x = true → ∃ d u v, G.ct x = some d ∧ X.mg x = some u ∧ RelV v u ∧ ∀ μ H, RelD X.K μ H d v
  tk : L2N.Takes X W
  fns : c.hot = false → ∀ f k, c.fnOf f = some k → FnC X.prog X.w X.K X.mg X.base X.A T (G.con f) f k
  kws : c.hot = false → ∀ f m ns pm, c.kwp.lookup (f, m, ns) = some pm → FnK X.prog X.w X.K X.mg X.base X.A T (G.con f) f m ns pm
  hfns : c.hot = true → L2H.HotC X ∧ ∀ f k, c.fnOf f = some k → FnHt X.prog X.w X.K X.mg X.base X.A T (G.con f) f k
  fld : ∀ e i f p pos, c.exv = some e → c.slot e = some i → c.vis e = true → c.flds.contains f = true → okName e = true → PE X (.Attribute (.Name e p) f pos) (tDE X.K T hx W (wE G (.fld i f)))
  isx : ∀ e i t p p1 p2 pos, c.exv = some e → c.slot e = some i → c.vis e = true → c.exs.contains t = true → c.gl t = true → okName t = true → okName e = true → c.gl "isinstance" = true → PE X (.Call (.Name "isinstance" p) [.Name e p1, .Name t p2] [] pos) (tDE X.K T hx W (wE G (.isx i t)))
section
variable {c : CC} {X : Cx} {G : Env'} {T : Tab} {hx : HX} {W : WX}
theorem CC.slot_at {x : Str} {i : Nat} (h : c.slot x = some i) : c.N[i]? = some x := by
  unfold CC.slot at h
  split at h
  · split at h
    · cases h; assumption
    · cases h
  · cases h
theorem CC.vis_at {x : Str} (h : c.vis x = true) : Vis c.sc x := by
  unfold CC.vis CC.kind at h
  split at h
  · exact .inl (by assumption)
  · exact .inr (.inl (by assumption))
  · exact .inr (.inr (by assumption))
  · cases h
theorem CC.gl_at {x : Str} (h : c.gl x = true) : c.sc.names.lookup x = some .globalImplicit := by
  unfold CC.gl CC.kind at h
  split at h
  · assumption
  · cases h
theorem Snd.gl (s : Snd c X G T hx W) {x : Str} (h : c.gl x = true) : Gl X x := by
  show X.env.scope.names.lookup x = _
  rw [s.sc]; exact CC.gl_at h
theorem okName_at {x : Str} (h : okName x = true) : (x == ("__debug__" : Str)) = false ∧ (x == ("__classdict__" : Str)) = false ∧ x ≠ "__name__" := by
  unfold okName at h
  simp only [Bool.and_eq_true, Bool.not_eq_true', decide_eq_false_iff_not] at h
  exact ⟨h.1.1, h.1.2, h.2⟩
theorem CC.sto_at (s : Snd c X G T hx W) {x : Str} {i : Nat} (h : c.sto x = some i) : X.N[i]? = some x ∧ Loc X.env.scope x ∧ (X.fn x = true ∨ X.env.scope.names.lookup x = some .local) := by
  unfold CC.sto at h
  rw [s.N, s.sc]
  split at h
  · rename_i e
    exact ⟨CC.slot_at h, .inl e, .inr e⟩
  · rename_i e b
    exact ⟨CC.slot_at h, .inr e, .inl (s.fnv x (.inl b))⟩
  · rename_i sc e b
    split at h
    · rename_i e2
      exact ⟨CC.slot_at h, .inr e, .inl (s.fnv x (.inr ⟨sc, b, e2⟩))⟩
    · cases h
  · cases h
theorem star_cons {e : Expr} {es : List Expr} {env : Env} (h : noStar e = true) : starEach (e :: es) env = (false, eval e env) :: starEach es env := by
  cases e <;> first | rfl | cases h
theorem assign_cons {e : Expr} {es : List Expr} {env : Env} (h : noStar e = true) : assignEach (e :: es) env = (false, assign e env) :: assignEach es env := by
  cases e <;> first | rfl | cases h
theorem no_star : ∀ {es : List Expr} {env : Env} {pos : Pos}, (∀ e ∈ es, noStar e = true) → (backTo pos (starEach es env)).any (·.1) = false
  | [], _, _, _ => rfl
  | e :: es, env, pos, h => by
    rw [star_cons (h e (by simp))]
    show (false || (backTo pos (starEach es env)).any (·.1)) = false
    rw [no_star fun e' he => h e' (by simp [he])]
    rfl
theorem star_len : ∀ {es : List Expr} {env : Env}, (∀ e ∈ es, noStar e = true) → (starEach es env).length = es.length
  | [], _, _ => rfl
  | e :: es, env, h => by
    rw [star_cons (h e (by simp)), List.length_cons, List.length_cons, star_len fun e' he => h e' (by simp [he])]
theorem cList_stars {f : Expr → Option Ie} : ∀ {es : List Expr} {ys : Ies}, cList f es = some ys → ∀ e ∈ es, noStar e = true
  | [], _, _, _, he => by simp at he
  | e :: es, ys, h, e', he => by
    unfold cList at h
    split at h
    · rename_i a b h1 h2 h3
      rcases List.mem_cons.mp he with rfl | he
      · exact h1
      · exact cList_stars h3 e' he
    · cases h
/-- argument lists -/
theorem sd_list {f : Expr → Option Ie} (hf : ∀ e ir, f e = some ir → PE X e (tDE X.K T hx W (wE G ir))) : ∀ {es : List Expr} {ys : Ies}, cList f es = some ys → PA X es (tDA X.K T hx W es.length (wEs G ys))
  | [], ys, h => by
    unfold cList at h; cases h
    refine PA.weaken pa_nil fun σ H Q ⟨μ, ρ, A, E, Q', p, h, fin⟩ => fin [] H μ [] A rfl .refl .nil p.h h
  | e :: es, ys, h => by
    unfold cList at h
    split at h
    · rename_i a b h1 h2 h3
      cases h
      refine PA.weaken (pa_cons (hf e a h2) (sd_list hf h3) (star_cons h1)) fun σ H Q ⟨μ, ρ, A, E, Q', p, h, fin⟩ => ?_
      refine tDE.go p h fun v H1 μ1 d A1 s1 r1 p1 q1 => tDA.go p1 q1 fun vs H2 μ2 ds A2 l2 s2 r2 p2 q2 => ?_
      exact fin (v :: vs) H2 μ2 (d :: ds) A2 (by simp [l2]) (s1.trans s2) (.cons (r1.mono s2 _ _) r2) p2.h q2
    · cases h
/-- an own def is called -/
theorem sd_call (s : Snd c X G T hx W) {f : Str} {k : Nat} {p pos : Pos} {es : List Expr} {ys : Ies} (hf : c.fnOf f = some k) (hg : c.gl f = true) (ho : okName f = true) (hst : ∀ e ∈ es, noStar e = true) (hy : es = [] → ys = .nil) (ha : PA X es (tDA X.K T hx W es.length (wEs G ys))) :
    PE X (.Call (.Name f p) es [] pos) (fun σ H Q => tDA X.K T hx W es.length (wEs G ys) σ H fun vs H1 => spD X.K T (G.con f) k vs H1 Q (L2.WE W σ)) := by
  obtain ⟨hdb, _, _⟩ := okName_at ho
  have nil : ∀ {σ : L2.St} {H : Hp} {R : List V → Hp → Prop}, es = [] → tDA X.K T hx W es.length (wEs G ys) σ H R → R [] H := by
    rintro σ H R e ⟨μ, ρ, A, E, Q', p, h, fin⟩
    rw [hy e] at h
    subst e
    exact fin [] H μ [] A rfl .refl .nil p.h h
  cases hh : c.hot with
  | false =>
    obtain ⟨fa, fd, ps, lv, F, hr, hm, hk, hb, hl⟩ := (s.fns hh f k hf).ex
    cases es with
    | nil =>
      refine ⟨fun pins s' σ H Q I h => ?_⟩
      refine wpAny_Call_Name_kw (ld_glob I (s.gl hg) hm ?_ hdb)
      exact PySem.W.callWith_K0 I.kIn hk (run_fnS (us := []) F hr hb (L2N.passAt s.tk σ) I .nil (nil rfl h))
    | cons e es => exact pe_callS F hr (s.gl hg) hm hk hb (fun σ => L2N.passAt s.tk σ) ha hdb (star_cons (hst e (by simp))) (no_star fun e' he => hst e' (by simp [he]))
  | true =>
    obtain ⟨hc, hfn⟩ := s.hfns hh
    obtain ⟨fa, fd, ps, lv, F, hr, hm, hk, hb, hl⟩ := (hfn f k hf).ex
    cases es with
    | nil =>
      refine ⟨fun pins s' σ H Q I h => ?_⟩
      refine wpAny_Call_Name_kw (ld_glob I (s.gl hg) hm ?_ hdb)
      exact PySem.W.callWith_K0 I.kIn hk (L2H.run_fnH (us := []) F hr hc hb (L2N.passAt s.tk σ) I .nil (nil rfl h))
    | cons e es => exact L2H.pe_callH F hr hc (s.gl hg) hm hk hb (fun σ => L2N.passAt s.tk σ) ha hdb (star_cons (hst e (by simp))) (no_star fun e' he => hst e' (by simp [he]))
/-- the same with the whole pack at hand -/
theorem sd_callD (s : Snd c X G T hx W) {f : Str} {k : Nat} {p pos : Pos} {es : List Expr} {ys : Ies} (hf : c.fnOf f = some k) (hg : c.gl f = true) (ho : okName f = true) (hst : ∀ e ∈ es, noStar e = true) (hy : es = [] → ys = .nil) (hl : es.length = k)
    (ha : PA X es (tDA X.K T hx W es.length (wEs G ys))) : PE X (.Call (.Name f p) es [] pos) (tDE X.K T hx W fun ρ A E Q => wEs G ys ρ A E fun ds A1 => G.con f ds A1 E Q) := by
  refine PE.weaken (sd_call s hf hg ho hst hy ha) fun σ H Q ⟨μ, ρ, A, E, Q', p, h, fin⟩ => ?_
  refine tDA.go p h fun vs H1 μ1 ds A1 l1 s1 r1 p1 q1 => ?_
  refine ⟨by rw [← r1.length, l1, hl], μ1, A1, ds, E, Q', p1.h, r1, q1, fun v H2 u => ?_, fun c dd H2 u => p1.x c dd H2 u⟩
  obtain ⟨μ2, d, A2, s2, r2, h2, q2⟩ := u
  exact fin v H2 μ2 d A2 (s1.trans s2) r2 h2 q2
end
end Px
end TextPx10

section TextPx10m
set_option autoImplicit false
set_option maxRecDepth 100000
set_option maxHeartbeats 4000000
namespace Px
open PySem PySem.Spec PyProof.Rows L2
theorem eqD_mono {x y : D} {A : Ht} {k k' : Bool → Prop} (m : ∀ b, k b → k' b) (h : eqD x y A k) : eqD x y A k' := by
  unfold eqD at h ⊢
  split at h
  · exact m _ h
  · exact m _ h
  · cases e1 : toP 3 A x with
    | none => rw [e1] at h; exact h.elim
    | some p =>
      cases e2 : toP 3 A y with
      | none => rw [e1, e2] at h; exact h.elim
      | some q =>
        rw [e1, e2] at h
        exact ⟨h.1, h.2.1, m _ h.2.2⟩
theorem inD_mono {x y : D} {A : Ht} {k k' : Bool → Prop} (m : ∀ b, k b → k' b) (h : inD x y A k) : inD x y A k' := by
  unfold inD at h ⊢
  split at h
  · split at h
    · exact m _ h
    · exact h.elim
  · exact ⟨h.1, h.2.1, m _ h.2.2⟩
  · split at h
    · exact ⟨h.1, h.2.1, m _ h.2.2⟩
    · exact ⟨h.1, h.2.1, m _ h.2.2⟩
    · split at h
      · exact m _ h
      · exact h.elim
    · exact h.elim
  · exact h.elim
theorem isD_mono {x y : D} {k k' : Bool → Prop} (m : ∀ b, k b → k' b) (h : isD x y k) : isD x y k' := by
  unfold isD at h ⊢
  split at h
  · exact m _ h
  · exact m _ h
  · exact h.elim
theorem cmpD_mono {op : CmpOp} {x y : D} {A : Ht} (k k' : Bool → Prop) (m : ∀ b, k b → k' b) (h : cmpD op x y A k) : cmpD op x y A k' := by
  cases op <;> simp only [cmpD] at h ⊢
  · exact eqD_mono m h
  · exact eqD_mono (fun b => m _) h
  all_goals first
    | exact isD_mono m h
    | exact isD_mono (fun b => m _) h
    | exact inD_mono m h
    | exact inD_mono (fun b => m _) h
    | (split at h
       · exact m _ h
       · exact m _ h
       · exact h.elim)
end Px
end TextPx10m

section TextPx11
set_option autoImplicit false
set_option maxRecDepth 100000
set_option maxHeartbeats 4000000
/-! Px11: expressions are sound. -/
namespace Px
open PySem PySem.Spec PyProof.Rows L2
section
variable {c : CC} {X : Cx} {G : Env'} {T : Tab} {hx : HX} {W : WX}
theorem pt_gen {e : Expr} {we : WE} (he : PE X e (tDE X.K T hx W we)) (hform : ∀ whole, isTrue e X.env whole = (do let v ← whole; standAt e.pos; holding [v] (truthy v))) :
    PT X e (tDT X.K T hx W fun ρ A E Q => we ρ A E fun d A' => truD d A' fun c => Q c A') := by
  refine PT.weaken (pt_truth he hform) fun σ H Q ⟨μ, ρ, A, E, Q', p, h, fin⟩ => ?_
  refine tDE.go p h fun v H1 μ1 d A1 s1 r1 p1 q1 => ?_
  obtain ⟨b, tv, q⟩ := sd_tru p1.h r1 q1
  exact ⟨b, tv, fin b H1 μ1 A1 s1 p1.h q⟩
theorem pt_no {e : Expr} : PT X e (tDT X.K T hx W fun _ _ _ _ => False) := ⟨fun pins s σ H Q I ⟨_, _, _, _, _, _, h, _⟩ => h.elim⟩
theorem sd_var (s : Snd c X G T hx W) {x : Str} {i : Nat} {pos : Pos} (hv : c.vis x = true) (hi : c.slot x = some i) (ho : okName x = true) : PE X (.Name x pos) (tDE X.K T hx W (wE G (.var i))) := by
  obtain ⟨h1, h2, _⟩ := okName_at ho
  refine PE.weaken (pe_var (i := i) (by rw [s.N]; exact CC.slot_at hi) (by rw [s.sc]; exact CC.vis_at hv) h1 h2) fun σ H Q ⟨μ, ρ, A, E, Q', p, h, fin⟩ => ?_
  change varD ρ i _ at h
  unfold varD at h
  split at h
  · rename_i d e
    obtain ⟨v, ev, r⟩ := p.s.val i d e
    refine ⟨v, ev, ?_⟩
    cases d with
    | exn _ _ _ => exact h.1.elim
    | _ => exact fin v H μ _ A .refl r p.h h.2
  · exact h.elim
theorem sd_cst {e : Expr} {d : D} {v : V} (he : PE X e (tC v)) (r : ∀ μ H, RelD X.K μ H d v) : PE X e (tDE X.K T hx W (wE G (.cst d))) :=
  PE.weaken he fun σ H Q ⟨μ, ρ, A, E, Q', p, h, fin⟩ => fin v H μ d A .refl (r μ H) p.h h
theorem sd_bin2 {op : Operator} {a b : Expr} {x y : Ie} {pos : Pos} (ha : PE X a (tDE X.K T hx W (wE G x))) (hb : PE X b (tDE X.K T hx W (wE G y))) : PE X (.BinOp a op b pos) (tDE X.K T hx W (wE G (.bin op x y))) := by
  refine PE.weaken (pe_op (sd_bin op) ha hb) fun σ H Q ⟨μ, ρ, A, E, Q', p, h, fin⟩ => ?_
  refine tDE.go p h fun v H1 μ1 d A1 s1 r1 p1 q1 => tDE.go p1 q1 fun u H2 μ2 e A2 s2 r2 p2 q2 => ?_
  refine ⟨μ2, A2, d, e, Q', p2.h, r1.mono s2 _ _, r2, q2, fun v H3 ⟨μ3, d3, A3, s3, r3, h3, q3⟩ => fin v H3 μ3 d3 A3 ((s1.trans s2).trans s3) r3 h3 q3⟩
theorem sd_neg {a : Expr} {x : Ie} {pos : Pos} (ha : PE X a (tDE X.K T hx W (wE G x))) : PE X (.UnaryOp .USub a pos) (tDE X.K T hx W (wE G (.neg x))) := by
  refine PE.weaken (pe_un un_neg ha) fun σ H Q ⟨μ, ρ, A, E, Q', p, h, fin⟩ => ?_
  refine tDE.go p h fun v H1 μ1 d A1 s1 r1 p1 q1 => ?_
  split at q1
  · cases rel_int r1
    exact ⟨_, rfl, fin _ H1 μ1 _ A1 s1 to_int p1.h q1⟩
  · exact q1.elim
theorem sd_not {a : Expr} {x : Ie} {pos : Pos} (ha : PE X a (tDE X.K T hx W (wE G x))) : PE X (.UnaryOp .Not a pos) (tDE X.K T hx W (wE G (.notv x))) := by
  refine PE.weaken (pe_not ha) fun σ H Q ⟨μ, ρ, A, E, Q', p, h, fin⟩ => ?_
  refine tDE.go p h fun v H1 μ1 d A1 s1 r1 p1 q1 => ?_
  split at q1
  · cases rel_bl r1
    exact ⟨_, rfl, fin _ H1 μ1 _ A1 s1 to_bl p1.h q1⟩
  · exact q1.elim
theorem sd_notT {a : Expr} {x : Ie} {pos : Pos} (ha : PT X a (tDT X.K T hx W (wT G x))) : PT X (.UnaryOp .Not a pos) (tDT X.K T hx W (wT G (.notv x))) := by
  refine PT.weaken (pt_not ha) fun σ H Q ⟨μ, ρ, A, E, Q', p, h, fin⟩ => ?_
  exact tDT.go p h fun b H1 μ1 A1 s1 p1 q1 => fin _ H1 μ1 A1 s1 p1.h q1
theorem sd_cmp2 (s : Snd c X G T hx W) {op : CmpOp} {a b : Expr} {x y : Ie} {pos : Pos} (ha : PE X a (tDE X.K T hx W (wE G x))) (hb : PE X b (tDE X.K T hx W (wE G y))) (hm : behindInMarks op b = false) :
    PE X (.Compare a [op] [b] pos) (tDE X.K T hx W (wE G (.cmp op x y))) ∧ PT X (.Compare a [op] [b] pos) (tDT X.K T hx W (wT G (.cmp op x y))) := by
  refine ⟨PE.weaken (pe_cmpR (sd_cmp s.hu op) ha hb hm) fun σ H Q ⟨μ, ρ, A, E, Q', p, h, fin⟩ => ?_, PT.weaken (pt_cmpR (sd_cmp s.hu op) ha hb hm) fun σ H Q ⟨μ, ρ, A, E, Q', p, h, fin⟩ => ?_⟩
  · refine tDE.go p h fun v H1 μ1 d A1 s1 r1 p1 q1 => tDE.go p1 q1 fun u H2 μ2 e A2 s2 r2 p2 q2 => ?_
    exact ⟨μ2, A2, d, e, Q', p2.h, r1.mono s2 _ _, r2, q2, fun v H3 ⟨μ3, d3, A3, s3, r3, h3, q3⟩ => fin v H3 μ3 d3 A3 ((s1.trans s2).trans s3) r3 h3 q3⟩
  · refine tDE.go p h fun v H1 μ1 d A1 s1 r1 p1 q1 => tDE.go p1 q1 fun u H2 μ2 e A2 s2 r2 p2 q2 => ?_
    refine ⟨μ2, A2, d, e, fun d A' => ∃ c, d = .bl c ∧ Q' c A', p2.h, r1.mono s2 _ _, r2, ?_, fun v H3 ⟨μ3, d3, A3, s3, r3, h3, k, ek, q3⟩ => ?_⟩
    · have conv : ∀ (k : Bool → Prop) (k' : Bool → Prop), (∀ b, k b → k' b) → cmpD op d e A2 k → cmpD op d e A2 k' := cmpD_mono
      exact conv _ _ (fun b hb => ⟨b, rfl, hb⟩) q2
    · subst ek
      cases rel_bl r3
      exact ⟨k, rfl, fin k H3 μ3 A3 ((s1.trans s2).trans s3) h3 q3⟩
theorem sd_chain (s : Snd c X G T hx W) {o1 o2 : CmpOp} {a b d : Expr} {x y z : Ie} {pos : Pos} (ha : PE X a (tDE X.K T hx W (wE G x))) (hb : PE X b (tDE X.K T hx W (wE G y))) (hd : PE X d (tDE X.K T hx W (wE G z))) (hm : lastMarks [o1, o2] [b, d] = false) :
    PE X (.Compare a [o1, o2] [b, d] pos) (tDE X.K T hx W (wE G (.chain o1 o2 x y z))) ∧ PT X (.Compare a [o1, o2] [b, d] pos) (tDT X.K T hx W (wT G (.chain o1 o2 x y z))) := by
  refine ⟨PE.weaken (pe_chain (sd_cmp s.hu o1) (sd_cmp s.hu o2) ha hb hd hm) fun σ H Q ⟨μ, ρ, A, E, Q', p, h, fin⟩ => ?_, PT.weaken (pt_chain (sd_cmp s.hu o1) (sd_cmp s.hu o2) ha hb hd hm) fun σ H Q ⟨μ, ρ, A, E, Q', p, h, fin⟩ => ?_⟩
  · refine tDE.go p h fun v H1 μ1 d1 A1 s1 r1 p1 q1 => tDE.go p1 q1 fun u H2 μ2 d2 A2 s2 r2 p2 q2 => ?_
    refine ⟨μ2, A2, d1, d2, fun e A' => ∃ k, e = .bl k ∧ A' = A2 ∧ (if k = true then wE G z ρ A2 E fun z A3 => cmpD o2 d2 z A3 fun k' => Q' (.bl k') A3 else Q' (.bl false) A2), p2.h, r1.mono s2 _ _, r2, cmpD_mono _ _ (fun b hb => ⟨b, rfl, rfl, hb⟩) q2, fun v H3 ⟨μ3, d3, A3, s3, r3, h3, k, ek, eA, q3⟩ => ?_⟩
    subst ek eA
    cases rel_bl r3
    have p3 := p2.step s3 h3
    refine ⟨k, rfl, ?_⟩
    cases k with
    | true =>
      simp only [if_true] at q3 ⊢
      refine tDE.go p3 q3 fun w H4 μ4 d4 A4 s4 r4 p4 q4 => ?_
      exact ⟨μ4, A4, d2, d4, Q', p4.h, (r2.mono s3 _ _).mono s4 _ _, r4, q4, fun v H5 ⟨μ5, d5, A5, s5, r5, h5, q5⟩ => fin v H5 μ5 d5 A5 ((((s1.trans s2).trans s3).trans s4).trans s5) r5 h5 q5⟩
    | false =>
      simp only [Bool.false_eq_true, if_false] at q3 ⊢
      exact fin _ H3 μ3 _ _ ((s1.trans s2).trans s3) to_bl h3 q3
  · refine tDE.go p h fun v H1 μ1 d1 A1 s1 r1 p1 q1 => tDE.go p1 q1 fun u H2 μ2 d2 A2 s2 r2 p2 q2 => ?_
    refine ⟨μ2, A2, d1, d2, fun e A' => ∃ k, e = .bl k ∧ A' = A2 ∧ (if k = true then wE G z ρ A2 E fun z A3 => cmpD o2 d2 z A3 fun k' => Q' k' A3 else Q' false A2), p2.h, r1.mono s2 _ _, r2, cmpD_mono _ _ (fun b hb => ⟨b, rfl, rfl, hb⟩) q2, fun v H3 ⟨μ3, d3, A3, s3, r3, h3, k, ek, eA, q3⟩ => ?_⟩
    subst ek eA
    cases rel_bl r3
    have p3 := p2.step s3 h3
    refine ⟨k, rfl, ?_⟩
    cases k with
    | true =>
      simp only [if_true] at q3 ⊢
      refine tDE.go p3 q3 fun w H4 μ4 d4 A4 s4 r4 p4 q4 => ?_
      refine ⟨μ4, A4, d2, d4, fun e A' => ∃ k, e = .bl k ∧ Q' k A', p4.h, (r2.mono s3 _ _).mono s4 _ _, r4, cmpD_mono _ _ (fun b hb => ⟨b, rfl, hb⟩) q4, fun v H5 ⟨μ5, d5, A5, s5, r5, h5, k, ek, q5⟩ => ?_⟩
      subst ek
      cases rel_bl r5
      exact ⟨k, rfl, fin k H5 μ5 A5 ((((s1.trans s2).trans s3).trans s4).trans s5) h5 q5⟩
    | false =>
      simp only [Bool.false_eq_true, if_false] at q3 ⊢
      exact ⟨false, rfl, fin _ H3 μ3 _ ((s1.trans s2).trans s3) h3 q3⟩
theorem sd_ite {t a b : Expr} {x y z : Ie} {pos : Pos} (ht : PT X t (tDT X.K T hx W (wT G x))) (ha : PE X a (tDE X.K T hx W (wE G y))) (hb : PE X b (tDE X.K T hx W (wE G z))) : PE X (.IfExp t a b pos) (tDE X.K T hx W (wE G (.ite x y z))) := by
  refine PE.weaken (pe_ifExp ht ha hb) fun σ H Q ⟨μ, ρ, A, E, Q', p, h, fin⟩ => ?_
  refine tDT.go p h fun k H1 μ1 A1 s1 p1 q1 => ?_
  cases k with
  | true => exact tDE.go p1 (by simpa using q1) fun v H2 μ2 d A2 s2 r2 p2 q2 => fin v H2 μ2 d A2 (s1.trans s2) r2 p2.h q2
  | false => exact tDE.go p1 (by simpa using q1) fun v H2 μ2 d A2 s2 r2 p2 q2 => fin v H2 μ2 d A2 (s1.trans s2) r2 p2.h q2
theorem sd_iteT {t a b : Expr} {x y z : Ie} {pos : Pos} (ht : PT X t (tDT X.K T hx W (wT G x))) (ha : PT X a (tDT X.K T hx W (wT G y))) (hb : PT X b (tDT X.K T hx W (wT G z))) : PT X (.IfExp t a b pos) (tDT X.K T hx W (wT G (.ite x y z))) := by
  refine ⟨fun pins s σ H Q I ⟨μ, ρ, A, E, Q', p, h, fin⟩ => ?_⟩
  show wpAny _ _ (do if ← isTrue t X.env (eval t X.env) then isTrue a X.env (eval a X.env) else isTrue b X.env (eval b X.env)) _ _ _
  refine wpAny_bind (thn (ht.run pins s σ H (fun k H1 => if k = true then tDT X.K T hx W (wT G y) σ H1 Q else tDT X.K T hx W (wT G z) σ H1 Q) I (tDT.go p h fun k H1 μ1 A1 s1 p1 q1 => ?_)) fun k s1 ⟨H1, I1, q1⟩ => ?_)
  · cases k with
    | true => exact tDT.go p1 (by simpa using q1) fun v H2 μ2 A2 s2 p2 q2 => fin v H2 μ2 A2 (s1.trans s2) p2.h q2
    | false => exact tDT.go p1 (by simpa using q1) fun v H2 μ2 A2 s2 p2 q2 => fin v H2 μ2 A2 (s1.trans s2) p2.h q2
  · cases k with
    | true => exact ha.run pins s1 σ H1 Q I1 (by simpa using q1)
    | false => exact hb.run pins s1 σ H1 Q I1 (by simpa using q1)
theorem sd_bools {f : Expr → Option Ie} (hf : ∀ e ir, f e = some ir → PE X e (tDE X.K T hx W (wE G ir)) ∧ PT X e (tDT X.K T hx W (wT G ir))) {pos : Pos} : ∀ (op : BoolOp) {es : List Expr} {ir : Ie}, cBools f op es = some ir → PE X (.BoolOp op es pos) (tDE X.K T hx W (wE G ir)) ∧ PW X (.BoolOp op es pos) (tDT X.K T hx W (wT G ir))
  | _, [], _, h => by simp [cBools] at h
  | .And, [e], ir, h => by
    obtain ⟨h1, h2⟩ := hf e ir (by simpa [cBools] using h)
    exact ⟨pe_one h1, pw_and1 h2⟩
  | .Or, [e], ir, h => by
    obtain ⟨h1, h2⟩ := hf e ir (by simpa [cBools] using h)
    exact ⟨pe_one h1, pw_or1 h2⟩
  | op, e :: e2 :: es, ir, h => by
    unfold cBools at h
    split at h
    · rename_i a b ha hb
      obtain ⟨h1, h2⟩ := hf e a ha
      obtain ⟨h3, h4⟩ := sd_bools hf (pos := pos) op hb
      cases op with
      | And =>
        cases h
        refine ⟨PE.weaken (pe_and h1 h3) fun σ H Q ⟨μ, ρ, A, E, Q', p, h, fin⟩ => ?_, ⟨fun wh pins s σ H Q I ⟨μ, ρ, A, E, Q', p, h, fin⟩ => (pw_and h2 h4).run wh pins s σ H Q I (tDT.go p h fun k H1 μ1 A1 s1 p1 q1 => ?_)⟩⟩
        · refine tDE.go p h fun v H1 μ1 d A1 s1 r1 p1 q1 => ?_
          split at q1
          · cases rel_bl r1
            rename_i k
            refine ⟨k, rfl, ?_⟩
            cases k with
            | true => exact tDE.go p1 (by simpa using q1) fun v H2 μ2 d A2 s2 r2 p2 q2 => fin v H2 μ2 d A2 (s1.trans s2) r2 p2.h q2
            | false => exact fin _ H1 μ1 _ A1 s1 to_bl p1.h (by simpa using q1)
          · exact q1.elim
        · cases k with
          | true => exact tDT.go p1 (by simpa using q1) fun v H2 μ2 A2 s2 p2 q2 => fin v H2 μ2 A2 (s1.trans s2) p2.h q2
          | false => exact fin _ H1 μ1 A1 s1 p1.h (by simpa using q1)
      | Or =>
        cases h
        refine ⟨PE.weaken (pe_or h1 h3) fun σ H Q ⟨μ, ρ, A, E, Q', p, h, fin⟩ => ?_, ⟨fun wh pins s σ H Q I ⟨μ, ρ, A, E, Q', p, h, fin⟩ => (pw_or h2 h4).run wh pins s σ H Q I (tDT.go p h fun k H1 μ1 A1 s1 p1 q1 => ?_)⟩⟩
        · refine tDE.go p h fun v H1 μ1 d A1 s1 r1 p1 q1 => ?_
          split at q1
          · cases rel_bl r1
            rename_i k
            refine ⟨k, rfl, ?_⟩
            cases k with
            | true => exact fin _ H1 μ1 _ A1 s1 to_bl p1.h (by simpa using q1)
            | false => exact tDE.go p1 (by simpa using q1) fun v H2 μ2 d A2 s2 r2 p2 q2 => fin v H2 μ2 d A2 (s1.trans s2) r2 p2.h q2
          · exact q1.elim
        · cases k with
          | true => exact fin _ H1 μ1 A1 s1 p1.h (by simpa using q1)
          | false => exact tDT.go p1 (by simpa using q1) fun v H2 μ2 A2 s2 p2 q2 => fin v H2 μ2 A2 (s1.trans s2) p2.h q2
    · cases h
theorem sd_tup {es : List Expr} {ys : Ies} {k : Nat} {pos : Pos} (ha : PA X es (tDA X.K T hx W es.length (wEs G ys))) : PE X (.Tuple es k pos) (tDE X.K T hx W (wE G (.tup ys))) := by
  refine PE.weaken (pe_tup ha) fun σ H Q ⟨μ, ρ, A, E, Q', p, h, fin⟩ => ?_
  refine tDA.go p h fun vs H1 μ1 ds A1 l1 s1 r1 p1 q1 => ⟨by rw [← r1.length]; exact q1.1, fun a ha => ?_⟩
  obtain ⟨μ2, d, A2, s2, r2, h2, q2⟩ := Up.tuple p1.h r1 ha q1.2
  exact fin _ _ μ2 d A2 (s1.trans s2) r2 h2 q2
theorem sd_lst {es : List Expr} {ys : Ies} {pos : Pos} (ha : PA X es (tDA X.K T hx W es.length (wEs G ys))) : PE X (.List es pos) (tDE X.K T hx W (wE G (.lst ys))) := by
  refine PE.weaken (pe_lst ha) fun σ H Q ⟨μ, ρ, A, E, Q', p, h, fin⟩ => ?_
  refine tDA.go p h fun vs H1 μ1 ds A1 l1 s1 r1 p1 q1 => ⟨by rw [← r1.length]; exact q1.1, fun a ha => ?_⟩
  obtain ⟨μ2, d, A2, s2, r2, h2, q2⟩ := Up.list p1.h r1 ha q1.2
  exact fin _ _ μ2 d A2 (s1.trans s2) r2 h2 q2
theorem sd_ixE (s : Snd c X G T hx W) {a b : Expr} {x y : Ie} {pos : Pos} (ha : PE X a (tDE X.K T hx W (wE G x))) (hb : PE X b (tDE X.K T hx W (wE G y))) (hs : noSlice b = true) : PE X (.Subscript a b pos) (tDE X.K T hx W (wE G (.ix x y))) := by
  have hp : PlainIx b := fun o i => by cases b <;> first | rfl | cases hs
  refine PE.weaken (pe_ix (sd_ix s.hu) ha hb hp) fun σ H Q ⟨μ, ρ, A, E, Q', p, h, fin⟩ => ?_
  refine tDE.go p h fun v H1 μ1 d A1 s1 r1 p1 q1 => tDE.go p1 q1 fun u H2 μ2 e A2 s2 r2 p2 q2 => ?_
  exact ⟨μ2, A2, d, e, Q', p2.h, r1.mono s2 _ _, r2, q2, fun v H3 ⟨μ3, d3, A3, s3, r3, h3, q3⟩ => fin v H3 μ3 d3 A3 ((s1.trans s2).trans s3) r3 h3 q3⟩
abbrev TO' := L2.St → Hp → (Option Int → Hp → Prop) → Prop
def tDO (K : PySem.W.Frag) (T : Tab) (hx : HX) (W : WX) (w : Rho → Ht → (D → Ht → Prop) → (Option Int → Ht → Prop) → Prop) : TO' := fun σ H Q => ∃ μ ρ A E Q', Pk K T hx W μ ρ A E σ H ∧ w ρ A E Q' ∧ ∀ i H' μ' A', Stp μ H μ' H' → HR K μ' A' H' → Q' i A' → Q i H'
theorem tDO.go {K : PySem.W.Frag} {w : Rho → Ht → (D → Ht → Prop) → (Option Int → Ht → Prop) → Prop} {μ : List Addr} {ρ : Rho} {A : Ht} {E : D → Ht → Prop} {σ : L2.St} {H : Hp} {Q' : Option Int → Ht → Prop} {R : Option Int → Hp → Prop} (p : Pk K T hx W μ ρ A E σ H) (h : w ρ A E Q')
    (k : ∀ b H' μ' A', Stp μ H μ' H' → Pk K T hx W μ' ρ A' E σ H' → Q' b A' → R b H') : tDO K T hx W w σ H R :=
  ⟨μ, ρ, A, E, Q', p, h, fun b H' μ' A' s hr q => k b H' μ' A' s (p.step s hr) q⟩
theorem sd_opt {f : Expr → Option Ie} (hf : ∀ e ir, f e = some ir → PE X e (tDE X.K T hx W (wE G ir))) : ∀ {e : Option Expr} {y : Ieo}, cOpt f e = some y → PO X e (tDO X.K T hx W (wEo G y))
  | none, y, h => by
    simp only [cOpt, Option.some.injEq] at h
    subst h
    exact ⟨fun pins s σ H Q I ⟨μ, ρ, A, E, Q', p, h, fin⟩ => po_none.run pins s σ H Q I (fin none H μ A .refl p.h h)⟩
  | some e, y, h => by
    simp only [cOpt, Option.map_eq_some_iff] at h
    obtain ⟨x, hx', rfl⟩ := h
    refine ⟨fun pins s σ H Q I ⟨μ, ρ, A, E, Q', p, h, fin⟩ => (po_some (hf e x hx')).run pins s σ H Q I (tDE.go p h fun v H1 μ1 d A1 s1 r1 p1 q1 => ?_)⟩
    split at q1
    · cases rel_int r1
      exact ⟨_, rfl, fin _ H1 μ1 A1 s1 p1.h q1⟩
    · exact q1.elim
theorem sd_slE {a : Expr} {lo hi : Option Expr} {x : Ie} {y z : Ieo} {p2 pos : Pos} (ha : PE X a (tDE X.K T hx W (wE G x))) (hl : PO X lo (tDO X.K T hx W (wEo G y))) (hh : PO X hi (tDO X.K T hx W (wEo G z))) : PE X (.Subscript a (.Slice lo hi none p2) pos) (tDE X.K T hx W (wE G (.sl x y z))) := by
  refine PE.weaken (pe_slice sd_sl ha hl hh) fun σ H Q ⟨μ, ρ, A, E, Q', p, h, fin⟩ => ?_
  refine tDE.go p h fun v H1 μ1 d A1 s1 r1 p1 q1 => tDO.go p1 q1 fun u H2 μ2 A2 s2 p2 q2 => tDO.go p2 q2 fun w H3 μ3 A3 s3 p3 q3 => ?_
  exact ⟨μ3, A3, d, Q', p3.h, (r1.mono s2 _ _).mono s3 _ _, q3, fun v H4 ⟨μ4, d4, A4, s4, r4, h4, q4⟩ => fin v H4 μ4 d4 A4 (((s1.trans s2).trans s3).trans s4) r4 h4 q4⟩
theorem bi_name {x : Str} {b : BI} (h : biOf x = some b) : x ∈ blNames ∧ bootBuiltins x = some (biV b) := by
  unfold biOf at h
  repeat (split at h; · rename_i e; subst e; cases h; exact ⟨by decide, by decide +kernel⟩)
  cases h
theorem sd_biE (s : Snd c X G T hx W) {x : Str} {b : BI} {p pos : Pos} {e : Expr} {es : List Expr} {ys : Ies} (hb : biOf x = some b) (hg : c.gl x = true) (ho : okName x = true) (hc : needCalm b = true → X.calm = true) (hst : ∀ e' ∈ e :: es, noStar e' = true)
    (ha : PA X (e :: es) (tDA X.K T hx W (e :: es).length (wEs G ys))) : PE X (.Call (.Name x p) (e :: es) [] pos) (tDE X.K T hx W (wE G (.bi b ys))) := by
  obtain ⟨hdb, _, hnn⟩ := okName_at ho
  obtain ⟨hm, hv⟩ := bi_name hb
  have he := star_cons (es := es) (env := X.env) (hst e (by simp))
  have hpl := no_star (es := es) (env := X.env) (pos := pos) fun e' he => hst e' (by simp [he])
  have fin : PE X (.Call (.Name x p) (e :: es) [] pos) (tCB (rDn X.K (biD b)) (tDA X.K T hx W (e :: es).length (wEs G ys))) := by
    have hcall := sd_bi (X := X) b hc
    cases b
    all_goals first
      | exact pe_callB hcall (s.gl hg) (s.bl x hm) hv ha hnn hdb he hpl
      | exact pe_callTy hcall (s.gl hg) (s.bl x hm) hv ha hnn hdb he hpl
  refine PE.weaken fin fun σ H Q ⟨μ, ρ, A, E, Q', p, h, fin⟩ => ?_
  refine tDA.go p h fun vs H1 μ1 ds A1 l1 s1 r1 p1 q1 => ?_
  exact ⟨μ1, A1, ds, Q', p1.h, r1, q1, fun v H3 ⟨μ3, d3, A3, s3, r3, h3, q3⟩ => fin v H3 μ3 d3 A3 (s1.trans s3) r3 h3 q3⟩
theorem ty_name {x : Str} {t : TI'} (h : tyOf x = some t) : x ∈ blNames ∧ bootBuiltins x = some (.type (tyN t)) := by
  unfold tyOf at h
  repeat (split at h; · rename_i e; subst e; cases h; exact ⟨by decide, by decide +kernel⟩)
  cases h
theorem sd_isiE (s : Snd c X G T hx W) {x : Str} {t : TI'} {p p2 pos : Pos} {a : Expr} {y : Ie} (ht : tyOf x = some t) (hg : c.gl x = true) (ho : okName x = true) (hi : c.gl "isinstance" = true) (hst : noStar a = true) (ha : PE X a (tDE X.K T hx W (wE G y))) :
    PE X (.Call (.Name "isinstance" p) [a, .Name x p2] [] pos) (tDE X.K T hx W (wE G (.isi y t))) := by
  obtain ⟨hdb, _, hnn⟩ := okName_at ho
  obtain ⟨hm, hv⟩ := ty_name ht
  have hty : PE X (.Name x p2) (tC (.ty (tyN t))) := pe_bltn (s.gl hg) (s.bl x hm) hv rfl hnn hdb
  refine PE.weaken (pe_callB call_isi (s.gl hi) (s.bl _ (by decide)) (by decide +kernel) (pa_cons ha (pa_cons hty pa_nil rfl) (star_cons hst)) (by decide) (by decide) (star_cons hst) rfl) fun σ H Q ⟨μ, ρ, A, E, Q', p, h, fin⟩ => ?_
  refine tDE.go p h fun v H1 μ1 d A1 s1 r1 p1 q1 => ?_
  unfold optD at q1
  split at q1
  · rename_i b e
    obtain ⟨ty, k1, k2⟩ := sd_isi p1.h r1 e
    exact ⟨v, .ty (tyN t), ty, .type (tyN t), b, rfl, .ty _, k1, k2, fin _ H1 μ1 _ A1 s1 to_bl p1.h q1⟩
  · exact q1.elim
theorem ab_plain {o : Expr} {attr : Str} {env : Env} {whole : Sem Value} (h : plainBase o = true) : attributeBase o attr env whole = whole := by
  unfold attributeBase
  split
  · cases h
  · rfl
theorem few_of : ∀ {es : List Expr} {env : Env} {pos : Pos}, (∀ e ∈ es, noStar e = true) → (backTo pos (starEach es env)).all (fun x => !x.1) = true
  | [], _, _, _ => rfl
  | e :: es, env, pos, h => by
    rw [star_cons (h e (by simp))]
    show (true && (backTo pos (starEach es env)).all (fun x => !x.1)) = true
    rw [few_of fun e' he => h e' (by simp [he])]
    rfl
theorem mi_name {x : Str} {m : MI} (h : miOf x = some m) : x = mtName m := by
  unfold miOf at h
  repeat (split at h; · rename_i e; subst e; cases h; rfl)
  cases h
theorem sd_mtE {m : MI} {x : Str} {o : Expr} {y : Ie} {es : List Expr} {ys : Ies} {apos pos : Pos} (hm : miOf x = some m) (ho : PE X o (tDE X.K T hx W (wE G y))) (hst : ∀ e ∈ es, noStar e = true) (hy : es = [] → ys = .nil) (ha : PA X es (tDA X.K T hx W es.length (wEs G ys))) (hl : (apos.endLine == pos.line) = true)
    (hn : es.length < 20) (hb : plainBase o = true) : PE X (.Call (.Attribute o x apos) es [] pos) (tDE X.K T hx W (wE G (.mt m y ys))) := by
  have ex := mi_name hm
  subst ex
  cases es with
  | nil =>
    have e := hy rfl
    subst e
    refine PE.weaken (pe_bm0 (mt_plain m) (mt_slot m) (mt_type m) (sd_mt m) ho (ab_plain hb) hl) fun σ H Q ⟨μ, ρ, A, E, Q', p, h, fin⟩ => ?_
    refine tDE.go p h fun v H1 μ1 d A1 s1 r1 p1 q1 => ⟨sd_recv p1.h r1 q1.1, ?_⟩
    exact ⟨μ1, A1, d, [], Q', p1.h, r1, .nil, q1.2, fun v H3 ⟨μ3, d3, A3, s3, r3, h3, q3⟩ => fin v H3 μ3 d3 A3 (s1.trans s3) r3 h3 q3⟩
  | cons e es =>
    have he := star_cons (es := es) (env := X.env) (hst e (by simp))
    have hpl := no_star (es := es) (env := X.env) (pos := pos) fun e' he => hst e' (by simp [he])
    have hfew : ((backTo pos (starEach (e :: es) X.env)).all (fun x => !x.1) && (backToKw pos (keywordEach [] X.env)).all (fun x => x.1.isSome) && decide ((e :: es).length + ([] : List Keyword).length + (if ([] : List Keyword).isEmpty then 0 else 1) < 30)) = true := by
      rw [few_of hst]
      simp only [Bool.true_and, Bool.and_eq_true]
      refine ⟨rfl, decide_eq_true ?_⟩
      simp only [List.length_nil, List.isEmpty_nil, if_true]
      omega
    refine PE.weaken (pe_bm (mt_plain m) (mt_slot m) (mt_type m) (sd_mt m) ho ha (ab_plain hb) hfew hl he hpl) fun σ H Q ⟨μ, ρ, A, E, Q', p, h, fin⟩ => ?_
    refine tDE.go p h fun v H1 μ1 d A1 s1 r1 p1 q1 => ⟨sd_recv p1.h r1 q1.1, ?_⟩
    refine tDA.go p1 q1.2 fun vs H2 μ2 ds A2 l2 s2 r2 p2 q2 => ?_
    exact ⟨μ2, A2, d, ds, Q', p2.h, r1.mono s2 _ _, r2, q2, fun v H3 ⟨μ3, d3, A3, s3, r3, h3, q3⟩ => fin v H3 μ3 d3 A3 ((s1.trans s2).trans s3) r3 h3 q3⟩
end
end Px
end TextPx11

section TextPx11k
set_option autoImplicit false
set_option maxRecDepth 100000
set_option maxHeartbeats 4000000
/-! Px11k: a call with keywords. -/
namespace Px
open PySem PySem.Spec PyProof.Rows L2
section
variable {c : CC} {X : Cx} {G : Env'} {T : Tab} {hx : HX} {W : WX}
theorem perm_cons {α : Type} {i : Nat} {pm : List Nat} {l : List α} : permD (i :: pm) l = match l[i]? with | some x => x :: permD pm l | none => permD pm l := by
  unfold permD
  rw [List.filterMap_cons]
  cases l[i]? <;> rfl
theorem vals_perm : ∀ (pm : List Nat) {vs : List V} {us : List Value}, Vals vs us → Vals (permD pm vs) (permD pm us)
  | [], _, _, _ => .nil
  | i :: pm, vs, us, r => by
    rw [perm_cons, perm_cons]
    have ih := vals_perm pm r
    cases e : vs[i]? with
    | none =>
      have e2 : us[i]? = none := by
        rw [List.getElem?_eq_none_iff] at e ⊢
        rw [← r.length]; exact e
      rw [e2]; exact ih
    | some v =>
      obtain ⟨u, eu, ru⟩ := r.get e
      rw [eu]; exact .cons ru ih
theorem vals_append : ∀ {vs zs : List V} {us ws : List Value}, Vals vs us → Vals zs ws → Vals (vs ++ zs) (us ++ ws)
  | [], _, _, _, .nil, r => r
  | _ :: _, _, _, _, .cons h t, r => .cons h (vals_append t r)
theorem rel_perm {K : PySem.W.Frag} {μ : List Addr} {H : Hp} : ∀ (pm : List Nat) {ds : List D} {vs : List V}, RelDs K μ H ds vs → RelDs K μ H (permD pm ds) (permD pm vs)
  | [], _, _, _ => .nil
  | i :: pm, ds, vs, r => by
    rw [perm_cons, perm_cons]
    have ih := rel_perm pm r
    cases e : ds[i]? with
    | none =>
      have e2 : vs[i]? = none := by
        rw [List.getElem?_eq_none_iff] at e ⊢
        rw [← r.length]; exact e
      rw [e2]; exact ih
    | some v =>
      obtain ⟨u, eu, ru⟩ := r.get e
      rw [eu]; exact .cons ru ih
theorem kw_facts {env : Env} {pos : Pos} : ∀ {kws : List Keyword} {ns : List Str}, kwNames kws = some ns → (backToKw pos (keywordEach kws env)).all (·.1.isSome) = true ∧ (backToKw pos (keywordEach kws env)).filterMap (·.1) = ns ∧ (backToKw pos (keywordEach kws env)).any (·.1.isNone) = false ∧ ns.length = kws.length
  | [], ns, h => by
    simp only [kwNames, Option.some.injEq] at h; subst h
    exact ⟨rfl, rfl, rfl, rfl⟩
  | ⟨some x, e, p⟩ :: r, ns, h => by
    simp only [kwNames, Option.map_eq_some_iff] at h
    obtain ⟨ns, h1, rfl⟩ := h
    obtain ⟨a, b, d, l⟩ := kw_facts (env := env) (pos := pos) h1
    refine ⟨?_, ?_, ?_, by simp [l]⟩
    · show (true && (backToKw pos (keywordEach r env)).all (·.1.isSome)) = true
      rw [a]; rfl
    · show x :: (backToKw pos (keywordEach r env)).filterMap (·.1) = _
      rw [b]
    · show (false || (backToKw pos (keywordEach r env)).any (·.1.isNone)) = false
      rw [d]; rfl
  | ⟨none, e, p⟩ :: r, ns, h => by simp [kwNames] at h
theorem PK.weaken {kws : List Keyword} {t t' : TA} (h : PK X kws t) (k : ∀ σ H Q, t' σ H Q → t σ H Q) : PK X kws t' := ⟨fun pos pins s σ H Q I q => h.run pos pins s σ H Q I (k σ H Q q)⟩
theorem sd_kws {f : Expr → Option Ie} (hf : ∀ e ir, f e = some ir → PE X e (tDE X.K T hx W (wE G ir))) : ∀ {kws : List Keyword} {ys : Ies}, cList f (kwVals kws) = some ys → PK X kws (tDA X.K T hx W kws.length (wEs G ys))
  | [], ys, h => by
    simp only [kwVals, cList, Option.some.injEq] at h; subst h
    refine PK.weaken pk_nil fun σ H Q ⟨μ, ρ, A, E, Q', p, h, fin⟩ => fin [] H μ [] A rfl .refl .nil p.h h
  | ⟨nm, e, p⟩ :: es, ys, h => by
    simp only [kwVals, cList] at h
    split at h
    · rename_i a b h1 h2 h3
      cases h
      refine PK.weaken (pk_cons (hf e a h2) (sd_kws hf h3)) fun σ H Q ⟨μ, ρ, A, E, Q', p, h, fin⟩ => ?_
      refine tDE.go p h fun v H1 μ1 d A1 s1 r1 p1 q1 => tDA.go p1 q1 fun vs H2 μ2 ds A2 l2 s2 r2 p2 q2 => ?_
      exact fin (v :: vs) H2 μ2 (d :: ds) A2 (by simp [l2]) (s1.trans s2) (.cons (r1.mono s2 _ _) r2) p2.h q2
    · cases h
theorem evl_nil {P : Program} {w : World} {A : Around} {Ex : Value → Shared → Prop} {pos : Pos} {env : Env} : True := trivial
theorem perm_len {α : Type} {pm : List Nat} {l : List α} (h : ∀ i ∈ pm, i < l.length) : (permD pm l).length = pm.length := by
  induction pm with
  | nil => rfl
  | cons i r ih =>
    rw [perm_cons, List.getElem?_eq_getElem (h i (by simp))]
    simp only [List.length_cons]
    rw [ih fun j hj => h j (by simp [hj])]
/-- f(.., k = v, ..) -/
theorem sd_callk {f : Str} {ns : List Str} {pm : List Nat} {p pos : Pos} {es : List Expr} {kw : Keyword} {kws : List Keyword} {xs ys : Ies} (tk : L2N.Takes X W) (F : FnK X.prog X.w X.K X.mg X.base X.A T (G.con f) f es.length ns pm) (hg : Gl X f) (ho : okName f = true) (hns : kwNames (kw :: kws) = some ns)
    (hst : ∀ e ∈ es, noStar e = true) (hy : es = [] → xs = .nil) (ha : PA X es (tDA X.K T hx W es.length (wEs G xs))) (hk : PK X (kw :: kws) (tDA X.K T hx W (kw :: kws).length (wEs G ys))) (hpm : ∀ i ∈ pm, i < es.length + (kw :: kws).length) :
    PE X (.Call (.Name f p) es (kw :: kws) pos) (tDE X.K T hx W (wE G (.callk f pm xs ys))) := by
  obtain ⟨fa, fd, ps, lv, F, hr, hm, hkp, hpl, hb⟩ := F.ex
  obtain ⟨hdb, _, _⟩ := okName_at ho
  obtain ⟨k1, k2, k3, k4⟩ := kw_facts (env := X.env) (pos := pos) hns
  have run : ∀ (pins : List (Addr × Obj)) (s : Shared) (σ : L2.St) (H : Hp) (Q : VK) (us ws : List Value) (vs zs : List V), Inv X pins σ H s → Vals vs us → Vals zs ws → us.length = es.length → ws.length = ns.length → spD X.K T (G.con f) pm.length (permD pm (vs ++ zs)) H Q (L2.WE W σ) →
      wpAny (model X.prog X.w) X.A (call (.ref fa) us (ns.zip ws)) (EP X pins σ Q) X.xe s := fun pins s σ H Q us ws vs zs I r rz l1 l2 h => by
    refine wpAny_call (codeAny_mono (F.run X.A X.stack s H ⟨us, ns.zip ws⟩ (permD pm (us ++ ws)) (permD pm (vs ++ zs)) Q (L2.WE W σ) hr I.env0 (hb s us ws I.kIn l1 l2) (vals_perm pm (vals_append r rz)) h) fun r s' hq => ?_)
    cases r with
    | error e => exact L2N.passAt tk σ pins H s e s' I hq
    | ok fl =>
      cases fl with
      | ret u => exact I.after hq
      | next => exact False.elim hq
      | brk => exact False.elim hq
      | cont => exact False.elim hq
  have key : ∀ (σ : L2.St) (H : Hp) (Q : VK), tDE X.K T hx W (wE G (.callk f pm xs ys)) σ H Q → tDA X.K T hx W es.length (wEs G xs) σ H fun vs H1 => tDA X.K T hx W (kw :: kws).length (wEs G ys) σ H1 fun zs H2 => vs.length = es.length ∧ zs.length = (kw :: kws).length ∧ spD X.K T (G.con f) pm.length (permD pm (vs ++ zs)) H2 Q (L2.WE W σ) := by
    rintro σ H Q ⟨μ, ρ, A, E, Q', p, h, fin⟩
    refine tDA.go p h fun vs H1 μ1 ds A1 l1 s1 r1 p1 q1 => tDA.go p1 q1 fun zs H2 μ2 bs A2 l2 s2 r2 p2 q2 => ⟨by rw [← r1.length, l1], by rw [← r2.length, l2], ?_⟩
    have r3 := rel_perm pm ((r1.mono s2 _ _).append r2)
    refine ⟨?_, μ2, A2, _, E, Q', p2.h, r3, q2, fun v H3 u => ?_, fun c dd H3 u => p2.x c dd H3 u⟩
    · refine perm_len fun i hi => ?_
      rw [List.length_append, ← r1.length, l1, ← r2.length, l2]
      exact hpm i hi
    · obtain ⟨μ3, d, A3, s3, r3, h3, q3⟩ := u
      exact fin v H3 μ3 d A3 ((s1.trans s2).trans s3) r3 h3 q3
  cases es with
  | nil =>
    have e := hy rfl
    subst e
    refine ⟨fun pins s σ H Q I h => ?_⟩
    refine wpAny_Call_Name_kw (ld_glob I hg hm ?_ hdb)
    have h2 := key σ H Q h
    have h3 : tDA X.K T hx W (kw :: kws).length (wEs G ys) σ H fun zs H2 => zs.length = (kw :: kws).length ∧ spD X.K T (G.con f) pm.length (permD pm ([] ++ zs)) H2 Q (L2.WE W σ) := by
      obtain ⟨μ, ρ, A, E, Q', p, h, fin⟩ := h2
      have q := fin [] H μ [] A rfl .refl .nil p.h h
      obtain ⟨μ, ρ, A, E, Q', p, h, fin⟩ := q
      exact ⟨μ, ρ, A, E, Q', p, h, fun vs H' μ' ds A' l s r hr q => (fin vs H' μ' ds A' l s r hr q).2⟩
    refine PySem.W.callWith_KW0 (h₀ := X.base) I.ok.mod.kin hkp k1 (thn (hk.run pos pins s σ H _ I h3) fun ws s2 ⟨zs, H2, I2, rz, lz, q2⟩ => ⟨I2.kIn, ?_⟩) (by show (false || _) = false; rw [k3]; rfl)
    rw [k2]
    exact run pins s2 σ H2 Q [] ws [] zs I2 .nil rz rfl (by rw [← rz.length, lz, k4]) q2
  | cons e es =>
    refine ⟨fun pins s σ H Q I h => ?_⟩
    refine wpAny_Call_Name_kw (ld_glob I hg hm ?_ hdb)
    refine PySem.W.callWith_KW (h₀ := X.base) I.ok.mod.kin hkp k1 (thn (ha.run pos pins s σ H _ I (key σ H Q h)) fun us s1 ⟨vs, H1, I1, r, q1⟩ => thn (hk.run pos pins s1 σ H1 _ I1 q1) fun ws s2 ⟨zs, H2, I2, rz, l1, l2, q2⟩ => ⟨I2.kIn, ?_⟩) (by rw [k3, Bool.or_false, star_cons (hst e (by simp))]; show (false || (backTo pos (starEach es X.env)).any (·.1)) = false; rw [no_star (pos := pos) fun e' he => hst e' (by simp [he])]; rfl) (star_cons (hst e (by simp)))
    rw [k2]
    exact run pins s2 σ H2 Q us ws vs zs I2 r rz (by rw [← r.length, l1]) (by rw [← rz.length, l2, k4]) q2
end
end Px
end TextPx11k

section TextPx12
set_option autoImplicit false
set_option maxRecDepth 100000
set_option maxHeartbeats 8000000
/-! Px12: every compiled expression is sound. -/
namespace Px
open PySem PySem.Spec PyProof.Rows L2
section
variable {G : Env'} {T : Tab} {hx : HX}
theorem assign_len : ∀ {es : List Expr} {env : Env}, (∀ e ∈ es, noStar e = true) → (assignEach es env).length = es.length ∧ (assignEach es env).findIdx? (·.1) = none
  | [], _, _ => ⟨rfl, rfl⟩
  | e :: es, env, h => by
    obtain ⟨h1, h2⟩ := assign_len (es := es) (env := env) fun e' he => h e' (by simp [he])
    rw [assign_cons (h e (by simp))]
    refine ⟨by simp [h1], ?_⟩
    rw [List.findIdx?_cons]
    simp [h2]
theorem sd_tgs (n : Nat) : ∀ {c : CC} {X : Cx} {W : WX}, Snd c X G T hx W → (∀ e g, cTg c n e = some g → PG X e (gD X.K hx g)) ∧ (∀ es gs, cTgs c n es = some gs → PGs X es (gDs X.K hx gs) ∧ (∀ e ∈ es, noStar e = true) ∧ es.length = tgsLen gs) := by
  induction n with
  | zero =>
    intro c X W s
    refine ⟨fun e g h => by simp [cTg] at h, fun es gs h => ?_⟩
    cases es with
    | nil => simp only [cTgs, Option.some.injEq] at h; subst h; exact ⟨pgs_nilX, by simp, rfl⟩
    | cons e es => simp [cTgs] at h
  | succ n ih =>
    intro c X W s
    obtain ⟨i1, i2⟩ := ih s
    refine ⟨fun e g h => ?_, fun es gs h => ?_⟩
    · unfold cTg at h
      split at h
      · cases h
      · rename_i m x pos e1
        cases e1
        simp only [Option.map_eq_some_iff] at h
        obtain ⟨i, hi, rfl⟩ := h
        obtain ⟨k1, k2, k3⟩ := CC.sto_at s hi
        exact pg_nameX (by rw [s.N]; exact s.nd) k1 k2 k3
      · rename_i m es k pos e1
        cases e1
        split at h
        · cases h
        · rename_i hh
          simp only [Option.map_eq_some_iff] at h
          obtain ⟨gs, hg, rfl⟩ := h
          obtain ⟨k1, k2, k3⟩ := i2 es gs hg
          obtain ⟨l1, l2⟩ := assign_len (env := X.env) k2
          exact pg_tupX (s.calm (by simpa using hh)) k1 (by rw [l1, k3]) l2
      · cases h
    · cases es with
      | nil => simp only [cTgs, Option.some.injEq] at h; subst h; exact ⟨pgs_nilX, by simp, rfl⟩
      | cons e es =>
        simp only [cTgs] at h
        split at h
        · rename_i g gs h1 h2 h3
          cases h
          obtain ⟨k1, k2, k3⟩ := i2 es gs h3
          refine ⟨pgs_consX (i1 e g h2) k1 (by rw [assign_cons h1]; rfl), ?_, by simp [k3, tgsLen]⟩
          intro e' he
          rcases List.mem_cons.mp he with rfl | he
          · exact h1
          · exact k2 e' he
        · cases h
theorem takes_noneN {X : Cx} : L2N.Takes X W0 := fun _ _ ⟨_, _, _, _, _, _, _, _, _, _, _, _, _, _, _, _, w⟩ => w.elim
theorem snd_inner {c : CC} {X : Cx} {W : WX} (s : Snd c X G T hx W) (hh : c.hot = false) (scope : Scope) (s0 : Shared) (H : Hp) (C : Addr) (cl : List (Str × Addr)) (fp : List Addr) : Snd (c.inner scope) (X.blk s0 H scope (compEnvC scope cl C X.env) fp) G T hx W0 where
  N := s.N
  nd := s.nd
  sc := by show relS scope X.env.scope = relS scope c.sc; rw [s.sc]
  calm := s.calm
  fnv := fun x h => by
    rcases h with h | ⟨t, h1, h2⟩
    · cases h
    · cases h1
      show (scope.names.lookup x == some .cell) = true
      rw [h2]; rfl
  hu := s.hu
  bl := s.bl
  cts := s.cts
  tk := takes_noneN
  fns := s.fns
  kws := s.kws
  hfns := fun h => by rw [show (c.inner scope).hot = c.hot from rfl, hh] at h; cases h
  fld := fun e i f p pos h => by cases h
  isx := fun e i t p p1 p2 pos h => by cases h
def ptPlain : Expr → Bool
  | .UnaryOp .Not _ _ => false | .BoolOp .. => false | .IfExp .. => false | .Compare .. => false | _ => true
theorem pt_plain {e : Expr} (h : ptPlain e = true) (env : Env) (whole : Sem Value) : isTrue e env whole = (do let v ← whole; standAt e.pos; holding [v] (truthy v)) := by
  cases e with
  | UnaryOp op x p => cases op <;> first | rfl | cases h
  | BoolOp => cases h
  | IfExp => cases h
  | Compare => cases h
  | _ => rfl
def notSet : Expr → Bool
  | .Set .. => false | _ => true
theorem fold_pure {e : Expr} (h : notSet e = true) (env : Env) (x : Value) : foldedSetIterable e env x = pure x := by
  cases e <;> first | rfl | cases h
theorem of_gen {c : CC} {X : Cx} {W : WX} {e : Expr} {ir : Ie} (he : PE X e (tDE X.K T hx W (wE G ir))) (hp : ptPlain e = true) (hw : ∀ ρ A E Q, wT G ir ρ A E Q → wE G ir ρ A E fun d A' => truD d A' fun c => Q c A') :
    PE X e (tDE X.K T hx W (wE G ir)) ∧ PT X e (tDT X.K T hx W (wT G ir)) :=
  ⟨he, PT.weaken (pt_gen he (fun w => pt_plain hp _ w)) fun σ H Q ⟨μ, ρ, A, E, Q', p, h, fin⟩ => ⟨μ, ρ, A, E, Q', p, hw _ _ _ _ h, fin⟩⟩
theorem of_no {c : CC} {X : Cx} {W : WX} {e : Expr} {ir : Ie} (he : PE X e (tDE X.K T hx W (wE G ir))) (hw : ∀ ρ A E Q, ¬ wT G ir ρ A E Q) :
    PE X e (tDE X.K T hx W (wE G ir)) ∧ PT X e (tDT X.K T hx W (wT G ir)) :=
  ⟨he, ⟨fun pins s σ H Q I ⟨_, _, _, _, _, _, h, _⟩ => (hw _ _ _ _ h).elim⟩⟩
def Okx (c : CC) (X : Cx) (G : Env') (T : Tab) (hx : HX) (W : WX) (e : Expr) (ir : Ie) : Prop := PE X e (tDE X.K T hx W (wE G ir)) ∧ PT X e (tDT X.K T hx W (wT G ir))
theorem sd_globE {c : CC} {X : Cx} {W : WX} (s : Snd c X G T hx W) {x : Str} {pos : Pos} (hg : c.gl x = true) (hc : c.cts.contains x = true) (ho : okName x = true) : PE X (.Name x pos) (tDE X.K T hx W (wE G (.glob x))) := by
  obtain ⟨h1, h2, h3⟩ := okName_at ho
  obtain ⟨d, u, v, e1, e2, e3, e4⟩ := s.cts x hc
  refine PE.weaken (pe_glob (s.gl hg) e2 e3 h1) fun σ H Q ⟨μ, ρ, A, E, Q', p, h, fin⟩ => ?_
  change (match G.ct x with | some d => Q' d A | none => False) at h
  rw [e1] at h
  exact fin v H μ d A .refl (e4 μ H) p.h h
theorem cList_nil {f : Expr → Option Ie} {es : List Expr} {ys : Ies} (h : cList f es = some ys) : es = [] → ys = .nil := by
  rintro rfl
  simpa [cList] using h.symm
theorem sd_all (n : Nat) : ∀ {c : CC} {X : Cx} {W : WX}, Snd c X G T hx W → (∀ e ir, cE c n e = some ir → PE X e (tDE X.K T hx W (wE G ir)) ∧ PT X e (tDT X.K T hx W (wT G ir))) ∧
    (∀ tg e ii, cI c n tg e = some ii → PI X tg e (tDI X.K T hx W (wI G ii)) ∧ ∀ env x, foldedSetIterable e env x = pure x) := by
  induction n with
  | zero =>
    intro c X W s
    exact ⟨fun e ir h => by simp [cE] at h, fun tg e ii h => by simp [cI] at h⟩
  | succ n ih =>
    intro c X W s
    obtain ⟨iE, iI⟩ := ih s
    have iL : ∀ {es ys}, cList (cE c n) es = some ys → PA X es (tDA X.K T hx W es.length (wEs G ys)) := fun h => sd_list (fun e ir h => (iE e ir h).1) h
    refine ⟨fun e ir h => ?_, fun tg e ii h => ?_⟩
    · cases e with
      | Name x pos =>
        simp only [cE] at h
        split at h
        · rename_i ho
          split at h
          · rename_i hv
            simp only [Option.map_eq_some_iff] at h
            obtain ⟨i, hi, rfl⟩ := h
            exact of_gen (c := c) (sd_var s hv hi ho) rfl fun ρ A E Q h => h
          · split at h
            · rename_i hc
              cases h
              simp only [Bool.and_eq_true] at hc
              exact of_no (c := c) (sd_globE s hc.1 hc.2 ho) fun ρ A E Q h => h
            · cases h
        · cases h
      | Constant k p1 p2 =>
        simp only [cE] at h
        split at h <;> first | cases h; done | skip
        all_goals cases h
        · exact of_no (c := c) (sd_cst pe_non (fun μ H => by simp [RelD])) fun ρ A E Q h => h
        · exact of_no (c := c) (sd_cst pe_bl (fun μ H => by simp [RelD])) fun ρ A E Q h => h
        · exact of_no (c := c) (sd_cst pe_int (fun μ H => by simp [RelD])) fun ρ A E Q h => h
        · exact of_no (c := c) (sd_cst pe_str (fun μ H => by simp [RelD])) fun ρ A E Q h => h
      | BinOp a op b pos =>
        simp only [cE] at h
        split at h
        · rename_i x y h1 h2
          cases h
          exact of_gen (c := c) (sd_bin2 (iE a x h1).1 (iE b y h2).1) rfl fun ρ A E Q h => h
        · cases h
      | UnaryOp op a pos =>
        cases op with
        | USub =>
          simp only [cE, Option.map_eq_some_iff] at h
          obtain ⟨x, h1, rfl⟩ := h
          exact of_no (c := c) (sd_neg (iE a x h1).1) fun ρ A E Q h => h
        | Not =>
          simp only [cE, Option.map_eq_some_iff] at h
          obtain ⟨x, h1, rfl⟩ := h
          exact ⟨sd_not (iE a x h1).1, sd_notT (iE a x h1).2⟩
        | _ => simp [cE] at h
      | BoolOp op es pos =>
        match es, h with
        | a :: b :: es, h =>
          simp only [cE] at h
          obtain ⟨k1, k2⟩ := sd_bools (pos := pos) iE op h
          exact ⟨k1, k2.pt⟩
        | [], h => simp [cE] at h
        | [a], h => simp [cE] at h
      | Compare a ops bs pos =>
        match ops, bs, h with
        | [op], [b], h =>
          simp only [cE] at h
          split at h
          · cases h
          · rename_i hm
            split at h
            · rename_i x y h1 h2
              cases h
              exact sd_cmp2 s (iE a x h1).1 (iE b y h2).1 (by simpa using hm)
            · cases h
        | [op, op'], [b, d], h =>
          simp only [cE] at h
          split at h
          · cases h
          · rename_i hm
            split at h
            · rename_i x y z h1 h2 h3
              cases h
              exact sd_chain s (iE a x h1).1 (iE b y h2).1 (iE d z h3).1 (by simpa using hm)
            · cases h
        | [], _, h => simp [cE] at h
        | [_], [], h => simp [cE] at h
        | [_], _ :: _ :: _, h => simp [cE] at h
        | [_, _], [], h => simp [cE] at h
        | [_, _], [_], h => simp [cE] at h
        | [_, _], _ :: _ :: _ :: _, h => simp [cE] at h
        | _ :: _ :: _ :: _, _, h => simp [cE] at h
      | IfExp t a b pos =>
        simp only [cE] at h
        split at h
        · rename_i x y z h1 h2 h3
          cases h
          exact ⟨sd_ite (iE t x h1).2 (iE a y h2).1 (iE b z h3).1, sd_iteT (iE t x h1).2 (iE a y h2).2 (iE b z h3).2⟩
        · cases h
      | Tuple es k pos =>
        simp only [cE, Option.map_eq_some_iff] at h
        obtain ⟨ys, h1, rfl⟩ := h
        exact of_no (c := c) (sd_tup (iL h1)) fun ρ A E Q h => h
      | List es pos =>
        simp only [cE, Option.map_eq_some_iff] at h
        obtain ⟨ys, h1, rfl⟩ := h
        exact of_no (c := c) (sd_lst (iL h1)) fun ρ A E Q h => h
      | Subscript a b pos =>
        have gen : ∀ (hb : noSlice b = true), cE c (n + 1) (.Subscript a b pos) = (match noSlice b, cE c n a, cE c n b with | true, some x, some y => some (.ix x y) | _, _, _ => none) := by
          intro hb
          cases b <;> first | rfl | cases hb
        by_cases hb : noSlice b = true
        · rw [gen hb] at h
          split at h
          · rename_i x y h1 h2 h3
            cases h
            exact of_gen (c := c) (sd_ixE s (iE a x h2).1 (iE b y h3).1 hb) rfl fun ρ A E Q h => h
          · cases h
        · cases b with
          | Slice lo hi st p2 =>
            cases st with
            | none =>
              simp only [cE] at h
              split at h
              · rename_i x y z h1 h2 h3
                cases h
                exact of_no (c := c) (sd_slE (iE a x h1).1 (sd_opt (fun e ir h => (iE e ir h).1) h2) (sd_opt (fun e ir h => (iE e ir h).1) h3)) fun ρ A E Q h => h
              · cases h
            | some st => simp [cE, noSlice] at h
          | _ => exact absurd rfl hb
      | Attribute o f pos =>
        cases o with
        | Name e p =>
          simp only [cE] at h
          split at h
          · rename_i he
            simp only [Bool.and_eq_true, decide_eq_true_eq] at he
            simp only [Option.map_eq_some_iff] at h
            obtain ⟨i, h1, rfl⟩ := h
            exact of_no (c := c) (s.fld e i f p pos he.1.1.1 h1 he.1.1.2 he.1.2 he.2) fun ρ A E Q h => h
          · cases h
        | _ => simp [cE] at h
      | ListComp elt gens scope pos =>
        match gens, h with
        | [⟨tg, iter, ifs, asy⟩], h =>
          have has : asy = 0 := by
            refine Classical.byContradiction fun has => ?_
            unfold cE at h
            split at h
            all_goals first | (rename_i e1; cases e1; done) | (rename_i e1; cases e1; exact absurd rfl has) | (rename_i e1 _; cases e1; exact absurd rfl has) | cases h
          subst has
          simp only [cE] at h
          split at h
          · cases h
          · rename_i hh
            have hh : c.hot = false := by simpa using hh
            split at h
            · rename_i g it el h1 h2 h3
              split at h
              · rename_i hb
                have ok := blkOk_by hb
                have hw : (ownOf c (tgSlots g)).map (·.2) = tgSlots g := by unfold ownOf; rw [List.map_map]; exact List.map_id' _
                have go : ∀ (t : Ieo), (∀ (s0 : Shared) (H : Hp) (C : Addr) (cl : List (Str × Addr)) (fp : List Addr), PTs (X.blk s0 H scope (compEnvC scope cl C X.env) fp) ifs (tDT X.K T hx W0 (wTo G t))) →
                    PE X (.ListComp elt [⟨tg, iter, ifs, 0⟩] scope pos) (tDE X.K T hx W (wE G (.lc g it t el (tgSlots g)))) := fun t ht => by
                  have r := pe_lcX (X := X) (pos := pos) (W := W) (T := T) (hx := hx) (wt := wTo G t) (g := g) (own := ownOf c (tgSlots g)) (s.calm hh) (by rw [s.N]; exact s.nd) (iI tg iter it h2).1 (by rw [s.N, s.sc]; exact ok)
                    (fun s0 H C cl fp => (sd_tgs n (snd_inner s hh scope s0 H C cl fp)).1 tg g h1) ht
                    (fun s0 H C cl fp => ((ih (snd_inner s hh scope s0 H C cl fp)).1 elt el h3).1) (fun x => (iI tg iter it h2).2 _ x) (by rw [hw]; exact fun i h => h)
                  rw [hw] at r
                  exact r
                split at h
                · cases h
                  exact of_no (c := c) (go .no fun s0 H C cl fp => ⟨fun pins s1 σ H Q I ⟨μ, ρ, A, E, Q', p, h, fin⟩ => pts_nil.run pins s1 σ H Q I (fin true H μ A .refl p.h h)⟩) fun ρ A E Q h => h
                · rename_i t
                  simp only [Option.map_eq_some_iff] at h
                  obtain ⟨t', h4, rfl⟩ := h
                  exact of_no (c := c) (go (.so t') fun s0 H C cl fp => pts_one ((ih (snd_inner s hh scope s0 H C cl fp)).1 t t' h4).2) fun ρ A E Q h => h
                · cases h
              · cases h
            · cases h
        | [], h => simp [cE] at h
        | _ :: _ :: _, h => simp [cE] at h
      | Call fn es ks pos =>
        cases ks with
        | cons k ks =>
          cases fn with
          | Name f p =>
            simp only [cE] at h
            split at h
            · rename_i hg
              simp only [Bool.and_eq_true, Bool.not_eq_true'] at hg
              split at h
              · rename_i ns kk hns hfn
                split at h
                · rename_i pm xs ys h1 h2 h3
                  split at h
                  · rename_i hp
                    cases h
                    simp only [Bool.and_eq_true, List.all_eq_true, decide_eq_true_eq] at hp
                    exact of_gen (c := c) (sd_callk s.tk (s.kws hg.2 f _ ns pm h1) (s.gl hg.1.2) hg.1.1 hns (cList_stars h2) (cList_nil h2) (iL h2) (sd_kws (fun e ir h => (iE e ir h).1) h3) hp.2) rfl fun ρ A E Q h => h
                  · cases h
                · cases h
              · cases h
            · cases h
          | _ => cases h
        | nil =>
          cases fn with
          | Attribute o m apos =>
            simp only [cE] at h
            split at h
            · rename_i mi x ys h1 h2 h3
              split at h
              · rename_i hb
                cases h
                simp only [Bool.and_eq_true, decide_eq_true_eq] at hb
                exact of_gen (c := c) (sd_mtE h1 (iE o x h2).1 (cList_stars h3) (cList_nil h3) (iL h3) hb.1.1 hb.1.2 hb.2) rfl fun ρ A E Q h => h
              · cases h
            · cases h
          | Name f p =>
            simp only [cE] at h
            split at h
            · rename_i hg
              simp only [Bool.and_eq_true] at hg
              split at h
              · rename_i k hk
                split at h
                · rename_i hl
                  simp only [Option.map_eq_some_iff] at h
                  obtain ⟨ys, h1, rfl⟩ := h
                  exact of_gen (c := c) (sd_callD s hk hg.2 hg.1 (cList_stars h1) (cList_nil h1) hl (iL h1)) rfl fun ρ A E Q h => h
                · cases h
              · have bi : ∀ {e r}, (match biOf f with | some b => if c.hot && needCalm b then none else (cList (cE c n) (e :: r)).map (.bi b) | none => none) = some ir →
                    PE X (.Call (.Name f p) (e :: r) [] pos) (tDE X.K T hx W (wE G ir)) ∧ PT X (.Call (.Name f p) (e :: r) [] pos) (tDT X.K T hx W (wT G ir)) := fun {e r} h => by
                  split at h
                  · rename_i b hb
                    split at h
                    · cases h
                    · rename_i hc
                      simp only [Option.map_eq_some_iff] at h
                      obtain ⟨ys, h1, rfl⟩ := h
                      refine of_gen (c := c) (sd_biE s hb hg.2 hg.1 (fun nc => s.calm ?_) (cList_stars h1) (iL h1)) rfl fun ρ A E Q h => h
                      rw [nc] at hc
                      simpa using hc
                  · cases h
                split at h
                · rename_i a t p2
                  split at h
                  · rename_i hi
                    subst hi
                    split at h
                    · rename_i ty ht
                      split at h
                      · rename_i hgt
                        simp only [Bool.and_eq_true] at hgt
                        simp only [Option.map_eq_some_iff] at h
                        obtain ⟨y, h1, rfl⟩ := h
                        exact of_gen (c := c) (sd_isiE s ht hgt.1.1 hgt.1.2 hg.2 hgt.2 (iE a y h1).1) rfl fun ρ A E Q h => h
                      · cases h
                    · split at h
                      · rename_i e p1
                        split at h
                        · rename_i hc
                          simp only [Bool.and_eq_true, decide_eq_true_eq] at hc
                          simp only [Option.map_eq_some_iff] at h
                          obtain ⟨i, h1, rfl⟩ := h
                          exact of_gen (c := c) (s.isx e i t p p1 p2 pos hc.1.1.1.1.1 h1 hc.1.1.1.1.2 hc.1.1.1.2 hc.1.1.2 hc.1.2 hc.2 hg.2) rfl fun ρ A E Q h => h
                        · cases h
                      · cases h
                  · exact bi h
                · exact bi h
                · cases h
            · cases h
          | _ => simp [cE] at h
      | _ => simp [cE] at h
    · have seq : ∀ {x}, cE c n e = some x → notSet e = true → PI X tg e (tDI X.K T hx W (wI G (.seq x))) ∧ ∀ env x, foldedSetIterable e env x = pure x := fun {x} h hs =>
        ⟨pi_seqX (iE e x h).1, fold_pure hs⟩
      have seq' : (cE c n e).map Ii.seq = some ii → notSet e = true → PI X tg e (tDI X.K T hx W (wI G ii)) ∧ ∀ env x, foldedSetIterable e env x = pure x := fun h hs => by
        simp only [Option.map_eq_some_iff] at h
        obtain ⟨x, h1, rfl⟩ := h
        exact seq h1 hs
      clear seq
      cases e with
      | Set => cases h
      | Call fn es ks pos =>
        cases ks with
        | cons k ks => exact seq' (by cases fn <;> exact h) rfl
        | nil =>
          cases fn with
          | Name f p =>
            simp only [cI] at h
            split at h
            · rename_i hg
              simp only [Bool.and_eq_true] at hg
              revert h seq'
              match es with
              | [a] =>
                intro seq' h
                dsimp only at h
                split at h
                · rename_i ha
                  split at h
                  · rename_i hf
                    subst hf
                    simp only [Option.map_eq_some_iff] at h
                    obtain ⟨x, h1, rfl⟩ := h
                    exact ⟨pi_rng1X (s.gl hg.1.2) (s.bl _ (by decide)) (iE a x h1).1 (star_cons ha), fold_pure rfl⟩
                  · split at h
                    · rename_i hf
                      subst hf
                      split at h
                      · simp only [Option.map_eq_some_iff] at h
                        obtain ⟨x, h1, rfl⟩ := h
                        exact ⟨pi_enumX (s.gl hg.1.2) (s.bl _ (by decide)) (iE a x h1).1 (star_cons ha), fold_pure rfl⟩
                      · cases h
                    · exact seq' h rfl
                · cases h
              | [a, b] =>
                intro seq' h
                dsimp only at h
                split at h
                · rename_i ha
                  simp only [Bool.and_eq_true] at ha
                  split at h
                  · rename_i x y h1 h2
                    split at h
                    · rename_i hf
                      subst hf
                      cases h
                      exact ⟨pi_rng2X (s.gl hg.1.2) (s.bl _ (by decide)) (iE a x h1).1 (iE b y h2).1 (star_cons ha.1) (star_cons ha.2), fold_pure rfl⟩
                    · split at h
                      · rename_i hf
                        subst hf
                        split at h
                        · cases h
                          exact ⟨pi_zipX (s.gl hg.1.2) (s.bl _ (by decide)) (iE a x h1).1 (iE b y h2).1 (star_cons ha.1) (star_cons ha.2), fold_pure rfl⟩
                        · cases h
                      · cases h
                  · cases h
                · cases h
              | [] => intro seq' h; cases h
              | _ :: _ :: _ :: _ => intro seq' h; cases h
            · exact seq' h rfl
          | _ => exact seq' h rfl
      | _ => exact seq' h rfl
end
end Px
end TextPx12

section TextPx13
set_option autoImplicit false
set_option maxRecDepth 100000
set_option maxHeartbeats 8000000
/-! Px13: statements are sound (loops, stores; raise and try by their own rules). -/
namespace Px
open PySem PySem.Spec PyProof.Rows L2
/-- what is wanted at the ends, carried over -/
structure Fit (K : PySem.W.Frag) (T : Tab) (hx : HX) (W : WX) (N : Dn) (D : Ends) (μ : List Addr) (H : Hp) : Prop where
  nx : ∀ μ' ρ' A' σ' H', Stp μ H μ' H' → RelS K hx μ' H' ρ' σ' → HR K μ' A' H' → N.nx ρ' A' → D.nx σ' H'
  rt : ∀ v H', Up K μ H N.rt v H' → D.rt v H'
  bk : ∀ μ' ρ' A' σ' H', Stp μ H μ' H' → RelS K hx μ' H' ρ' σ' → HR K μ' A' H' → N.bk ρ' A' → D.bk σ' H'
  ct : ∀ μ' ρ' A' σ' H', Stp μ H μ' H' → RelS K hx μ' H' ρ' σ' → HR K μ' A' H' → N.ct ρ' A' → D.ct σ' H'
  xe : ∀ μ' ρ' σ' H' c dd H'', Stp μ H μ' H' → RelS K hx μ' H' ρ' σ' → UpX K T μ' H' (N.xe ρ') c dd H'' → W c dd σ' H''
abbrev WS := Dn → Rho → Ht → Prop
def tDS (K : PySem.W.Frag) (T : Tab) (hx : HX) (W : WX) (w : WS) : TS := fun D σ H => ∃ μ ρ A N, RelS K hx μ H ρ σ ∧ HR K μ A H ∧ Fit K T hx W N D μ H ∧ w N ρ A
section
variable {K : PySem.W.Frag} {T : Tab} {hx : HX} {W : WX} {N : Dn} {D : Ends} {μ μ' : List Addr} {H H' : Hp}
theorem Fit.step (f : Fit K T hx W N D μ H) (s : Stp μ H μ' H') : Fit K T hx W N D μ' H' where
  nx := fun μ2 ρ2 A2 σ2 H2 s2 => f.nx μ2 ρ2 A2 σ2 H2 (s.trans s2)
  rt := fun v H2 u => f.rt v H2 (u.step s)
  bk := fun μ2 ρ2 A2 σ2 H2 s2 => f.bk μ2 ρ2 A2 σ2 H2 (s.trans s2)
  ct := fun μ2 ρ2 A2 σ2 H2 s2 => f.ct μ2 ρ2 A2 σ2 H2 (s.trans s2)
  xe := fun μ2 ρ2 σ2 H2 c dd H3 s2 => f.xe μ2 ρ2 σ2 H2 c dd H3 (s.trans s2)
theorem Fit.pk {ρ : Rho} {A : Ht} {σ : L2.St} (f : Fit K T hx W N D μ H) (s : RelS K hx μ H ρ σ) (h : HR K μ A H) : Pk K T hx W μ ρ A (N.xe ρ) σ H := ⟨s, h, fun c dd H2 u => f.xe μ ρ σ H c dd H2 .refl s u⟩
end
theorem PS.weaken {X : Cx} {st : Stmt} {t t' : TS} (h : PS X st t) (k : ∀ D σ H, t' D σ H → t D σ H) : PS X st t' := ⟨fun pins s σ H D I q => h.run pins s σ H D I (k D σ H q)⟩
theorem PSs.weaken {X : Cx} {st : List Stmt} {t t' : TS} (h : PSs X st t) (k : ∀ D σ H, t' D σ H → t D σ H) : PSs X st t' := ⟨fun pins s σ H D I q => h.run pins s σ H D I (k D σ H q)⟩
section
variable {X : Cx} {G : Env'} {T : Tab} {hx : HX} {W : WX} {pos : Pos}
def noComp : Expr → Bool
  | .ListComp .. => false | .SetComp .. => false | .DictComp .. => false | _ => true
def noTup : Expr → Bool
  | .Tuple .. => false | _ => true
theorem sw_no {e : Expr} (h : noComp e = true) (t : Option Expr) (l : Nat) (env : Env) : swapsWith e t l env = pure false := by
  cases e <;> first | rfl | cases h
theorem sws_no {e : Expr} (h : noComp e = true) (t : Expr) (l : Nat) (env : Env) : swapsWithSole [t] e l env = pure false := sw_no h _ _ _
theorem stores_no {e : Expr} (h : noTup e = true) (t : Expr) (env : Env) : swappedStores [t] e env = pure none := by
  unfold swappedStores
  cases e <;> first | cases h; done | (cases t <;> rfl)
theorem ss_nil : PSs X [] (tDS X.K T hx W (wSs G .nil)) := PSs.weaken pss_nil fun D σ H ⟨μ, ρ, A, N, rs, hr, f, q⟩ => f.nx μ ρ A σ H .refl rs hr q
theorem ss_cons {st : Stmt} {rest : List Stmt} {i : Is} {is : Iss} (h1 : PS X st (tDS X.K T hx W (wS G i))) (h2 : PSs X rest (tDS X.K T hx W (wSs G is))) : PSs X (st :: rest) (tDS X.K T hx W (wSs G (.cons i is))) :=
  PSs.weaken (pss_cons h1 h2) fun D σ H ⟨μ, ρ, A, N, rs, hr, f, q⟩ => ⟨μ, ρ, A, { N with nx := fun ρ' A' => wSs G is N ρ' A' }, rs, hr, ⟨fun μ' ρ' A' σ' H' s r h q => ⟨μ', ρ', A', N, r, h, f.step s, q⟩, f.rt, f.bk, f.ct, f.xe⟩, q⟩
theorem ss_set {i : Nat} {x : Str} {e : Expr} {ir : Ie} {p : Pos} (hN : X.N.Nodup) (hi : X.N[i]? = some x) (hx' : Loc X.env.scope x) (hf : X.fn x = true ∨ X.env.scope.names.lookup x = some .local) (he : PE X e (tDE X.K T hx W (wE G ir)))
    (hs : swapsWith e (some (.Name x p)) pos.line X.env = pure false) : PS X (.Assign [.Name x p] e pos) (tDS X.K T hx W (wS G (.set i ir))) :=
  PS.weaken (ps_set hN hi hx' he hs hf) fun D σ H ⟨μ, ρ, A, N, rs, hr, f, q⟩ => tDE.go (f.pk rs hr) q fun v H1 μ1 d A1 s1 r1 p1 q1 => f.nx μ1 _ A1 _ H1 s1 (p1.s.set i r1) p1.h q1
theorem ss_asg {tg e : Expr} {g : Tg} {ir : Ie} (he : PE X e (tDE X.K T hx W (wE G ir))) (hg : PG X tg (gD X.K hx g)) (h1 : noComp e = true) (h2 : noTup e = true) (h3 : noStar tg = true) : PS X (.Assign [tg] e pos) (tDS X.K T hx W (wS G (.asg g ir))) :=
  PS.weaken (ps_asg he hg (sws_no h1 _ _ _) (stores_no h2 _ _) (by rw [assign_cons h3]; rfl)) fun D σ H ⟨μ, ρ, A, N, rs, hr, f, q⟩ => tDE.go (f.pk rs hr) q fun v H1 μ1 d A1 s1 r1 p1 q1 => by
    unfold tgD at q1
    split at q1
    · rename_i ρ' e
      exact ⟨μ1, ρ, d, ρ', p1.s, r1, e, fun σ' rs' _ => f.nx μ1 ρ' A1 σ' H1 s1 rs' p1.h q1⟩
    · exact q1.elim
theorem ss_ex {e : Expr} {ir : Ie} (he : PE X e (tDE X.K T hx W (wE G ir))) (h1 : noComp e = true) : PS X (.Expr e pos) (tDS X.K T hx W (wS G (.ex ir))) :=
  PS.weaken (ps_expr he (sw_no h1 _ _ _)) fun D σ H ⟨μ, ρ, A, N, rs, hr, f, q⟩ => tDE.go (f.pk rs hr) q fun v H1 μ1 d A1 s1 r1 p1 q1 => f.nx μ1 _ A1 _ H1 s1 p1.s p1.h q1
theorem ss_ret {e : Expr} {ir : Ie} (he : PE X e (tDE X.K T hx W (wE G ir))) : PS X (.Return (some e) pos) (tDS X.K T hx W (wS G (.ret ir))) :=
  PS.weaken (ps_ret he) fun D σ H ⟨μ, ρ, A, N, rs, hr, f, q⟩ => tDE.go (f.pk rs hr) q fun v H1 μ1 d A1 s1 r1 p1 q1 => f.rt v H1 ⟨μ1, d, A1, s1, r1, p1.h, q1⟩
theorem ss_retN : PS X (.Return none pos) (tDS X.K T hx W (wS G .retN)) :=
  PS.weaken ps_retN fun D σ H ⟨μ, ρ, A, N, rs, hr, f, q⟩ => f.rt .non H ⟨μ, .non, A, .refl, to_non, hr, q⟩
theorem ss_pass : PS X (.Pass pos) (tDS X.K T hx W (wS G .pss)) := PS.weaken ps_pass fun D σ H ⟨μ, ρ, A, N, rs, hr, f, q⟩ => f.nx μ ρ A σ H .refl rs hr q
theorem ss_doc {x : Str} {j : Nat} {p : Pos} : PS X (.Expr (.Constant (.str x) j p) pos) (tDS X.K T hx W (wS G .pss)) := PS.weaken ps_doc fun D σ H ⟨μ, ρ, A, N, rs, hr, f, q⟩ => f.nx μ ρ A σ H .refl rs hr q
theorem ss_brk : PS X (.Break pos) (tDS X.K T hx W (wS G .brk)) := PS.weaken ps_break fun D σ H ⟨μ, ρ, A, N, rs, hr, f, q⟩ => f.bk μ ρ A σ H .refl rs hr q
theorem ss_cnt : PS X (.Continue pos) (tDS X.K T hx W (wS G .cnt)) := PS.weaken ps_continue fun D σ H ⟨μ, ρ, A, N, rs, hr, f, q⟩ => f.ct μ ρ A σ H .refl rs hr q
theorem ss_if {t : Expr} {a b : List Stmt} {it : Ie} {ia ib : Iss} (ht : PT X t (tDT X.K T hx W (wT G it))) (ha : PSs X a (tDS X.K T hx W (wSs G ia))) (hb : PSs X b (tDS X.K T hx W (wSs G ib))) : PS X (.If t a b pos) (tDS X.K T hx W (wS G (.ife it ia ib))) :=
  PS.weaken (ps_if ht ha hb) fun D σ H ⟨μ, ρ, A, N, rs, hr, f, q⟩ => tDT.go (f.pk rs hr) q fun c H1 μ1 A1 s1 p1 q1 => by
    cases c with
    | true => exact ⟨μ1, ρ, A1, N, p1.s, p1.h, f.step s1, by simpa using q1⟩
    | false => exact ⟨μ1, ρ, A1, N, p1.s, p1.h, f.step s1, by simpa using q1⟩
theorem ss_while {t : Expr} {b : List Stmt} {it : Ie} {ib : Iss} (hp : PassesOwn (model X.prog X.w) X.A X.env X.xe) (ht : PT X t (tDT X.K T hx W (wT G it))) (hb : PSs X b (tDS X.K T hx W (wSs G ib))) : PS X (.While t b [] pos) (tDS X.K T hx W (wS G (.whl it ib))) := by
  refine PS.weaken (ps_while hp ht hb) fun D σ H ⟨μ, ρ, A, N, rs, hr, f, q⟩ => ?_
  obtain ⟨J, ⟨m, j⟩, turn⟩ := q
  refine ⟨fun m σ' H' => ∃ μ' ρ' A', Stp μ H μ' H' ∧ RelS X.K hx μ' H' ρ' σ' ∧ HR X.K μ' A' H' ∧ J m ρ' A', ⟨m, μ, ρ, A, .refl, rs, hr, j⟩, ?_⟩
  rintro m σ1 H1 ⟨μ1, ρ1, A1, s1, rs1, hr1, j1⟩
  refine tDT.go ((f.step s1).pk rs1 hr1) (turn m ρ1 A1 j1) fun c H2 μ2 A2 s2 p2 q2 => ?_
  cases c with
  | true =>
    simp only [if_true] at q2 ⊢
    refine ⟨fun σ' H' => ∃ m', m' < m ∧ ∃ μ' ρ' A', Stp μ H μ' H' ∧ RelS X.K hx μ' H' ρ' σ' ∧ HR X.K μ' A' H' ∧ J m' ρ' A', fun σ' H' h => h, μ2, ρ1, A2, _, p2.s, p2.h, ?_, q2⟩
    have f2 := f.step (s1.trans s2)
    exact ⟨fun μ' ρ' A' σ' H' s r h ⟨m', lt, j⟩ => ⟨m', lt, μ', ρ', A', (s1.trans s2).trans s, r, h, j⟩, f2.rt, fun μ' ρ' A' σ' H' s r h q => f2.nx μ' ρ' A' σ' H' s r h q, fun μ' ρ' A' σ' H' s r h ⟨m', lt, j⟩ => ⟨m', lt, μ', ρ', A', (s1.trans s2).trans s, r, h, j⟩, f2.xe⟩
  | false =>
    simp only [Bool.false_eq_true, if_false] at q2 ⊢
    exact f.nx μ2 ρ1 A2 σ1 H2 (s1.trans s2) p2.s p2.h q2
theorem ss_for {tg iter : Expr} {b : List Stmt} {g : Tg} {ii : Ii} {ib : Iss} (hp : PassesOwn (model X.prog X.w) X.A X.env X.xe) (hc : X.calm = true) (hi : PI X tg iter (tDI X.K T hx W (wI G ii))) (hs : ∀ x, foldedSetIterable iter X.env x = pure x) (hg : PG X tg (gD X.K hx g)) (hb : PSs X b (tDS X.K T hx W (wSs G ib))) :
    PS X (.For tg iter b [] pos) (tDS X.K T hx W (wS G (.fr g ii ib))) := by
  refine PS.weaken (ps_for hp hc hi hg hb hs) fun D σ H ⟨μ, ρ, A, N, rs, hr, f, q⟩ => ?_
  refine ⟨μ, ρ, A, _, _, f.pk rs hr, q, fun J H1 μ1 wk A1 s1 hr1 wd q1 => ?_⟩
  refine ⟨fun i m σ' H' => m = wk.items.length - i ∧ i ≤ wk.items.length ∧ ∃ μ' ρ' A', Stp μ1 H1 μ' H' ∧ RelS X.K hx μ' H' ρ' σ' ∧ HR X.K μ' A' H' ∧ loopD wk.ok (fun d ρ A k => tgD g d ρ fun ρ' => wSs G ib { N with nx := k, ct := k, bk := N.nx } ρ' A) N.nx (wk.items.drop i) ρ' A',
    ⟨wk.items.length, by simp, Nat.zero_le _, μ1, ρ, A1, .refl, rs.mono s1, hr1, by simpa using q1⟩, ?_⟩
  rintro i m σ2 H2 ⟨rfl, hle, μ2, ρ2, A2, s2, rs2, hr2, l⟩
  by_cases hlt : i < wk.items.length
  · rw [List.drop_eq_getElem_cons hlt] at l
    obtain ⟨ok, l⟩ := l
    refine .inr ⟨wd.go i μ2 A2 H2 hlt s2 hr2 ok, fun σ' H' => ∃ μ' ρ' A', Stp μ1 H1 μ' H' ∧ RelS X.K hx μ' H' ρ' σ' ∧ HR X.K μ' A' H' ∧ loopD wk.ok (fun d ρ A k => tgD g d ρ fun ρ' => wSs G ib { N with nx := k, ct := k, bk := N.nx } ρ' A) N.nx (wk.items.drop (i + 1)) ρ' A',
      fun σ' H' n => ⟨wk.items.length - (i + 1), by omega, rfl, hlt, n⟩, fun x H3 y => ?_⟩
    obtain ⟨d, ed, rd, s3, hr3⟩ := wd.yld i μ2 A2 H2 x H3 hlt s2 hr2 ok y
    rw [List.getElem?_eq_getElem hlt] at ed
    cases ed
    unfold tgD at l
    split at l
    · rename_i ρ3 e
      refine ⟨μ2, ρ2, _, ρ3, rs2.mono s3, rd, e, fun σ3 rs3 _ => ⟨μ2, ρ3, A2, _, rs3, hr3, ?_, l⟩⟩
      have f3 := f.step (s1.trans (s2.trans s3))
      have s23 := s2.trans s3
      exact ⟨fun μ' ρ' A' σ' H' s r h q => ⟨μ', ρ', A', s23.trans s, r, h, q⟩, f3.rt, fun μ' ρ' A' σ' H' s r h q => f3.nx μ' ρ' A' σ' H' s r h q, fun μ' ρ' A' σ' H' s r h q => ⟨μ', ρ', A', s23.trans s, r, h, q⟩, f3.xe⟩
    · exact l.elim
  · have e : i = wk.items.length := by omega
    subst e
    rw [List.drop_length] at l
    obtain ⟨ok, l⟩ := l
    exact .inl ⟨wd.stop μ2 A2 H2 s2 hr2 ok, f.nx μ2 ρ2 A2 σ2 H2 (s1.trans s2) rs2 hr2 l⟩
theorem ss_aug {i : Nat} {x : Str} {e : Expr} {ir : Ie} {op : Operator} {p : Pos} (hop : op = .Add ∨ op = .Sub) (hN : X.N.Nodup) (hi : X.N[i]? = some x) (hx' : Loc X.env.scope x) (hf : X.fn x = true ∨ X.env.scope.names.lookup x = some .local) (he : PE X e (tDE X.K T hx W (wE G ir))) :
    PS X (.AugAssign (.Name x p) op e pos) (tDS X.K T hx W (wS G (.aug i op ir))) := by
  have go : ∀ (h : Int → Int → Int), (∀ a b A Q, binD op (.int a) (.int b) A Q → Q (.int (h a b)) A) → PIp X op (ipI h) → PS X (.AugAssign (.Name x p) op e pos) (tDS X.K T hx W (wS G (.aug i op ir))) := fun h hb hip => by
    refine PS.weaken (ps_aug hN hi hx' he hip hf) fun D σ H ⟨μ, ρ, A, N, rs, hr, f, q⟩ => ?_
    change varD ρ i _ at q
    unfold varD at q
    split at q
    · rename_i d e1
      obtain ⟨v, ev, r⟩ := rs.val i d e1
      refine ⟨v, ev, ?_⟩
      cases d with
      | exn _ _ _ => exact q.1.elim
      | int a =>
        refine tDE.go (f.pk rs hr) q.2 fun u H1 μ1 d A1 s1 r1 p1 q1 => ?_
        cases d with
        | int b =>
          have r' : RelD X.K μ H (.int a) v := r
          cases rel_int r'
          cases rel_int r1
          exact ⟨a, b, rfl, rfl, f.nx μ1 _ A1 _ H1 s1 (p1.s.set i to_int) p1.h (hb _ _ _ _ q1.2)⟩
        | _ => exact q1.1.elim
      | _ =>
        refine tDE.go (f.pk rs hr) q.2 fun u H1 μ1 d A1 s1 r1 p1 q1 => ?_
        exact (by cases d <;> exact q1.1.elim)
    · exact q.elim
  rcases hop with rfl | rfl
  · exact go _ (fun a b A Q h => h) ip_add
  · exact go _ (fun a b A Q h => h) ip_sub
theorem sub_plain {o i : Expr} {p : Pos} {env : Env} (h : noSlice i = true) (v : Value) : assign (.Subscript o i p) env v = (do
      let ov ← holding [v] (eval o env)
      let iv ← holding [v, ov] (eval i env)
      standAt p
      holding [v, ov, iv] (setItem ov iv v)
      release [v, ov, iv] []) := by
  cases i <;> first | rfl | cases h
def rSetD (K : PySem.W.Frag) : TSet := fun o i v H Q => ∃ μ A do' di dv k, HR K μ A H ∧ RelD K μ H do' o ∧ RelD K μ H di i ∧ RelD K μ H dv v ∧ setD do' di dv A k ∧ ∀ H' A', Stp μ H μ H' → HR K μ A' H' → k A' → Q H'
theorem pset_D (hu : X.A.units + 64 < cLine) : PSet X (rSetD X.K) := by
  rintro pins s σ H o i v ov iv u Q I ro ri rv ⟨μ, A, do', di, dv, k, hr, h1, h2, h3, h, fin⟩
  exact thn (sd_set hu I ro ri rv hr h1 h2 h3 h) fun _ s2 ⟨H', A', I2, s, hr2, q⟩ => ⟨H', I2, fin H' A' s hr2 q⟩
theorem ss_asgS {o i e : Expr} {io ii ir : Ie} {p : Pos} (hu : X.A.units + 64 < cLine) (he : PE X e (tDE X.K T hx W (wE G ir))) (ho : PE X o (tDE X.K T hx W (wE G io))) (hi : PE X i (tDE X.K T hx W (wE G ii))) (h1 : noComp e = true) (h2 : noSlice i = true) :
    PS X (.Assign [.Subscript o i p] e pos) (tDS X.K T hx W (wS G (.asgS io ii ir))) := by
  refine PS.weaken (ps_asg he (pg_sub ho hi (pset_D hu) (sub_plain h2)) (sws_no h1 _ _ _) (by unfold swappedStores; rfl) rfl) fun D σ H ⟨μ, ρ, A, N, rs, hr, f, q⟩ => ?_
  refine tDE.go (f.pk rs hr) q fun v H1 μ1 d A1 s1 r1 p1 q1 => tDE.go p1 q1 fun x H2 μ2 dx A2 s2 r2 p2 q2 => tDE.go p2 q2 fun y H3 μ3 dy A3 s3 r3 p3 q3 => ?_
  exact ⟨μ3, A3, dx, dy, d, _, p3.h, r2.mono s3 _ _, r3, (r1.mono s2 _ _).mono s3 _ _, q3, fun H' A' s h q => f.nx μ3 ρ A' σ H' (((s1.trans s2).trans s3).trans s) (p3.s.mono s) h q⟩
end
end Px
end TextPx13

section TextPx14
set_option autoImplicit false
set_option maxRecDepth 100000
set_option maxHeartbeats 4000000
/-! Px14: try with several clauses, each with or without a name; making an error of an own class; a caught error's class and fields. -/
namespace Px
open PySem PySem.Spec PyProof.Rows L2
def endsOff (i : Option Nat) (D : Ends) : Ends := match i with
  | none => D
  | some i => { nx := fun σ' H' => D.nx (σ'.set i none) H', rt := D.rt, bk := fun σ' H' => D.bk (σ'.set i none) H', ct := fun σ' H' => D.ct (σ'.set i none) H' }
def slotOn (i : Option Nat) (a : Addr) (σ : L2.St) : L2.St := match i with | none => σ | some i => σ.set i (some (.ref a))
/-- what the clauses wish, one after the other -/
def wA (K : PySem.W.Frag) (Wout : WX) (D : Ends) : List (Value × Option Nat × (Addr → Value → Option Addr → TS)) → WX
  | [] => Wout
  | (c, i, ts) :: r => fun cls d σ H => ∃ b, PySem.W.exmOne K cls c = some b ∧ (b = true → ∀ a, H a = none → ts a cls d (endsOff i D) (slotOn i a σ) H) ∧ (b = false → wA K Wout D r cls d σ H)
inductive HdsA (X : Cx) : List ExceptHandler → List (Value × Option Nat × (Addr → Value → Option Addr → TS)) → Prop
  | nil : HdsA X [] []
  | plain {x : Str} {c : Value} {ts : Addr → Value → Option Addr → TS} {b₀ : Stmt} {suite : List Stmt} {np pos' : Pos} {hds : List ExceptHandler} {l : List (Value × Option Nat × (Addr → Value → Option Addr → TS))} (hc : Names X x c)
      (hsu : ∀ (a : Addr) (oe : Obj) (cls : Value) (d : Option Addr) (pn : List (Addr × Obj)), L2N.Zn cls d oe → (∃ vs, oe.data = .fields vs) → PSs (X.suite a ((a, oe) :: pn)) (b₀ :: suite) (ts a cls d)) (r : HdsA X hds l) :
      HdsA X (.ExceptHandler (some (.Name x np)) none (b₀ :: suite) pos' :: hds) ((c, none, ts) :: l)
  | named {x n : Str} {i : Nat} {c : Value} {ts : Addr → Value → Option Addr → TS} {b₀ : Stmt} {suite : List Stmt} {np pos' : Pos} {hds : List ExceptHandler} {l : List (Value × Option Nat × (Addr → Value → Option Addr → TS))} (hc : Names X x c)
      (hi : X.N[i]? = some n) (hln : X.env.kindOf n = some .local)
      (hsu : ∀ (a : Addr) (oe : Obj) (cls : Value) (d : Option Addr) (pn : List (Addr × Obj)), L2N.Zn cls d oe → (∃ vs, oe.data = .fields vs) → PSs (X.suite a ((a, oe) :: pn)) (b₀ :: suite) (ts a cls d)) (r : HdsA X hds l) :
      HdsA X (.ExceptHandler (some (.Name x np)) (some n) (b₀ :: suite) pos' :: hds) ((c, some i, ts) :: l)
section
variable {X : Cx} {body : List Stmt} {h₀ : ExceptHandler} {hds : List ExceptHandler} {l : List (Value × Option Nat × (Addr → Value → Option Addr → TS))} {pos : Pos} {tb : WX → TS} {Wout : WX}
theorem ps_tryA (hs : X.stack = X.env :: X.outer) (hf : X.env.frame = some X.env.locals) (hN : X.N.Nodup) (tk : L2N.Takes X Wout)
    (hb : ∀ (W : WX) (pn : List (Addr × Obj)) (xe : Value → Shared → Prop), L2N.Takes (X.tr pn xe) W → PassesOwn (model X.prog X.w) X.A X.env xe → PSs (X.tr pn xe) body (tb W))
    (hh : HdsA X (h₀ :: hds) l) : PS X (.Try body (h₀ :: hds) [] [] pos) (fun D σ H => tb (wA X.K Wout D l) D σ H) := by
  refine ⟨fun pins s σ H D I h => ?_⟩
  have ok := I.ok
  have hfr : X.A.frames = some (X.env :: X.outer) := by rw [ok.frames, hs]
  refine wpAny_Try_except ?_
  refine wpAny_mono ((hb (wA X.K Wout D l) (X.pn ++ pins) (fun e s₁ => wpAny (model X.prog X.w) X.A (noteFrame e X.env) (fun _ s₂ => wpAny (model X.prog X.w) X.A (setFlight e none) (fun _ s₃ =>
    wpAny (model X.prog X.w) X.A (handleBy e X.env (h₀ :: hds)) (SP X pins D) X.xe s₃) X.xe s₂) X.xe s₁) (fun u s' xx => ?_) PassesOwn.looking).run [] s σ H D (I.toTry _) h) (fun f s1 hsp => ?_) (fun e s1 he => he)
  · obtain ⟨a, B, sI, pins', σ', H', cls, d, rfl, J', nb, up, sky, na, os, ag, w⟩ := xx
    have J : Inv X pins σ' H' sI := J'.ofTry ok
    have sky' : Sky B (X.env :: X.outer) a (L2N.Zn cls d) X.env.locals s'.heap := by rw [← hs]; exact sky
    show wpAny (model X.prog X.w) X.A (noteFrame (.ref a) X.env) _ _ _
    refine L2N.Sky.land L2N.Zn.steady hfr hf sky' fun h3 fl3 up3 => ?_
    have J3 : Inv X pins σ' H' { s' with heap := h3 } := J.landed nb fl3.1 (up.trans up3) os ag
    obtain ⟨oe3, vs3, he3, hz3, hd3⟩ := fl3.there
    have nfr : a ∉ frs (X.env :: X.outer) := fun hm => by
      obtain ⟨_, o', e', hnf⟩ := fl3.2.2.1.mem hm
      rw [he3] at e'; cases e'
      exact hnf _ hd3
    have nL : a ≠ X.env.locals := fun z => nfr (List.mem_filterMap.mpr ⟨X.env, List.mem_cons_self, by rw [hf, z]⟩)
    have nF : a ∉ X.fs := fun hm => by
      obtain ⟨e, he, q⟩ := List.mem_filterMap.mp hm
      exact nfr (List.mem_filterMap.mpr ⟨e, List.mem_cons_of_mem _ he, q⟩)
    have S3 := J3.suite he3 hd3 na nL nF
    have LT : PySem.W.Looks (model X.prog X.w) h3 (typeOf (.ref a)) cls := fun A Q E s k q => wpAny_typeOf_ref (k _ _ he3) (by rw [hz3.1]; exact q)
    have test : ∀ {x : Str} {c : Value} {np : Pos} {Q : Value → Shared → Prop} {E : Value → Shared → Prop}, Names X x c → Q c { s' with heap := h3 } → wpAny (model X.prog X.w) (X.A.mark (some (.ref a))) (eval (.Name x np) X.env) Q E { s' with heap := h3 } := fun {x c np Q E} hc q => by
      obtain ⟨hg, hdbg, hm | ⟨hm, hv, hnn⟩⟩ := hc
      · exact ld_glob (X := X.suite a ((a, oe3) :: (X.pn ++ pins))) S3 hg hm q hdbg
      · exact ld_blt (X := X.suite a ((a, oe3) :: (X.pn ++ pins))) S3 hg hm hv q hnn hdbg
    have go : ∀ {hds' : List ExceptHandler} {l' : List (Value × Option Nat × (Addr → Value → Option Addr → TS))}, HdsA X hds' l' → wA X.K Wout D l' cls d σ' H' →
        wpAny (model X.prog X.w) X.A (handleBy (.ref a) X.env hds') (SP X pins D) X.xe { s' with heap := h3 } := by
      intro hds' l' hk
      induction hk with
      | nil =>
        intro w
        refine wpAny_handleBy_nil ?_
        obtain ⟨k1, k2, k3, oe, vs, T, oT, ts', he, hz, hd, h1, hr⟩ := id fl3
        unfold PySem.passOn
        refine wpAny_bind (wpAny_field he hd h1 ?_)
        rw [if_neg (show ¬ ((Value.ref T == Value.none) = true) from by simp)]
        have fin : wpAny (model X.prog X.w) X.A (setFlight (.ref a) X.env.frame) (fun _ s4 => wpAny (model X.prog X.w) X.A (throw (.ref a) : Sem Flow) (SP X pins D) X.xe s4) X.xe { s' with heap := h3 } := by
          rw [hf]
          refine HandSPX.setFlight_upZ fl3 fun h4 hh4 up4 => wpAny_throw (tk _ _ ?_)
          exact ⟨a, B, sI, pins, σ', H', cls, d, rfl, J, nb, (up.trans up3).trans up4, .inr (.inr (by rw [hs]; exact hh4)), na, os, ag, w⟩
        first
          | exact wpAny_bind (wpAny_pure (wpAny_bind fin))
          | exact wpAny_bind fin
      | @plain x c ts b₀ suite np pos' hds2 l2 hc hsu r ih =>
        intro w
        obtain ⟨b, hb1, hyes, hno⟩ := w
        refine wpAny_handleBy_cons (codeAny_handlers_test ?_) (by intro q; cases q)
        have LM := PySem.W.exm_one (M := model X.prog X.w) (J3.kIn) LT hb1
        refine test hc (LM.here ?_)
        cases b with
        | true =>
          refine codeAny_handlers_suite ?_
          refine HandSPX.lands_againZ fl3 fun h4 fl4 up4 => ?_
          have J4 : Inv X pins σ' H' { s' with heap := h4 } := J.landed nb fl4.1 ((up.trans up3).trans up4) os ag
          obtain ⟨oe4, vs4, he4, hz4, hd4⟩ := fl4.there
          have S4 := J4.suite he4 hd4 na nL nF
          refine wpAny_mono ((hsu a oe4 cls d (X.pn ++ pins) hz4 ⟨_, hd4⟩).run [] _ _ H' _ S4 (hyes rfl a na)) (fun f s6 hsp => ?_) (fun _ _ z => False.elim z)
          cases f with
          | ret u =>
            obtain ⟨v6, σ6, H6, S6, r6, q6⟩ := hsp
            exact ⟨_, _, _, S6.unsuite ok, r6, q6⟩
          | _ =>
            obtain ⟨σ6, H6, S6, q6⟩ := hsp
            exact ⟨_, _, S6.unsuite ok, q6⟩
        | false =>
          show wpAny _ X.A (handleBy (.ref a) X.env hds2) _ _ _
          exact ih (hno rfl)
      | @named x n i c ts b₀ suite np pos' hds2 l2 hc hi hln hsu r ih =>
        intro w
        obtain ⟨b, hb1, hyes, hno⟩ := w
        refine wpAny_handleBy_cons (codeAny_handlers_test ?_) (by intro q; cases q)
        have LM := PySem.W.exm_one (M := model X.prog X.w) (J3.kIn) LT hb1
        refine test hc (LM.here ?_)
        cases b with
        | true =>
          refine codeAny_handlers_suite_as ?_
          refine HandSPX.lands_againZ fl3 fun h4 fl4 up4 => ?_
          have J4 : Inv X pins σ' H' { s' with heap := h4 } := J.landed nb fl4.1 ((up.trans up3).trans up4) os ag
          obtain ⟨oe4, vs4, he4, hz4, hd4⟩ := fl4.there
          have S4 := J4.suite he4 hd4 na nL nF
          refine store_ok (X := X.suite a ((a, oe4) :: (X.pn ++ pins))) (v := .ref a) S4 hN hi (.inl hln) rfl (fun s5 S5 => ?_) (.inr hln)
          refine wpAny_mono ((hsu a oe4 cls d (X.pn ++ pins) hz4 ⟨_, hd4⟩).run [] s5 _ H' _ S5 (hyes rfl a na)) (fun f s6 hsp => ?_) (fun _ _ z => False.elim z)
          have end_ : ∀ {σ6 : L2.St} {H6 : Hp} {Q : Shared → Prop}, Inv (X.suite a ((a, oe4) :: (X.pn ++ pins))) [] σ6 H6 s6 → (∀ s7, Inv X pins (σ6.set i none) H6 s7 → Q s7) →
              wpAny (model X.prog X.w) X.A (do bindName X.env n .none; unbindBehindTheSuite X.env n pos') (fun _ s7 => Q s7) X.xe s6 := fun {σ6 H6 Q} S6 hq => gone_ok (S6.unsuite ok) hN hi hln hq
          cases f with
          | ret u =>
            obtain ⟨v6, σ6, H6, S6, r6, q6⟩ := hsp
            exact end_ S6 fun s7 J7 => ⟨_, _, _, J7, r6, q6⟩
          | _ =>
            obtain ⟨σ6, H6, S6, q6⟩ := hsp
            exact end_ S6 fun s7 J7 => ⟨_, _, J7, q6⟩
        | false =>
          show wpAny _ X.A (handleBy (.ref a) X.env hds2) _ _ _
          exact ih (hno rfl)
    exact go hh w
  · cases f with
    | next =>
      obtain ⟨σ', H', J', q⟩ := hsp
      exact wpAny_execs_nil ⟨σ', H', J'.ofTry ok, q⟩
    | ret u =>
      obtain ⟨v, σ', H', J', r, q⟩ := hsp
      exact ⟨v, σ', H', J'.ofTry ok, r, q⟩
    | _ =>
      obtain ⟨σ', H', J', q⟩ := hsp
      exact ⟨σ', H', J'.ofTry ok, q⟩
end

/-! ### an error of an own class is made -/
/-- what __init__ does: the fields, in the order ks -/
def spInit (C : Addr) (ks : List Str) : Sp := fun vs H Q _ => vs.length = ks.length + 1 ∧ ∃ (a : Addr) (xs : List V), vs = .ref a :: xs ∧ H a = some (exo a C none) ∧
  ∀ (dx : Addr) (H' : Hp) (fs : List (Str × V)), H dx = none → dx ≠ a → H' a = some (exo a C (some dx)) → H' dx = some (exd dx fs) → (∀ b, b ≠ a → b ≠ dx → H' b = H b) → (∀ f, fs.lookup f = (ks.zip xs).lookup f) → Q .non H'
section
variable {X : Cx} {P : Program} {w : World} {K : PySem.W.Frag} {mg : Str → Option Value} {base : Heap}
theorem exd_same {dx : Addr} {fs gs : List (Str × V)} (h : ∀ f, fs.lookup f = gs.lookup f) : exd dx fs = exd dx gs := by
  unfold exd
  congr 1
  funext h'
  exact propext ⟨fun ⟨m, n, r⟩ => ⟨m, n, fun f => by rw [← h f]; exact r f⟩, fun ⟨m, n, r⟩ => ⟨m, n, fun f => by rw [h f]; exact r f⟩⟩
/-- C(e, ..) where nothing is handled -/
theorem pmk_oexN {CX : CXT} {x : Str} {e : Expr} {es : List Expr} {ta : TA} {p pos : Pos} {C fI : Addr} {k : Nat} {fd : FuncData} {ps : List Str} {sp : Sp} (T : OexC X.K C) (iC : PySem.W.findIn X.K (.ref C) "__init__" = some (some (.ref fI))) (tI : PySem.W.typeIn X.K (.ref fI) = some (.type "function"))
    (F1 : FnOk X.prog X.w X.K X.mg X.base CX k fI fd ps sp) (hr : Room (k + 1) X.A) (hb : Binds X.K fd ps []) (hx : Passes CX X (fun _ _ _ => False)) (hg : Gl X x) (hm : X.mg x = some (.ref C)) (ha : PA X (e :: es) ta)
    (hdb : (x == ("__debug__" : Str)) = false) (he : starEach (e :: es) X.env = (false, eval e X.env) :: starEach es X.env) (hpl : (backTo pos (starEach es X.env)).any (·.1) = false) :
    L2N.PMk X (.Call (.Name x p) (e :: es) [] pos) (tMkO C sp [] ta) := by
  intro pins s σ H Q I h
  obtain ⟨nm, q, N, bs, bm, sn, sub, ab, col, dd, k0, k1, k2, k3, k5, hC, hbm⟩ := T.cls
  refine wpAny_Call_Name_kw (ld_glob I hg hm ?_ hdb)
  refine PySem.W.callWith_K (h₀ := X.base) I.ok.mod.kin T.kC (thn (ha.run pos pins s σ H _ I h) fun us s1 ⟨vs, H1, I1, r1, hz, q1⟩ => ⟨I1.kIn, ?_⟩) he hpl
  show wpAny _ _ (call (.ref C) us) _ _ _
  obtain ⟨hp, g, dr, tk, os⟩ := s1
  have hsz : hp.objs.size ≤ hp.objs.size + 1 := Nat.le_succ _
  have hn : H1 (hp.objs.size + 1) = none := I1.hok.fresh hsz
  have hq := q1 (hp.objs.size + 1) hn
  rw [List.append_nil] at hq
  have kk : ∀ b o, hp.get? b = some o → ((hp.push (PySem.W.kdv_tup us)).push (PySem.HandSPX.excO C hp.objs.size)).get? b = some o := fun b o e => Heap.get?_push_of_some _ (Heap.get?_push_of_some _ e)
  have hget : ((hp.push (PySem.W.kdv_tup us)).push (PySem.HandSPX.excO C hp.objs.size)).get? (hp.objs.size + 1) = some (PySem.HandSPX.excO C hp.objs.size) := by heap_get
  have I2 : Inv X pins σ (upd H1 (hp.objs.size + 1) (exo (hp.objs.size + 1) C none)) ⟨(hp.push (PySem.W.kdv_tup us)).push (PySem.HandSPX.excO C hp.objs.size), g, dr, tk, os⟩ :=
    I1.laid (t' := tk) (a := hp.objs.size + 1) (o := exo (hp.objs.size + 1) C none) (h' := (hp.push (PySem.W.kdv_tup us)).push (PySem.HandSPX.excO C hp.objs.size)) kk hsz (exo_ok hget)
  have r2 : Vals (V.ref (hp.objs.size + 1) :: vs) (Value.ref (hp.objs.size + 1) :: us) := .cons rfl r1
  have hl : (Value.ref (hp.objs.size + 1) :: us ++ []).length = ps.length := by
    have e := r2.length
    rw [F1.len _ _ _ _ hq] at e
    rw [List.append_nil]
    exact e.symm
  have hus : us.length ≤ sizeLine := by
    rw [← Paired.length r1, sizeLine_eq]
    omega
  have b2 := hb _ (Value.ref (hp.objs.size + 1) :: us) I2.kIn hl
  rw [List.append_nil] at b2
  refine wpAny_call (PySem.HandSPX.call_own F.excBase_ValueError (fun Y => PySem.HandSPX.refsVE_contains Y bm hbm) (I1.kIn _ _ hC) (PySem.W.looks_findIn I1.kIn iC) (fun self => PySem.W.bind_fn I1.kIn self tI) hus
    (codeAny_mono (F1.run _ X.stack _ _ ⟨Value.ref (hp.objs.size + 1) :: us, []⟩ (Value.ref (hp.objs.size + 1) :: us) _ _ (fun _ _ _ => False) (hr.make C us []) (I2.env0.make C us []) b2 r2 hq) fun r s' hq' => ?_))
  cases r with
  | error er => exact hx pins σ _ _ er s' I2 hq'
  | ok fl =>
    cases fl with
    | ret u =>
      obtain ⟨v, H2, os2, bare2, un2, hok2, rv, ev, d, fs, ea, ed, hd1, q2⟩ := hq'
      subst ev
      obtain ⟨h2, g2, d2, t2, os'⟩ := s'
      obtain ⟨t0, G, J, kG, ge, hoe, na⟩ := mk_end0 (d2 := d2) (t2 := t2) I1 hsz kk un2 hok2 os2 bare2 ea ed hd1
      refine ⟨rv, hp.objs.size + 1, _, _, ⟨G, g2, d2, t2, os'⟩, _, .ref C, some d, rfl, J, kG, ge, hoe, ⟨rfl, rfl, fun vs hv => ?_⟩, rfl, rfl, na, rfl, bare2, raises_own T.exC T.tyC, q2⟩
      cases hv
      rfl
    | next => exact False.elim hq'
    | brk => exact False.elim hq'
    | cont => exact False.elim hq'
theorem ini1 {fI C : Addr} {qual f s x : Str} {params : Arguments} {scope : Scope} {kV doc pm cdv ct oc : Value} {an od : Option Addr} {osl : Array (Option Value)} {a1 a2 a3 a4 : Pos} (T : OexC K C) (n1 : PySem.W.findIn K (.ref C) f = some none)
    (lk : K.lookup fI = some ⟨oc, od, .func (PySem.W.fnOf "__init__" qual params [.Assign [.Attribute (.Name s a1) f a2] (.Name x a3) a4] scope .none kV doc pm an cdv ct), osl⟩) (hcd : PySem.W.codeIn K cdv qual = true) (S : FnScope [s, x] [s, x] scope) (o1 : okName s = true) (o2 : okName x = true) :
    FnOk P w K mg base CX0 1 fI (PySem.W.fnOf "__init__" qual params [.Assign [.Attribute (.Name s a1) f a2] (.Name x a3) a4] scope .none kV doc pm an cdv ct) [s, x] (spInit C [f]) := by
  refine fn_of lk hcd S (fun vs H Q E h => h.1) fun A outer s0 H vs Q E hr h => ⟨tSeq (tOst K f (tVar 0) (tVar 1)) tNext, ?_, ?_⟩
  · obtain ⟨d1, d2, _⟩ := okName_at o1
    obtain ⟨d3, d4, _⟩ := okName_at o2
    have v : ∀ y ∈ [s, x], Vis scope y := fun y hy => (S.par y hy).elim .inl fun z => .inr (.inl z)
    exact pss_cons (ps_ost (pe_var (i := 0) rfl (v s (by simp)) d1 d2) (pe_var (i := 1) rfl (v x (by simp)) d3 d4) rfl) pss_nil
  · obtain ⟨hl, a, xs, rfl, ea, k⟩ := h
    match xs, hl with
    | [y], _ =>
      refine ⟨y, rfl, .ref a, rfl, a, C, rfl, T, n1, .inl ⟨ea, fun dx hd hne => k dx _ [(f, y)] hd hne upd_same (by rw [upd_ne hne]; exact upd_same) (fun b hb hb2 => by rw [upd_ne hb, upd_ne hb2]) fun g => rfl⟩⟩
theorem ini2 {fI C : Addr} {qual f g s x y : Str} {params : Arguments} {scope : Scope} {kV doc pm cdv ct oc : Value} {an od : Option Addr} {osl : Array (Option Value)} {a1 a2 a3 a4 b1 b2 b3 b4 : Pos} (T : OexC K C) (n1 : PySem.W.findIn K (.ref C) f = some none) (n2 : PySem.W.findIn K (.ref C) g = some none) (hfg : f ≠ g)
    (lk : K.lookup fI = some ⟨oc, od, .func (PySem.W.fnOf "__init__" qual params [.Assign [.Attribute (.Name s a1) f a2] (.Name x a3) a4, .Assign [.Attribute (.Name s b1) g b2] (.Name y b3) b4] scope .none kV doc pm an cdv ct), osl⟩) (hcd : PySem.W.codeIn K cdv qual = true) (S : FnScope [s, x, y] [s, x, y] scope) (o1 : okName s = true) (o2 : okName x = true) (o3 : okName y = true) :
    FnOk P w K mg base CX0 1 fI (PySem.W.fnOf "__init__" qual params [.Assign [.Attribute (.Name s a1) f a2] (.Name x a3) a4, .Assign [.Attribute (.Name s b1) g b2] (.Name y b3) b4] scope .none kV doc pm an cdv ct) [s, x, y] (spInit C [f, g]) := by
  refine fn_of lk hcd S (fun vs H Q E h => h.1) fun A outer s0 H vs Q E hr h => ⟨tSeq (tOst K f (tVar 0) (tVar 1)) (tSeq (tOst K g (tVar 0) (tVar 2)) tNext), ?_, ?_⟩
  · obtain ⟨d1, d2, _⟩ := okName_at o1
    obtain ⟨d3, d4, _⟩ := okName_at o2
    obtain ⟨d5, d6, _⟩ := okName_at o3
    have v : ∀ z ∈ [s, x, y], Vis scope z := fun y hy => (S.par y hy).elim .inl fun z => .inr (.inl z)
    exact pss_cons (ps_ost (pe_var (i := 0) rfl (v s (by simp)) d1 d2) (pe_var (i := 1) rfl (v x (by simp)) d3 d4) rfl) (pss_cons (ps_ost (pe_var (i := 0) rfl (v s (by simp)) d1 d2) (pe_var (i := 2) rfl (v y (by simp)) d5 d6) rfl) pss_nil)
  · obtain ⟨hl, a, xs, rfl, ea, k⟩ := h
    match xs, hl with
    | [u, v], _ =>
      refine ⟨u, rfl, .ref a, rfl, a, C, rfl, T, n1, .inl ⟨ea, fun dx hd hne => ?_⟩⟩
      refine ⟨v, rfl, .ref a, rfl, a, C, rfl, T, n2, .inr ⟨dx, [(f, u)], upd_same, by rw [upd_ne hne]; exact upd_same, by show 1 ≤ 900; decide, ?_⟩⟩
      refine k dx _ [(g, v), (f, u)] hd hne (by rw [upd_ne (Ne.symm hne)]; exact upd_same) upd_same (fun b hb hb2 => by rw [upd_ne hb2, upd_ne hb, upd_ne hb2]) fun z => ?_
      by_cases z1 : z = g
      · subst z1
        have z2 : (z == f) = false := by simpa using Ne.symm hfg
        simp [List.lookup, z2]
      · have z2 : (z == g) = false := by simpa using z1
        simp [List.lookup, z2]
/-- an own class of errors, its fields, its __init__ -/
structure EclOk (P : Program) (w : World) (K : PySem.W.Frag) (mg : Str → Option Value) (base : Heap) (T : Tab) (c : Str) (ks : List Str) : Prop where
  ex : ∃ (ca fI : Addr) (fd : FuncData) (ps : List Str), T c = some (ca, ks) ∧ mg c = some (.ref ca) ∧ OexC K ca ∧ PySem.W.findIn K (.ref ca) "__init__" = some (some (.ref fI)) ∧ PySem.W.typeIn K (.ref fI) = some (.type "function") ∧
    FnOk P w K mg base CX0 1 fI fd ps (spInit ca ks) ∧ Binds K fd ps []
theorem ss_rse {G : Env'} {T : Tab} {hx : HX} {W : WX} {x : Str} {ks : List Str} {e : Expr} {es : List Expr} {ys : Ies} {p pos pos2 : Pos} (hc : X.calm = true) (tk : L2N.Takes X W) (hr : Room 2 X.A) (C : EclOk X.prog X.w X.K X.mg X.base T x ks) (hg : Gl X x) (ho : okName x = true) (hks : G.fds x = ks) (hl : ks.length = (e :: es).length) (hlen : (e :: es).length ≤ 1000)
    (hst : ∀ e' ∈ e :: es, noStar e' = true) (ha : PA X (e :: es) (tDA X.K T hx W (e :: es).length (wEs G ys))) : PS X (.Raise (some (.Call (.Name x p) (e :: es) [] pos)) none pos2) (tDS X.K T hx W (wS G (.rse x ys))) := by
  obtain ⟨ca, fI, fd, ps, eT, hm, T1, iC, tI, F, hb⟩ := C.ex
  obtain ⟨hdb, _, _⟩ := okName_at ho
  refine PS.weaken (L2N.ps_raise hc tk (pmk_oexN T1 iC tI F hr hb pass0 hg hm ha hdb (star_cons (hst e (by simp))) (no_star fun e' he => hst e' (by simp [he])))) fun D σ H ⟨μ, ρ, A, N, rs, hr, f, q⟩ => ?_
  refine tDA.go (f.pk rs hr) q fun vs H1 μ1 ds A1 l1 s1 r1 p1 q1 => ?_
  obtain ⟨l2, l3, q1⟩ := q1
  have lv : vs.length = (e :: es).length := by rw [← r1.length, l1]
  refine ⟨by rw [lv]; exact hlen, fun a hna => ⟨by simp [lv, hl], a, vs, by simp, upd_same, fun dx H' fs hd hne ea ed hsame hlook => ⟨rfl, dx, ks.zip vs, ea, by rw [ed, exd_same hlook], ?_, ?_⟩⟩⟩
  · rw [upd_ne hne] at hd; exact hd
  · rw [upd_ne hne] at hd
    have eH : upd (del H' a) dx (.xd (ks.zip vs)) = upd H1 dx (.xd (ks.zip vs)) := by
      funext b
      by_cases hb : b = dx
      · rw [hb, upd_same, upd_same]
      · rw [upd_ne hb, upd_ne hb]
        by_cases hba : b = a
        · rw [hba, del_same, hna]
        · rw [del_ne hba, hsame b hba hb, upd_ne hba]
    rw [eH]
    have st := stp_upd0 (μ := μ1) (o := HO.xd (ks.zip vs)) hd
    refine f.xe μ1 ρ σ H1 _ _ _ s1 p1.s ⟨μ1, A1, x, ca, ks, ds, dx, vs, st, p1.h.tupd hd, eT, rfl, rfl, by rw [hl, lv], upd_same, r1.mono st _ _, ?_⟩
    rw [hks] at q1
    exact q1
end
end Px
end TextPx14

section TextPx15
set_option autoImplicit false
set_option maxRecDepth 100000
set_option maxHeartbeats 8000000
/-! Px15: what a suite may ask of the error it holds; the compiler for statements. -/
namespace PySem.W
open PySem PySem.Spec PySem.Calls PyProof.Rows
section
variable {prog : Program} {w : World} {A : Around} {E : Value → Shared → Prop} {s : Shared} {K : Frag} {x D : Addr} {ox : Obj}
theorem findObj_dataD {C : Addr} {od : Obj} {name : Str} {a g : Value} (hc : (clsIn K C).isSome = true) (ha : findIn K (.ref C) name = some (some a)) (hg : specialIn K a "__get__" = some (some g)) (ht : takesIn K a = some true) : findObj K C (some od) name = some (.bind g a) := by
  obtain ⟨cd, hc⟩ := Option.isSome_iff_exists.mp hc
  unfold findObj
  rw [hc, Option.bind_some, ha, Option.bind_some]
  simp [hg, ht]
theorem kin_classD {od : Obj} {Q : Option Value → Shared → Prop} (hga : findIn K (.ref D) "__getattribute__" = some (some (.builtin "BaseException.__getattribute__"))) (hgt : findIn K (.ref D) "__getattr__" = some none) (hsub : subIn K (.ref D) (.type "BaseException") = some true)
    (hdct : hasDictIn K D = true) (ha : findIn K (.ref D) "__class__" = some (some (.builtin "object.__class__")))
    (hn : specialIn K (.builtin "object.__class__") "__get__" = some (some (.builtin "getset_descriptor.__get__"))) (htk : takesIn K (.builtin "object.__class__") = some true) (hm : mroIn K D (.type "object") = some true)
    (X : K.In s.heap) (I : InstAt s.heap x ox D (some od)) (h : Q (some (.ref D)) { s with toks := s.toks + 1 }) : wpAny (model prog w) A (getAttr? (.ref x) "__class__") Q E s := by
  have hf : findObj K D (some od) "__class__" = some (.bind (.builtin "getset_descriptor.__get__") (.builtin "object.__class__")) := findObj_dataD (by obtain ⟨cd, hc, _⟩ := any_some hdct; rw [hc]; rfl) ha hn htk
  obtain ⟨hp, g, d, t, os⟩ := s
  have L0 := I.type (M := model prog w)
  have L1 := looks_findIn (M := model prog w) X hga
  have L2 := looks_findIn (M := model prog w) X hgt
  have L3 := looks_find (M := model prog w) X I hf
  have sub : Looks (model prog w) hp (isInstance (.ref x) (.type "BaseException")) true := L0.andThen (looks_subIn X hsub)
  have hx0 : (false && onTheHeap (Value.builtin "BaseException.__getattribute__")) = false := rfl
  have hx2 : (Value.builtin "BaseException.__getattribute__" == Value.builtin "object.__getattribute__") = false := by decide +kernel
  have hx1 : (onTheHeap (Value.ref D) && Value.builtin "BaseException.__getattribute__" == Value.builtin "object.__getattribute__") = false := by rw [hx2]; rfl
  unfold getAttr? getAttrBy? getAttrBy
  refine wpAny_bind (wpAny_mkText (wpAny_bind (wpAny_attempt (wpAny_holding (wpAny_bind (L0.at (wpAny_bind (L1.at ?_))))))))
  show wpAny _ _ (if (onTheHeap (Value.ref D) && Value.builtin "BaseException.__getattribute__" == Value.builtin "object.__getattribute__") = true then _ else _) _ _ _
  rw [hx1, if_neg Bool.false_ne_true]
  unfold getAttrByItsOwn hookBefore
  refine wpAny_bind ?_
  rw [if_pos (show onTheHeap (Value.ref D) = true from rfl)]
  refine L2.at ?_
  refine wpAny_bind (wpAny_attempt (wpAny_holding ?_))
  unfold callGetattribute
  rw [hx0, if_neg Bool.false_ne_true]
  unfold boundAndCalled
  rw [PySem.F.excAttr_ValueError.ga.bind (.ref x)]
  refine wpAny_bind (wpAny_pure ?_)
  show wpAny _ _ (call (.builtin "BaseException.__getattribute__") [.ref x, .str "__class__" t]) _ _ _
  refine wpAny_call (codeAny_call_builtin PySem.F.excAttr_ValueError.ga.plain PySem.F.entry_bexc_ga ?_)
  refine @check_slot (model prog w) _ _ ⟨hp, g, d, t + 1, os⟩ "BaseException.__getattribute__" "BaseException" "__getattribute__" (.ref x) [.str "__class__" t] [] _ (by decide +kernel) (by decide +kernel) sub (PySem.F.args_bexc_ga (.ref x) (.str "__class__" t)) ?_
  unfold Builtin.«object.__getattribute__»
  refine wpAny_bind (wpAny_of_eq (a := ((Value.ref x : Value), [Value.str "__class__" t])) (by first | rfl | (simp only [slotArgs]; rfl)) ?_)
  refine wpAny_bind (wpAny_pure (wpAny_bind (L0.at (wpAny_bind (L3.at ?_)))))
  show wpAny _ _ (holding [Value.builtin "object.__class__"] (call (.builtin "getset_descriptor.__get__") [.builtin "object.__class__", .ref x, .ref D]) >>= ret) _ _ _
  refine wpAny_bind (wpAny_holding (wpAny_call (class_get (s := ⟨hp, g, d, t + 1, os⟩) (ox := ox) (od := some od) X I hm ?_)))
  refine wpAny_pure ?_
  show wpAny _ _ (handedOut (.ref D)) _ _ _
  rw [handedOut_of (v := .ref D) rfl]
  first
    | exact wpAny_pure (wpAny_pure h)
    | exact wpAny_pure h
    | exact wpAny_pure (wpAny_bind (wpAny_pure (wpAny_pure h)))
theorem kitx_D {od : Obj} (hga : findIn K (.ref D) "__getattribute__" = some (some (.builtin "BaseException.__getattribute__"))) (hgt : findIn K (.ref D) "__getattr__" = some none) (hsub : subIn K (.ref D) (.type "BaseException") = some true) (hdct : hasDictIn K D = true) (ha : findIn K (.ref D) "__class__" = some (some (.builtin "object.__class__")))
    (hn : specialIn K (.builtin "object.__class__") "__get__" = some (some (.builtin "getset_descriptor.__get__"))) (htk : takesIn K (.builtin "object.__class__") = some true) (hm : mroIn K D (.type "object") = some true) :
    KitX K (.ref x) (.ref D) (fun h => InstAt h x ox D (some od)) where
  ty := fun _ _ _ I => I.type
  it := fun M h X _ => by
    obtain ⟨cdD, hcD, _⟩ := any_some hdct
    unfold clsIn at hcD
    split at hcD
    · rename_i c' d' cd' sl' ho
      intro A' Q' E' s' k q
      unfold isType loadHead
      exact wpAny_bind (wpAny_loadPart (k _ _ (X _ _ ho)) (wpAny_pure q))
    · cases hcD
  ne := (handS_kitx_exc (x := x) (ox := { cls := .ref D, dict := none, data := .fields #[] }) hga hgt hsub hdct ha hn htk hm).ne
  ca := fun X I k => kin_classD hga hgt hsub hdct ha hn htk hm X I k
end
end PySem.W
namespace Px
open PySem PySem.Spec PyProof.Rows L2
/-- isinstance(e, c), e the exception that the suite holds, its dict at d -/
def rIsD (K : PySem.W.Frag) (D a d : Addr) : List V → Hp → VK → Prop := fun xs H Q => ∃ (c : V) (cv : Value) (b : Bool) (fs : List (Str × V)), xs = [.ref a, c] ∧ (∀ u, RelV c u → u = cv) ∧ PySem.W.kitOne K (.ref D) cv = some b ∧ H d = some (.xd fs) ∧ Q (.bl b) H
theorem call_isD {X : Cx} {a D d : Addr} {oe : Obj} {pn : List (Addr × Obj)} (C : ExcC X.K D) (hz : Zc (.ref D) (some d) oe) (hf : ∃ vs, oe.data = .fields vs) : CallR (X.suite a ((a, oe) :: pn)) (.builtin "isinstance") (rIsD X.K D a d) := by
  intro pins s σ H xs us Q I r h
  obtain ⟨c, cv, b, fs, rfl, hcv, e, ed, q⟩ := h
  cases r with
  | cons rx rr =>
    cases rr with
    | cons rt rr =>
      cases rr
      cases rx
      have ec := hcv _ rt
      subst ec
      obtain ⟨hget, _⟩ := I.pin (a, oe) (List.mem_append.mpr (.inl List.mem_cons_self))
      obtain ⟨vs, hv⟩ := hf
      have hx : ObjOk X.prog X.w H s.heap d (.xd fs) := I.hok d _ ed
      obtain ⟨mA, hns, hr⟩ := hx
      obtain ⟨od, ho, hl⟩ := lookIn_ns hns
      have J : PySem.W.InstAt s.heap a oe D (some od) := ⟨hget, hz.1, by unfold PySem.W.notCls; rw [hv] <;> rfl, by rw [hz.2]; exact ho⟩
      exact PySem.W.kia_one (PySem.W.kitx_D C.hg C.hk C.hs C.hd C.ha C.hn C.ht C.hm) I.kIn J e (fun z => nomatch z) fun tk => ⟨.bl b, H, I.kept (t' := tk) fun _ _ z => z, rfl, q⟩
end Px
end TextPx15

section TextPx16
set_option autoImplicit false
set_option maxRecDepth 100000
set_option maxHeartbeats 8000000
/-! Px16: whole bodies are sound. -/
namespace Px
open PySem PySem.Spec PyProof.Rows L2
def CC.suite (c : CC) (e : Option Str) : CC := { c with hot := true, exv := e, fns := c.hfns, rss := [], hfns := [] }
def okArgs (es : List Expr) : Bool := decide (es.length ≤ 1000)
def rsOf : Option Expr → Option Expr → Option (Str × Expr × List Expr)
  | some (.Call (.Name x _) (e :: es) [] _), none => some (x, e, es)
  | _, _ => none
theorem rsOf_at {a b : Option Expr} {x : Str} {e : Expr} {es : List Expr} (h : rsOf a b = some (x, e, es)) : ∃ p p2, a = some (.Call (.Name x p) (e :: es) [] p2) ∧ b = none := by
  unfold rsOf at h
  split at h
  · cases h; exact ⟨_, _, rfl, rfl⟩
  · cases h
mutual
def cS (c : CC) : Nat → Stmt → Option Is
  | 0, _ => none
  | n + 1, .Assign [tg] e pos => match tg with
      | .Name x p => (match c.sto x with
          | none => none
          | some i => match e with
            | .ListComp elt gens scope epos => (match c.kind x with
                | some .local => if (p.line == epos.line) && !(scope.names.any fun (n, k) => n == x && (k == .local || k == .cell)) then (cE c n (.ListComp elt gens scope epos)).map (.set i) else none
                | _ => none)
            | e => if noComp e then (cE c n e).map (.set i) else none)
      | .Tuple ts k p => if noComp e && noTup e then (match cTg c n (.Tuple ts k p), cE c n e with | some g, some x => some (.asg g x) | _, _ => none) else none
      | .Subscript o i p => if noComp e && noSlice i then (match cE c n o, cE c n i, cE c n e with | some x, some y, some z => some (.asgS x y z) | _, _, _ => none) else none
      | _ => none
  | n + 1, .AugAssign (.Name x p) op e pos => (match op with
      | .Add => (match c.sto x, cE c n e with | some i, some y => some (.aug i .Add y) | _, _ => none)
      | .Sub => (match c.sto x, cE c n e with | some i, some y => some (.aug i .Sub y) | _, _ => none)
      | _ => none)
  | n + 1, .Expr e pos => if noComp e then (cE c n e).map .ex else none
  | n + 1, .Return (some e) pos => (cE c n e).map .ret
  | n + 1, .Return none pos => some .retN
  | n + 1, .Pass pos => some .pss
  | n + 1, .Break pos => some .brk
  | n + 1, .Continue pos => some .cnt
  | n + 1, .If t a b pos => match cE c n t, cSs c n a, cSs c n b with | some x, some y, some z => some (.ife x y z) | _, _, _ => none
  | n + 1, .While t b [] pos => if c.hot then none else match cE c n t, cSs c n b with | some x, some y => some (.whl x y) | _, _ => none
  | n + 1, .For tg it b [] pos => if c.hot then none else match cTg c n tg, cI c n tg it, cSs c n b with | some g, some x, some y => some (.fr g x y) | _, _, _ => none
  | n + 1, .Raise e c' pos => (match rsOf e c' with
      | some (x, e, es) => if !c.hot && c.gl x && okName x && okArgs (e :: es) then
          (match c.rss.lookup x, cList (cE c n) (e :: es) with | some k, some ys => if k = (e :: es).length then some (.rse x ys) else none | _, _ => none) else none
      | none => none)
  | n + 1, .Try b (h :: hs) [] [] pos => if c.hot then none else match cSs c n b, cHs c n (h :: hs) with | some x, some y => some (.tri x y) | _, _ => none
  | _, _ => none
def cSs (c : CC) : Nat → List Stmt → Option Iss
  | _, [] => some .nil
  | 0, _ => none
  | n + 1, s :: ss => match cS c n s, cSs c n ss with | some x, some y => some (.cons x y) | _, _ => none
def cHs (c : CC) : Nat → List ExceptHandler → Option Ihs
  | _, [] => some .nil
  | 0, _ => none
  | n + 1, .ExceptHandler (some (.Name x _)) nm (b :: bs) _ :: r => if c.exs.contains x && c.gl x && okName x then
      (match nm with
      | none => (match cSs (c.suite none) n (b :: bs), cHs c n r with | some y, some z => some (.cons x none y z) | _, _ => none)
      | some e => (match c.kind e, c.slot e with
        | some .local, some i => (match cSs (c.suite (some e)) n (b :: bs), cHs c n r with | some y, some z => some (.cons x (some i) y z) | _, _ => none)
        | _, _ => none))
      else none
  | _, _ => none
end
structure SndS (c : CC) (X : Cx) (G : Env') (T : Tab) (hx : HX) (W : WX) : Prop extends Snd c X G T hx W where
  own : c.hot = false → PassesOwn (model X.prog X.w) X.A X.env X.xe
  knd : c.hot = false → X.env.scope.kind = .function
  stk : c.hot = false → X.stack = X.env :: X.outer ∧ X.env.frame = some X.env.locals
  nhx : c.hot = false → hx = none
  nox : c.hot = false → c.exv = none
  room : c.hot = false → Room 2 X.A
  rs : c.hot = false → ∀ x k, c.rss.lookup x = some k → EclOk X.prog X.w X.K X.mg X.base T x (G.fds x) ∧ (G.fds x).length = k
  cls : c.hot = false → ∀ cn ca ks, T cn = some (ca, ks) → XfC X.K ca ∧ ExcC X.K ca ∧ ∀ f, c.flds.contains f = true → PySem.W.findIn X.K (.ref ca) f = some none
  exs : c.hot = false → ∀ t, c.exs.contains t = true → ∃ (v : V) (cv : Value), (∀ u, RelV v u → u = cv) ∧ RelV v cv ∧ (X.mg t = some cv ∨ (X.mg t = none ∧ bootBuiltins t = some cv)) ∧
    ∀ cn ca ks, T cn = some (ca, ks) → PySem.W.kitOne X.K (.ref ca) cv = some (G.sub cn t) ∧ PySem.W.exmOne X.K (.ref ca) cv = some (G.sub cn t)
  hfn : c.hot = false → ∀ f k, c.hfns.lookup f = some k → ∀ h, FnHt X.prog X.w X.K X.mg X.base (X.A.mark h) T (G.con f) f k
section
variable {G : Env'} {T : Tab}
theorem sd_fldE {c : CC} {X : Cx} {W W' : WX} {hx0 : HX} (s : SndS c X G T hx0 W) (hh : c.hot = false) {a ca d : Addr} {oe : Obj} {pn : List (Addr × Obj)} {cn : Str} {ks : List Str} (eT : T cn = some (ca, ks)) (hz : L2N.Zn (.ref ca) (some d) oe) (hf : ∃ vs, oe.data = .fields vs)
    {e f : Str} {i : Nat} {p pos : Pos} (hi : c.slot e = some i) (hv : c.vis e = true) (hfl : c.flds.contains f = true) (ho : okName e = true) :
    PE (X.suite a ((a, oe) :: pn)) (.Attribute (.Name e p) f pos) (tDE X.K T (some (a, cn, d)) W' (wE G (.fld i f))) := by
  obtain ⟨h1, h2, _⟩ := okName_at ho
  obtain ⟨xf, _, hno⟩ := s.cls hh cn ca ks eT
  have hv' : Vis X.env.scope e := by rw [s.sc]; exact CC.vis_at hv
  have pv : PE (X.suite a ((a, oe) :: pn)) (.Name e p) (tVar i) := pe_var (X := X.suite a ((a, oe) :: pn)) (by show X.N[i]? = _; rw [s.N]; exact CC.slot_at hi) hv' h1 h2
  refine PE.weaken (pe_xf xf (hno f hfl) hz.zc hf pv rfl) fun σ H Q ⟨μ, ρ, A, E, Q', pk, h, fin⟩ => ?_
  change (match ρ[i]? with | some (some (.exn _ ks ds)) => (match (ks.zip ds).lookup f with | some d => Q' d A | none => False) | _ => False) at h
  split at h
  · rename_i c2 ks2 ds2 e2
    split at h
    · rename_i dd el
      obtain ⟨v, ev, a2, d2, vs, rfl, ehx, hl, hd, hr⟩ := pk.s.val i _ e2
      cases ehx
      have key : ∀ (ks : List Str) (ds : List Px.D) (vs : List V), RelDs X.K μ H ds vs → ∀ dd, (ks.zip ds).lookup f = some dd → ∃ v, (ks.zip vs).lookup f = some v ∧ RelD X.K μ H dd v := by
        intro ks
        induction ks with
        | nil => intro ds vs _ dd h; simp at h
        | cons k ks ih =>
          intro ds vs r dd h
          cases ds with
          | nil => simp at h
          | cons x ds =>
            obtain ⟨v, t, rfl, r1, r2⟩ := RelDs.cons_iff.mp r
            simp only [List.zip_cons_cons, List.lookup_cons] at h ⊢
            split at h
            · cases h; exact ⟨v, rfl, r1⟩
            · exact ih ds t r2 dd h
      obtain ⟨v, lv, rv⟩ := key _ _ _ hr dd el
      exact ⟨_, ev, rfl, rfl, _, _, v, rfl, hd, lv, fin v H μ dd A .refl rv pk.h h⟩
    · exact h.elim
  · exact h.elim
theorem sd_isxE {c : CC} {X : Cx} {W W' : WX} {hx0 : HX} (s : SndS c X G T hx0 W) (hh : c.hot = false) {a ca d : Addr} {oe : Obj} {pn : List (Addr × Obj)} {cn : Str} {ks : List Str} (eT : T cn = some (ca, ks)) (hz : L2N.Zn (.ref ca) (some d) oe) (hf : ∃ vs, oe.data = .fields vs)
    {e t : Str} {i : Nat} {p p1 p2 pos : Pos} (hi : c.slot e = some i) (hv : c.vis e = true) (he : c.exs.contains t = true) (hg : c.gl t = true) (ho : okName t = true) (ho2 : okName e = true) (hi2 : c.gl "isinstance" = true) :
    PE (X.suite a ((a, oe) :: pn)) (.Call (.Name "isinstance" p) [.Name e p1, .Name t p2] [] pos) (tDE X.K T (some (a, cn, d)) W' (wE G (.isx i t))) := by
  obtain ⟨h1, h2, _⟩ := okName_at ho2
  obtain ⟨h3, h4, h5⟩ := okName_at ho
  obtain ⟨_, ec, _⟩ := s.cls hh cn ca ks eT
  obtain ⟨v, cv, u1, u2, gm, kk⟩ := s.exs hh t he
  have hv' : Vis X.env.scope e := by rw [s.sc]; exact CC.vis_at hv
  have pv : PE (X.suite a ((a, oe) :: pn)) (.Name e p1) (tVar i) := pe_var (X := X.suite a ((a, oe) :: pn)) (by show X.N[i]? = _; rw [s.N]; exact CC.slot_at hi) hv' h1 h2
  have hgt : Gl (X.suite a ((a, oe) :: pn)) t := s.gl hg
  have pt : PE (X.suite a ((a, oe) :: pn)) (.Name t p2) (tC v) := by
    rcases gm with m | ⟨m, b⟩
    · exact pe_glob hgt m u2 h3
    · exact pe_bltn hgt m b u2 h5 h3
  have hgi : Gl (X.suite a ((a, oe) :: pn)) "isinstance" := s.gl hi2
  refine PE.weaken (pe_callB (call_isD ec hz.zc hf) hgi (s.bl _ (by decide)) (by decide +kernel) (pa_cons pv (pa_cons pt pa_nil rfl) rfl) (by decide) (by decide) rfl rfl) fun σ H Q ⟨μ, ρ, A, E, Q', pk, h, fin⟩ => ?_
  change (match ρ[i]? with | some (some (.exn c' _ _)) => Q' (.bl (G.sub c' t)) A | _ => False) at h
  split at h
  · rename_i c2 ks2 ds2 e2
    obtain ⟨w, ev, a2, d2, vs, rfl, ehx, hl, hd, hr⟩ := pk.s.val i _ e2
    cases ehx
    exact ⟨_, ev, v, cv, _, _, rfl, u1, (kk _ _ _ eT).1, hd, fin _ H μ _ A .refl to_bl pk.h h⟩
  · exact h.elim
end
end Px
end TextPx16

section TextPx17
set_option autoImplicit false
set_option maxRecDepth 100000
set_option maxHeartbeats 8000000
/-! Px17: the main theorem for statements. -/
namespace Px
open PySem PySem.Spec PyProof.Rows L2
section
variable {G : Env'} {T : Tab}
theorem snd_suite {c : CC} {X : Cx} {W : WX} (s : SndS c X G T none W) (hh : c.hot = false) {a ca d : Addr} {oe : Obj} (pn : List (Addr × Obj)) {cn : Str} {ks : List Str} (eT : T cn = some (ca, ks)) (hz : L2N.Zn (.ref ca) (some d) oe) (hf : ∃ vs, oe.data = .fields vs) (eo : Option Str) :
    SndS (c.suite eo) (X.suite a ((a, oe) :: pn)) G T (match eo with | none => none | some _ => some (a, cn, d)) W0 where
  N := s.N
  nd := s.nd
  sc := s.sc
  calm := fun h => by cases h
  fnv := s.fnv
  hu := s.hu
  bl := s.bl
  cts := s.cts
  tk := takes_noneN
  fns := fun h => by cases h
  kws := fun h => by cases h
  hfns := fun _ => ⟨⟨(a, oe), ⟨rfl, by obtain ⟨vs, hv⟩ := hf; exact ⟨vs, hv, hz.2.2 vs hv⟩⟩, List.mem_cons_self⟩, fun f k h => s.hfn hh f k h _⟩
  fld := fun e i f p pos h1 h2 h3 h4 h5 => by
    cases eo with
    | none => cases h1
    | some e' => exact sd_fldE s hh eT hz hf (show c.slot e = some i from h2) (show c.vis e = true from h3) h4 h5
  isx := fun e i t p p1 p2 pos h1 h2 h3 h4 h5 h6 h7 h8 => by
    cases eo with
    | none => cases h1
    | some e' => exact sd_isxE s hh eT hz hf (show c.slot e = some i from h2) (show c.vis e = true from h3) h4 h5 h6 h7 h8
  own := fun h => by cases h
  knd := fun h => by cases h
  stk := fun h => by cases h
  nhx := fun h => by cases h
  nox := fun h => by cases h
  room := fun h => by cases h
  rs := fun h => by cases h
  cls := fun h => by cases h
  exs := fun h => by cases h
  hfn := fun h => by cases h
theorem snd_tr {c : CC} {X : Cx} {hx : HX} {W : WX} (s : SndS c X G T hx W) (hh : c.hot = false) {W' : WX} {pn : List (Addr × Obj)} {xe : Value → Shared → Prop} (tk : L2N.Takes (X.tr pn xe) W') (ow : PassesOwn (model X.prog X.w) X.A X.env xe) (hv : c.exv = none) : SndS c (X.tr pn xe) G T hx W' where
  N := s.N
  nd := s.nd
  sc := s.sc
  calm := s.calm
  fnv := s.fnv
  hu := s.hu
  bl := s.bl
  cts := s.cts
  tk := tk
  fns := s.fns
  kws := s.kws
  hfns := fun h => by rw [hh] at h; cases h
  fld := fun e i f p pos h1 => by rw [hv] at h1; cases h1
  isx := fun e i t p p1 p2 pos h1 => by rw [hv] at h1; cases h1
  own := fun _ => ow
  knd := s.knd
  stk := s.stk
  nhx := s.nhx
  nox := s.nox
  room := s.room
  rs := s.rs
  cls := s.cls
  exs := s.exs
  hfn := s.hfn
theorem RelS.ofNone {K : PySem.W.Frag} {hx : HX} {μ : List Addr} {H : Hp} {ρ : Rho} {σ : L2.St} (r : RelS K none μ H ρ σ) : RelS K hx μ H ρ σ :=
  ⟨r.len, fun i d e => by
    obtain ⟨v, ev, q⟩ := r.val i d e
    refine ⟨v, ev, ?_⟩
    cases d with
    | exn c ks ds => obtain ⟨a, d, vs, _, z, _⟩ := q; cases z
    | _ => exact q⟩
/-- what the clauses mean -/
def HSem (K : PySem.W.Frag) (G : Env') (T : Tab) (ihs : Ihs) (l : List (Value × Option Nat × (Addr → Value → Option Addr → TS))) : Prop :=
  ∀ (N : Dn) (D : Ends) (Wout : WX) (μ : List Addr) (H : Hp) (ρ : Rho) (σ : L2.St) (A : Ht) (c : Str) (ca : Addr) (ks : List Str) (ds : List Px.D) (a' : Addr) (vs : List V), Fit K T none Wout N D μ H → RelS K none μ H ρ σ → HR K μ A H → T c = some (ca, ks) → ks.length = vs.length →
    H a' = some (.xd (ks.zip vs)) → RelDs K μ H ds vs → wHs G ihs (.exn c ks ds) N ρ A → wA K Wout D l (.ref ca) (some a') σ H
theorem hsem_nil {K : PySem.W.Frag} : HSem K G T .nil [] := fun N D Wout μ H ρ σ A c ca ks ds a' vs f rs hr eT hl ed rd q => f.xe μ ρ σ H _ _ _ .refl rs ⟨μ, A, c, ca, ks, ds, a', vs, .refl, hr, eT, rfl, rfl, hl, ed, rd, q⟩
/-- a suite's reading, whichever error it holds -/
def tSu (K : PySem.W.Frag) (G : Env') (T : Tab) (named : Bool) (ib : Iss) : Addr → Value → Option Addr → TS := fun a cls dd D σ H => ∃ (cn : Str) (ca : Addr) (ks : List Str) (d : Addr), T cn = some (ca, ks) ∧ cls = .ref ca ∧ dd = some d ∧ tDS K T (if named = true then some (a, cn, d) else none) W0 (wSs G ib) D σ H
theorem hsem_cons {K : PySem.W.Frag} {x : Str} {cv : Value} {oi : Option Nat} {ib : Iss} {ihs : Ihs} {l : List (Value × Option Nat × (Addr → Value → Option Addr → TS))} (hx : ∀ cn ca ks, T cn = some (ca, ks) → PySem.W.exmOne K (.ref ca) cv = some (G.sub cn x)) (r : HSem K G T ihs l) :
    HSem K G T (.cons x oi ib ihs) ((cv, oi, tSu K G T oi.isSome ib) :: l) := by
  intro N D Wout μ H ρ σ A c ca ks ds a' vs f rs hr eT hl ed rd q
  refine ⟨G.sub c x, hx c ca ks eT, fun hb a ha => ⟨c, ca, ks, a', eT, rfl, rfl, ?_⟩, fun hb => ?_⟩
  · change (if G.sub c x = true then _ else _) at q
    rw [hb] at q
    simp only [if_true] at q
    cases oi with
    | none =>
      refine ⟨μ, ρ, A, { nx := N.nx, rt := N.rt, bk := N.bk, ct := N.ct }, rs, hr, ⟨f.nx, f.rt, f.bk, f.ct, fun μ' ρ' σ' H' c2 dd H2 _ _ u => u.no.elim⟩, q⟩
    | some i =>
      refine ⟨μ, ρ.set i (some (.exn c ks ds)), A, { nx := fun ρ' A' => N.nx (clean (ρ'.set i none)) A', rt := N.rt, bk := fun ρ' A' => N.bk (clean (ρ'.set i none)) A', ct := fun ρ' A' => N.ct (clean (ρ'.set i none)) A' },
        (RelS.ofNone rs).setX i ⟨a, a', vs, rfl, rfl, hl, ed, rd⟩, hr, ⟨?_, f.rt, ?_, ?_, fun μ' ρ' σ' H' c2 dd H2 _ _ u => u.no.elim⟩, q⟩
      · exact fun μ' ρ' A' σ' H' s r h q => f.nx μ' _ A' _ H' s (r.forget i).clean h q
      · exact fun μ' ρ' A' σ' H' s r h q => f.bk μ' _ A' _ H' s (r.forget i).clean h q
      · exact fun μ' ρ' A' σ' H' s r h q => f.ct μ' _ A' _ H' s (r.forget i).clean h q
  · change (if G.sub c x = true then _ else _) at q
    rw [hb] at q
    simp only [Bool.false_eq_true, if_false] at q
    exact r N D Wout μ H ρ σ A c ca ks ds a' vs f rs hr eT hl ed rd q
theorem lc_parts {c : CC} {X : Cx} {hx : HX} {W : WX} (s : Snd c X G T hx W) {n : Nat} {elt : Expr} {gens : List Comprehension} {scope : Scope} {pos : Pos} {ir : Ie} (h : cE c (n + 1) (.ListComp elt gens scope pos) = some ir) :
    ∃ tg iter ifs g it t el, gens = [⟨tg, iter, ifs, 0⟩] ∧ ir = .lc g it t el (tgSlots g) ∧ c.hot = false ∧ PI X tg iter (tDI X.K T hx W (wI G it)) ∧ (∀ x, foldedSetIterable iter X.env x = pure x) ∧ BlkOk X.N X.env.scope scope (ownOf c (tgSlots g)) ∧
      (∀ (s0 : Shared) (H : Hp) (C : Addr) (cl : List (Str × Addr)) (fp : List Addr), PG (X.blk s0 H scope (compEnvC scope cl C X.env) fp) tg (gD X.K hx g)) ∧
      (∀ (s0 : Shared) (H : Hp) (C : Addr) (cl : List (Str × Addr)) (fp : List Addr), PTs (X.blk s0 H scope (compEnvC scope cl C X.env) fp) ifs (tDT X.K T hx W0 (wTo G t))) ∧
      (∀ (s0 : Shared) (H : Hp) (C : Addr) (cl : List (Str × Addr)) (fp : List Addr), PE (X.blk s0 H scope (compEnvC scope cl C X.env) fp) elt (tDE X.K T hx W0 (wE G el))) := by
  match gens, h with
  | [⟨tg, iter, ifs, asy⟩], h =>
    have has : asy = 0 := by
      refine Classical.byContradiction fun has => ?_
      unfold cE at h
      split at h
      all_goals first | (rename_i e1; cases e1; done) | (rename_i e1; cases e1; exact absurd rfl has) | (rename_i e1 _; cases e1; exact absurd rfl has) | cases h
    subst has
    simp only [cE] at h
    split at h
    · cases h
    · rename_i hh
      have hh : c.hot = false := by simpa using hh
      split at h
      · rename_i g it el h1 h2 h3
        split at h
        · rename_i hb
          have ok := blkOk_by hb
          obtain ⟨iE, iI⟩ := sd_all (G := G) (T := T) (hx := hx) n s
          have fin : ∀ t, (∀ (s0 : Shared) (H : Hp) (C : Addr) (cl : List (Str × Addr)) (fp : List Addr), PTs (X.blk s0 H scope (compEnvC scope cl C X.env) fp) ifs (tDT X.K T hx W0 (wTo G t))) → ir = .lc g it t el (tgSlots g) → _ := fun t ht hir =>
            (⟨tg, iter, ifs, g, it, t, el, rfl, hir, hh, (iI tg iter it h2).1, fun x => (iI tg iter it h2).2 _ x, by rw [s.N, s.sc]; exact ok, fun s0 H C cl fp => (sd_tgs n (snd_inner s hh scope s0 H C cl fp)).1 tg g h1, ht,
              fun s0 H C cl fp => ((sd_all n (snd_inner s hh scope s0 H C cl fp)).1 elt el h3).1⟩ : ∃ tg' iter' ifs' g it t el, [(⟨tg, iter, ifs, 0⟩ : Comprehension)] = [⟨tg', iter', ifs', 0⟩] ∧ ir = .lc g it t el (tgSlots g) ∧ c.hot = false ∧ PI X tg' iter' (tDI X.K T hx W (wI G it)) ∧ (∀ x, foldedSetIterable iter' X.env x = pure x) ∧ BlkOk X.N X.env.scope scope (ownOf c (tgSlots g)) ∧
      (∀ (s0 : Shared) (H : Hp) (C : Addr) (cl : List (Str × Addr)) (fp : List Addr), PG (X.blk s0 H scope (compEnvC scope cl C X.env) fp) tg' (gD X.K hx g)) ∧
      (∀ (s0 : Shared) (H : Hp) (C : Addr) (cl : List (Str × Addr)) (fp : List Addr), PTs (X.blk s0 H scope (compEnvC scope cl C X.env) fp) ifs' (tDT X.K T hx W0 (wTo G t))) ∧
      (∀ (s0 : Shared) (H : Hp) (C : Addr) (cl : List (Str × Addr)) (fp : List Addr), PE (X.blk s0 H scope (compEnvC scope cl C X.env) fp) elt (tDE X.K T hx W0 (wE G el))))
          split at h
          · cases h
            exact fin .no (fun s0 H C cl fp => ⟨fun pins s1 σ H Q I ⟨μ, ρ, A, E, Q', p, h, fin⟩ => pts_nil.run pins s1 σ H Q I (fin true H μ A .refl p.h h)⟩) rfl
          · rename_i t
            simp only [Option.map_eq_some_iff] at h
            obtain ⟨t', h4, rfl⟩ := h
            exact fin (.so t') (fun s0 H C cl fp => pts_one ((sd_all n (snd_inner s hh scope s0 H C cl fp)).1 t t' h4).2) rfl
          · cases h
        · cases h
      · cases h
  | [], h => simp [cE] at h
  | _ :: _ :: _, h => simp [cE] at h
end
end Px
end TextPx17

section TextPx18
set_option autoImplicit false
set_option maxRecDepth 100000
set_option maxHeartbeats 8000000
/-! Px18: every compiled body is sound. -/
namespace Px
open PySem PySem.Spec PyProof.Rows L2
section
variable {G : Env'} {T : Tab}
theorem ss_setLc {c : CC} {X : Cx} {hx : HX} {W : WX} (s : SndS c X G T hx W) (hk : X.env.scope.kind = .function) {n : Nat} {x : Str} {i : Nat} {p pos epos : Pos} {elt : Expr} {gens : List Comprehension} {scope : Scope} {ir : Ie} (h : cE c (n + 1) (.ListComp elt gens scope epos) = some ir) (hi : X.N[i]? = some x) (hl : X.env.scope.names.lookup x = some .local)
    (hln : (p.line == epos.line) = true) (ha : (scope.names.any fun (n, k) => n == x && (k == .local || k == .cell)) = false) : PS X (.Assign [.Name x p] (.ListComp elt gens scope epos) pos) (tDS X.K T hx W (wS G (.set i ir))) := by
  obtain ⟨tg, iter, ifs, g, it, t, el, rfl, rfl, hh, pi, hs, ok, pg, pt, pe⟩ := lc_parts s.toSnd h
  have hc := s.calm hh
  have hw : (ownOf c (tgSlots g)).map (·.2) = tgSlots g := by unfold ownOf; rw [List.map_map]; exact List.map_id' _
  refine PS.weaken (ps_setLc hc (by rw [s.N]; exact s.nd) hi hl (sw_true hk hl hln ha) pi ok pg pt pe hs) fun D σ H ⟨μ, ρ, A, N, rs, hr, f, q⟩ => ?_
  refine tLc_of (by rw [hw]; exact fun i h => h) ?_
  rw [hw]
  exact tDE.go (w := wE G (.lc g it t el (tgSlots g))) (f.pk rs hr) (show wE G (.lc g it t el (tgSlots g)) ρ A (N.xe ρ) (fun d A1 => N.nx (ρ.set i (some d)) A1) from q) fun v H1 μ1 d A1 s1 r1 p1 q1 => f.nx μ1 _ A1 _ H1 s1 (p1.s.set i r1) p1.h q1
theorem su_body {X : Cx} {K : PySem.W.Frag} {a : Addr} {cls : Value} {dd : Option Addr} {named : Bool} {ib : Iss} {body : List Stmt} (h : ∀ cn ca ks d, T cn = some (ca, ks) → cls = .ref ca → dd = some d → PSs X body (tDS K T (if named = true then some (a, cn, d) else none) W0 (wSs G ib))) :
    PSs X body (tSu K G T named ib a cls dd) := ⟨fun pins s σ H D I ⟨cn, ca, ks, d, e1, e2, e3, q⟩ => (h cn ca ks d e1 e2 e3).run pins s σ H D I q⟩
theorem sto_loc {c : CC} {X : Cx} {hx : HX} {W : WX} (s : SndS c X G T hx W) {x : Str} {i : Nat} (h : c.sto x = some i) : X.N[i]? = some x ∧ L2.Loc X.env.scope x ∧ (X.fn x = true ∨ X.env.scope.names.lookup x = some .local) := CC.sto_at s.toSnd h
theorem sd_stmts (n : Nat) : ∀ {c : CC} {X : Cx} {hx : HX} {W : WX}, SndS c X G T hx W → (∀ st i, cS c n st = some i → PS X st (tDS X.K T hx W (wS G i))) ∧ (∀ sts is, cSs c n sts = some is → PSs X sts (tDS X.K T hx W (wSs G is))) ∧
    (c.hot = false → ∀ hs ihs, cHs c n hs = some ihs → ∃ l, HdsA X hs l ∧ HSem X.K G T ihs l) := by
  induction n with
  | zero =>
    intro c X hx W s
    refine ⟨fun st i h => by simp [cS] at h, fun sts is h => ?_, fun hh hs ihs h => ?_⟩
    · cases sts with
      | nil => simp only [cSs, Option.some.injEq] at h; subst h; exact ss_nil
      | cons a b => simp [cSs] at h
    · cases hs with
      | nil => simp only [cHs, Option.some.injEq] at h; subst h; exact ⟨[], .nil, hsem_nil⟩
      | cons a b => simp [cHs] at h
  | succ n ih =>
    intro c X hx W s
    obtain ⟨iS, iSs, iH⟩ := ih s
    obtain ⟨iE, iI⟩ := sd_all (G := G) (T := T) (hx := hx) n s.toSnd
    obtain ⟨iG, _⟩ := sd_tgs (G := G) (T := T) (hx := hx) n s.toSnd
    have hN : X.N.Nodup := by rw [s.N]; exact s.nd
    refine ⟨fun st i h => ?_, fun sts is h => ?_, fun hh hs ihs h => ?_⟩
    · cases st with
      | Assign tgs e pos =>
        match tgs, h with
        | [], h => cases h
        | _ :: _ :: _, h => cases h
        | [tg], h =>
          cases tg with
          | Name x p =>
            simp only [cS] at h
            split at h
            · cases h
            · rename_i i' hi
              obtain ⟨k1, k2, k3⟩ := sto_loc s hi
              have gen : noComp e = true → (cE c n e).map (.set i') = some i → PS X (.Assign [.Name x p] e pos) (tDS X.K T hx W (wS G i)) := fun hn h => by
                simp only [Option.map_eq_some_iff] at h
                obtain ⟨ir, h1, rfl⟩ := h
                exact ss_set hN k1 k2 k3 (iE e ir h1).1 (sw_no hn _ _ _)
              split at h
              · split at h
                · rename_i hk
                  split at h
                  · rename_i hc
                    simp only [Bool.and_eq_true, Bool.not_eq_true'] at hc
                    simp only [Option.map_eq_some_iff] at h
                    obtain ⟨ir, h1, rfl⟩ := h
                    cases n with
                    | zero => simp [cE] at h1
                    | succ m =>
                      obtain ⟨_, _, _, _, _, _, _, _, _, hh, _⟩ := lc_parts s.toSnd h1
                      exact ss_setLc s (s.knd hh) h1 k1 (by rw [s.sc]; exact hk) hc.1 hc.2
                  · cases h
                · cases h
              · split at h
                · rename_i hn
                  exact gen hn h
                · cases h
          | Tuple ts k p =>
            simp only [cS] at h
            split at h
            · rename_i hc
              simp only [Bool.and_eq_true] at hc
              split at h
              · rename_i g x h1 h2
                cases h
                exact ss_asg (iE e x h2).1 (iG _ _ h1) hc.1 hc.2 rfl
              · cases h
            · cases h
          | Subscript o i' p =>
            simp only [cS] at h
            split at h
            · rename_i hc
              simp only [Bool.and_eq_true] at hc
              split at h
              · rename_i x y z h1 h2 h3
                cases h
                exact ss_asgS s.hu (iE e z h3).1 (iE o x h1).1 (iE i' y h2).1 hc.1 hc.2
              · cases h
            · cases h
          | _ => cases h
      | AugAssign tg op e pos =>
        cases tg with
        | Name x p =>
          cases op with
          | Add =>
            simp only [cS] at h
            split at h
            · rename_i i' y hi h1
              cases h
              obtain ⟨k1, k2, k3⟩ := sto_loc s hi
              exact ss_aug (.inl rfl) hN k1 k2 k3 (iE e y h1).1
            · cases h
          | Sub =>
            simp only [cS] at h
            split at h
            · rename_i i' y hi h1
              cases h
              obtain ⟨k1, k2, k3⟩ := sto_loc s hi
              exact ss_aug (.inr rfl) hN k1 k2 k3 (iE e y h1).1
            · cases h
          | _ => cases h
        | _ => cases h
      | Expr e pos =>
        simp only [cS] at h
        split at h
        · rename_i hn
          simp only [Option.map_eq_some_iff] at h
          obtain ⟨x, h1, rfl⟩ := h
          exact ss_ex (iE e x h1).1 hn
        · cases h
      | Return e pos =>
        cases e with
        | none => simp only [cS, Option.some.injEq] at h; subst h; exact ss_retN
        | some e =>
          simp only [cS, Option.map_eq_some_iff] at h
          obtain ⟨x, h1, rfl⟩ := h
          exact ss_ret (iE e x h1).1
      | Pass pos => simp only [cS, Option.some.injEq] at h; subst h; exact ss_pass
      | Break pos => simp only [cS, Option.some.injEq] at h; subst h; exact ss_brk
      | Continue pos => simp only [cS, Option.some.injEq] at h; subst h; exact ss_cnt
      | If t a b pos =>
        simp only [cS] at h
        split at h
        · rename_i x y z h1 h2 h3
          cases h
          exact ss_if (iE t x h1).2 (iSs a y h2) (iSs b z h3)
        · cases h
      | While t b els pos =>
        cases els with
        | cons _ _ => cases h
        | nil =>
          simp only [cS] at h
          split at h
          · cases h
          · rename_i hh
            split at h
            · rename_i x y h1 h2
              cases h
              exact ss_while (s.own (by simpa using hh)) (iE t x h1).2 (iSs b y h2)
            · cases h
      | For tg it b els pos =>
        cases els with
        | cons _ _ => cases h
        | nil =>
          simp only [cS] at h
          split at h
          · cases h
          · rename_i hh
            have hh : c.hot = false := by simpa using hh
            split at h
            · rename_i g x y h1 h2 h3
              cases h
              exact ss_for (s.own hh) (s.calm hh) (iI tg it x h2).1 (fun z => (iI tg it x h2).2 _ z) (iG tg g h1) (iSs b y h3)
            · cases h
      | Raise e c' pos =>
        simp only [cS] at h
        split at h
        · rename_i x e es hr
          obtain ⟨p, p2, rfl, rfl⟩ := rsOf_at hr
          split at h
          · rename_i hc
            simp only [Bool.and_eq_true, Bool.not_eq_true'] at hc
            split at h
            · rename_i k ys h1 h2
              split at h
              · rename_i hk
                cases h
                have hh := hc.1.1.1
                obtain ⟨ec, ek⟩ := s.rs hh x k h1
                have ha := sd_list (G := G) (T := T) (hx := hx) (W := W) (X := X) (fun e ir h => (iE e ir h).1) h2
                exact ss_rse (s.calm hh) s.tk (s.room hh) ec (s.gl hc.1.1.2) hc.1.2 rfl (by rw [ek]; exact hk) (of_decide_eq_true hc.2) (cList_stars h2) ha
              · cases h
            · cases h
          · cases h
        · cases h
      | Try b hs els fin pos =>
        match hs, els, fin, h with
        | h' :: hs, [], [], h =>
          simp only [cS] at h
          split at h
          · cases h
          · rename_i hh
            have hh : c.hot = false := by simpa using hh
            split at h
            · rename_i x y h1 h2
              cases h
              obtain ⟨l, hl, sem⟩ := iH hh _ _ h2
              have e := s.nhx hh
              subst e
              refine PS.weaken (ps_tryA (tb := fun W => tDS X.K T none W (wSs G x)) (s.stk hh).1 (s.stk hh).2 hN s.tk (fun W' pn xe tk ow => ((ih (snd_tr s hh tk ow (s.nox hh))).2.1 b x h1)) hl) fun D σ H ⟨μ, ρ, A, N, rs, hr, f, q⟩ => ?_
              refine ⟨μ, ρ, A, { N with xe := fun ρ' d A' => wHs G y d N ρ' A' }, rs, hr, ⟨f.nx, f.rt, f.bk, f.ct, ?_⟩, q⟩
              rintro μ' ρ' σ' H' cls dd H'' st rs' ⟨μ2, A2, c2, ca, ks, ds, a', vs, st2, hr2, eT, rfl, rfl, hl2, ed, rd, q2⟩
              exact sem N D W μ2 H'' ρ' σ' A2 c2 ca ks ds a' vs (f.step (st.trans st2)) (rs'.mono st2) hr2 eT hl2 ed rd q2
            · cases h
        | [], _, _, h => cases h
        | _ :: _, _ :: _, _, h => cases h
        | _ :: _, [], _ :: _, h => cases h
      | _ => cases h
    · cases sts with
      | nil => simp only [cSs, Option.some.injEq] at h; subst h; exact ss_nil
      | cons a b =>
        simp only [cSs] at h
        split at h
        · rename_i x y h1 h2
          cases h
          exact ss_cons (iS a x h1) (iSs b y h2)
        · cases h
    · cases hs with
      | nil => simp only [cHs, Option.some.injEq] at h; subst h; exact ⟨[], .nil, hsem_nil⟩
      | cons hd r =>
        obtain ⟨ty, nm, body, hpos⟩ := hd
        cases ty with
        | none => cases h
        | some ty =>
        cases body with
        | nil => cases ty <;> cases h
        | cons b bs =>
        cases ty with
        | Name x np =>
          simp only [cHs] at h
          split at h
          · rename_i hc
            simp only [Bool.and_eq_true] at hc
            obtain ⟨v, cv, u1, u2, gm, kk⟩ := s.exs hh x hc.1.1
            obtain ⟨o1, o2, o3⟩ := okName_at hc.2
            have hnames : Names X x cv := ⟨s.gl hc.1.2, o1, gm.elim .inl fun ⟨m, b⟩ => .inr ⟨m, b, o3⟩⟩
            have hnx := s.nhx hh
            subst hnx
            cases nm with
            | none =>
              dsimp only at h
              split at h
              · rename_i y z h1 h2
                cases h
                obtain ⟨l, hl, sem⟩ := iH hh r z h2
                refine ⟨_, .plain (ts := tSu X.K G T false y) hnames (fun a oe cls d pn hz hf => su_body fun cn ca ks dd eT e1 e2 => ?_) hl, hsem_cons (fun cn ca ks eT => (kk cn ca ks eT).2) sem⟩
                subst e1 e2
                exact (ih (snd_suite s hh pn eT hz hf none)).2.1 _ y h1
              · cases h
            | some e =>
              dsimp only at h
              split at h
              · rename_i i' hk hi
                split at h
                · rename_i y z h1 h2
                  cases h
                  obtain ⟨l, hl, sem⟩ := iH hh r z h2
                  refine ⟨_, .named (i := i') (ts := tSu X.K G T true y) hnames (by rw [s.N]; exact CC.slot_at hi) (by show X.env.scope.names.lookup e = _; rw [s.sc]; exact hk) (fun a oe cls d pn hz hf => su_body fun cn ca ks dd eT e1 e2 => ?_) hl, hsem_cons (fun cn ca ks eT => (kk cn ca ks eT).2) sem⟩
                  subst e1 e2
                  exact (ih (snd_suite s hh pn eT hz hf (some e))).2.1 _ y h1
                · cases h
              · cases h
          · cases h
        | _ => cases h
end
end Px
end TextPx18

section TextPx19
set_option autoImplicit false
set_option maxRecDepth 100000
set_option maxHeartbeats 8000000
/-! Px19: defs keep the contracts that their bodies mean. -/
namespace Px
open PySem PySem.Spec PyProof.Rows L2
def startD (N : List Str) (ds : List D) : Rho := ds.map some ++ List.replicate (N.length - ds.length) none
theorem start_rel {K : PySem.W.Frag} {μ : List Addr} {H : Hp} {N : List Str} {ds : List D} {vs : List V} (r : RelDs K μ H ds vs) : RelS K none μ H (startD N ds) (L2.start N vs) := by
  refine ⟨by unfold startD L2.start; simp [r.length], fun i d e => ?_⟩
  unfold startD at e
  unfold L2.start
  by_cases hi : i < ds.length
  · rw [List.getElem?_append_left (by simpa using hi), List.getElem?_map, List.getElem?_eq_getElem hi] at e
    have e' : ds[i] = d := by simpa using e
    obtain ⟨v, ev, rv⟩ := r.get (List.getElem?_eq_getElem hi)
    refine ⟨v, ?_, .of (by rw [← e']; exact rv)⟩
    rw [List.getElem?_append_left (by rw [List.length_map, ← r.length]; exact hi), List.getElem?_map, ev]
    rfl
  · rw [List.getElem?_append_right (by simpa using hi)] at e
    rw [List.getElem?_replicate] at e
    split at e <;> cases e
/-- what a def of the text is worth, once its callees are known -/
structure Callees (P : Program) (w : World) (K : PySem.W.Frag) (mg : Str → Option Value) (base : Heap) (T : Tab) (G : Env') (lv : Nat) (c : CC) : Prop where
  fns : c.hot = false → ∀ f k, c.fnOf f = some k → ∃ (fa : Addr) (fd : FuncData) (ps : List Str) (l : Nat), l ≤ lv ∧ FnOk P w K mg base (L2N.CX P w) l fa fd ps (spD K T (G.con f) k) ∧ mg f = some (.ref fa) ∧ PySem.W.keepIn K (.ref fa) = true ∧ Binds K fd ps [] ∧ ps.length = k
  kws : c.hot = false → ∀ f m ns pm, c.kwp.lookup (f, m, ns) = some pm → ∃ (fa : Addr) (fd : FuncData) (ps : List Str) (l : Nat), l ≤ lv ∧ FnOk P w K mg base (L2N.CX P w) l fa fd ps (spD K T (G.con f) pm.length) ∧ mg f = some (.ref fa) ∧ PySem.W.keepIn K (.ref fa) = true ∧ ps.length = pm.length ∧
    ∀ (s : Shared) (us ws : List Value), K.In s.heap → us.length = m → ws.length = ns.length → BindsTo s fd ⟨us, ns.zip ws⟩ (ps.zip (permD pm (us ++ ws)))
  hfns : ∀ f k, (if c.hot = true then c.fnOf f = some k else c.hfns.lookup f = some k) → ∃ (fa : Addr) (fd : FuncData) (ps : List Str) (l : Nat), l ≤ lv ∧ L2H.FnH P w K mg base (L2N.CX P w) l fa fd ps (spD K T (G.con f) k) ∧ mg f = some (.ref fa) ∧ PySem.W.keepIn K (.ref fa) = true ∧ Binds K fd ps [] ∧ ps.length = k
  bl : ∀ x ∈ blNames, mg x = none
  cts : ∀ x, c.cts.contains x = true → ∃ d u v, G.ct x = some d ∧ mg x = some u ∧ RelV v u ∧ ∀ μ H, RelD K μ H d v
  rs : c.hot = false → ∀ x k, c.rss.lookup x = some k → EclOk P w K mg base T x (G.fds x) ∧ (G.fds x).length = k
  cls : c.hot = false → ∀ cn ca ks, T cn = some (ca, ks) → XfC K ca ∧ ExcC K ca ∧ ∀ f, c.flds.contains f = true → PySem.W.findIn K (.ref ca) f = some none
  exs : c.hot = false → ∀ t, c.exs.contains t = true → ∃ (v : V) (cv : Value), (∀ u, RelV v u → u = cv) ∧ RelV v cv ∧ (mg t = some cv ∨ (mg t = none ∧ bootBuiltins t = some cv)) ∧
    ∀ cn ca ks, T cn = some (ca, ks) → PySem.W.kitOne K (.ref ca) cv = some (G.sub cn t) ∧ PySem.W.exmOne K (.ref ca) cv = some (G.sub cn t)
section
variable {P : Program} {w : World} {K : PySem.W.Frag} {mg : Str → Option Value} {base : Heap} {T : Tab} {G : Env'} {lv : Nat} {c : CC}
theorem hu64 {A : Around} {k : Nat} (hr : Room k A) : A.units + 64 < cLine := by have := hr.un; omega
theorem hu64H {A : Around} {k : Nat} (hr : L2H.RoomH k A) : A.units + 64 < cLine := by have := hr.un; omega
theorem callees_snd (C : Callees P w K mg base T G lv c) (h2 : 2 ≤ lv) (hh : c.hot = false) (hx : c.exv = none) (hb : c.blk = none) (nd : c.N.Nodup) {qual : Str} {scope : Scope} (hsc : c.sc = scope) (hk : scope.kind = .function) {f : Addr} {cdv : Value} {A : Around} {outer : List Env} {s : Shared} {H : Hp} {E : XK} (hr : Room lv (A.deeper (envOfC qual scope s.heap.objs.size f cdv))) :
    SndS c (cxOf (L2N.CX P w) P w K mg base c.N qual scope f cdv A outer s H E) G T none (fun cls d _ H => E cls d H) where
  N := rfl
  nd := nd
  sc := hsc.symm
  calm := fun _ => rfl
  fnv := fun _ _ => rfl
  hu := hu64 hr
  bl := C.bl
  cts := C.cts
  tk := L2N.takes_of rfl rfl rfl rfl
  fns := fun h f k e => by
    obtain ⟨fa, fd, ps, l, hl, F, r⟩ := C.fns h f k e
    exact ⟨fa, fd, ps, l, F, hr.mono hl, r⟩
  kws := fun h f m ns pm e => by
    obtain ⟨fa, fd, ps, l, hl, F, r⟩ := C.kws h f m ns pm e
    exact ⟨fa, fd, ps, l, F, hr.mono hl, r⟩
  hfns := fun h => by rw [hh] at h; cases h
  fld := fun e i f p pos h => by rw [hx] at h; cases h
  isx := fun e i t p p1 p2 pos h => by rw [hx] at h; cases h
  own := fun _ => passes_of rfl
  knd := fun _ => hk
  stk := fun _ => ⟨rfl, rfl⟩
  nhx := fun _ => rfl
  nox := fun _ => hx
  room := fun _ => hr.mono h2
  rs := C.rs
  cls := C.cls
  exs := C.exs
  hfn := fun h f k e hv => by
    obtain ⟨fa, fd, ps, l, hl, F, r⟩ := C.hfns f k (by rw [h]; exact e)
    exact ⟨fa, fd, ps, l, F, ⟨(hr.mono hl).dp, (hr.mono hl).un⟩, r⟩
theorem callees_sndH (C : Callees P w K mg base T G lv c) (hh : c.hot = true) (hx : c.exv = none) (hb : c.blk = none) (nd : c.N.Nodup) {qual : Str} {scope : Scope} (hsc : c.sc = scope) (hk : scope.kind = .function) {f : Addr} {cdv : Value} {A : Around} {outer : List Env} {s : Shared} {H : Hp} {E : XK} {p : Addr × Obj} (hot : L2H.Hot1 A p) (hr : L2H.RoomH lv (A.deeper (envOfC qual scope s.heap.objs.size f cdv))) :
    SndS c (L2H.cxH (L2N.CX P w) P w K mg base c.N qual scope f cdv A outer s H E p) G T none (fun cls d _ H => E cls d H) where
  N := rfl
  nd := nd
  sc := hsc.symm
  calm := fun h => by rw [hh] at h; cases h
  fnv := fun _ _ => rfl
  hu := hu64H hr
  bl := C.bl
  cts := C.cts
  tk := L2N.takes_of rfl rfl rfl rfl
  fns := fun h => by rw [hh] at h; cases h
  kws := fun h => by rw [hh] at h; cases h
  hfns := fun _ => ⟨⟨p, hot, List.mem_singleton.mpr rfl⟩, fun f k e => by
    obtain ⟨fa, fd, ps, l, hl, F, r⟩ := C.hfns f k (by rw [hh]; exact e)
    exact ⟨fa, fd, ps, l, F, hr.mono hl, r⟩⟩
  fld := fun e i f p pos h => by rw [hx] at h; cases h
  isx := fun e i t p p1 p2 pos h => by rw [hx] at h; cases h
  own := fun h => by rw [hh] at h; cases h
  knd := fun h => by rw [hh] at h; cases h
  stk := fun h => by rw [hh] at h; cases h
  nhx := fun _ => rfl
  nox := fun h => by rw [hh] at h; cases h
  room := fun h => by rw [hh] at h; cases h
  rs := fun h => by rw [hh] at h; cases h
  cls := fun h => by rw [hh] at h; cases h
  exs := fun h => by rw [hh] at h; cases h
  hfn := fun h => by rw [hh] at h; cases h
/-- the contract that a body means -/
def conOf (G : Env') (N : List Str) (ir : Iss) : Con := fun ds A E Q => wSs G ir { nx := fun _ A' => Q .non A', rt := Q, xe := fun _ d A' => E d A' } (startD N ds) A
theorem fit_start {sp : Con} {μ : List Addr} {H : Hp} {E' : D → Ht → Prop} {Q' : D → Ht → Prop} {Q : VK} {E : XK} (hq : ∀ v H', Up K μ H Q' v H' → Q v H') (he : ∀ c dd H', UpX K T μ H E' c dd H' → E c dd H') :
    Fit K T none (fun cls d _ H => E cls d H) { nx := fun _ A' => Q' .non A', rt := Q', xe := fun _ d A' => E' d A' } { nx := fun _ H' => Q .non H', rt := Q } μ H where
  nx := fun μ' ρ' A' σ' H' s r h q => hq .non H' ⟨μ', .non, A', s, to_non, h, q⟩
  rt := hq
  bk := fun μ' ρ' A' σ' H' s r h q => q
  ct := fun μ' ρ' A' σ' H' s r h q => q
  xe := fun μ' ρ' σ' H' c dd H'' s r u => he c dd H'' (u.step s)
theorem fn_sound {x qual : Str} {st : Stmt} {f : Addr} {fd : FuncData} {n : Nat} {ir : Iss} {ps : List Str} {con : Con} (F : Fun K x qual st f fd) (C : Callees P w K mg base T G lv c) (h2 : 2 ≤ lv) (hc : cSs c n (defBody st) = some ir) (hh : c.hot = false) (hx : c.exv = none) (hb : c.blk = none) (hsc : c.sc = defScope st)
    (S : FnScope c.N ps (defScope st)) (hcon : ∀ ds A E Q, ds.length = ps.length → con ds A E Q → conOf G c.N ir ds A E Q) : FnOk P w K mg base (L2N.CX P w) (lv + 1) f fd ps (spD K T con ps.length) := by
  obtain ⟨oc, od, kV, doc, pm, an, cdv, ct, osl, rfl, lk, hcd⟩ := F.ex
  refine fn_of lk hcd S (fun vs H Q E h => h.1) fun A outer s H vs Q E hr h => ⟨_, (sd_stmts n (callees_snd C h2 hh hx hb S.nd hsc S.kind hr)).2.1 _ ir hc, ?_⟩
  obtain ⟨hl, μ, A0, ds, E', Q', hr0, rd, q, hq, he⟩ := h
  exact ⟨μ, _, A0, _, start_rel rd, hr0, fit_start (sp := con) hq he, hcon ds A0 E' Q' (by rw [rd.length, hl]) q⟩
theorem fn_soundH {x qual : Str} {st : Stmt} {f : Addr} {fd : FuncData} {n : Nat} {ir : Iss} {ps : List Str} {con : Con} (F : Fun K x qual st f fd) (C : Callees P w K mg base T G lv c) (hc : cSs c n (defBody st) = some ir) (hh : c.hot = true) (hx : c.exv = none) (hb : c.blk = none) (hsc : c.sc = defScope st)
    (S : FnScope c.N ps (defScope st)) (hcon : ∀ ds A E Q, ds.length = ps.length → con ds A E Q → conOf G c.N ir ds A E Q) : L2H.FnH P w K mg base (L2N.CX P w) (lv + 1) f fd ps (spD K T con ps.length) := by
  obtain ⟨oc, od, kV, doc, pm, an, cdv, ct, osl, rfl, lk, hcd⟩ := F.ex
  refine L2H.fn_ofH lk hcd S (fun vs H Q E h => h.1) fun A outer s H vs Q E p hot hr h => ⟨_, (sd_stmts n (callees_sndH C hh hx hb S.nd hsc S.kind hot hr)).2.1 _ ir hc, ?_⟩
  obtain ⟨hl, μ, A0, ds, E', Q', hr0, rd, q, hq, he⟩ := h
  exact ⟨μ, _, A0, _, start_rel rd, hr0, fit_start (sp := con) hq he, hcon ds A0 E' Q' (by rw [rd.length, hl]) q⟩
theorem intsV_rel {μ : List Addr} {H : Hp} : ∀ ns : List Int, RelDs K μ H (ns.map .int) (ns.map V.int)
  | [] => .nil
  | n :: r => .cons to_int (intsV_rel r)
/-- the law's own promise, from its contract -/
theorem law_sp {con : Con} {H : Hp} {a : Addr} {ns : List Int} (hO : L2.Only H) (hS : SqL K H a (ns.map V.int)) (hcon : con [.rol (ns.map .int)] [] (fun _ _ => False) (fun d _ => d = .bl true)) : spD K T con 1 [.ref a] H (fun v _ => v = .bl true) fun _ _ _ => False := by
  refine ⟨rfl, [], [], [.rol (ns.map .int)], _, _, ⟨rfl, .nil, fun i o b e => by simp at e⟩, .cons ?_ .nil, hcon, fun v H' ⟨μ', d, A', s, r, h, q⟩ => ?_, fun c dd H' u => u.no⟩
  · simp only [RelD]
    refine ⟨a, ns.map V.int, rfl, ?_, ?_⟩
    · rcases hS with (h | ⟨o, h⟩) | h
      · rcases hO a with z | ⟨o, xs, z⟩
        · rw [h] at z; cases z
        · rw [h] at z; cases z
      · exact .inl ⟨o, h⟩
      · exact .inr h
    · exact intsV_rel ns
  · have q' : d = .bl true := q
    subst q'
    exact rel_bl r
end
end Px
end TextPx19

section TextPx20
set_option autoImplicit false
/-! Px20: loops, comprehensions and heaps of numbered objects, in plain Lean. -/
namespace Px
open PySem
theorem loopD_inv {ok : Ht → Prop} {st : D → Rho → Ht → (Rho → Ht → Prop) → Prop} {fin : Rho → Ht → Prop} (I : Nat → Rho → Ht → Prop) (hok : ∀ i ρ A, I i ρ A → ok A) :
    ∀ (items : List D) (n : Nat) (ρ : Rho) (A : Ht), I n ρ A → (∀ i (h : i < items.length) ρ A k, I (n + i) ρ A → (∀ ρ' A', I (n + i + 1) ρ' A' → k ρ' A') → st (items[i]) ρ A k) → (∀ ρ A, I (n + items.length) ρ A → fin ρ A) → loopD ok st fin items ρ A
  | [], n, ρ, A, h0, _, hf => ⟨hok _ _ _ h0, hf _ _ h0⟩
  | d :: ds, n, ρ, A, h0, hs, hf => by
    refine ⟨hok _ _ _ h0, hs 0 (Nat.succ_pos _) ρ A _ h0 fun ρ' A' h1 => ?_⟩
    refine loopD_inv I hok ds (n + 1) ρ' A' h1 (fun i hi ρ2 A2 k h2 hk => ?_) fun ρ2 A2 h2 => hf _ _ (by rw [List.length_cons, show n + (ds.length + 1) = n + 1 + ds.length from by omega]; exact h2)
    have e : n + 1 + i = n + (i + 1) := by omega
    exact hs (i + 1) (by simpa using hi) ρ2 A2 k (by rw [← e]; exact h2) fun ρ3 A3 h3 => hk _ _ (by rw [e]; exact h3)
/-- a loop's rule: I i holds ahead of the i-th turn -/
theorem loop_go {ok : Ht → Prop} {st : D → Rho → Ht → (Rho → Ht → Prop) → Prop} {fin : Rho → Ht → Prop} {items : List D} {ρ : Rho} {A : Ht} (I : Nat → Rho → Ht → Prop) (h0 : I 0 ρ A) (hok : ∀ i ρ A, I i ρ A → ok A)
    (hs : ∀ i (h : i < items.length) ρ A k, I i ρ A → (∀ ρ' A', I (i + 1) ρ' A' → k ρ' A') → st (items[i]) ρ A k) (hf : ∀ ρ A, I items.length ρ A → fin ρ A) : loopD ok st fin items ρ A :=
  loopD_inv I hok items 0 ρ A h0 (fun i hi ρ A k h hk => hs i hi ρ A k (by simpa using h) fun ρ' A' h' => hk ρ' A' (by simpa using h')) fun ρ A h => hf ρ A (by simpa using h)
theorem compD_inv {ok : Ht → Prop} {st : D → Ht → (Option D → Ht → Prop) → Prop} {fin : List D → Ht → Prop} (I : Nat → List D → Ht → Prop) (hok : ∀ i l A, I i l A → ok A) :
    ∀ (items : List D) (n : Nat) (acc : List D) (A : Ht), I n acc A → (∀ i (h : i < items.length) acc A k, I (n + i) acc A → (∀ A', I (n + i + 1) acc A' → k none A') → (∀ y A', acc.length < PySem.sizeLine ∧ I (n + i + 1) (acc ++ [y]) A' → k (some y) A') → st (items[i]) A k) → (∀ acc A, I (n + items.length) acc A → fin acc A) → compD ok st fin items acc A
  | [], n, acc, A, h0, _, hf => ⟨hok _ _ _ h0, hf _ _ h0⟩
  | d :: ds, n, acc, A, h0, hs, hf => by
    have go : ∀ acc' A', I (n + 1) acc' A' → compD ok st fin ds acc' A' := fun acc' A' h1 => by
      refine compD_inv I hok ds (n + 1) acc' A' h1 (fun i hi ρ2 A2 k h2 hk hk2 => ?_) fun ρ2 A2 h2 => hf _ _ (by rw [List.length_cons, show n + (ds.length + 1) = n + 1 + ds.length from by omega]; exact h2)
      have e : n + 1 + i = n + (i + 1) := by omega
      exact hs (i + 1) (by simpa using hi) ρ2 A2 k (by rw [← e]; exact h2) (fun A3 h3 => hk _ (by rw [e]; exact h3)) fun y A3 h3 => hk2 _ _ (by rw [e]; exact h3)
    refine ⟨hok _ _ _ h0, hs 0 (Nat.succ_pos _) acc A _ h0 (fun A' h1 => go _ _ h1) fun y A' h1 => ⟨h1.1, go _ _ h1.2⟩⟩
theorem comp_go {ok : Ht → Prop} {st : D → Ht → (Option D → Ht → Prop) → Prop} {fin : List D → Ht → Prop} {items : List D} {A : Ht} (I : Nat → List D → Ht → Prop) (h0 : I 0 [] A) (hok : ∀ i l A, I i l A → ok A)
    (hs : ∀ i (h : i < items.length) acc A k, I i acc A → (∀ A', I (i + 1) acc A' → k none A') → (∀ y A', acc.length < PySem.sizeLine ∧ I (i + 1) (acc ++ [y]) A' → k (some y) A') → st (items[i]) A k) (hf : ∀ acc A, I items.length acc A → fin acc A) : compD ok st fin items [] A :=
  compD_inv I hok items 0 [] A h0 (fun i hi acc A k h hk hk2 => hs i hi acc A k (by simpa using h) (fun A' h' => hk A' (by simpa using h')) fun y A' h' => hk2 y A' (by simpa using h')) fun acc A h => hf acc A (by simpa using h)
/-- all but the objects of S stand as they were -/
def Keep (S : List Nat) (A A' : Ht) : Prop := A.length ≤ A'.length ∧ ∀ i o, A[i]? = some o → i ∉ S → A'[i]? = some o
theorem Keep.refl {S : List Nat} {A : Ht} : Keep S A A := ⟨Nat.le_refl _, fun _ _ h _ => h⟩
theorem Keep.trans {S : List Nat} {A B C : Ht} (a : Keep S A B) (b : Keep S B C) : Keep S A C := ⟨Nat.le_trans a.1 b.1, fun i o h n => b.2 i o (a.2 i o h n) n⟩
theorem Keep.sub {S S' : List Nat} {A B : Ht} (a : Keep S A B) (h : ∀ i ∈ S, i ∈ S') : Keep S' A B := ⟨a.1, fun i o e n => a.2 i o e fun z => n (h i z)⟩
theorem Keep.any {S : List Nat} {A B : Ht} (a : Keep [] A B) : Keep S A B := a.sub (by simp)
theorem Keep.push {S : List Nat} {A : Ht} {o : O} : Keep S A (A ++ [o]) := ⟨by simp, fun i u h _ => by
  rw [List.getElem?_append_left (List.getElem?_eq_some_iff.mp h).1]; exact h⟩
theorem Keep.set {S : List Nat} {A : Ht} {n : Nat} {o : O} (h : n ∈ S) : Keep S A (A.set n o) := ⟨by simp, fun i u e k => by
  rw [List.getElem?_set_ne (fun z : n = i => k (by rw [← z]; exact h))]; exact e⟩
theorem at_push {A : Ht} {o : O} : (A ++ [o])[A.length]? = some o := List.getElem?_concat_length
theorem at_set {A : Ht} {n : Nat} {o u : O} (h : A[n]? = some u) : (A.set n o)[n]? = some o := List.getElem?_set_self (List.getElem?_eq_some_iff.mp h).1
theorem at_lt {A : Ht} {n : Nat} {u : O} (h : A[n]? = some u) : n < A.length := (List.getElem?_eq_some_iff.mp h).1
/-- beyond A: an object that A has not -/
theorem Keep.fresh {S : List Nat} {A B : Ht} {n : Nat} {u : O} (k : Keep S A B) (hn : A.length ≤ n) {i : Nat} {o : O} (h : A[i]? = some o) : i ≠ n := fun z => by
  have := at_lt h
  omega
abbrev iL (l : List Int) : List D := l.map D.int
end Px
end TextPx20

section TextPx20b
set_option autoImplicit false
set_option maxRecDepth 100000
/-! Px20b: operations on numbered objects, in the form in which they are used. -/
namespace Px
open PySem
section
variable {A : Ht} {n m : Nat} {l : List D} {Q : D → Ht → Prop}
theorem q_len (e : A[n]? = some (.lst l)) (h : Q (.int l.length) A) : biD .len [.obj n] A Q := by unfold biD; dsimp only; rw [e]; exact h
theorem q_tuple (e : A[n]? = some (.lst l)) (h : Q (.tup l) A) : biD .tuple [.obj n] A Q := by unfold biD; dsimp only; rw [e]; exact h
theorem q_list (e : A[n]? = some (.lst l)) (h : Q (.obj A.length) (A ++ [.lst l])) : biD .list [.obj n] A Q := by unfold biD; dsimp only; rw [e]; exact h
theorem q_ix {i : Int} {d : D} (e : A[n]? = some (.lst l)) (hi : L2.atI l i = some d) (h : Q d A) : ixD (.obj n) (.int i) A Q := by unfold ixD; dsimp only; rw [e]; dsimp only; rw [hi]; exact h
theorem q_ixN {i : Nat} {d : D} (e : A[n]? = some (.lst l)) (hi : l[i]? = some d) (h : Q d A) : ixD (.obj n) (.int (i : Int)) A Q := q_ix e (L2.atI_nat hi) h
theorem q_ixT {i : Int} {d : D} (hi : L2.atI l i = some d) (h : Q d A) : ixD (.tup l) (.int i) A Q := by unfold ixD; dsimp only; rw [hi]; exact h
theorem q_push {x : D} (e : A[n]? = some (.lst l)) (hl : l.length < PySem.sizeLine) (h : Q .non (A.set n (.lst (l ++ [x])))) : mtD .append (.obj n) [x] A Q := by unfold mtD; dsimp only; rw [e]; exact ⟨hl, h⟩
theorem q_pop {x : D} (e : A[n]? = some (.lst l)) (hl : l[l.length - 1]? = some x) (h : Q x (A.set n (.lst l.dropLast))) : mtD .pop (.obj n) [] A Q := by unfold mtD; dsimp only; rw [e]; dsimp only; rw [hl]; exact h
theorem q_rev (e : A[n]? = some (.lst l)) (h : Q .non (A.set n (.lst l.reverse))) : mtD .reverse (.obj n) [] A Q := by unfold mtD; dsimp only; rw [e]; exact h
theorem q_rc {mi : MI} (hm : mi = .append ∨ mi = .pop ∨ mi = .reverse) (e : A[n]? = some (.lst l)) : recvD mi (.obj n) A := by
  rcases hm with rfl | rfl | rfl <;> (unfold recvD; dsimp only; rw [e]; trivial)
theorem q_set {i : Nat} {x : D} {k : Ht → Prop} (e : A[n]? = some (.lst l)) (hi : i < l.length) (h : k (A.set n (.lst (l.set i x)))) : setD (.obj n) (.int (i : Int)) x A k := by
  unfold setD; dsimp only; rw [e]; dsimp only
  have z : L2.ixN l.length (i : Int) = some i := by unfold L2.ixN; rw [if_pos (by omega), if_pos (by omega)]; simp
  rw [z]; exact h
theorem q_cat {l2 : List D} (e : A[n]? = some (.lst l)) (e2 : A[m]? = some (.lst l2)) (hl : l.length + l2.length ≤ PySem.sizeLine) (h : Q (.obj A.length) (A ++ [.lst (l ++ l2)])) : binD .Add (.obj n) (.obj m) A Q := by
  unfold binD; dsimp only; rw [e, e2]; exact ⟨hl, h⟩
theorem q_rep {k : Int} (e : A[n]? = some (.lst l)) (h1 : 0 ≤ k) (h2 : k < 1000000) (hl : l.length * k.toNat ≤ PySem.sizeLine) (h : Q (.obj A.length) (A ++ [.lst (List.replicate k.toNat l).flatten])) : binD .Mult (.obj n) (.int k) A Q := by
  unfold binD; dsimp only; rw [e]; exact ⟨by omega, by omega, hl, h⟩
theorem q_sl {lo hi : Option Int} (e : A[n]? = some (.lst l)) (h : Q (.obj A.length) (A ++ [.lst (cutD l lo hi)])) : slD (.obj n) lo hi A Q := by unfold slD; dsimp only; rw [e]; exact h
theorem q_seq {k : Wk → Prop} (e : A[n]? = some (.lst l)) (h : k ⟨l, fun A' => A'[n]? = some (.lst l)⟩) : wkD (.obj n) A k := by unfold wkD; dsimp only; rw [e]; exact h
end
theorem Keep.wr {S : List Nat} {A B : Ht} {n : Nat} {o : O} (k : Keep S A B) (h : A.length ≤ n) : Keep S A (B.set n o) := ⟨by simpa using k.1, fun i u e hs => by
  rw [List.getElem?_set_ne (by have := at_lt e; omega)]
  exact k.2 i u e hs⟩
theorem sl32 : (65536 : Nat) < PySem.sizeLine := by rw [PySem.sizeLine_eq]; decide
theorem iL_get {l : List Int} {i : Nat} (h : i < l.length) : (iL l)[i]? = some (.int l[i]) := by simp [List.getElem?_eq_getElem h]
theorem iL_len {l : List Int} : (iL l).length = l.length := by simp
end Px
end TextPx20b

section TextPx21
set_option autoImplicit false
set_option maxRecDepth 100000
set_option maxHeartbeats 4000000
/-! Px21: the defs of a text, one after the other. -/
namespace Px
open PySem PySem.Spec PyProof.Rows L2
abbrev KwL := List ((Nat × List Str) × List Nat)
abbrev FnL := List (Str × List Str × KwL)
section
variable (P : Program) (w : World) (K : PySem.W.Frag) (mg : Str → Option Value) (base : Heap) (T : Tab) (G : Env')
structure Fn1 (lv : Nat) (f : Str) (ps : List Str) (kw : KwL) : Prop where
  ex : ∃ (fa : Addr) (fd : FuncData) (l : Nat), l ≤ lv ∧ FnOk P w K mg base (L2N.CX P w) l fa fd ps (spD K T (G.con f) ps.length) ∧ mg f = some (.ref fa) ∧ PySem.W.keepIn K (.ref fa) = true ∧ Binds K fd ps [] ∧
    ∀ m ns pm, kw.lookup (m, ns) = some pm → ∀ (s : Shared) (us ws : List Value), K.In s.heap → us.length = m → ws.length = ns.length → BindsTo s fd ⟨us, ns.zip ws⟩ (ps.zip (permD pm (us ++ ws)))
structure FnH1 (lv : Nat) (f : Str) (ps : List Str) : Prop where
  ex : ∃ (fa : Addr) (fd : FuncData) (l : Nat), l ≤ lv ∧ L2H.FnH P w K mg base (L2N.CX P w) l fa fd ps (spD K T (G.con f) ps.length) ∧ mg f = some (.ref fa) ∧ PySem.W.keepIn K (.ref fa) = true ∧ Binds K fd ps []
def Known (lv : Nat) (L : FnL) : Prop := ∀ f ps kw, L.lookup f = some (ps, kw) → Fn1 P w K mg base T G lv f ps kw
def KnownH (lv : Nat) (L : List (Str × List Str)) : Prop := ∀ f ps, L.lookup f = some ps → FnH1 P w K mg base T G lv f ps
structure Globs (exs : List Str) (rss : List (Str × Nat)) (flds cts : List Str) : Prop where
  bl : ∀ x ∈ blNames, mg x = none
  cts : ∀ x ∈ cts, ∃ d u v, G.ct x = some d ∧ mg x = some u ∧ RelV v u ∧ ∀ μ H, RelD K μ H d v
  rs : ∀ x k, rss.lookup x = some k → EclOk P w K mg base T x (G.fds x) ∧ (G.fds x).length = k
  cls : ∀ cn ca ks, T cn = some (ca, ks) → XfC K ca ∧ ExcC K ca ∧ ∀ f ∈ flds, PySem.W.findIn K (.ref ca) f = some none
  exs : ∀ t ∈ exs, ∃ (v : V) (cv : Value), (∀ u, RelV v u → u = cv) ∧ RelV v cv ∧ (mg t = some cv ∨ (mg t = none ∧ bootBuiltins t = some cv)) ∧
    ∀ cn ca ks, T cn = some (ca, ks) → PySem.W.kitOne K (.ref ca) cv = some (G.sub cn t) ∧ PySem.W.exmOne K (.ref ca) cv = some (G.sub cn t)
end
def chk (c : CC) (L : FnL) (LH : List (Str × List Str)) (exs : List Str) (rss : List (Str × Nat)) (flds cts : List Str) : Bool :=
  (c.hot || c.fns.all fun p => match L.lookup p.1 with | some e => decide (e.1.length = p.2) | none => false) &&
  (c.hot || c.kwp.all fun p => match L.lookup p.1.1 with | some e => decide (e.2.lookup (p.1.2.1, p.1.2.2) = some p.2) && decide (p.2.length = e.1.length) | none => false) &&
  ((if c.hot then c.fns else c.hfns).all fun p => match LH.lookup p.1 with | some e => decide (e.length = p.2) | none => false) &&
  (c.cts.all fun x => decide (x ∈ cts)) && (c.hot || c.rss.all fun p => decide (rss.lookup p.1 = some p.2)) && (c.flds.all fun x => decide (x ∈ flds)) && (c.exs.all fun x => decide (x ∈ exs))
section
variable {P : Program} {w : World} {K : PySem.W.Frag} {mg : Str → Option Value} {base : Heap} {T : Tab} {G : Env'} {lv : Nat} {L : FnL} {LH : List (Str × List Str)} {exs : List Str} {rss : List (Str × Nat)} {flds cts : List Str}
theorem lookup_mem {α β : Type} [BEq α] [LawfulBEq α] {k : α} {v : β} : ∀ {l : List (α × β)}, l.lookup k = some v → (k, v) ∈ l
  | [], h => by simp at h
  | (a, b) :: r, h => by
    rw [List.lookup_cons] at h
    split at h
    · rename_i e
      cases h
      rw [eq_of_beq e]
      exact List.mem_cons_self
    · exact List.mem_cons_of_mem _ (lookup_mem h)
theorem mk_callees (k : Known P w K mg base T G lv L) (kh : KnownH P w K mg base T G lv LH) (g : Globs P w K mg base T G exs rss flds cts) {c : CC} (h : chk c L LH exs rss flds cts = true) : Callees P w K mg base T G lv c := by
  unfold chk at h
  simp only [Bool.and_eq_true, List.all_eq_true, Bool.or_eq_true] at h
  obtain ⟨⟨⟨⟨⟨⟨h1, h2⟩, h3⟩, h4⟩, h5⟩, h6⟩, h7⟩ := h
  refine ⟨fun hh f n e => ?_, fun hh f m ns pm e => ?_, fun f n e => ?_, g.bl, fun x hx => ?_, fun hh x n e => ?_, fun _ cn ca ks e => ?_, fun _ t ht => ?_⟩
  · have q := (h1.resolve_left (by rw [hh]; simp)) _ (lookup_mem e)
    dsimp only at q
    split at q
    · rename_i e2 he
      obtain ⟨fa, fd, l, hl, F, hm, hk, hb, _⟩ := (k f _ _ he).ex
      have en := of_decide_eq_true q
      exact ⟨fa, fd, _, l, hl, by rw [← en]; exact F, hm, hk, hb, en⟩
    · cases q
  · have q := (h2.resolve_left (by rw [hh]; simp)) _ (lookup_mem e)
    dsimp only at q
    split at q
    · rename_i e2 he
      obtain ⟨fa, fd, l, hl, F, hm, hk, hb, hkw⟩ := (k f _ _ he).ex
      simp only [Bool.and_eq_true, decide_eq_true_eq] at q
      exact ⟨fa, fd, _, l, hl, by rw [q.2]; exact F, hm, hk, q.2.symm, hkw m ns pm q.1⟩
    · cases q
  · have q := h3 (f, n) (by split at e <;> rename_i hc <;> (first | rw [if_pos hc] | rw [if_neg hc]) <;> exact lookup_mem e)
    dsimp only at q
    split at q
    · rename_i e2 he
      obtain ⟨fa, fd, l, hl, F, hm, hk, hb⟩ := (kh f _ he).ex
      have en := of_decide_eq_true q
      exact ⟨fa, fd, _, l, hl, by rw [← en]; exact F, hm, hk, hb, en⟩
    · cases q
  · exact g.cts x (of_decide_eq_true (h4 x (by simpa using hx)))
  · exact g.rs x n (of_decide_eq_true ((h5.resolve_left (by rw [hh]; simp)) _ (lookup_mem e)))
  · obtain ⟨a, b, d⟩ := g.cls cn ca ks e
    exact ⟨a, b, fun f hf => d f (of_decide_eq_true (h6 f (by simpa using hf)))⟩
  · exact g.exs t (of_decide_eq_true (h7 t (by simpa using ht)))
theorem known_nil {lv : Nat} : Known P w K mg base T G lv [] := fun f ps kw h => by simp at h
theorem knownH_nil {lv : Nat} : KnownH P w K mg base T G lv [] := fun f ps h => by simp at h
theorem KnownH.up {l2 : Nat} (k : KnownH P w K mg base T G lv LH) (h : lv ≤ l2) : KnownH P w K mg base T G l2 LH := fun f ps e => by
  obtain ⟨fa, fd, l, hl, r⟩ := (k f ps e).ex
  exact ⟨fa, fd, l, Nat.le_trans hl h, r⟩
theorem Known.up {l2 : Nat} (k : Known P w K mg base T G lv L) (h : lv ≤ l2) : Known P w K mg base T G l2 L := fun f ps kw e => by
  obtain ⟨fa, fd, l, hl, r⟩ := (k f ps kw e).ex
  exact ⟨fa, fd, l, Nat.le_trans hl h, r⟩
theorem fn_step {f : Str} {st : Stmt} {fa : Addr} {fd : FuncData} {c : CC} {n : Nat} {ir : Iss} {ps : List Str} {kw : KwL} (k : Known P w K mg base T G lv L) (kh : KnownH P w K mg base T G lv LH) (g : Globs P w K mg base T G exs rss flds cts) (F : Fun K f f st fa fd) (hm : mg f = some (.ref fa)) (h2 : 2 ≤ lv)
    (hc : cSs c n (defBody st) = some ir) (hh : c.hot = false) (hx : c.exv = none) (hb : c.blk = none) (hsc : c.sc = defScope st) (hk : chk c L LH exs rss flds cts = true) (S : FnScope c.N ps (defScope st)) (pure : ∀ ds A E Q, ds.length = ps.length → G.con f ds A E Q → conOf G c.N ir ds A E Q) (bd : Binds K fd ps [])
    (bk : ∀ m ns pm, kw.lookup (m, ns) = some pm → ∀ (s : Shared) (us ws : List Value), K.In s.heap → us.length = m → ws.length = ns.length → BindsTo s fd ⟨us, ns.zip ws⟩ (ps.zip (permD pm (us ++ ws)))) :
    Known P w K mg base T G (lv + 1) ((f, ps, kw) :: L) := fun x qs kw' e => by
  rw [List.lookup_cons] at e
  split at e
  · rename_i ex
    cases e
    rw [eq_of_beq ex]
    exact ⟨fa, fd, lv + 1, Nat.le_refl _, fn_sound F (mk_callees k kh g hk) h2 hc hh hx hb hsc S pure, hm, F.kp, bd, bk⟩
  · obtain ⟨fa, fd, l, hl, r⟩ := (k x qs kw' e).ex
    exact ⟨fa, fd, l, Nat.le_succ_of_le hl, r⟩
theorem fnH_step {f : Str} {st : Stmt} {fa : Addr} {fd : FuncData} {c : CC} {n : Nat} {ir : Iss} {ps : List Str} (k : Known P w K mg base T G lv L) (kh : KnownH P w K mg base T G lv LH) (g : Globs P w K mg base T G exs rss flds cts) (F : Fun K f f st fa fd) (hm : mg f = some (.ref fa))
    (hc : cSs c n (defBody st) = some ir) (hh : c.hot = true) (hx : c.exv = none) (hb : c.blk = none) (hsc : c.sc = defScope st) (hk : chk c L LH exs rss flds cts = true) (S : FnScope c.N ps (defScope st)) (pure : ∀ ds A E Q, ds.length = ps.length → G.con f ds A E Q → conOf G c.N ir ds A E Q) (bd : Binds K fd ps []) :
    KnownH P w K mg base T G (lv + 1) ((f, ps) :: LH) := fun x qs e => by
  rw [List.lookup_cons] at e
  split at e
  · rename_i ex
    cases e
    rw [eq_of_beq ex]
    exact ⟨fa, fd, lv + 1, Nat.le_refl _, fn_soundH F (mk_callees k kh g hk) hc hh hx hb hsc S pure, hm, F.kp, bd⟩
  · obtain ⟨fa, fd, l, hl, r⟩ := (kh x qs e).ex
    exact ⟨fa, fd, l, Nat.le_succ_of_le hl, r⟩
theorem no_kw {fd : FuncData} {ps : List Str} : ∀ (m : Nat) (ns : List Str) (pm : List Nat), ([] : KwL).lookup (m, ns) = some pm → ∀ (s : Shared) (us ws : List Value), K.In s.heap → us.length = m → ws.length = ns.length → BindsTo s fd ⟨us, ns.zip ws⟩ (ps.zip (permD pm (us ++ ws))) := fun m ns pm h => by simp at h
end
end Px
end TextPx21

section TextPx22
set_option autoImplicit false
set_option maxRecDepth 100000
set_option maxHeartbeats 4000000
/-! Px22: the end of a law. -/
namespace Px
open PySem PySem.Spec PyProof.Rows L2
def spL (K : PySem.W.Frag) (con : Con) : Sp := fun vs H Q _ => vs.length = 1 ∧ ∃ μ A ds Q', HR K μ A H ∧ RelDs K μ H ds vs ∧ con ds A (fun _ _ => False) Q' ∧ ∀ v H', Up K μ H Q' v H' → Q v H'
theorem fn_ofL {P : Program} {w : World} {K : PySem.W.Frag} {mg : Str → Option Value} {base : Heap} {CX : CXT} {T : Tab} {l : Nat} {fa : Addr} {fd : FuncData} {ps : List Str} {con : Con} (F : FnOk P w K mg base CX l fa fd ps (spD K T con 1)) : FnOk P w K mg base CX l fa fd ps (spL K con) := by
  have k : ∀ vs H Q E, spL K con vs H Q E → spD K T con 1 vs H Q E := fun vs H Q E ⟨hl, μ, A, ds, Q', hr, rd, q, f⟩ => ⟨hl, μ, A, ds, _, Q', hr, rd, q, f, fun c dd H' u => u.no.elim⟩
  exact ⟨fun vs H Q E h => F.len vs H Q E (k _ _ _ _ h), fun A outer s H args us vs Q E hr e0 hb r h => F.run A outer s H args us vs Q E hr e0 hb r (k _ _ _ _ h)⟩
theorem law_spL {K : PySem.W.Frag} {con : Con} {H : Hp} {a : Addr} {ns : List Int} (hO : L2.Only H) (hS : SqL K H a (ns.map V.int)) (hcon : con [.rol (ns.map .int)] [] (fun _ _ => False) (fun d _ => d = .bl true)) : spL K con [.ref a] H (fun v _ => v = .bl true) fun _ _ _ => False := by
  have q := law_sp (T := fun _ => none) hO hS hcon
  refine ⟨rfl, [], [], [.rol (ns.map .int)], _, ⟨rfl, .nil, fun i o b e => by simp at e⟩, .cons ?_ .nil, hcon, fun v H' ⟨μ', d, A', s, r, h, q⟩ => ?_⟩
  · simp only [RelD]
    refine ⟨a, ns.map V.int, rfl, ?_, intsV_rel ns⟩
    rcases hS with (h | ⟨o, h⟩) | h
    · rcases hO a with z | ⟨o, xs, z⟩
      · rw [h] at z; cases z
      · rw [h] at z; cases z
    · exact .inl ⟨o, h⟩
    · exact .inr h
  · have q' : d = .bl true := q
    subst q'
    exact rel_bl r
theorem no_cx {P : Program} {w : World} {H : Hp} {s : Shared} {e : Value} {s' : Shared} (h : L2N.CX P w [] H s (fun _ _ _ => False) e s') : False := by
  obtain ⟨_, _, _, _, _, _, _, _, _, _, _, _, z⟩ := h
  exact z.elim
theorem walkP {l : PySem.W.OpenLaw} {n lv : Nat} {q : Program} {loose : List Str} {XP : (Str → Option Value) → Heap → Prop} {YP : World → Heap → Prop} {d : DefRec} {K : Params → PySem.W.Frag} {con : Con} {x : Str} (hn : l.most = some n) (hn2 : n ≤ sizeLine) (hdf : d.params.defaults = []) (hr : Room lv callerA)
    (hY : ∀ (w : World) (h : Heap), YP w h → (K w.params).In h) (hcon : ∀ ns : List Int, ns.length ≤ n → con [.rol (ns.map .int)] [] (fun _ _ => False) (fun d _ => d = .bl true))
    (F : ∀ (w : World) (mg : Str → Option Value) (fa : Addr) (h : Heap), (K w.params).In h → h.Ns mainGlobals mg → mg d.name = some (.ref fa) →
      ∃ (T : Tab) (fd : FuncData), (∀ (s : Shared) (u : Value), BindsTo s fd ⟨[u], []⟩ [(x, u)]) ∧ ∀ base : Heap, (K w.params).In base → base.Ns mainGlobals mg → FnOk l.prog w (K w.params) mg base (L2N.CX l.prog w) lv fa fd [x] (spD (K w.params) T con 1)) :
    PySem.W.WalkO q loose XP YP l.row.toRowW d [] (fun f vs => PySem.call f vs) :=
  L2.walk_of (n := n) (k := lv) (x := x) (CX := fun w => L2N.CX l.prog w) (sp := fun w => spL (K w.params) con) hn hn2 hdf hr hY
    (fun w mg fa h KX G hm => let ⟨T, fd, hb, hF⟩ := F w mg fa h KX G hm; ⟨fd, hb, fun base h1 h2 => fn_ofL (hF base h1 h2)⟩)
    (fun w H a ns hl hO hS => law_spL hO hS (hcon ns hl)) fun w H s e s' z => no_cx z
end Px
end TextPx22

section TextK16a
set_option autoImplicit false
set_option maxRecDepth 100000
set_option maxHeartbeats 8000000
namespace K16
open PySem PySem.Spec PyProof.Rows L2 Px
def top (i : Nat) : Stmt := PySem.Challenge.pw_everyohm_k16_values_and_their_texts.main.body.getD i (.Pass ⟨0, 0, 0, 0⟩)
abbrev st_is_integer : Stmt := top 11
def cc_is_integer : CC := { N := ["thing"], sc := defScope st_is_integer, blk := none, cts := [], fns := [], exs := [], hot := false, exv := none, rss := [], hfns := [], hds := [], flds := [], kwp := [] }
abbrev st_is_value : Stmt := top 12
def cc_is_value : CC := { N := ["thing"], sc := defScope st_is_value, blk := none, cts := [], fns := [("is_integer", 1)], exs := [], hot := false, exv := none, rss := [], hfns := [], hds := [], flds := [], kwp := [] }
abbrev st_joined : Stmt := top 14
def cc_joined : CC := { N := ["one", "other"], sc := defScope st_joined, blk := none, cts := [], fns := [("is_value", 1), ("_joined_pair", 2)], exs := [], hot := false, exv := none, rss := [("NotUsable", 2)], hfns := [], hds := [], flds := [], kwp := [] }
abbrev st_is_above : Stmt := top 15
def cc_is_above : CC := { N := ["one", "other"], sc := defScope st_is_above, blk := none, cts := [], fns := [("is_value", 1)], exs := [], hot := false, exv := none, rss := [("NotUsable", 2)], hfns := [], hds := [], flds := [], kwp := [] }
abbrev st_flipped : Stmt := top 16
def cc_flipped : CC := { N := ["value"], sc := defScope st_flipped, blk := none, cts := [], fns := [("is_value", 1)], exs := [], hot := false, exv := none, rss := [("NotUsable", 2)], hfns := [], hds := [], flds := [], kwp := [] }
abbrev st_joined_all : Stmt := top 17
def cc_joined_all : CC := { N := ["ones", "others", "one", "other"], sc := defScope st_joined_all, blk := none, cts := [], fns := [("are_all_values", 1), ("_joined_pair", 2)], exs := [], hot := false, exv := none, rss := [("NotUsable", 2)], hfns := [], hds := [], flds := [], kwp := [] }
abbrev st_is_above_all : Stmt := top 18
def cc_is_above_all : CC := { N := ["ones", "others", "one", "other"], sc := defScope st_is_above_all, blk := none, cts := [], fns := [("are_all_values", 1)], exs := [], hot := false, exv := none, rss := [("NotUsable", 2)], hfns := [], hds := [], flds := [], kwp := [] }
abbrev st_are_all_values : Stmt := top 19
def cc_are_all_values : CC := { N := ["thing", "part"], sc := defScope st_are_all_values, blk := none, cts := [], fns := [("is_value", 1)], exs := [], hot := false, exv := none, rss := [], hfns := [], hds := [], flds := [], kwp := [] }
abbrev st__joined_pair : Stmt := top 20
def cc__joined_pair : CC := { N := ["one", "other"], sc := defScope st__joined_pair, blk := none, cts := [], fns := [], exs := [], hot := false, exv := none, rss := [], hfns := [], hds := [], flds := [], kwp := [] }
abbrev st_values_text : Stmt := top 23
def cc_values_text : CC := { N := ["values", "value"], sc := defScope st_values_text, blk := none, cts := ["VALUE_MARKS"], fns := [("are_all_values", 1)], exs := [], hot := false, exv := none, rss := [("NotUsable", 2)], hfns := [], hds := [], flds := [], kwp := [] }
abbrev st_read_values : Stmt := top 24
def cc_read_values : CC := { N := ["text", "values", "place", "mark"], sc := defScope st_read_values, blk := none, cts := ["VALUE_MARKS"], fns := [], exs := [], hot := false, exv := none, rss := [("NotUsable", 2), ("InvalidText", 2)], hfns := [], hds := [], flds := [], kwp := [] }
abbrev st__law_tape : Stmt := top 26
def cc__law_tape : CC := { N := ["_law_script", "_law_state", "_law_tape_here", "_law_cell", "_law_number"], sc := defScope st__law_tape, blk := none, cts := [], fns := [], exs := [], hot := false, exv := none, rss := [], hfns := [], hds := [], flds := [], kwp := [] }
abbrev st__law_pick : Stmt := top 27
def cc__law_pick : CC := { N := ["_law_tape_here", "_law_many", "_law_at", "_law_number", "_law_state"], sc := defScope st__law_pick, blk := none, cts := [], fns := [], exs := [], hot := false, exv := none, rss := [], hfns := [], hds := [], flds := [], kwp := [] }
abbrev st__law_row : Stmt := top 28
def cc__law_row : CC := { N := ["_law_tape_here", "_law_length", "_law_row_here", "_law_step"], sc := defScope st__law_row, blk := none, cts := [], fns := [("_law_pick", 2)], exs := [], hot := false, exv := none, rss := [], hfns := [], hds := [], flds := [], kwp := [] }
abbrev st__law_beside : Stmt := top 29
def cc__law_beside : CC := { N := ["_law_tape_here", "_law_row_here", "_law_kind", "_law_out", "_law_at"], sc := defScope st__law_beside, blk := none, cts := [], fns := [("_law_pick", 2)], exs := [], hot := false, exv := none, rss := [], hfns := [], hds := [], flds := [], kwp := [] }
abbrev st__law_is_number : Stmt := top 30
def cc__law_is_number : CC := { N := ["_law_thing", "_law_due"], sc := defScope st__law_is_number, blk := none, cts := [], fns := [], exs := [], hot := false, exv := none, rss := [], hfns := [], hds := [], flds := [], kwp := [] }
def ch__law_is_number : CC := { N := ["_law_thing", "_law_due"], sc := defScope st__law_is_number, blk := none, cts := [], fns := [], exs := [], hot := true, exv := none }
abbrev st__law_is_row : Stmt := top 31
def cc__law_is_row : CC := { N := ["_law_thing", "_law_due", "_law_at"], sc := defScope st__law_is_row, blk := none, cts := [], fns := [("_law_is_number", 2)], exs := [], hot := false, exv := none, rss := [], hfns := [], hds := [], flds := [], kwp := [] }
abbrev st__law_is_truth : Stmt := top 32
def cc__law_is_truth : CC := { N := ["_law_thing", "_law_due"], sc := defScope st__law_is_truth, blk := none, cts := [], fns := [], exs := [], hot := false, exv := none, rss := [], hfns := [], hds := [], flds := [], kwp := [] }
abbrev st__law_joins : Stmt := top 33
def cc__law_joins : CC := { N := [], sc := defScope st__law_joins, blk := none, cts := [], fns := [], exs := [], hot := false, exv := none, rss := [], hfns := [], hds := [], flds := [], kwp := [] }
abbrev st__law_above : Stmt := top 34
def cc__law_above : CC := { N := ["_law_first", "_law_second"], sc := defScope st__law_above, blk := none, cts := [], fns := [], exs := [], hot := false, exv := none, rss := [], hfns := [], hds := [], flds := [], kwp := [] }
abbrev st__law_pairs : Stmt := top 35
def cc__law_pairs : CC := { N := ["_law_table", "_law_first", "_law_due", "_law_second", "_law_told"], sc := defScope st__law_pairs, blk := none, cts := [], fns := [("_law_joins", 0), ("_law_is_number", 2), ("flipped", 1), ("joined", 2), ("_law_is_truth", 2), ("is_above", 2), ("_law_above", 2)], exs := [], hot := false, exv := none, rss := [], hfns := [], hds := [], flds := [], kwp := [(("flipped", 0, ["value"]), [0]), (("joined", 0, ["other", "one"]), [1, 0]), (("is_above", 0, ["other", "one"]), [1, 0])] }
abbrev st__law_all_above : Stmt := top 36
def cc__law_all_above : CC := { N := ["_law_first", "_law_second", "_law_at"], sc := defScope st__law_all_above, blk := none, cts := [], fns := [("_law_above", 2)], exs := [], hot := false, exv := none, rss := [], hfns := [], hds := [], flds := [], kwp := [] }
abbrev st__law_rows : Stmt := top 37
def cc__law_rows : CC := { N := ["_law_first", "_law_second", "_law_table", "_law_due", "_law_at", "_law_mine", "_law_yours"], sc := defScope st__law_rows, blk := none, cts := [], fns := [("_law_joins", 0), ("_law_is_row", 2), ("joined_all", 2), ("_law_is_truth", 2), ("is_above_all", 2), ("_law_all_above", 2)], exs := [], hot := false, exv := none, rss := [], hfns := [], hds := [], flds := [], kwp := [(("joined_all", 0, ["others", "ones"]), [1, 0]), (("is_above_all", 0, ["others", "ones"]), [1, 0])] }
abbrev st__law_text : Stmt := top 38
def cc__law_text : CC := { N := ["_law_row_here", "_law_parts", "_law_part"], sc := defScope st__law_text, blk := none, cts := [], fns := [], exs := [], hot := false, exv := none, rss := [], hfns := [], hds := [], flds := [], kwp := [] }
abbrev st__law_texts : Stmt := top 39
def cc__law_texts : CC := { N := ["_law_row_here", "_law_due", "_law_told"], sc := defScope st__law_texts, blk := none, cts := [], fns := [("_law_text", 1), ("values_text", 1), ("_law_is_row", 2), ("read_values", 1)], exs := [], hot := false, exv := none, rss := [], hfns := [], hds := [], flds := [], kwp := [(("values_text", 0, ["values"]), [0]), (("read_values", 0, ["text"]), [0])] }
abbrev st__law_characters : Stmt := top 40
def cc__law_characters : CC := { N := ["_law_letters"], sc := defScope st__law_characters, blk := none, cts := [], fns := [], exs := [], hot := false, exv := none, rss := [], hfns := [], hds := [], flds := [], kwp := [] }
abbrev st__law_spoilt : Stmt := top 41
def cc__law_spoilt : CC := { N := ["_law_tape_here", "_law_row_here", "_law_text_here", "_law_chars", "_law_step", "_law_at", "_law_char"], sc := defScope st__law_spoilt, blk := none, cts := [], fns := [("_law_text", 1), ("_law_characters", 0), ("_law_pick", 2)], exs := [], hot := false, exv := none, rss := [], hfns := [], hds := [], flds := [], kwp := [] }
abbrev st__law_reads : Stmt := top 42
def cc__law_reads : CC := { N := ["_law_text_here", "_law_row_here", "_law_at"], sc := defScope st__law_reads, blk := none, cts := [], fns := [("_law_is_row", 2), ("read_values", 1), ("_law_unread", 2)], exs := [], hot := false, exv := none, rss := [], hfns := [], hds := [], flds := [], kwp := [] }
abbrev st__law_unread : Stmt := top 43
def cc__law_unread : CC := { N := ["_law_text_here", "_law_place", "e"], sc := defScope st__law_unread, blk := none, cts := [], fns := [("read_values", 1)], exs := ["InvalidText", "TextError", "OhmError", "ValueError", "UseError", "NetError", "LiveError", "Unended"], hot := false, exv := none, rss := [], hfns := [("_law_is_number", 2)], hds := [], flds := ["line", "word"], kwp := [] }
abbrev st__law_do : Stmt := top 44
def cc__law_do : CC := { N := ["_law_word", "_law_args"], sc := defScope st__law_do, blk := none, cts := [], fns := [("joined", 2), ("is_above", 2), ("joined_all", 2), ("is_above_all", 2), ("flipped", 1), ("values_text", 1), ("read_values", 1)], exs := [], hot := false, exv := none, rss := [], hfns := [], hds := [], flds := [], kwp := [] }
abbrev st__law_refused : Stmt := top 45
def cc__law_refused : CC := { N := ["_law_word", "_law_args", "_law_name", "e"], sc := defScope st__law_refused, blk := none, cts := [], fns := [("_law_do", 2)], exs := ["NotUsable", "UseError", "OhmError", "ValueError", "TooMany", "NetError", "TextError", "LiveError"], hot := false, exv := none, rss := [], hfns := [("_law_is_number", 2)], hds := [], flds := ["word", "at"], kwp := [] }
abbrev st__law_no_value : Stmt := top 46
def cc__law_no_value : CC := { N := ["_law_tape_here", "_law_menu"], sc := defScope st__law_no_value, blk := none, cts := [], fns := [("_law_pick", 2)], exs := [], hot := false, exv := none, rss := [], hfns := [], hds := [], flds := [], kwp := [] }
abbrev st__law_no_row : Stmt := top 47
def cc__law_no_row : CC := { N := ["_law_tape_here", "_law_row_here", "_law_at", "_law_bad", "_law_menu"], sc := defScope st__law_no_row, blk := none, cts := [], fns := [("_law_pick", 2), ("_law_no_value", 1), ("_law_text", 1)], exs := [], hot := false, exv := none, rss := [], hfns := [], hds := [], flds := [], kwp := [] }
abbrev st__law_refusals : Stmt := top 48
def cc__law_refusals : CC := { N := ["_law_tape_here", "_law_first", "_law_second", "_law_mine", "_law_yours", "_law_word", "_law_good", "_law_bad", "_law_odd"], sc := defScope st__law_refusals, blk := none, cts := [], fns := [("_law_pick", 2), ("_law_no_value", 1), ("_law_refused", 3), ("_law_no_row", 2)], exs := [], hot := false, exv := none, rss := [], hfns := [], hds := [], flds := [], kwp := [] }
abbrev st_law : Stmt := top 49
def cc_law : CC := { N := ["_law_script", "_law_tape_here", "_law_first", "_law_second", "_law_odd", "_law_row_here"], sc := defScope st_law, blk := none, cts := [], fns := [("_law_tape", 1), ("_law_row", 1), ("_law_beside", 2), ("_law_pairs", 0), ("_law_rows", 2), ("_law_texts", 1), ("_law_reads", 1), ("_law_pick", 2), ("_law_spoilt", 2), ("_law_refusals", 3)], exs := [], hot := false, exv := none, rss := [], hfns := [], hds := [], flds := [], kwp := [] }
def ir_is_integer : Iss := (.cons (.ret (.andv (.isi (.var 0) .int) (.notv (.isi (.var 0) .bool)))) .nil)
theorem cs_is_integer : cSs cc_is_integer 200 (defBody st_is_integer) = some ir_is_integer := by kernel_rfl
def ir_is_value : Iss := (.cons (.ret (.andv (.call "is_integer" (.cons (.var 0) .nil)) (.chain .LtE .LtE (.cst (.int 0)) (.var 0) (.cst (.int 2))))) .nil)
theorem cs_is_value : cSs cc_is_value 200 (defBody st_is_value) = some ir_is_value := by kernel_rfl
def ir_joined : Iss := (.cons (.ife (.notv (.call "is_value" (.cons (.var 0) .nil))) (.cons (.rse "NotUsable" (.cons (.cst (.str "one")) (.cons (.neg (.cst (.int 1))) .nil))) .nil) .nil) (.cons (.ife (.notv (.call "is_value" (.cons (.var 1) .nil))) (.cons (.rse "NotUsable" (.cons (.cst (.str "other")) (.cons (.neg (.cst (.int 1))) .nil))) .nil) .nil) (.cons (.ret (.call "_joined_pair" (.cons (.var 0) (.cons (.var 1) .nil)))) .nil)))
theorem cs_joined : cSs cc_joined 200 (defBody st_joined) = some ir_joined := by kernel_rfl
def ir_is_above : Iss := (.cons (.ife (.notv (.call "is_value" (.cons (.var 0) .nil))) (.cons (.rse "NotUsable" (.cons (.cst (.str "one")) (.cons (.neg (.cst (.int 1))) .nil))) .nil) .nil) (.cons (.ife (.notv (.call "is_value" (.cons (.var 1) .nil))) (.cons (.rse "NotUsable" (.cons (.cst (.str "other")) (.cons (.neg (.cst (.int 1))) .nil))) .nil) .nil) (.cons (.ret (.orv (.cmp .Eq (.var 0) (.var 1)) (.cmp .Eq (.var 0) (.cst (.int 2))))) .nil)))
theorem cs_is_above : cSs cc_is_above 200 (defBody st_is_above) = some ir_is_above := by kernel_rfl
def ir_flipped : Iss := (.cons (.ife (.notv (.call "is_value" (.cons (.var 0) .nil))) (.cons (.rse "NotUsable" (.cons (.cst (.str "value")) (.cons (.neg (.cst (.int 1))) .nil))) .nil) .nil) (.cons (.ret (.ite (.cmp .Eq (.var 0) (.cst (.int 2))) (.var 0) (.bin .Sub (.cst (.int 1)) (.var 0)))) .nil))
theorem cs_flipped : cSs cc_flipped 200 (defBody st_flipped) = some ir_flipped := by kernel_rfl
def ir_joined_all : Iss := (.cons (.ife (.notv (.call "are_all_values" (.cons (.var 0) .nil))) (.cons (.rse "NotUsable" (.cons (.cst (.str "ones")) (.cons (.neg (.cst (.int 1))) .nil))) .nil) .nil) (.cons (.ife (.orv (.notv (.call "are_all_values" (.cons (.var 1) .nil))) (.cmp .NotEq (.bi .len (.cons (.var 1) .nil)) (.bi .len (.cons (.var 0) .nil)))) (.cons (.rse "NotUsable" (.cons (.cst (.str "others")) (.cons (.neg (.cst (.int 1))) .nil))) .nil) .nil) (.cons (.ret (.bi .tuple (.cons (.lc (.tup (.cons (.name 2) (.cons (.name 3) .nil))) (.zip (.var 0) (.var 1)) .no (.call "_joined_pair" (.cons (.var 2) (.cons (.var 3) .nil))) [2, 3]) .nil))) .nil)))
theorem cs_joined_all : cSs cc_joined_all 200 (defBody st_joined_all) = some ir_joined_all := by kernel_rfl
def ir_is_above_all : Iss := (.cons (.ife (.notv (.call "are_all_values" (.cons (.var 0) .nil))) (.cons (.rse "NotUsable" (.cons (.cst (.str "ones")) (.cons (.neg (.cst (.int 1))) .nil))) .nil) .nil) (.cons (.ife (.orv (.notv (.call "are_all_values" (.cons (.var 1) .nil))) (.cmp .NotEq (.bi .len (.cons (.var 1) .nil)) (.bi .len (.cons (.var 0) .nil)))) (.cons (.rse "NotUsable" (.cons (.cst (.str "others")) (.cons (.neg (.cst (.int 1))) .nil))) .nil) .nil) (.cons (.fr (.tup (.cons (.name 2) (.cons (.name 3) .nil))) (.zip (.var 0) (.var 1)) (.cons (.ife (.andv (.cmp .NotEq (.var 2) (.var 3)) (.cmp .NotEq (.var 2) (.cst (.int 2)))) (.cons (.ret (.cst (.bl false))) .nil) .nil) .nil)) (.cons (.ret (.cst (.bl true))) .nil))))
theorem cs_is_above_all : cSs cc_is_above_all 200 (defBody st_is_above_all) = some ir_is_above_all := by kernel_rfl
def ir_are_all_values : Iss := (.cons (.ife (.notv (.isi (.var 0) .tuple)) (.cons (.ret (.cst (.bl false))) .nil) .nil) (.cons (.fr (.name 1) (.seq (.var 0)) (.cons (.ife (.notv (.call "is_value" (.cons (.var 1) .nil))) (.cons (.ret (.cst (.bl false))) .nil) .nil) .nil)) (.cons (.ret (.cst (.bl true))) .nil)))
theorem cs_are_all_values : cSs cc_are_all_values 200 (defBody st_are_all_values) = some ir_are_all_values := by kernel_rfl
def ir__joined_pair : Iss := (.cons (.ret (.ite (.cmp .Eq (.var 0) (.var 1)) (.var 0) (.cst (.int 2)))) .nil)
theorem cs__joined_pair : cSs cc__joined_pair 200 (defBody st__joined_pair) = some ir__joined_pair := by kernel_rfl
def ir_values_text : Iss := (.cons (.ife (.notv (.call "are_all_values" (.cons (.var 0) .nil))) (.cons (.rse "NotUsable" (.cons (.cst (.str "values")) (.cons (.neg (.cst (.int 1))) .nil))) .nil) .nil) (.cons (.ife (.cmp .Eq (.var 0) (.tup .nil)) (.cons (.ret (.cst (.str "-"))) .nil) .nil) (.cons (.ret (.mt .join (.cst (.str "")) (.cons (.lc (.name 1) (.seq (.var 0)) .no (.ix (.glob "VALUE_MARKS") (.var 1)) [1]) .nil))) .nil)))
theorem cs_values_text : cSs cc_values_text 200 (defBody st_values_text) = some ir_values_text := by kernel_rfl
def ir_read_values : Iss := (.cons (.ife (.notv (.isi (.var 0) .str)) (.cons (.rse "NotUsable" (.cons (.cst (.str "text")) (.cons (.neg (.cst (.int 1))) .nil))) .nil) .nil) (.cons (.ife (.cmp .Eq (.var 0) (.cst (.str ""))) (.cons (.rse "InvalidText" (.cons (.cst (.int 0)) (.cons (.cst (.int 0)) .nil))) .nil) .nil) (.cons (.ife (.cmp .Eq (.var 0) (.cst (.str "-"))) (.cons (.ret (.tup .nil)) .nil) .nil) (.cons (.set 1 (.lst .nil)) (.cons (.fr (.tup (.cons (.name 2) (.cons (.name 3) .nil))) (.enum (.var 0)) (.cons (.ife (.cmp .NotIn (.var 3) (.glob "VALUE_MARKS")) (.cons (.rse "InvalidText" (.cons (.cst (.int 0)) (.cons (.var 2) .nil))) .nil) .nil) (.cons (.ex (.mt .append (.var 1) (.cons (.mt .find (.glob "VALUE_MARKS") (.cons (.var 3) .nil)) .nil))) .nil))) (.cons (.ret (.bi .tuple (.cons (.var 1) .nil))) .nil))))))
theorem cs_read_values : cSs cc_read_values 200 (defBody st_read_values) = some ir_read_values := by kernel_rfl
def ir__law_tape : Iss := (.cons (.set 1 (.cst (.int 1616023))) (.cons (.set 2 (.lst .nil)) (.cons (.fr (.name 3) (.seq (.var 0)) (.cons (.set 4 (.bi .int (.cons (.var 3) .nil))) (.cons (.ife (.cmp .Lt (.var 4) (.cst (.int 0))) (.cons (.set 4 (.bin .Sub (.cst (.int 5)) (.bin .Mult (.cst (.int 2)) (.var 4)))) .nil) .nil) (.cons (.set 1 (.bin .Mod (.bi .int (.cons (.bin .Add (.bin .Add (.bin .Mult (.var 1) (.cst (.int 69697))) (.bin .Mod (.var 4) (.cst (.int 2305843009213693951)))) (.cst (.int 16))) .nil)) (.cst (.int 2305843009213693951)))) (.cons (.ife (.cmp .GtE (.var 4) (.bin .Pow (.cst (.int 10)) (.cst (.int 18)))) (.cons (.ex (.mt .append (.var 2) (.cons (.var 4) .nil))) .nil) .nil) .nil))))) (.cons (.ex (.mt .append (.var 2) (.cons (.var 1) .nil))) (.cons (.ex (.mt .reverse (.var 2) .nil)) (.cons (.ret (.var 2)) .nil))))))
theorem cs__law_tape : cSs cc__law_tape 200 (defBody st__law_tape) = some ir__law_tape := by kernel_rfl
def ir__law_pick : Iss := (.cons (.whl (.andv (.cmp .Gt (.bi .len (.cons (.var 0) .nil)) (.cst (.int 1))) (.cmp .Lt (.ix (.var 0) (.bin .Sub (.bi .len (.cons (.var 0) .nil)) (.cst (.int 1)))) (.cst (.int 2)))) (.cons (.ex (.mt .pop (.var 0) .nil)) .nil)) (.cons (.set 2 (.bin .Sub (.bi .len (.cons (.var 0) .nil)) (.cst (.int 1)))) (.cons (.ife (.cmp .Gt (.var 2) (.cst (.int 0))) (.cons (.set 3 (.bi .int (.cons (.ix (.var 0) (.var 2)) .nil))) (.cons (.asgS (.var 0) (.var 2) (.bin .FloorDiv (.var 3) (.var 1))) (.cons (.ret (.bin .Mod (.var 3) (.var 1))) .nil))) .nil) (.cons (.set 4 (.bin .Mod (.bi .int (.cons (.bin .Add (.bin .Mult (.ix (.var 0) (.cst (.int 0))) (.cst (.int 1099087573291919377))) (.cst (.int 161616161617))) .nil)) (.cst (.int 2305843009213693951)))) (.cons (.asgS (.var 0) (.cst (.int 0)) (.var 4)) (.cons (.ret (.bin .Mod (.bi .int (.cons (.bin .FloorDiv (.var 4) (.cst (.int 16067))) .nil)) (.var 1))) .nil))))))
theorem cs__law_pick : cSs cc__law_pick 200 (defBody st__law_pick) = some ir__law_pick := by kernel_rfl
def ir__law_row : Iss := (.cons (.set 1 (.ix (.lst (.cons (.cst (.int 0)) (.cons (.cst (.int 1)) (.cons (.cst (.int 2)) (.cons (.cst (.int 3)) (.cons (.cst (.int 5)) (.cons (.cst (.int 8)) (.cons (.cst (.int 12)) (.cons (.cst (.int 60)) .nil))))))))) (.call "_law_pick" (.cons (.var 0) (.cons (.cst (.int 8)) .nil))))) (.cons (.set 2 (.lst .nil)) (.cons (.fr (.name 3) (.rng1 (.bi .min (.cons (.var 1) (.cons (.cst (.int 12)) .nil)))) (.cons (.ex (.mt .append (.var 2) (.cons (.call "_law_pick" (.cons (.var 0) (.cons (.cst (.int 3)) .nil))) .nil))) .nil)) (.cons (.whl (.cmp .Lt (.bi .len (.cons (.var 2) .nil)) (.var 1)) (.cons (.set 2 (.bin .Add (.var 2) (.sl (.var 2) (.so (.cst (.int 1))) .no))) .nil)) (.cons (.ife (.andv (.cmp .Eq (.var 1) (.cst (.int 60))) (.cmp .Eq (.call "_law_pick" (.cons (.var 0) (.cons (.cst (.int 6)) .nil))) (.cst (.int 0)))) (.cons (.set 2 (.bin .Mult (.var 2) (.cst (.int 4)))) .nil) .nil) (.cons (.ret (.var 2)) .nil))))))
theorem cs__law_row : cSs cc__law_row 200 (defBody st__law_row) = some ir__law_row := by kernel_rfl
def ir__law_beside : Iss := (.cons (.set 2 (.call "_law_pick" (.cons (.var 0) (.cons (.cst (.int 5)) .nil)))) (.cons (.set 3 (.bi .list (.cons (.var 1) .nil))) (.cons (.fr (.name 4) (.rng1 (.bi .len (.cons (.var 1) .nil))) (.cons (.ife (.andv (.cmp .Eq (.var 2) (.cst (.int 1))) (.cmp .NotEq (.bin .Mod (.var 4) (.cst (.int 3))) (.cst (.int 1)))) (.cons (.asgS (.var 3) (.var 4) (.cst (.int 2))) .nil) .nil) (.cons (.ife (.andv (.cmp .Eq (.var 2) (.cst (.int 2))) (.cmp .Eq (.ix (.var 1) (.var 4)) (.cst (.int 2)))) (.cons (.asgS (.var 3) (.var 4) (.bin .Mod (.var 4) (.cst (.int 2)))) .nil) .nil) (.cons (.ife (.andv (.cmp .Eq (.var 2) (.cst (.int 3))) (.cmp .Lt (.var 4) (.cst (.int 24)))) (.cons (.asgS (.var 3) (.var 4) (.call "_law_pick" (.cons (.var 0) (.cons (.cst (.int 3)) .nil)))) .nil) .nil) .nil)))) (.cons (.ife (.andv (.cmp .Eq (.var 2) (.cst (.int 4))) (.cmp .Gt (.bi .len (.cons (.var 1) .nil)) (.cst (.int 0)))) (.cons (.set 4 (.call "_law_pick" (.cons (.var 0) (.cons (.bi .len (.cons (.var 1) .nil)) .nil)))) (.cons (.asgS (.var 3) (.var 4) (.bin .Mod (.bin .Add (.bin .Add (.ix (.var 3) (.var 4)) (.cst (.int 1))) (.call "_law_pick" (.cons (.var 0) (.cons (.cst (.int 2)) .nil)))) (.cst (.int 3)))) .nil)) .nil) (.cons (.ret (.var 3)) .nil)))))
theorem cs__law_beside : cSs cc__law_beside 200 (defBody st__law_beside) = some ir__law_beside := by kernel_rfl
def ir__law_is_number : Iss := (.cons (.ret (.andv (.isi (.var 0) .int) (.andv (.notv (.isi (.var 0) .bool)) (.cmp .Eq (.var 0) (.var 1))))) .nil)
theorem cs__law_is_number : cSs cc__law_is_number 200 (defBody st__law_is_number) = some ir__law_is_number := by kernel_rfl
theorem csh__law_is_number : cSs ch__law_is_number 200 (defBody st__law_is_number) = some ir__law_is_number := by kernel_rfl
def ir__law_is_row : Iss := (.cons (.ife (.orv (.notv (.isi (.var 0) .tuple)) (.cmp .NotEq (.bi .len (.cons (.var 0) .nil)) (.bi .len (.cons (.var 1) .nil)))) (.cons (.ret (.cst (.bl false))) .nil) .nil) (.cons (.fr (.name 2) (.rng1 (.bi .len (.cons (.var 1) .nil))) (.cons (.ife (.notv (.call "_law_is_number" (.cons (.ix (.var 0) (.var 2)) (.cons (.ix (.var 1) (.var 2)) .nil)))) (.cons (.ret (.cst (.bl false))) .nil) .nil) .nil)) (.cons (.ret (.cst (.bl true))) .nil)))
theorem cs__law_is_row : cSs cc__law_is_row 200 (defBody st__law_is_row) = some ir__law_is_row := by kernel_rfl
def ir__law_is_truth : Iss := (.cons (.ret (.andv (.isi (.var 0) .bool) (.cmp .Eq (.var 0) (.var 1)))) .nil)
theorem cs__law_is_truth : cSs cc__law_is_truth 200 (defBody st__law_is_truth) = some ir__law_is_truth := by kernel_rfl
def ir__law_joins : Iss := (.cons (.ret (.lst (.cons (.lst (.cons (.cst (.int 0)) (.cons (.cst (.int 2)) (.cons (.cst (.int 2)) .nil)))) (.cons (.lst (.cons (.cst (.int 2)) (.cons (.cst (.int 1)) (.cons (.cst (.int 2)) .nil)))) (.cons (.lst (.cons (.cst (.int 2)) (.cons (.cst (.int 2)) (.cons (.cst (.int 2)) .nil)))) .nil))))) .nil)
theorem cs__law_joins : cSs cc__law_joins 200 (defBody st__law_joins) = some ir__law_joins := by kernel_rfl
def ir__law_above : Iss := (.cons (.ret (.ix (.ix (.lst (.cons (.lst (.cons (.cst (.bl true)) (.cons (.cst (.bl false)) (.cons (.cst (.bl false)) .nil)))) (.cons (.lst (.cons (.cst (.bl false)) (.cons (.cst (.bl true)) (.cons (.cst (.bl false)) .nil)))) (.cons (.lst (.cons (.cst (.bl true)) (.cons (.cst (.bl true)) (.cons (.cst (.bl true)) .nil)))) .nil)))) (.var 0)) (.var 1))) .nil)
theorem cs__law_above : cSs cc__law_above 200 (defBody st__law_above) = some ir__law_above := by kernel_rfl
def ir__law_pairs : Iss := (.cons (.set 0 (.call "_law_joins" .nil)) (.cons (.fr (.name 1) (.seq (.lst (.cons (.cst (.int 0)) (.cons (.cst (.int 1)) (.cons (.cst (.int 2)) .nil))))) (.cons (.set 2 (.ix (.lst (.cons (.cst (.int 1)) (.cons (.cst (.int 0)) (.cons (.cst (.int 2)) .nil)))) (.var 1))) (.cons (.ife (.orv (.notv (.call "_law_is_number" (.cons (.call "flipped" (.cons (.var 1) .nil)) (.cons (.var 2) .nil)))) (.notv (.call "_law_is_number" (.cons (.callk "flipped" [0] .nil (.cons (.var 1) .nil)) (.cons (.var 2) .nil))))) (.cons (.ret (.cst (.bl false))) .nil) .nil) (.cons (.fr (.name 3) (.seq (.lst (.cons (.cst (.int 0)) (.cons (.cst (.int 1)) (.cons (.cst (.int 2)) .nil))))) (.cons (.set 2 (.ix (.ix (.var 0) (.var 1)) (.var 3))) (.cons (.set 4 (.callk "joined" [1, 0] .nil (.cons (.var 1) (.cons (.var 3) .nil)))) (.cons (.ife (.orv (.notv (.call "_law_is_number" (.cons (.call "joined" (.cons (.var 1) (.cons (.var 3) .nil))) (.cons (.var 2) .nil)))) (.notv (.call "_law_is_number" (.cons (.var 4) (.cons (.var 2) .nil))))) (.cons (.ret (.cst (.bl false))) .nil) .nil) (.cons (.ife (.notv (.call "_law_is_truth" (.cons (.call "is_above" (.cons (.var 1) (.cons (.var 3) .nil))) (.cons (.call "_law_above" (.cons (.var 1) (.cons (.var 3) .nil))) .nil)))) (.cons (.ret (.cst (.bl false))) .nil) .nil) (.cons (.ife (.notv (.call "_law_is_truth" (.cons (.callk "is_above" [1, 0] .nil (.cons (.var 1) (.cons (.var 3) .nil))) (.cons (.call "_law_above" (.cons (.var 3) (.cons (.var 1) .nil))) .nil)))) (.cons (.ret (.cst (.bl false))) .nil) .nil) .nil)))))) .nil)))) (.cons (.ret (.cst (.bl true))) .nil)))
theorem cs__law_pairs : cSs cc__law_pairs 200 (defBody st__law_pairs) = some ir__law_pairs := by kernel_rfl
def ir__law_all_above : Iss := (.cons (.fr (.name 2) (.rng1 (.bi .len (.cons (.var 0) .nil))) (.cons (.ife (.notv (.call "_law_above" (.cons (.ix (.var 0) (.var 2)) (.cons (.ix (.var 1) (.var 2)) .nil)))) (.cons (.ret (.cst (.bl false))) .nil) .nil) .nil)) (.cons (.ret (.cst (.bl true))) .nil))
theorem cs__law_all_above : cSs cc__law_all_above 200 (defBody st__law_all_above) = some ir__law_all_above := by kernel_rfl
def ir__law_rows : Iss := (.cons (.set 2 (.call "_law_joins" .nil)) (.cons (.set 3 (.lc (.name 4) (.rng1 (.bi .len (.cons (.var 0) .nil))) .no (.ix (.ix (.var 2) (.ix (.var 0) (.var 4))) (.ix (.var 1) (.var 4))) [4])) (.cons (.set 5 (.bi .tuple (.cons (.var 0) .nil))) (.cons (.set 6 (.bi .tuple (.cons (.var 1) .nil))) (.cons (.ife (.orv (.notv (.call "_law_is_row" (.cons (.call "joined_all" (.cons (.var 5) (.cons (.var 6) .nil))) (.cons (.var 3) .nil)))) (.notv (.call "_law_is_row" (.cons (.callk "joined_all" [1, 0] .nil (.cons (.var 5) (.cons (.var 6) .nil))) (.cons (.var 3) .nil))))) (.cons (.ret (.cst (.bl false))) .nil) .nil) (.cons (.ife (.notv (.call "_law_is_truth" (.cons (.call "is_above_all" (.cons (.var 5) (.cons (.var 6) .nil))) (.cons (.call "_law_all_above" (.cons (.var 0) (.cons (.var 1) .nil))) .nil)))) (.cons (.ret (.cst (.bl false))) .nil) .nil) (.cons (.ife (.notv (.call "_law_is_truth" (.cons (.callk "is_above_all" [1, 0] .nil (.cons (.var 5) (.cons (.var 6) .nil))) (.cons (.call "_law_all_above" (.cons (.var 1) (.cons (.var 0) .nil))) .nil)))) (.cons (.ret (.cst (.bl false))) .nil) .nil) (.cons (.ife (.orv (.notv (.call "_law_is_truth" (.cons (.call "is_above_all" (.cons (.bi .tuple (.cons (.var 3) .nil)) (.cons (.var 5) .nil))) (.cons (.cst (.bl true)) .nil)))) (.notv (.call "_law_is_truth" (.cons (.call "is_above_all" (.cons (.var 6) (.cons (.var 6) .nil))) (.cons (.cst (.bl true)) .nil))))) (.cons (.ret (.cst (.bl false))) .nil) .nil) (.cons (.ret (.call "_law_is_truth" (.cons (.call "is_above_all" (.cons (.var 6) (.cons (.bi .tuple (.cons (.var 3) .nil)) .nil))) (.cons (.call "_law_all_above" (.cons (.var 1) (.cons (.var 3) .nil))) .nil)))) .nil)))))))))
theorem cs__law_rows : cSs cc__law_rows 200 (defBody st__law_rows) = some ir__law_rows := by kernel_rfl
def ir__law_text : Iss := (.cons (.ife (.cmp .Eq (.bi .len (.cons (.var 0) .nil)) (.cst (.int 0))) (.cons (.ret (.cst (.str "-"))) .nil) .nil) (.cons (.set 1 (.lst .nil)) (.cons (.fr (.name 2) (.seq (.var 0)) (.cons (.ex (.mt .append (.var 1) (.cons (.ix (.lst (.cons (.cst (.str "0")) (.cons (.cst (.str "1")) (.cons (.cst (.str "x")) .nil)))) (.var 2)) .nil))) .nil)) (.cons (.ret (.mt .join (.cst (.str "")) (.cons (.var 1) .nil))) .nil))))
theorem cs__law_text : cSs cc__law_text 200 (defBody st__law_text) = some ir__law_text := by kernel_rfl
def ir__law_texts : Iss := (.cons (.set 1 (.call "_law_text" (.cons (.var 0) .nil))) (.cons (.set 2 (.call "values_text" (.cons (.bi .tuple (.cons (.var 0) .nil)) .nil))) (.cons (.ife (.orv (.notv (.isi (.var 2) .str)) (.orv (.cmp .NotEq (.var 2) (.var 1)) (.cmp .NotEq (.callk "values_text" [0] .nil (.cons (.bi .tuple (.cons (.var 0) .nil)) .nil)) (.var 1)))) (.cons (.ret (.cst (.bl false))) .nil) .nil) (.cons (.ret (.andv (.call "_law_is_row" (.cons (.call "read_values" (.cons (.var 1) .nil)) (.cons (.var 0) .nil))) (.call "_law_is_row" (.cons (.callk "read_values" [0] .nil (.cons (.var 1) .nil)) (.cons (.var 0) .nil))))) .nil))))
theorem cs__law_texts : cSs cc__law_texts 200 (defBody st__law_texts) = some ir__law_texts := by kernel_rfl
def ir__law_characters : Iss := (.cons (.set 0 (.cst (.str "abcdefghijklmnopqrstuvwxyz"))) (.cons (.ret (.bin .Add (.bin .Add (.bin .Add (.bin .Add (.cst (.str " !\"#$&'()*+,-./0123456789:;<=>?@")) (.mt .upper (.var 0) .nil)) (.cst (.str "[\\]^_`"))) (.var 0)) (.cst (.str "{|}~")))) .nil))
theorem cs__law_characters : cSs cc__law_characters 200 (defBody st__law_characters) = some ir__law_characters := by kernel_rfl
def ir__law_spoilt : Iss := (.cons (.set 2 (.call "_law_text" (.cons (.var 1) .nil))) (.cons (.set 3 (.call "_law_characters" .nil)) (.cons (.fr (.name 4) (.rng1 (.bin .Add (.cst (.int 1)) (.call "_law_pick" (.cons (.var 0) (.cons (.cst (.int 2)) .nil))))) (.cons (.set 5 (.call "_law_pick" (.cons (.var 0) (.cons (.bin .Add (.bi .len (.cons (.var 2) .nil)) (.cst (.int 1))) .nil)))) (.cons (.set 6 (.ix (.var 3) (.call "_law_pick" (.cons (.var 0) (.cons (.bi .len (.cons (.var 3) .nil)) .nil))))) (.cons (.set 2 (.bin .Add (.bin .Add (.sl (.var 2) .no (.so (.var 5))) (.var 6)) (.sl (.var 2) (.so (.bin .Add (.var 5) (.call "_law_pick" (.cons (.var 0) (.cons (.cst (.int 2)) .nil))))) .no))) .nil)))) (.cons (.ret (.var 2)) .nil))))
theorem cs__law_spoilt : cSs cc__law_spoilt 200 (defBody st__law_spoilt) = some ir__law_spoilt := by kernel_rfl
def ir__law_reads : Iss := (.cons (.ife (.cmp .Eq (.var 0) (.cst (.str "-"))) (.cons (.ret (.call "_law_is_row" (.cons (.call "read_values" (.cons (.var 0) .nil)) (.cons (.lst .nil) .nil)))) .nil) .nil) (.cons (.set 1 (.lst .nil)) (.cons (.fr (.name 2) (.rng1 (.bi .len (.cons (.var 0) .nil))) (.cons (.ife (.cmp .NotIn (.ix (.var 0) (.var 2)) (.cst (.str "01x"))) (.cons (.ret (.call "_law_unread" (.cons (.var 0) (.cons (.var 2) .nil)))) .nil) .nil) (.cons (.ex (.mt .append (.var 1) (.cons (.mt .find (.cst (.str "01x")) (.cons (.ix (.var 0) (.var 2)) .nil)) .nil))) .nil))) (.cons (.ife (.cmp .Eq (.bi .len (.cons (.var 1) .nil)) (.cst (.int 0))) (.cons (.ret (.call "_law_unread" (.cons (.var 0) (.cons (.cst (.int 0)) .nil)))) .nil) .nil) (.cons (.ret (.call "_law_is_row" (.cons (.call "read_values" (.cons (.var 0) .nil)) (.cons (.var 1) .nil)))) .nil)))))
theorem cs__law_reads : cSs cc__law_reads 200 (defBody st__law_reads) = some ir__law_reads := by kernel_rfl
def ir__law_unread : Iss := (.cons (.tri (.cons (.ex (.call "read_values" (.cons (.var 0) .nil))) .nil) (.cons "InvalidText" (some 2) (.cons (.ife (.orv (.notv (.isx 2 "TextError")) (.orv (.notv (.isx 2 "OhmError")) (.notv (.isx 2 "ValueError")))) (.cons (.ret (.cst (.bl false))) .nil) .nil) (.cons (.ife (.orv (.isx 2 "UseError") (.orv (.isx 2 "NetError") (.orv (.isx 2 "LiveError") (.isx 2 "Unended")))) (.cons (.ret (.cst (.bl false))) .nil) .nil) (.cons (.ret (.andv (.call "_law_is_number" (.cons (.fld 2 "line") (.cons (.cst (.int 0)) .nil))) (.call "_law_is_number" (.cons (.fld 2 "word") (.cons (.var 1) .nil))))) .nil))) (.cons "OhmError" none (.cons (.ret (.cst (.bl false))) .nil) .nil))) (.cons (.ret (.cst (.bl false))) .nil))
theorem cs__law_unread : cSs cc__law_unread 200 (defBody st__law_unread) = some ir__law_unread := by kernel_rfl
def ir__law_do : Iss := (.cons (.ife (.cmp .Eq (.var 0) (.cst (.str "joined"))) (.cons (.ret (.call "joined" (.cons (.ix (.var 1) (.cst (.int 0))) (.cons (.ix (.var 1) (.cst (.int 1))) .nil)))) .nil) .nil) (.cons (.ife (.cmp .Eq (.var 0) (.cst (.str "is_above"))) (.cons (.ret (.call "is_above" (.cons (.ix (.var 1) (.cst (.int 0))) (.cons (.ix (.var 1) (.cst (.int 1))) .nil)))) .nil) .nil) (.cons (.ife (.cmp .Eq (.var 0) (.cst (.str "joined_all"))) (.cons (.ret (.call "joined_all" (.cons (.ix (.var 1) (.cst (.int 0))) (.cons (.ix (.var 1) (.cst (.int 1))) .nil)))) .nil) .nil) (.cons (.ife (.cmp .Eq (.var 0) (.cst (.str "is_above_all"))) (.cons (.ret (.call "is_above_all" (.cons (.ix (.var 1) (.cst (.int 0))) (.cons (.ix (.var 1) (.cst (.int 1))) .nil)))) .nil) .nil) (.cons (.ife (.cmp .Eq (.var 0) (.cst (.str "flipped"))) (.cons (.ret (.call "flipped" (.cons (.ix (.var 1) (.cst (.int 0))) .nil))) .nil) .nil) (.cons (.ife (.cmp .Eq (.var 0) (.cst (.str "values_text"))) (.cons (.ret (.call "values_text" (.cons (.ix (.var 1) (.cst (.int 0))) .nil))) .nil) .nil) (.cons (.ret (.call "read_values" (.cons (.ix (.var 1) (.cst (.int 0))) .nil))) .nil)))))))
theorem cs__law_do : cSs cc__law_do 200 (defBody st__law_do) = some ir__law_do := by kernel_rfl
def ir__law_refused : Iss := (.cons (.tri (.cons (.ex (.call "_law_do" (.cons (.var 0) (.cons (.var 1) .nil)))) .nil) (.cons "NotUsable" (some 3) (.cons (.ife (.orv (.notv (.isx 3 "UseError")) (.orv (.notv (.isx 3 "OhmError")) (.notv (.isx 3 "ValueError")))) (.cons (.ret (.cst (.bl false))) .nil) .nil) (.cons (.ife (.orv (.isx 3 "TooMany") (.orv (.isx 3 "NetError") (.orv (.isx 3 "TextError") (.isx 3 "LiveError")))) (.cons (.ret (.cst (.bl false))) .nil) .nil) (.cons (.ret (.andv (.isi (.fld 3 "word") .str) (.andv (.cmp .Eq (.fld 3 "word") (.var 2)) (.call "_law_is_number" (.cons (.fld 3 "at") (.cons (.neg (.cst (.int 1))) .nil)))))) .nil))) (.cons "OhmError" none (.cons (.ret (.cst (.bl false))) .nil) .nil))) (.cons (.ret (.cst (.bl false))) .nil))
theorem cs__law_refused : cSs cc__law_refused 200 (defBody st__law_refused) = some ir__law_refused := by kernel_rfl
def ir__law_no_value : Iss := (.cons (.set 1 (.lst (.cons (.cst .non) (.cons (.cst (.bl true)) (.cons (.cst (.bl false)) (.cons (.cst (.int 3)) (.cons (.neg (.cst (.int 1))) (.cons (.cst (.str "0")) (.cons (.cst (.str "1")) (.cons (.cst (.str "x")) (.cons (.cst (.str "")) (.cons (.tup (.cons (.cst (.int 0)) .nil)) (.cons (.tup .nil) (.cons (.lst (.cons (.cst (.int 1)) .nil)) (.cons (.bin .Pow (.cst (.int 10)) (.cst (.int 30))) (.cons (.neg (.cst (.int 2))) (.cons (.tup (.cons (.cst (.int 0)) (.cons (.cst (.int 1)) .nil))) (.cons (.cst (.int 4)) .nil)))))))))))))))))) (.cons (.ret (.ix (.var 1) (.call "_law_pick" (.cons (.var 0) (.cons (.bi .len (.cons (.var 1) .nil)) .nil))))) .nil))
theorem cs__law_no_value : cSs cc__law_no_value 200 (defBody st__law_no_value) = some ir__law_no_value := by kernel_rfl
def ir__law_no_row : Iss := (.cons (.set 2 (.call "_law_pick" (.cons (.var 0) (.cons (.bin .Add (.bi .len (.cons (.var 1) .nil)) (.cst (.int 1))) .nil)))) (.cons (.set 3 (.bi .tuple (.cons (.bin .Add (.bin .Add (.sl (.var 1) .no (.so (.var 2))) (.lst (.cons (.call "_law_no_value" (.cons (.var 0) .nil)) .nil))) (.sl (.var 1) (.so (.bin .Add (.var 2) (.cst (.int 1)))) .no)) .nil))) (.cons (.set 4 (.lst (.cons (.var 3) (.cons (.var 3) (.cons (.var 3) (.cons (.bi .list (.cons (.var 1) .nil)) (.cons (.cst .non) (.cons (.cst (.bl true)) (.cons (.cst (.str "01")) (.cons (.cst (.int 0)) (.cons (.cst (.int 2)) (.cons (.lst (.cons (.var 3) .nil)) (.cons (.tup (.cons (.bi .tuple (.cons (.var 1) .nil)) (.cons (.cst (.int 1)) .nil))) (.cons (.call "_law_text" (.cons (.var 1) .nil)) .nil)))))))))))))) (.cons (.ret (.ix (.var 4) (.call "_law_pick" (.cons (.var 0) (.cons (.bi .len (.cons (.var 4) .nil)) .nil))))) .nil))))
theorem cs__law_no_row : cSs cc__law_no_row 200 (defBody st__law_no_row) = some ir__law_no_row := by kernel_rfl
def ir__law_refusals : Iss := (.cons (.set 3 (.bi .tuple (.cons (.var 1) .nil))) (.cons (.set 4 (.bi .tuple (.cons (.var 2) .nil))) (.cons (.fr (.name 5) (.seq (.lst (.cons (.cst (.str "joined")) (.cons (.cst (.str "is_above")) .nil)))) (.cons (.set 6 (.call "_law_pick" (.cons (.var 0) (.cons (.cst (.int 3)) .nil)))) (.cons (.set 7 (.call "_law_no_value" (.cons (.var 0) .nil))) (.cons (.ife (.orv (.notv (.call "_law_refused" (.cons (.var 5) (.cons (.lst (.cons (.var 7) (.cons (.var 6) .nil))) (.cons (.cst (.str "one")) .nil))))) (.notv (.call "_law_refused" (.cons (.var 5) (.cons (.lst (.cons (.var 7) (.cons (.call "_law_no_value" (.cons (.var 0) .nil)) .nil))) (.cons (.cst (.str "one")) .nil)))))) (.cons (.ret (.cst (.bl false))) .nil) .nil) (.cons (.ife (.orv (.notv (.call "_law_refused" (.cons (.var 5) (.cons (.lst (.cons (.var 6) (.cons (.var 7) .nil))) (.cons (.cst (.str "other")) .nil))))) (.notv (.call "_law_refused" (.cons (.cst (.str "flipped")) (.cons (.lst (.cons (.var 7) .nil)) (.cons (.cst (.str "value")) .nil)))))) (.cons (.ret (.cst (.bl false))) .nil) .nil) .nil))))) (.cons (.fr (.name 5) (.seq (.lst (.cons (.cst (.str "joined_all")) (.cons (.cst (.str "is_above_all")) .nil)))) (.cons (.set 7 (.call "_law_no_row" (.cons (.var 0) (.cons (.var 1) .nil)))) (.cons (.ife (.orv (.notv (.call "_law_refused" (.cons (.var 5) (.cons (.lst (.cons (.var 7) (.cons (.var 4) .nil))) (.cons (.cst (.str "ones")) .nil))))) (.notv (.call "_law_refused" (.cons (.var 5) (.cons (.lst (.cons (.var 7) (.cons (.var 7) .nil))) (.cons (.cst (.str "ones")) .nil)))))) (.cons (.ret (.cst (.bl false))) .nil) .nil) (.cons (.ife (.notv (.call "_law_refused" (.cons (.var 5) (.cons (.lst (.cons (.var 3) (.cons (.call "_law_no_row" (.cons (.var 0) (.cons (.var 2) .nil))) .nil))) (.cons (.cst (.str "others")) .nil))))) (.cons (.ret (.cst (.bl false))) .nil) .nil) (.cons (.fr (.name 8) (.seq (.lst (.cons (.bin .Add (.var 4) (.tup (.cons (.cst (.int 0)) .nil))) (.cons (.bin .Add (.bin .Add (.var 4) (.var 4)) (.tup (.cons (.cst (.int 2)) .nil))) (.cons (.bin .Add (.tup (.cons (.cst (.int 1)) .nil)) (.var 4)) .nil))))) (.cons (.ife (.orv (.notv (.call "_law_refused" (.cons (.var 5) (.cons (.lst (.cons (.var 3) (.cons (.var 8) .nil))) (.cons (.cst (.str "others")) .nil))))) (.notv (.call "_law_refused" (.cons (.var 5) (.cons (.lst (.cons (.var 8) (.cons (.var 4) .nil))) (.cons (.cst (.str "others")) .nil)))))) (.cons (.ret (.cst (.bl false))) .nil) .nil) .nil)) (.cons (.ife (.andv (.cmp .Gt (.bi .len (.cons (.var 2) .nil)) (.cst (.int 0))) (.notv (.call "_law_refused" (.cons (.var 5) (.cons (.lst (.cons (.var 3) (.cons (.sl (.var 4) (.so (.cst (.int 1))) .no) .nil))) (.cons (.cst (.str "others")) .nil)))))) (.cons (.ret (.cst (.bl false))) .nil) .nil) .nil)))))) (.cons (.ife (.notv (.call "_law_refused" (.cons (.cst (.str "values_text")) (.cons (.lst (.cons (.call "_law_no_row" (.cons (.var 0) (.cons (.var 1) .nil))) .nil)) (.cons (.cst (.str "values")) .nil))))) (.cons (.ret (.cst (.bl false))) .nil) .nil) (.cons (.set 8 (.ix (.lst (.cons (.cst .non) (.cons (.cst (.bl true)) (.cons (.cst (.int 0)) (.cons (.tup .nil) (.cons (.tup (.cons (.cst (.str "0")) .nil)) (.cons (.lst (.cons (.cst (.str "0")) (.cons (.cst (.str "1")) .nil))) (.cons (.lst .nil) (.cons (.var 3) .nil))))))))) (.call "_law_pick" (.cons (.var 0) (.cons (.cst (.int 8)) .nil))))) (.cons (.ret (.call "_law_refused" (.cons (.cst (.str "read_values")) (.cons (.lst (.cons (.var 8) .nil)) (.cons (.cst (.str "text")) .nil))))) .nil)))))))
theorem cs__law_refusals : cSs cc__law_refusals 200 (defBody st__law_refusals) = some ir__law_refusals := by kernel_rfl
def ir_law : Iss := (.cons (.set 1 (.call "_law_tape" (.cons (.var 0) .nil))) (.cons (.set 2 (.call "_law_row" (.cons (.var 1) .nil))) (.cons (.set 3 (.call "_law_beside" (.cons (.var 1) (.cons (.var 2) .nil)))) (.cons (.ife (.orv (.notv (.call "_law_pairs" .nil)) (.orv (.notv (.call "_law_rows" (.cons (.var 2) (.cons (.var 3) .nil)))) (.orv (.notv (.call "_law_rows" (.cons (.var 3) (.cons (.var 2) .nil)))) (.notv (.call "_law_rows" (.cons (.lst .nil) (.cons (.lst .nil) .nil))))))) (.cons (.ret (.cst (.bl false))) .nil) .nil) (.cons (.ife (.orv (.notv (.call "_law_texts" (.cons (.var 2) .nil))) (.orv (.notv (.call "_law_texts" (.cons (.var 3) .nil))) (.notv (.call "_law_texts" (.cons (.lst .nil) .nil))))) (.cons (.ret (.cst (.bl false))) .nil) .nil) (.cons (.set 4 (.lst (.cons (.cst (.str "")) (.cons (.cst (.str "-")) (.cons (.cst (.str "--")) (.cons (.cst (.str "-0")) (.cons (.cst (.str "0-")) (.cons (.cst (.str "2")) (.cons (.cst (.str "X")) (.cons (.cst (.str " ")) (.cons (.cst (.str "x ")) (.cons (.cst (.str "01-2")) (.cons (.cst (.str "0,1")) (.cons (.cst (.str "x-")) (.cons (.cst (.str "01x")) (.cons (.cst (.str "xx2")) (.cons (.cst (.str " 0")) (.cons (.cst (.str "O")) .nil)))))))))))))))))) (.cons (.ife (.orv (.notv (.call "_law_reads" (.cons (.ix (.var 4) (.call "_law_pick" (.cons (.var 1) (.cons (.cst (.int 16)) .nil)))) .nil))) (.notv (.call "_law_reads" (.cons (.cst (.str "")) .nil)))) (.cons (.ret (.cst (.bl false))) .nil) .nil) (.cons (.fr (.name 5) (.seq (.lst (.cons (.var 2) (.cons (.var 3) (.cons (.var 2) .nil))))) (.cons (.ife (.notv (.call "_law_reads" (.cons (.call "_law_spoilt" (.cons (.var 1) (.cons (.var 5) .nil))) .nil))) (.cons (.ret (.cst (.bl false))) .nil) .nil) .nil)) (.cons (.ret (.andv (.call "_law_refusals" (.cons (.var 1) (.cons (.var 2) (.cons (.var 3) .nil)))) (.call "_law_texts" (.cons (.var 3) .nil)))) .nil)))))))))
theorem cs_law : cSs cc_law 200 (defBody st_law) = some ir_law := by kernel_rfl
end K16
end TextK16a

section TextK16b
set_option autoImplicit false
set_option maxRecDepth 100000
set_option maxHeartbeats 4000000
namespace K16
open PySem Px
local macro_rules | `(tactic| walk_at "px") => `(tactic| ((conv => whnf); repeat ((refine And.intro trivial ?_); (conv => whnf))))
def isInt : D → Bool | .int _ => true | _ => false
def isVal : D → Bool | .int i => decide (0 ≤ i ∧ i ≤ 2) | _ => false
/-- what isinstance can tell -/
def kn (A : Ht) (d : D) : Bool := (isiD A d .int).isSome
def jp (i j : Int) : Int := if i = j then i else 2
def jpD : D → D → Int | .int i, .int j => jp i j | _, _ => 0
def nu (s : Str) : D := .exn "NotUsable" ["word", "at"] [.str s, .int (-1)]
def iv (p : Int) : D := .exn "InvalidText" ["line", "word"] [.int 0, .int p]
def con_is_integer : Con := fun ds A E Q => ∃ d, ds = [d] ∧ kn A d = true ∧ Q (.bl (isInt d)) A
def con_is_value : Con := fun ds A E Q => ∃ d, ds = [d] ∧ kn A d = true ∧ Q (.bl (isVal d)) A
def con__joined_pair : Con := fun ds A E Q => ∃ i j, ds = [.int i, .int j] ∧ Q (.int (jp i j)) A
def con_joined : Con := fun ds A E Q => ∃ a b, ds = [a, b] ∧ kn A a = true ∧ kn A b = true ∧ (isVal a = false → E (nu "one") A) ∧ (isVal a = true → isVal b = false → E (nu "other") A) ∧ (isVal a = true → isVal b = true → Q (.int (jpD a b)) A)
def ab (i j : Int) : Bool := i == j || i == 2
def abD : D → D → Bool | .int i, .int j => ab i j | _, _ => false
def con_is_above : Con := fun ds A E Q => ∃ a b, ds = [a, b] ∧ kn A a = true ∧ kn A b = true ∧ (isVal a = false → E (nu "one") A) ∧ (isVal a = true → isVal b = false → E (nu "other") A) ∧ (isVal a = true → isVal b = true → Q (.bl (abD a b)) A)
def fl (i : Int) : Int := if i = 2 then i else 1 - i
def flD : D → Int | .int i => fl i | _ => 0
def con_flipped : Con := fun ds A E Q => ∃ a, ds = [a] ∧ kn A a = true ∧ (isVal a = false → E (nu "value") A) ∧ (isVal a = true → Q (.int (flD a)) A)
structure GOk (G : Env') : Prop where
  nu : G.fds "NotUsable" = (["word", "at"] : List Str)
  iv : G.fds "InvalidText" = (["line", "word"] : List Str)
  vm : G.ct "VALUE_MARKS" = some (.str "01x")
  is_integer : G.con "is_integer" = con_is_integer
  is_value : G.con "is_value" = con_is_value
  _joined_pair : G.con "_joined_pair" = con__joined_pair
theorem kn_nonX {A : Ht} {d : D} (h : kn A d = true) : nonX d := by
  cases d <;> first | trivial | cases h
theorem val_int {d : D} (h : isVal d = true) : ∃ i, d = .int i ∧ 0 ≤ i ∧ i ≤ 2 := by
  cases d <;> first | cases h; done | skip
  rename_i i
  exact ⟨i, rfl, of_decide_eq_true h⟩
theorem use {G : Env'} {f : Str} {c : Con} (e : G.con f = c) {ds : List D} {A : Ht} {E Q : D → Ht → Prop} (h : c ds A E Q) : G.con f ds A E Q := by rw [e]; exact h
section
variable {G : Env'} (g : GOk G)
include g
theorem b_is_integer (ds : List D) (A : Ht) (E Q : D → Ht → Prop) (_ : ds.length = 1) (h : con_is_integer ds A E Q) : conOf G cc_is_integer.N ir_is_integer ds A E Q := by
  obtain ⟨d, rfl, k, q⟩ := h
  cases d with
  | int i => exact ⟨trivial, trivial, q⟩
  | bl b => exact ⟨trivial, trivial, q⟩
  | str b => exact ⟨trivial, q⟩
  | non => exact ⟨trivial, q⟩
  | tup b => exact ⟨trivial, q⟩
  | rol b => exact ⟨trivial, q⟩
  | obj n =>
    refine ⟨trivial, ?_⟩
    show optD (isiD A (.obj n) .int) _
    unfold kn isiD at k
    unfold isiD
    dsimp only at k ⊢
    split at k
    · exact q
    · exact q
    · exact q
    · cases k
  | exn c ks ds => cases k
theorem b_is_value (ds : List D) (A : Ht) (E Q : D → Ht → Prop) (_ : ds.length = 1) (h : con_is_value ds A E Q) : conOf G cc_is_value.N ir_is_value ds A E Q := by
  obtain ⟨d, rfl, k, q⟩ := h
  refine ⟨kn_nonX k, use g.is_integer ⟨d, rfl, k, ?_⟩⟩
  cases d with
  | int i =>
    walk_at "px"
    have q : Q (.bl (decide (0 ≤ i ∧ i ≤ 2))) A := q
    by_cases e : (0 : Int) ≤ i
    · rw [decide_eq_true e]
      have q2 : Q (.bl (decide (i ≤ 2))) A := by simpa [e] using q
      exact q2
    · rw [decide_eq_false e]
      have q2 : Q (.bl false) A := by simpa [e] using q
      exact q2
  | _ => exact q
theorem b__joined_pair (ds : List D) (A : Ht) (E Q : D → Ht → Prop) (_ : ds.length = 2) (h : con__joined_pair ds A E Q) : conOf G cc__joined_pair.N ir__joined_pair ds A E Q := by
  obtain ⟨i, j, rfl, q⟩ := h
  walk_at "px"
  unfold jp at q
  by_cases e : i = j
  · rw [decide_eq_true e]; rw [if_pos e] at q
    exact ⟨trivial, q⟩
  · rw [decide_eq_false e]; rw [if_neg e] at q
    exact q
/-- the first two lines of a def of two values -/
theorem two_vals {s1 s2 : Str} {N : Dn} {A : Ht} {a b : D} {rest : List (Option D)} {ss : Iss} (ka : kn A a = true) (kb : kn A b = true) (h1 : isVal a = false → N.xe (some a :: some b :: rest) (nu s1) A) (h2 : isVal a = true → isVal b = false → N.xe (some a :: some b :: rest) (nu s2) A)
    (h3 : isVal a = true → isVal b = true → wSs G ss N (some a :: some b :: rest) A) :
    wSs G (.cons (.ife (.notv (.call "is_value" (.cons (.var 0) .nil))) (.cons (.rse "NotUsable" (.cons (.cst (.str s1)) (.cons (.neg (.cst (.int 1))) .nil))) .nil) .nil) (.cons (.ife (.notv (.call "is_value" (.cons (.var 1) .nil))) (.cons (.rse "NotUsable" (.cons (.cst (.str s2)) (.cons (.neg (.cst (.int 1))) .nil))) .nil) .nil) ss)) N (some a :: some b :: rest) A := by
  refine ⟨kn_nonX ka, use g.is_value ⟨a, rfl, ka, ?_⟩⟩
  cases va : isVal a with
  | false =>
    refine ⟨by rw [g.nu]; rfl, Nat.succ_pos _, ?_⟩
    rw [g.nu]
    exact h1 va
  | true =>
    refine ⟨kn_nonX kb, use g.is_value ⟨b, rfl, kb, ?_⟩⟩
    cases vb : isVal b with
    | false =>
      refine ⟨by rw [g.nu]; rfl, Nat.succ_pos _, ?_⟩
      rw [g.nu]
      exact h2 va vb
    | true => exact h3 va vb
theorem b_joined (ds : List D) (A : Ht) (E Q : D → Ht → Prop) (_ : ds.length = 2) (h : con_joined ds A E Q) : conOf G cc_joined.N ir_joined ds A E Q := by
  obtain ⟨a, b, rfl, ka, kb, h1, h2, h3⟩ := h
  refine two_vals g ka kb h1 h2 fun va vb => ⟨kn_nonX ka, kn_nonX kb, use g._joined_pair ?_⟩
  obtain ⟨i, rfl, _⟩ := val_int va
  obtain ⟨j, rfl, _⟩ := val_int vb
  exact ⟨i, j, rfl, h3 va vb⟩
theorem b_is_above (ds : List D) (A : Ht) (E Q : D → Ht → Prop) (_ : ds.length = 2) (h : con_is_above ds A E Q) : conOf G cc_is_above.N ir_is_above ds A E Q := by
  obtain ⟨a, b, rfl, ka, kb, h1, h2, h3⟩ := h
  refine two_vals g ka kb h1 h2 fun va vb => ?_
  have h3 := h3 va vb
  obtain ⟨i, rfl, _⟩ := val_int va
  obtain ⟨j, rfl, _⟩ := val_int vb
  walk_at "px"
  have h3 : Q (.bl (i == j || i == 2)) A := h3
  by_cases e : i = j
  · rw [decide_eq_true e]
    have q2 : Q (.bl true) A := by simpa [e] using h3
    exact q2
  · rw [decide_eq_false e]
    have q2 : Q (.bl (decide (i = 2))) A := by
      have z : (i == j || i == 2) = decide (i = 2) := by rw [show (i == j) = false from by simpa using e]; rfl
      rw [← z]; exact h3
    exact ⟨trivial, q2⟩
theorem b_flipped (ds : List D) (A : Ht) (E Q : D → Ht → Prop) (_ : ds.length = 1) (h : con_flipped ds A E Q) : conOf G cc_flipped.N ir_flipped ds A E Q := by
  obtain ⟨a, rfl, ka, h1, h2⟩ := h
  refine ⟨kn_nonX ka, use g.is_value ⟨a, rfl, ka, ?_⟩⟩
  cases va : isVal a with
  | false =>
    refine ⟨by rw [g.nu]; rfl, Nat.succ_pos _, ?_⟩
    rw [g.nu]
    exact h1 va
  | true =>
    have h2 := h2 va
    obtain ⟨i, rfl, _⟩ := val_int va
    walk_at "px"
    have h2 : Q (.int (fl i)) A := h2
    unfold fl at h2
    by_cases e : i = 2
    · rw [decide_eq_true e]
      rw [if_pos e] at h2
      exact ⟨trivial, h2⟩
    · rw [decide_eq_false e]
      rw [if_neg e] at h2
      exact ⟨trivial, h2⟩
end
end K16
end TextK16b

section TextK16c
set_option autoImplicit false
set_option maxRecDepth 100000
set_option maxHeartbeats 4000000
namespace K16
open PySem Px
local macro_rules | `(tactic| walk_at "px") => `(tactic| ((conv => whnf); repeat ((refine And.intro trivial ?_); (conv => whnf))))
def allVal : D → Bool | .tup xs => xs.all isVal | _ => false
/-- also its parts -/
def kd (A : Ht) (d : D) : Prop := kn A d = true ∧ ∀ xs, d = .tup xs → ∀ e ∈ xs, kn A e = true
def con_are_all_values : Con := fun ds A E Q => ∃ d, ds = [d] ∧ kd A d ∧ Q (.bl (allVal d)) A
/-- rows of values -/
def VOK (l : List Int) : Prop := ∀ x ∈ l, 0 ≤ x ∧ x ≤ 2
def tupLen : D → Nat | .tup xs => xs.length | _ => 0
def con_joined_all : Con := fun ds A E Q => ∃ a b, ds = [a, b] ∧ kd A a ∧ kd A b ∧ tupLen a ≤ 1000 ∧ (allVal a = false → E (nu "ones") A) ∧ (allVal a = true → (allVal b = false ∨ tupLen b ≠ tupLen a) → E (nu "others") A) ∧
  (∀ xs ys A', a = .tup (iL xs) → b = .tup (iL ys) → VOK xs → VOK ys → ys.length = xs.length → Keep [] A A' → Q (.tup (iL (List.zipWith jp xs ys))) A')
def aboveAll (xs ys : List Int) : Bool := (List.zip xs ys).all fun p => ab p.1 p.2
def con_is_above_all : Con := fun ds A E Q => ∃ a b, ds = [a, b] ∧ kd A a ∧ kd A b ∧ (allVal a = false → E (nu "ones") A) ∧ (allVal a = true → (allVal b = false ∨ tupLen b ≠ tupLen a) → E (nu "others") A) ∧
  (∀ xs ys, a = .tup (iL xs) → b = .tup (iL ys) → VOK xs → VOK ys → ys.length = xs.length → Q (.bl (aboveAll xs ys)) A)
structure GOk2 (G : Env') : Prop extends GOk G where
  are_all_values : G.con "are_all_values" = con_are_all_values
theorem all_vals : ∀ {xs : List D}, xs.all isVal = true → ∃ l, xs = iL l ∧ VOK l
  | [], _ => ⟨[], rfl, by simp [VOK]⟩
  | d :: r, h => by
    rw [List.all_cons, Bool.and_eq_true] at h
    obtain ⟨i, rfl, h1, h2⟩ := val_int h.1
    obtain ⟨l, rfl, hl⟩ := all_vals h.2
    exact ⟨i :: l, rfl, fun x hx => by
      rcases List.mem_cons.mp hx with rfl | hx
      · exact ⟨h1, h2⟩
      · exact hl x hx⟩
theorem allVal_tup {d : D} (h : allVal d = true) : ∃ l, d = .tup (iL l) ∧ VOK l := by
  cases d <;> first | cases h; done | skip
  rename_i xs
  obtain ⟨l, rfl, hl⟩ := all_vals h
  exact ⟨l, rfl, hl⟩
theorem isi_tup {A : Ht} {d : D} (k : kn A d = true) : isiD A d .tuple = some (match d with | .tup _ => true | _ => false) := by
  cases d with
  | obj n =>
    unfold kn isiD at k
    unfold isiD
    dsimp only at k ⊢
    split at k <;> first | rfl | cases k
  | exn c ks ds => cases k
  | _ => rfl
section
variable {G : Env'} (g : GOk2 G)
include g
theorem b_are_all_values (ds : List D) (A : Ht) (E Q : D → Ht → Prop) (_ : ds.length = 1) (h : con_are_all_values ds A E Q) : conOf G cc_are_all_values.N ir_are_all_values ds A E Q := by
  obtain ⟨d, rfl, ⟨k, kp⟩, q⟩ := h
  refine ⟨kn_nonX k, ?_⟩
  show optD (isiD A d .tuple) _
  rw [isi_tup k]
  cases d with
  | tup xs =>
    refine ⟨trivial, ?_⟩
    refine loop_go (fun i ρ' A' => A' = A ∧ (∃ x, ρ' = [some (.tup xs), x]) ∧ ∀ j e, j < i → xs[j]? = some e → isVal e = true) ⟨rfl, ⟨none, rfl⟩, fun j e hj => by omega⟩ (fun _ _ _ _ => trivial) ?_ ?_
    · rintro i hi ρ A1 kk ⟨rfl, ⟨x, rfl⟩, hall⟩ hk
      have hkn := kp xs rfl xs[i] (List.getElem_mem hi)
      refine ⟨kn_nonX hkn, use g.is_value ⟨xs[i], rfl, hkn, ?_⟩⟩
      cases hv : isVal xs[i] with
      | false =>
        have e : allVal (.tup xs) = false := by
          show xs.all isVal = false
          rw [List.all_eq_false]
          exact ⟨xs[i], List.getElem_mem hi, by rw [hv]; simp⟩
        rw [e] at q
        exact q
      | true =>
        refine hk _ _ ⟨rfl, ⟨some xs[i], rfl⟩, fun j e hj he => ?_⟩
        by_cases hji : j = i
        · subst hji
          rw [List.getElem?_eq_getElem hi] at he
          cases he
          exact hv
        · exact hall j e (by omega) he
    · rintro ρ A1 ⟨rfl, ⟨x, rfl⟩, hall⟩
      have e : allVal (.tup xs) = true := by
        show xs.all isVal = true
        rw [List.all_eq_true]
        intro y hy
        obtain ⟨j, hj, rfl⟩ := List.getElem_of_mem hy
        exact hall j _ hj (List.getElem?_eq_getElem hj)
      rw [e] at q
      exact q
  | _ => exact q
theorem two_rows {s1 s2 : Str} {N : Dn} {A : Ht} {a b : D} {rest : List (Option D)} {ss : Iss} (ka : kd A a) (kb : kd A b) (h1 : allVal a = false → N.xe (some a :: some b :: rest) (nu s1) A) (h2 : allVal a = true → (allVal b = false ∨ tupLen b ≠ tupLen a) → N.xe (some a :: some b :: rest) (nu s2) A)
    (h3 : ∀ xs ys, a = .tup (iL xs) → b = .tup (iL ys) → VOK xs → VOK ys → ys.length = xs.length → wSs G ss N (some a :: some b :: rest) A) :
    wSs G (.cons (.ife (.notv (.call "are_all_values" (.cons (.var 0) .nil))) (.cons (.rse "NotUsable" (.cons (.cst (.str s1)) (.cons (.neg (.cst (.int 1))) .nil))) .nil) .nil) (.cons (.ife (.orv (.notv (.call "are_all_values" (.cons (.var 1) .nil))) (.cmp .NotEq (.bi .len (.cons (.var 1) .nil)) (.bi .len (.cons (.var 0) .nil)))) (.cons (.rse "NotUsable" (.cons (.cst (.str s2)) (.cons (.neg (.cst (.int 1))) .nil))) .nil) .nil) ss)) N (some a :: some b :: rest) A := by
  refine ⟨kn_nonX ka.1, use g.are_all_values ⟨a, rfl, ka, ?_⟩⟩
  cases va : allVal a with
  | false =>
    refine ⟨by rw [g.nu]; rfl, Nat.succ_pos _, ?_⟩
    rw [g.nu]
    exact h1 va
  | true =>
    refine ⟨kn_nonX kb.1, use g.are_all_values ⟨b, rfl, kb, ?_⟩⟩
    cases vb : allVal b with
    | false =>
      refine ⟨by rw [g.nu]; rfl, Nat.succ_pos _, ?_⟩
      rw [g.nu]
      exact h2 va (.inl vb)
    | true =>
      obtain ⟨xs, rfl, hx⟩ := allVal_tup va
      obtain ⟨ys, rfl, hy⟩ := allVal_tup vb
      refine ⟨trivial, trivial, ?_⟩
      show (if (!decide (((iL ys).length : Int) = ((iL xs).length : Int))) = true then _ else _)
      by_cases e : ys.length = xs.length
      · rw [decide_eq_true (by simp [e])]
        exact h3 xs ys rfl rfl hx hy e
      · rw [decide_eq_false (by simp; omega)]
        refine ⟨by rw [g.nu]; rfl, Nat.succ_pos _, ?_⟩
        rw [g.nu]
        exact h2 va (.inr (by simpa [tupLen] using e))
omit g in
theorem tuple_at {A : Ht} {n : Nat} {acc : List D} {Q : D → Ht → Prop} (e : A[n]? = some (.lst acc)) (h : Q (.tup acc) A) : biD .tuple [.obj n] A Q := by
  unfold biD
  dsimp only
  rw [e]
  exact h
omit g in
theorem zip_at {xs ys : List Int} {i : Nat} (h : i < (((iL xs).zip (iL ys)).map fun p => D.tup [p.1, p.2]).length) : ∃ (h1 : i < xs.length) (h2 : i < ys.length), (((iL xs).zip (iL ys)).map fun p => D.tup [p.1, p.2])[i] = .tup [.int xs[i], .int ys[i]] := by
  have h := Nat.lt_min.mp (show i < min xs.length ys.length by simpa using h)
  exact ⟨h.1, h.2, by simp⟩
theorem b_joined_all (ds : List D) (A : Ht) (E Q : D → Ht → Prop) (_ : ds.length = 2) (h : con_joined_all ds A E Q) : conOf G cc_joined_all.N ir_joined_all ds A E Q := by
  obtain ⟨a, b, rfl, ka, kb, hlen, h1, h2, h3⟩ := h
  refine two_rows g ka kb h1 h2 fun xs ys ea eb hx hy hl => ?_
  subst ea eb
  refine ⟨trivial, trivial, ?_⟩
  refine comp_go (fun i acc A' => A' = A ∧ acc = iL ((List.zipWith jp xs ys).take i)) ⟨rfl, rfl⟩ (fun _ _ _ _ => ⟨trivial, trivial⟩) ?_ ?_
  · rintro i hi acc A1 k ⟨rfl, rfl⟩ hk1 hk2
    obtain ⟨g1, g2, e⟩ := zip_at hi
    rw [e]
    refine ⟨trivial, trivial, use g._joined_pair ⟨xs[i], ys[i], rfl, hk2 _ _ ⟨?_, rfl, ?_⟩⟩⟩
    · have hx2 : xs.length ≤ 1000 := by simpa [tupLen] using hlen
      have : (iL ((List.zipWith jp xs ys).take i)).length ≤ i := by simp; omega
      have : PySem.sizeLine = 16777216 := PySem.sizeLine_eq
      omega
    · rw [List.take_succ_eq_append_getElem (by simp; omega)]
      simp
  · rintro acc A1 ⟨rfl, rfl⟩
    refine tuple_at at_push ?_
    rw [List.take_of_length_le (by simp)]
    exact h3 xs ys _ rfl rfl hx hy hl .push
theorem b_is_above_all (ds : List D) (A : Ht) (E Q : D → Ht → Prop) (_ : ds.length = 2) (h : con_is_above_all ds A E Q) : conOf G cc_is_above_all.N ir_is_above_all ds A E Q := by
  obtain ⟨a, b, rfl, ka, kb, h1, h2, h3⟩ := h
  refine two_rows g ka kb h1 h2 fun xs ys ea eb hx hy hl => ?_
  subst ea eb
  have q := h3 xs ys rfl rfl hx hy hl
  refine ⟨trivial, trivial, ?_⟩
  refine loop_go (fun i ρ' A' => A' = A ∧ (∃ u v, ρ' = [some (.tup (iL xs)), some (.tup (iL ys)), u, v]) ∧ ∀ j (h1 : j < xs.length) (h2 : j < ys.length), j < i → ab xs[j] ys[j] = true) ⟨rfl, ⟨none, none, rfl⟩, fun j _ _ hj => by omega⟩ (fun _ _ _ _ => ⟨trivial, trivial⟩) ?_ ?_
  · rintro i hi ρ A1 k ⟨rfl, ⟨u, v, rfl⟩, hall⟩ hk
    obtain ⟨g1, g2, e⟩ := zip_at hi
    rw [e]
    refine ⟨trivial, trivial, ?_⟩
    show (if (!decide (xs[i] = ys[i])) = true then _ else _)
    have bad : ab xs[i] ys[i] = false → Q (.bl false) A1 := fun hb => by
      have e : aboveAll xs ys = false := by
        unfold aboveAll
        rw [List.all_eq_false]
        refine ⟨(xs[i], ys[i]), ?_, by rw [hb]; simp⟩
        rw [List.mem_iff_getElem]
        exact ⟨i, by simp; omega, by simp⟩
      rw [e] at q
      exact q
    have good : ab xs[i] ys[i] = true → k [some (.tup (iL xs)), some (.tup (iL ys)), some (.int xs[i]), some (.int ys[i])] A1 := fun hb => hk _ _ ⟨rfl, ⟨_, _, rfl⟩, fun j h1 h2 hj => by
      by_cases hji : j = i
      · subst hji; exact hb
      · exact hall j h1 h2 (by omega)⟩
    by_cases e1 : xs[i] = ys[i]
    · rw [decide_eq_true e1]
      exact good (by unfold ab; simp [e1])
    · rw [decide_eq_false e1]
      refine ⟨trivial, ?_⟩
      show (if (!decide (xs[i] = 2)) = true then _ else _)
      by_cases e2 : xs[i] = 2
      · rw [decide_eq_true e2]
        exact good (by unfold ab; simp [e2])
      · rw [decide_eq_false e2]
        exact bad (by unfold ab; simp [e1, e2])
  · rintro ρ A1 ⟨rfl, ⟨u, v, rfl⟩, hall⟩
    have e : aboveAll xs ys = true := by
      unfold aboveAll
      rw [List.all_eq_true]
      intro p hp
      obtain ⟨j, hj, rfl⟩ := List.getElem_of_mem hp
      have hj2 := Nat.lt_min.mp (show j < min xs.length ys.length by simpa using hj)
      rw [List.getElem_zip]
      exact hall j hj2.1 hj2.2 (by simp; omega)
    rw [e] at q
    exact q
end
end K16
end TextK16c

section TextK16d
set_option autoImplicit false
set_option maxRecDepth 100000
set_option maxHeartbeats 4000000
namespace K16
open PySem Px
local macro_rules | `(tactic| walk_at "px") => `(tactic| ((conv => whnf); repeat ((refine And.intro True.intro ?_); (conv => whnf))))
/-- the tape of drawn numbers -/
def tp (A : Ht) (t : Nat) : Prop := ∃ xs : List Int, xs ≠ [] ∧ xs.length ≤ 64 ∧ A[t]? = some (.lst (iL xs))
def con__law_tape : Con := fun ds A E Q => ∃ ns : List Int, ds = [.rol (iL ns)] ∧ ns.length ≤ 63 ∧ ∀ A' t, A.length ≤ t → Keep [] A A' → tp A' t → Q (.obj t) A'
def con__law_pick : Con := fun ds A E Q => ∃ t m, ds = [.obj t, .int m] ∧ 0 < m ∧ m < 1000000 ∧ tp A t ∧ ∀ A' r, 0 ≤ r → r < m → Keep [t] A A' → A'.length = A.length → tp A' t → Q (.int r) A'
structure GOk3 (G : Env') : Prop extends GOk2 G where
  _law_pick : G.con "_law_pick" = con__law_pick
theorem whl_go {G : Env'} {t : Ie} {b : Iss} {N : Dn} {ρ : Rho} {A : Ht} (I : Nat → Rho → Ht → Prop) (F : Rho → Ht → Prop) (h0 : ∃ m, I m ρ A)
    (turn : ∀ m ρ A (k fin : Rho → Ht → Prop), I m ρ A → (∀ ρ' A' m', m' < m → I m' ρ' A' → k ρ' A') → (∀ ρ' A', F ρ' A' → fin ρ' A') → wT G t ρ A (N.xe ρ) (fun c A1 => if c = true then wSs G b { N with nx := k, ct := k, bk := N.nx } ρ A1 else fin ρ A1)) (hfin : ∀ ρ A, F ρ A → N.nx ρ A) : wS G (.whl t b) N ρ A :=
  ⟨I, h0, fun m ρ A h => turn m ρ A _ _ h (fun ρ' A' m' hm hi => ⟨m', hm, hi⟩) hfin⟩
theorem at_end {xs : List Int} (h : xs ≠ []) : L2.atI (iL xs) (((iL xs).length : Int) - 1) = some (.int (xs.getLast h)) := by
  have hp := List.length_pos_iff.mpr h
  have e : ((iL xs).length : Int) - 1 = ((xs.length - 1 : Nat) : Int) := by simp; omega
  rw [e]
  refine L2.atI_nat ?_
  rw [iL_get (by omega)]
  rw [List.getLast_eq_getElem]
theorem set_last {A : Ht} {o u : O} : (A ++ [o]).set A.length u = A ++ [u] := by simp
section
variable {G : Env'} (g : GOk3 G)
theorem b__law_tape (ds : List D) (A : Ht) (E Q : D → Ht → Prop) (_ : ds.length = 1) (h : con__law_tape ds A E Q) : conOf G cc__law_tape.N ir__law_tape ds A E Q := by
  obtain ⟨ns, rfl, hn, q⟩ := h
  refine ⟨by decide, trivial, ?_⟩
  refine loop_go (fun i ρ A' => ∃ st xs u v, ρ = [some (.rol (iL ns)), some (.int st), some (.obj A.length), u, v] ∧ (0 ≤ st ∧ st < 2305843009213693951) ∧ xs.length ≤ i ∧ A' = A ++ [.lst (iL xs)]) ⟨1616023, [], none, none, rfl, by decide, Nat.le_refl _, rfl⟩ (fun _ _ _ _ => trivial) ?_ ?_
  · rintro i hi ρ A1 k ⟨st, xs, u, v, rfl, ⟨s1, s2⟩, hx, rfl⟩ hk
    have hi2 : i < ns.length := by simpa using hi
    have e : (iL ns)[i] = .int ns[i] := by simp
    rw [e]
    have lastT : ∀ c st' : Int, 0 ≤ st' → st' < 2305843009213693951 → k [some (.rol (iL ns)), some (.int st'), some (.obj A.length), some (.int ns[i]), some (.int c)] (A ++ [.lst (iL xs ++ [.int c])]) := fun c st' h1 h2 =>
      hk _ _ ⟨st', xs ++ [c], _, _, rfl, ⟨h1, h2⟩, by simp; omega, by simp⟩
    have lastF : ∀ c st' : Int, 0 ≤ st' → st' < 2305843009213693951 → k [some (.rol (iL ns)), some (.int st'), some (.obj A.length), some (.int ns[i]), some (.int c)] (A ++ [.lst (iL xs)]) := fun c st' h1 h2 =>
      hk _ _ ⟨st', xs, _, _, rfl, ⟨h1, h2⟩, by omega, rfl⟩
    have hsz : (iL xs).length < PySem.sizeLine := by have := sl32; simp; omega
    refine ⟨True.intro, True.intro, ?_⟩
    conv => whnf
    have two : ∀ c : Int, (L2.CMul st 69697 ∨ L2.CMulW st 69697) ∧ (0 : Int) < 2305843009213693951 := fun c => ⟨.inl (.inr ⟨by decide, by decide⟩), by omega⟩
    have md : ∀ x : Int, 0 ≤ x % 2305843009213693951 ∧ x % 2305843009213693951 < 2305843009213693951 := fun x => ⟨Int.emod_nonneg _ (by omega), Int.emod_lt_of_pos _ (by omega)⟩
    by_cases h : ns[i] < 0
    · rw [decide_eq_true h]
      refine ⟨True.intro, .inl (.inl ⟨by decide, by decide⟩), ?_⟩
      refine ⟨True.intro, (two 0).1, True.intro, (two 0).2, (two 0).2, ?_⟩
      refine ⟨True.intro, ⟨by decide, by decide, by decide⟩, ?_⟩
      conv => whnf
      by_cases h2 : (10 : Int) ^ (18 : Int).toNat ≤ 5 - 2 * ns[i]
      · rw [decide_eq_true h2]
        refine ⟨True.intro, q_rc (.inl rfl) at_push, True.intro, ?_⟩
        conv => whnf
        rw [at_push]
        refine ⟨hsz, ?_⟩
        rw [set_last]
        exact lastT (5 - 2 * ns[i]) _ (md _).1 (md _).2
      · rw [decide_eq_false h2]
        exact lastF (5 - 2 * ns[i]) _ (md _).1 (md _).2
    · rw [decide_eq_false h]
      refine ⟨True.intro, (two 0).1, True.intro, (two 0).2, (two 0).2, ?_⟩
      refine ⟨True.intro, ⟨by decide, by decide, by decide⟩, ?_⟩
      conv => whnf
      by_cases h2 : (10 : Int) ^ (18 : Int).toNat ≤ ns[i]
      · rw [decide_eq_true h2]
        refine ⟨True.intro, q_rc (.inl rfl) at_push, True.intro, ?_⟩
        conv => whnf
        rw [at_push]
        refine ⟨hsz, ?_⟩
        rw [set_last]
        exact lastT ns[i] _ (md _).1 (md _).2
      · rw [decide_eq_false h2]
        exact lastF ns[i] _ (md _).1 (md _).2
  · rintro ρ A1 ⟨st, xs, u, v, rfl, hs, hx, rfl⟩
    have hx : xs.length ≤ ns.length := by simpa using hx
    refine ⟨True.intro, q_rc (.inl rfl) at_push, True.intro, ?_⟩
    conv => whnf
    rw [at_push]
    refine ⟨by have := sl32; simp; omega, ?_⟩
    rw [set_last]
    refine ⟨True.intro, q_rc (.inr (.inr rfl)) at_push, ?_⟩
    conv => whnf
    rw [at_push]
    conv => whnf
    rw [set_last]
    refine ⟨True.intro, q _ _ (Nat.le_refl _) .push ⟨(xs ++ [st]).reverse, by simp, by simp; omega, ?_⟩⟩
    rw [at_push]
    simp
theorem b__law_pick (ds : List D) (A : Ht) (E Q : D → Ht → Prop) (_ : ds.length = 2) (h : con__law_pick ds A E Q) : conOf G cc__law_pick.N ir__law_pick ds A E Q := by
  obtain ⟨t, mm, rfl, h1, h2, ⟨xs, x1, x2, x3⟩, q⟩ := h
  refine whl_go (fun m ρ A' => ∃ xs : List Int, xs ≠ [] ∧ xs.length ≤ 64 ∧ m = xs.length ∧ ρ = [some (.obj t), some (.int mm), none, none, none] ∧ A'[t]? = some (.lst (iL xs)) ∧ Keep [t] A A' ∧ A'.length = A.length)
    (fun ρ A' => ∃ xs : List Int, xs ≠ [] ∧ xs.length ≤ 64 ∧ ρ = [some (.obj t), some (.int mm), none, none, none] ∧ A'[t]? = some (.lst (iL xs)) ∧ Keep [t] A A' ∧ A'.length = A.length) ⟨_, xs, x1, x2, rfl, rfl, x3, .refl, rfl⟩ ?_ ?_
  · rintro m ρ A1 k fin ⟨xs, x1, x2, rfl, rfl, x3, k1, k2⟩ hk hf
    have hfin := hf _ _ ⟨xs, x1, x2, rfl, x3, k1, k2⟩
    refine ⟨True.intro, ?_⟩
    conv => whnf
    rw [x3]
    conv => whnf
    by_cases c1 : (1 : Int) < ((iL xs).length : Int)
    · rw [decide_eq_true c1]
      refine ⟨True.intro, True.intro, ?_⟩
      conv => whnf
      rw [x3]
      conv => whnf
      rw [x3]
      conv => whnf
      rw [at_end x1]
      conv => whnf
      by_cases c2 : xs.getLast x1 < 2
      · rw [decide_eq_true c2]
        refine ⟨True.intro, q_rc (.inr (.inl rfl)) x3, ?_⟩
        conv => whnf
        rw [x3]
        conv => whnf
        have hl : (iL xs)[(iL xs).length - 1]? = some (.int (xs.getLast x1)) := by
          have hp := List.length_pos_iff.mpr x1
          rw [iL_len, iL_get (by omega), List.getLast_eq_getElem]
        rw [hl]
        refine hk _ _ (xs.length - 1) (by have := List.length_pos_iff.mpr x1; omega) ⟨xs.dropLast, ?_, by simp; omega, by simp, rfl, ?_, k1.trans (.set (by simp)), by simp [k2]⟩
        · intro z
          have := congrArg List.length z
          simp at this c1
          omega
        · rw [at_set x3]; simp
      · rw [decide_eq_false c2]
        exact hfin
    · rw [decide_eq_false c1]
      exact hfin
  · rintro ρ A1 ⟨xs, x1, x2, rfl, x3, k1, k2⟩
    refine ⟨True.intro, ?_⟩
    conv => whnf
    rw [x3]
    refine ⟨True.intro, ?_⟩
    have md : ∀ x : Int, 0 ≤ x % mm ∧ x % mm < mm := fun x => ⟨Int.emod_nonneg _ (by omega), Int.emod_lt_of_pos _ h1⟩
    have upd : ∀ (i : Nat) (y : Int), i < xs.length → Keep [t] A (A1.set t (.lst ((iL xs).set i (.int y)))) ∧ (A1.set t (.lst ((iL xs).set i (.int y)))).length = A.length ∧ tp (A1.set t (.lst ((iL xs).set i (.int y)))) t := fun i y hi =>
      ⟨k1.trans (.set (by simp)), by simp [k2], xs.set i y, by intro z; have := congrArg List.length z; simp at this; exact x1 this, by simp; omega, by rw [at_set x3]; simp⟩
    have hp := List.length_pos_iff.mpr x1
    have dv : ∀ x : Int, (0 : Int) < mm ∧ (mm < 1073741824 ∨ mm.natAbs.log2 < 9000) := fun x => ⟨h1, .inl (by omega)⟩
    conv => whnf
    by_cases c : (0 : Int) < ((iL xs).length : Int) - 1
    · rw [decide_eq_true c]
      refine ⟨True.intro, True.intro, ?_⟩
      conv => whnf
      rw [x3]
      conv => whnf
      rw [at_end x1]
      refine ⟨True.intro, True.intro, h1, .inl (by omega), True.intro, True.intro, ?_⟩
      conv => whnf
      rw [x3]
      conv => whnf
      have e : ((iL xs).length : Int) - 1 = ((xs.length - 1 : Nat) : Int) := by simp; omega
      have z : L2.ixN (iL xs).length (((iL xs).length : Int) - 1) = some (xs.length - 1) := by rw [e]; unfold L2.ixN; rw [if_pos (by omega), if_pos (by simp; omega)]; simp
      rw [z]
      obtain ⟨u1, u2, u3⟩ := upd (xs.length - 1) (xs.getLast x1 / mm) (by omega)
      exact ⟨True.intro, True.intro, h1, q _ _ (md _).1 (md _).2 u1 u2 u3⟩
    · rw [decide_eq_false c]
      refine ⟨True.intro, ?_⟩
      conv => whnf
      rw [x3]
      conv => whnf
      have z0 : L2.atI (iL xs) 0 = some (.int xs[0]) := L2.atI_nat (j := 0) (iL_get hp)
      rw [z0]
      refine ⟨.inl (.inr ⟨by decide, by decide⟩), (by omega : (0 : Int) < 2305843009213693951), True.intro, True.intro, ?_⟩
      conv => whnf
      rw [x3]
      conv => whnf
      have z : L2.ixN (iL xs).length 0 = some 0 := by unfold L2.ixN; rw [if_pos (by omega), if_pos (by simp; omega)]; simp
      rw [z]
      obtain ⟨u1, u2, u3⟩ := upd 0 ((xs[0] * 1099087573291919377 + 161616161617) % 2305843009213693951) hp
      exact ⟨True.intro, by decide, .inl (by decide), True.intro, h1, q _ _ (md _).1 (md _).2 u1 u2 u3⟩
end
end K16
end TextK16d

section TextK16e
set_option autoImplicit false
set_option maxRecDepth 100000
set_option maxHeartbeats 4000000
namespace K16
open PySem Px
theorem tp_keep {S : List Nat} {A A' : Ht} {t : Nat} (h : tp A t) (k : Keep S A A') (ht : t ∉ S) : tp A' t := by
  obtain ⟨xs, a, b, c⟩ := h
  exact ⟨xs, a, b, k.2 _ _ c ht⟩
theorem tp_lt {A : Ht} {t : Nat} (h : tp A t) : t < A.length := by
  obtain ⟨xs, a, b, c⟩ := h
  exact at_lt c
theorem tp_set {A : Ht} {t n : Nat} {o : O} (h : tp A t) (hn : n ≠ t) : tp (A.set n o) t := by
  obtain ⟨xs, a, b, c⟩ := h
  exact ⟨xs, a, b, by rw [List.getElem?_set_ne hn]; exact c⟩
def con__law_row : Con := fun ds A E Q => ∃ t, ds = [.obj t] ∧ tp A t ∧ ∀ A' n r, A.length ≤ n → Keep [t] A A' → tp A' t → A'[n]? = some (.lst (iL r)) → VOK r → r.length ≤ 480 → Q (.obj n) A'
theorem iL_app {a b : List Int} : iL a ++ iL b = iL (a ++ b) := by simp
theorem iL_one {x : Int} : [D.int x] = iL [x] := rfl
theorem cut1 {r : List Int} (h : 1 ≤ r.length) : cutD (iL r) (some 1) none = iL (r.drop 1) := by
  unfold cutD
  rw [show (HT.sIx (iL r).length 0 (some 1)) = 1 from by rw [show (1 : Int) = ((1 : Nat) : Int) from rfl, HT.sIx_nat]; simp; omega, HT.sIx_none]
  rw [List.take_of_length_le (by simp)]
  simp
theorem VOK.app {a b : List Int} (ha : VOK a) (hb : VOK b) : VOK (a ++ b) := fun x hx => by
  rcases List.mem_append.mp hx with h | h
  · exact ha x h
  · exact hb x h
theorem VOK.one {x : Int} (h0 : 0 ≤ x) (h1 : x < 3) : VOK [x] := fun y hy => by
  rw [List.mem_singleton] at hy
  omega
section
variable {G : Env'} (g : GOk3 G)
include g
theorem b__law_row (ds : List D) (A : Ht) (E Q : D → Ht → Prop) (_ : ds.length = 1) (h : con__law_row ds A E Q) : conOf G cc__law_row.N ir__law_row ds A E Q := by
  obtain ⟨t, rfl, ht, q⟩ := h
  have tl := tp_lt ht
  refine ⟨by decide, True.intro, use g._law_pick ⟨t, 8, rfl, by decide, by decide, tp_keep ht .push (S := []) (by simp), fun A1 r r0 r1 k1 l1 ht1 => ?_⟩⟩
  have e1 : A1[A.length]? = some (.lst [.int 0, .int 1, .int 2, .int 3, .int 5, .int 8, .int 12, .int 60]) := k1.2 _ _ at_push (by simp; omega)
  have kA : Keep [t] A A1 := .trans .push k1
  have l1' : A.length < A1.length := by rw [l1]; simp
  obtain ⟨L, eL, L0, L1⟩ : ∃ L, L2.atI [D.int 0, .int 1, .int 2, .int 3, .int 5, .int 8, .int 12, .int 60] r = some (.int L) ∧ 0 ≤ L ∧ (L ≤ 12 ∨ L = 60) := by
    have : r = 0 ∨ r = 1 ∨ r = 2 ∨ r = 3 ∨ r = 4 ∨ r = 5 ∨ r = 6 ∨ r = 7 := by omega
    rcases this with rfl | rfl | rfl | rfl | rfl | rfl | rfl | rfl
    · exact ⟨0, rfl, by decide, .inl (by decide)⟩
    · exact ⟨1, rfl, by decide, .inl (by decide)⟩
    · exact ⟨2, rfl, by decide, .inl (by decide)⟩
    · exact ⟨3, rfl, by decide, .inl (by decide)⟩
    · exact ⟨5, rfl, by decide, .inl (by decide)⟩
    · exact ⟨8, rfl, by decide, .inl (by decide)⟩
    · exact ⟨12, rfl, by decide, .inl (by decide)⟩
    · exact ⟨60, rfl, by decide, .inr rfl⟩
  conv => whnf
  rw [e1]
  conv => whnf
  rw [eL]
  refine ⟨by decide, True.intro, ?_⟩
  have kB : Keep [t] A (A1 ++ [.lst []]) := kA.trans .push
  have mn : ∀ j : Int, j = (if (12 : Int) < L then 12 else L) → -(2 ^ 62) ≤ j ∧ j < 2 ^ 62 ∧ j.toNat ≤ 12 ∧ (j.toNat : Int) = j ∧ (L = 60 → j.toNat = 12) ∧ (L ≤ 12 → (j.toNat : Int) = L) := by
    intro j hj
    subst hj
    split <;> (refine ⟨by omega, by omega, by omega, by omega, by omega, by omega⟩)
  obtain ⟨j1, j2, j3, j4, j5, j6⟩ := mn _ rfl
  refine ⟨j1, j2, ?_⟩
  refine loop_go (fun i ρ A' => ∃ rr u, ρ = [some (.obj t), some (.int L), some (.obj A1.length), u] ∧ rr.length = i ∧ VOK rr ∧ A'[A1.length]? = some (.lst (iL rr)) ∧ Keep [t] A A' ∧ tp A' t ∧ A1.length < A'.length) ⟨[], none, rfl, rfl, by simp [VOK], at_push, kB, tp_keep ht1 .push (S := []) (by simp), by simp⟩ (fun _ _ _ _ => True.intro) ?_ ?_
  · rintro i hi ρ A2 k ⟨rr, u, rfl, hlen, hv, e2, k2, ht2, l2⟩ hk
    have hi2 : i < 12 := by simp [rngD] at hi; omega
    refine ⟨True.intro, q_rc (.inl rfl) e2, True.intro, use g._law_pick ⟨t, 3, rfl, by decide, by decide, ht2, fun A3 r r0 r1 k3 l3 ht3 => ?_⟩⟩
    have e3 : A3[A1.length]? = some (.lst (iL rr)) := k3.2 _ _ e2 (by simp; omega)
    conv => whnf
    rw [e3]
    refine ⟨by have := sl32; simp; omega, ?_⟩
    exact hk _ _ ⟨rr ++ [r], _, rfl, by simp [hlen], hv.app (.one r0 r1), by rw [at_set e3]; simp, (k2.trans k3).wr (by omega), tp_set ht3 (by omega), by simp; omega⟩
  · rintro ρ A2 ⟨rr, u, rfl, hlen, hv, e2, k2, ht2, l2⟩
    have hlen2 : (L = 60 → rr.length = 12) ∧ (L ≤ 12 → (rr.length : Int) = L) := by
      rw [hlen]
      simp only [rngD, List.length_map, List.length_range]
      exact ⟨j5, j6⟩
    refine whl_go (fun m ρ A' => ∃ n rr, ρ = [some (.obj t), some (.int L), some (.obj n), u] ∧ m = 100 - rr.length ∧ VOK rr ∧ rr.length ≤ 120 ∧ ((rr.length : Int) < L → 12 ≤ rr.length) ∧ A.length ≤ n ∧ A'[n]? = some (.lst (iL rr)) ∧ Keep [t] A A' ∧ tp A' t)
      (fun ρ A' => ∃ n rr, ρ = [some (.obj t), some (.int L), some (.obj n), u] ∧ VOK rr ∧ rr.length ≤ 120 ∧ A.length ≤ n ∧ A'[n]? = some (.lst (iL rr)) ∧ Keep [t] A A' ∧ tp A' t) ⟨_, A1.length, rr, rfl, rfl, hv, by omega, by omega, by omega, e2, k2, ht2⟩ ?_ ?_
    · rintro m ρ A3 k fin ⟨n, rr, rfl, rfl, hv, hl, h12, hn, e3, k3, ht3⟩ hk hf
      refine ⟨True.intro, ?_⟩
      conv => whnf
      rw [e3]
      refine ⟨True.intro, ?_⟩
      conv => whnf
      by_cases c : ((iL rr).length : Int) < L
      · rw [decide_eq_true c]
        rw [iL_len] at c
        have h12 := h12 c
        refine ⟨True.intro, True.intro, ?_⟩
        conv => whnf
        rw [e3]
        conv => whnf
        rw [cut1 (by omega)]
        have hne : n ≠ A3.length := by have := at_lt e3; omega
        have e4 : (A3 ++ [O.lst (iL (rr.drop 1))])[n]? = some (.lst (iL rr)) := by rw [List.getElem?_append_left (at_lt e3)]; exact e3
        rw [e4, at_push]
        refine ⟨by have := sl32; simp; omega, ?_⟩
        refine hk _ _ (100 - (rr ++ rr.drop 1).length) (by simp; omega) ⟨_, rr ++ rr.drop 1, rfl, rfl, hv.app fun x hx => hv x (List.mem_of_mem_drop hx), by simp; omega, by simp; omega, ?_, ?_, (k3.trans .push).trans .push, tp_keep (tp_keep ht3 .push (S := []) (by simp)) .push (S := []) (by simp)⟩
        · simp; have := k3.1; omega
        · rw [iL_app]; exact at_push
      · rw [decide_eq_false c]
        exact hf _ _ ⟨n, rr, rfl, hv, hl, hn, e3, k3, ht3⟩
    · rintro ρ A3 ⟨n, rr, rfl, hv, hl, hn, e3, k3, ht3⟩
      refine ⟨True.intro, ?_⟩
      conv => whnf
      have fin : ∀ A', Keep [t] A A' → tp A' t → A'[n]? = some (.lst (iL rr)) → Q (.obj n) A' := fun A' k' ht' e' => q A' n rr hn k' ht' e' hv (by omega)
      by_cases c : L = 60
      · rw [decide_eq_true c]
        refine ⟨True.intro, use g._law_pick ⟨t, 6, rfl, by decide, by decide, ht3, fun A4 r r0 r1 k4 l4 ht4 => ?_⟩⟩
        have tn : n ≠ t := by omega
        have e4 : A4[n]? = some (.lst (iL rr)) := k4.2 _ _ e3 (by simp; exact tn)
        conv => whnf
        by_cases c2 : r = 0
        · rw [decide_eq_true c2]
          refine ⟨True.intro, ?_⟩
          conv => whnf
          rw [e4]
          refine ⟨by decide, by decide, by have := sl32; simp; omega, True.intro, ?_⟩
          refine q _ _ (List.replicate 4 rr).flatten (by have := k3.1; omega) ((k3.trans k4).trans .push) (tp_keep ht4 .push (S := []) (by simp)) ?_ ?_ ?_
          · have z : (List.replicate (4 : Int).toNat (iL rr)).flatten = iL (List.replicate 4 rr).flatten := by
              show (List.replicate 4 (iL rr)).flatten = _
              simp [List.replicate]
            rw [z]; exact at_push
          · intro x hx
            rw [List.mem_flatten] at hx
            obtain ⟨l, hl, hx⟩ := hx
            rw [(List.mem_replicate.mp hl).2] at hx
            exact hv x hx
          · simp [List.replicate]; omega
        · rw [decide_eq_false c2]
          exact ⟨True.intro, fin _ (k3.trans k4) ht4 e4⟩
      · rw [decide_eq_false c]
        exact ⟨True.intro, fin _ k3 ht3 e3⟩
end
end K16
end TextK16e

section TextK16f
set_option autoImplicit false
set_option maxRecDepth 100000
set_option maxHeartbeats 4000000
namespace K16
open PySem Px
def con__law_beside : Con := fun ds A E Q => ∃ t m r, ds = [.obj t, .obj m] ∧ tp A t ∧ A[m]? = some (.lst (iL r)) ∧ m ≠ t ∧ VOK r ∧ r.length ≤ 500 ∧
  ∀ A' n r', A.length ≤ n → Keep [t] A A' → tp A' t → A'[n]? = some (.lst (iL r')) → VOK r' → r'.length = r.length → Q (.obj n) A'
def con__law_is_number : Con := fun ds A E Q => ∃ k, ds = [.int k, .int k] ∧ Q (.bl true) A
def con__law_is_truth : Con := fun ds A E Q => ∃ k, ds = [.bl k, .bl k] ∧ Q (.bl true) A
def con__law_is_row : Con := fun ds A E Q => ∃ m r, ds = [.tup (iL r), .obj m] ∧ A[m]? = some (.lst (iL r)) ∧ r.length ≤ 10000 ∧ Q (.bl true) A
def con__law_joins : Con := fun ds A E Q => ds = [] ∧ ∀ A' n a b c, Keep [] A A' → A'[n]? = some (.lst [.obj a, .obj b, .obj c]) → A'[a]? = some (.lst (iL [0, 2, 2])) → A'[b]? = some (.lst (iL [2, 1, 2])) → A'[c]? = some (.lst (iL [2, 2, 2])) → Q (.obj n) A'
def con__law_above : Con := fun ds A E Q => ∃ i j : Int, ds = [.int i, .int j] ∧ (0 ≤ i ∧ i ≤ 2) ∧ (0 ≤ j ∧ j ≤ 2) ∧ ∀ A', Keep [] A A' → Q (.bl (ab i j)) A'
def con__law_all_above : Con := fun ds A E Q => ∃ m n xs ys, ds = [.obj m, .obj n] ∧ A[m]? = some (.lst (iL xs)) ∧ A[n]? = some (.lst (iL ys)) ∧ VOK xs ∧ VOK ys ∧ xs.length ≤ 1000 ∧ ys.length = xs.length ∧ ∀ A', Keep [] A A' → Q (.bl (aboveAll xs ys)) A'
structure GOk4 (G : Env') : Prop extends GOk3 G where
  _law_is_number : G.con "_law_is_number" = con__law_is_number
  _law_above : G.con "_law_above" = con__law_above
theorem VOK.set {r : List Int} {i : Nat} {x : Int} (h : VOK r) (h0 : 0 ≤ x) (h1 : x ≤ 2) : VOK (r.set i x) := fun y hy => by
  rcases List.mem_or_eq_of_mem_set hy with z | z
  · exact h y z
  · rw [z]; exact ⟨h0, h1⟩
theorem len3 {a b c : D} : [a, b, c].length ≤ PySem.sizeLine := by have := sl32; simp; omega
theorem v3 {i : Int} (h : 0 ≤ i ∧ i ≤ 2) : i = 0 ∨ i = 1 ∨ i = 2 := by omega
section
variable {G : Env'} (g : GOk4 G)
include g
theorem b__law_is_number (ds : List D) (A : Ht) (E Q : D → Ht → Prop) (_ : ds.length = 2) (h : con__law_is_number ds A E Q) : conOf G cc__law_is_number.N ir__law_is_number ds A E Q := by
  obtain ⟨k, rfl, q⟩ := h
  refine ⟨True.intro, True.intro, True.intro, True.intro, ?_⟩
  conv => whnf
  rw [decide_eq_true rfl]
  exact q
theorem b__law_is_truth (ds : List D) (A : Ht) (E Q : D → Ht → Prop) (_ : ds.length = 2) (h : con__law_is_truth ds A E Q) : conOf G cc__law_is_truth.N ir__law_is_truth ds A E Q := by
  obtain ⟨k, rfl, q⟩ := h
  cases k
  · exact ⟨True.intro, True.intro, True.intro, rfl, rfl, q⟩
  · exact ⟨True.intro, True.intro, True.intro, rfl, rfl, q⟩
theorem b__law_joins (ds : List D) (A : Ht) (E Q : D → Ht → Prop) (_ : ds.length = 0) (h : con__law_joins ds A E Q) : conOf G cc__law_joins.N ir__law_joins ds A E Q := by
  obtain ⟨rfl, q⟩ := h
  refine ⟨by decide, by decide, by decide, len3, ?_⟩
  refine q _ _ A.length (A.length + 1) (A.length + 2) ((Keep.push.trans .push).trans (.trans .push .push)) ?_ ?_ ?_ ?_
  · rw [at_push]; simp
  · simp [List.getElem?_append]
  · simp [List.getElem?_append]
  · simp [List.getElem?_append]
theorem b__law_above (ds : List D) (A : Ht) (E Q : D → Ht → Prop) (_ : ds.length = 2) (h : con__law_above ds A E Q) : conOf G cc__law_above.N ir__law_above ds A E Q := by
  obtain ⟨i, j, rfl, hi, hj, q⟩ := h
  have k : ∀ a b c d, Keep [] A ((((A ++ [a]) ++ [b]) ++ [c]) ++ [d]) := fun a b c d => (Keep.push.trans .push).trans (.trans .push .push)
  have r0 : ∀ a b c d : O, ((((A ++ [a]) ++ [b]) ++ [c]) ++ [d])[A.length]? = some a := fun a b c d => by simp [List.getElem?_append]
  have r1 : ∀ a b c d : O, ((((A ++ [a]) ++ [b]) ++ [c]) ++ [d])[(A ++ [a]).length]? = some b := fun a b c d => by simp [List.getElem?_append]
  have r2 : ∀ a b c d : O, ((((A ++ [a]) ++ [b]) ++ [c]) ++ [d])[((A ++ [a]) ++ [b]).length]? = some c := fun a b c d => by simp [List.getElem?_append]
  refine ⟨by decide, by decide, by decide, len3, True.intro, ?_⟩
  conv => whnf
  rw [at_push]
  rcases v3 hi with rfl | rfl | rfl
  · refine ⟨True.intro, ?_⟩
    conv => whnf
    rw [r0]
    rcases v3 hj with rfl | rfl | rfl <;> exact q _ (k _ _ _ _)
  · refine ⟨True.intro, ?_⟩
    conv => whnf
    rw [r1]
    rcases v3 hj with rfl | rfl | rfl <;> exact q _ (k _ _ _ _)
  · refine ⟨True.intro, ?_⟩
    conv => whnf
    rw [r2]
    rcases v3 hj with rfl | rfl | rfl <;> exact q _ (k _ _ _ _)
theorem b__law_is_row (ds : List D) (A : Ht) (E Q : D → Ht → Prop) (_ : ds.length = 2) (h : con__law_is_row ds A E Q) : conOf G cc__law_is_row.N ir__law_is_row ds A E Q := by
  obtain ⟨m, r, rfl, e, hl, q⟩ := h
  refine ⟨True.intro, True.intro, True.intro, ?_⟩
  conv => whnf
  rw [e]
  conv => whnf
  rw [decide_eq_true rfl]
  refine ⟨True.intro, ?_⟩
  conv => whnf
  rw [e]
  refine ⟨by omega, by simp; omega, ?_⟩
  refine loop_go (fun i ρ A' => A' = A ∧ ∃ u, ρ = [some (.tup (iL r)), some (.obj m), u]) ⟨rfl, none, rfl⟩ (fun _ _ _ _ => True.intro) ?_ ?_
  · rintro i hi ρ A1 k ⟨rfl, u, rfl⟩ hk
    have hi2 : i < r.length := by simpa [rngD] using hi
    have ei : (rngD 0 ((iL r).length : Int).toNat)[i] = .int (i : Int) := by simp [rngD]
    rw [ei]
    refine ⟨True.intro, True.intro, ?_⟩
    conv => whnf
    rw [L2.atI_nat (iL_get hi2)]
    refine ⟨True.intro, True.intro, ?_⟩
    conv => whnf
    rw [e]
    conv => whnf
    rw [L2.atI_nat (iL_get hi2)]
    exact use g._law_is_number ⟨_, rfl, hk _ _ ⟨rfl, _, rfl⟩⟩
  · rintro ρ A1 ⟨rfl, u, rfl⟩
    exact q
theorem b__law_all_above (ds : List D) (A : Ht) (E Q : D → Ht → Prop) (_ : ds.length = 2) (h : con__law_all_above ds A E Q) : conOf G cc__law_all_above.N ir__law_all_above ds A E Q := by
  obtain ⟨m, n, xs, ys, rfl, em, en, hx, hy, hl, hxy, q⟩ := h
  refine ⟨True.intro, ?_⟩
  conv => whnf
  rw [em]
  refine ⟨by omega, by simp; omega, ?_⟩
  refine loop_go (fun i ρ A' => Keep [] A A' ∧ (∃ u, ρ = [some (.obj m), some (.obj n), u]) ∧ ∀ j (h1 : j < xs.length) (h2 : j < ys.length), j < i → ab xs[j] ys[j] = true) ⟨.refl, ⟨none, rfl⟩, fun j _ _ hj => by omega⟩ (fun _ _ _ _ => True.intro) ?_ ?_
  · rintro i hi ρ A1 k ⟨k1, ⟨u, rfl⟩, hall⟩ hk
    have hi2 : i < xs.length := by simpa [rngD] using hi
    have hi3 : i < ys.length := by omega
    have ei : (rngD 0 ((iL xs).length : Int).toNat)[i] = .int (i : Int) := by simp [rngD]
    rw [ei]
    have em1 := k1.2 _ _ em (by simp)
    have en1 := k1.2 _ _ en (by simp)
    refine ⟨True.intro, True.intro, ?_⟩
    conv => whnf
    rw [em1]
    conv => whnf
    rw [L2.atI_nat (iL_get hi2)]
    refine ⟨True.intro, True.intro, ?_⟩
    conv => whnf
    rw [en1]
    conv => whnf
    rw [L2.atI_nat (iL_get hi3)]
    refine use g._law_above ⟨_, _, rfl, hx _ (List.getElem_mem hi2), hy _ (List.getElem_mem hi3), fun A2 k2 => ?_⟩
    cases hb : ab xs[i] ys[i] with
    | true =>
      refine hk _ _ ⟨k1.trans k2, ⟨_, rfl⟩, fun j h1 h2 hj => ?_⟩
      by_cases hji : j = i
      · subst hji; exact hb
      · exact hall j h1 h2 (by omega)
    | false =>
      have e : aboveAll xs ys = false := by
        unfold aboveAll
        rw [List.all_eq_false]
        refine ⟨(xs[i], ys[i]), ?_, by rw [hb]; simp⟩
        rw [List.mem_iff_getElem]
        exact ⟨i, by simp; omega, by simp⟩
      have q2 := q _ (k1.trans k2)
      rw [e] at q2
      exact q2
  · rintro ρ A1 ⟨k1, ⟨u, rfl⟩, hall⟩
    have e : aboveAll xs ys = true := by
      unfold aboveAll
      rw [List.all_eq_true]
      intro p hp
      obtain ⟨j, hj, rfl⟩ := List.getElem_of_mem hp
      have hj2 := Nat.lt_min.mp (show j < min xs.length ys.length by simpa using hj)
      rw [List.getElem_zip]
      exact hall j hj2.1 hj2.2 (by simp [rngD]; omega)
    have q2 := q _ k1
    rw [e] at q2
    exact q2
theorem b__law_beside (ds : List D) (A : Ht) (E Q : D → Ht → Prop) (_ : ds.length = 2) (h : con__law_beside ds A E Q) : conOf G cc__law_beside.N ir__law_beside ds A E Q := by
  obtain ⟨t, m, r, rfl, ht, em, hmt, hv, hl, q⟩ := h
  have tl := tp_lt ht
  have ml := at_lt em
  refine ⟨True.intro, use g._law_pick ⟨t, 5, rfl, by decide, by decide, ht, fun A1 K r0 r1 k1 l1 ht1 => ?_⟩⟩
  have em1 := k1.2 _ _ em (by simpa using hmt)
  refine ⟨True.intro, ?_⟩
  conv => whnf
  rw [em1]
  refine ⟨True.intro, ?_⟩
  conv => whnf
  have em2 : (A1 ++ [O.lst (iL r)])[m]? = some (.lst (iL r)) := by rw [List.getElem?_append_left (at_lt em1)]; exact em1
  rw [em2]
  refine ⟨by omega, by simp; omega, ?_⟩
  have nA : A.length ≤ A1.length := by omega
  -- what stands at every turn
  have st : ∀ (N : Dn) (rest : List (Option D)) (i : Nat), rest = [some (.obj t), some (.obj m), some (.int K), some (.obj A1.length), some (.int (i : Int))] → i < r.length → ∀ (c : Ie) (e : Ie) (A2 : Ht), (∃ r', A2[A1.length]? = some (.lst (iL r')) ∧ VOK r' ∧ r'.length = r.length ∧ Keep [t] A A2 ∧ tp A2 t) →
      (∀ Q : Bool → Ht → Prop, Q true A2 → Q false A2 → wT G c rest A2 (N.xe rest) Q) → (∀ Q : D → Ht → Prop, (∀ x A3, 0 ≤ x → x ≤ 2 → Keep [t] A2 A3 → tp A3 t → Q (.int x) A3) → wE G e rest A2 (N.xe rest) Q) →
      (∀ A3, (∃ r', A3[A1.length]? = some (.lst (iL r')) ∧ VOK r' ∧ r'.length = r.length ∧ Keep [t] A A3 ∧ tp A3 t) → N.nx rest A3) → wS G (.ife c (.cons (.asgS (.var 3) (.var 4) e) .nil) .nil) N rest A2 := by
    intro N rest i hrest hi c e A2 ⟨r', e2, v2, l2, k2, t2⟩ hc he hk
    subst hrest
    refine hc _ ?_ ?_
    · refine he _ fun x A3 x0 x1 k3 ht3 => ?_
      refine ⟨True.intro, True.intro, ?_⟩
      have e3 : A3[A1.length]? = some (.lst (iL r')) := k3.2 _ _ e2 (by simp; omega)
      refine q_set e3 (by simp; omega) ?_
      exact hk _ ⟨r'.set i x, by rw [at_set e3]; simp, v2.set x0 x1, by simp [l2], (k2.trans k3).wr nA, tp_set ht3 (by omega)⟩
    · exact hk _ ⟨r', e2, v2, l2, k2, t2⟩
  refine loop_go (fun i ρ A' => ∃ u, ρ = [some (.obj t), some (.obj m), some (.int K), some (.obj A1.length), u] ∧ ∃ r', A'[A1.length]? = some (.lst (iL r')) ∧ VOK r' ∧ r'.length = r.length ∧ Keep [t] A A' ∧ tp A' t) ⟨none, rfl, r, at_push, hv, rfl, k1.trans .push, tp_keep ht1 .push (S := []) (by simp)⟩ (fun _ _ _ _ => True.intro) ?_ ?_
  · rintro i hi ρ A2 k ⟨u, rfl, hst⟩ hk
    have hi2 : i < r.length := by simpa [rngD] using hi
    have ei : (rngD 0 ((iL r).length : Int).toNat)[i] = .int (i : Int) := by simp [rngD]
    rw [ei]
    refine st _ _ i rfl hi2 _ _ A2 hst (fun Q qt qf => ?_) (fun Q qq => qq 2 A2 (by decide) (by decide) .refl (by obtain ⟨_, _, _, _, _, h⟩ := hst; exact h)) fun A3 hst3 => ?_
    · refine ⟨True.intro, ?_⟩
      conv => whnf
      by_cases c : K = 1
      · rw [decide_eq_true c]
        refine ⟨True.intro, by decide, ?_⟩
        conv => whnf
        by_cases c2 : (i : Int) % 3 = 1
        · rw [decide_eq_true c2]; exact qf
        · rw [decide_eq_false c2]; exact qt
      · rw [decide_eq_false c]; exact qf
    refine st _ _ i rfl hi2 _ _ A3 hst3 (fun Q qt qf => ?_) (fun Q qq => ⟨True.intro, by decide, qq _ A3 (Int.emod_nonneg _ (by decide)) (by have := Int.emod_lt_of_pos (i : Int) (show (0 : Int) < 2 by decide); omega) .refl (by obtain ⟨_, _, _, _, _, h⟩ := hst3; exact h)⟩) fun A4 hst4 => ?_
    · refine ⟨True.intro, ?_⟩
      conv => whnf
      by_cases c : K = 2
      · rw [decide_eq_true c]
        refine ⟨True.intro, True.intro, ?_⟩
        conv => whnf
        obtain ⟨_, _, _, _, k3, _⟩ := hst3
        rw [k3.2 _ _ em (by simpa using hmt)]
        conv => whnf
        rw [L2.atI_nat (iL_get hi2)]
        conv => whnf
        by_cases c2 : r[i] = 2
        · rw [decide_eq_true c2]; exact qt
        · rw [decide_eq_false c2]; exact qf
      · rw [decide_eq_false c]; exact qf
    refine st _ _ i rfl hi2 _ _ A4 hst4 (fun Q qt qf => ?_) (fun Q qq => ?_) fun A5 hst5 => hk _ _ ⟨_, rfl, hst5⟩
    · refine ⟨True.intro, ?_⟩
      conv => whnf
      by_cases c : K = 3
      · rw [decide_eq_true c]
        refine ⟨True.intro, ?_⟩
        conv => whnf
        by_cases c2 : (i : Int) < 24
        · rw [decide_eq_true c2]; exact qt
        · rw [decide_eq_false c2]; exact qf
      · rw [decide_eq_false c]; exact qf
    · obtain ⟨_, _, _, _, _, h4⟩ := hst4
      exact ⟨True.intro, use g._law_pick ⟨t, 3, rfl, by decide, by decide, h4, fun A5 x x0 x1 k5 l5 t5 => qq x A5 x0 (by omega) k5 t5⟩⟩
  · rintro ρ A2 ⟨u, rfl, r', e2, v2, l2, k2, t2⟩
    have fin : ∀ A3 r'', A3[A1.length]? = some (.lst (iL r'')) → VOK r'' → r''.length = r.length → Keep [t] A A3 → tp A3 t → Q (.obj A1.length) A3 := fun A3 r'' e v l k t' => q A3 _ r'' nA k t' e v l
    refine ⟨True.intro, ?_⟩
    conv => whnf
    by_cases c : K = 4
    · rw [decide_eq_true c]
      refine ⟨True.intro, ?_⟩
      conv => whnf
      have em3 := k2.2 _ _ em (by simpa using hmt)
      rw [em3]
      conv => whnf
      by_cases c2 : (0 : Int) < ((iL r).length : Int)
      · rw [decide_eq_true c2]
        have hp : 0 < r.length := by simpa using c2
        refine ⟨True.intro, True.intro, ?_⟩
        conv => whnf
        rw [em3]
        refine use g._law_pick ⟨t, ((iL r).length : Int), rfl, c2, by simp; omega, t2, fun A3 p p0 p1 k3 l3 t3 => ?_⟩
        have e3 : A3[A1.length]? = some (.lst (iL r')) := k3.2 _ _ e2 (by simp; omega)
        obtain ⟨pn, rfl⟩ := Int.eq_ofNat_of_zero_le p0
        have hpn : pn < r'.length := by simp at p1; omega
        refine ⟨True.intro, True.intro, ?_⟩
        conv => whnf
        rw [e3]
        conv => whnf
        rw [L2.atI_nat (iL_get hpn)]
        refine ⟨True.intro, use g._law_pick ⟨t, 2, rfl, by decide, by decide, t3, fun A4 y y0 y1 k4 l4 t4 => ?_⟩⟩
        have e4 : A4[A1.length]? = some (.lst (iL r')) := k4.2 _ _ e3 (by simp; omega)
        refine ⟨by decide, True.intro, True.intro, ?_⟩
        refine q_set e4 (by simpa using hpn) ?_
        refine ⟨True.intro, fin _ (r'.set pn ((r'[pn] + 1 + y) % 3)) (by rw [at_set e4]; simp) (v2.set (Int.emod_nonneg _ (by decide)) (by have := Int.emod_lt_of_pos (r'[pn] + 1 + y) (show (0 : Int) < 3 by decide); omega)) (by simp [l2]) (((k2.trans k3).trans k4).wr nA) (tp_set t4 (by omega))⟩
      · rw [decide_eq_false c2]
        exact ⟨True.intro, fin _ r' e2 v2 l2 k2 t2⟩
    · rw [decide_eq_false c]
      exact ⟨True.intro, fin _ r' e2 v2 l2 k2 t2⟩
end
end K16
end TextK16f

section TextK16g
set_option autoImplicit false
set_option maxRecDepth 100000
set_option maxHeartbeats 4000000
namespace K16
open PySem Px
def mk (v : Int) : Str := if v = 0 then "0" else if v = 1 then "1" else "x"
def mkc (v : Int) : Nat := if v = 0 then 48 else if v = 1 then 49 else 120
def vtext (l : List Int) : Str := if l = [] then "-" else Txt.join "" (l.map mk)
theorem mk_cps {v : Int} : (mk v).cps.toList = [mkc v] := by
  unfold mk mkc
  split
  · rfl
  · split <;> rfl
theorem fold_cps : ∀ (parts : List Str) (acc : Array Nat), (parts.foldl (fun acc p => acc ++ ("" : Str).cps ++ p.cps) acc).toList = acc.toList ++ parts.flatMap (·.cps.toList)
  | [], acc => by simp
  | p :: r, acc => by
    rw [List.foldl_cons, fold_cps r, List.flatMap_cons]
    have e : ("" : Str).cps = #[] := rfl
    rw [e]
    simp
theorem join_cps (parts : List Str) : (Txt.join "" parts).cps.toList = parts.flatMap (·.cps.toList) := by
  show ((parts.drop 1).foldl (fun acc p => acc ++ ("" : Str).cps ++ p.cps) (parts.headD Str.empty).cps).toList = _
  rw [fold_cps]
  cases parts with
  | nil => rfl
  | cons p r => simp
theorem join_marks (l : List Int) : (Txt.join "" (l.map mk)).cps.toList = l.map mkc := by
  rw [join_cps, List.flatMap_map]
  induction l with
  | nil => rfl
  | cons x r ih => rw [List.flatMap_cons, ih, mk_cps]; rfl
theorem vtext_cps {l : List Int} (h : l ≠ []) : (vtext l).cps.toList = l.map mkc := by
  unfold vtext
  rw [if_neg h, join_marks]
def isMark (c : Nat) : Bool := c == 48 || c == 49 || c == 120
def code (c : Nat) : Int := if c = 48 then 0 else if c = 49 then 1 else 2
theorem mark3 {c : Nat} (h : isMark c = true) : c = 48 ∨ c = 49 ∨ c = 120 := by
  unfold isMark at h
  simp at h
  omega
theorem occ_yes {c : Nat} (h : isMark c = true) : (Builtin.Str.occurrences "01x" ⟨#[c]⟩ 0 ("01x" : Str).length 1).isEmpty = false := by
  rcases mark3 h with rfl | rfl | rfl <;> decide +kernel
theorem find_yes {c : Nat} (h : isMark c = true) : Txt.find "01x" ⟨#[c]⟩ = code c := by
  rcases mark3 h with rfl | rfl | rfl <;> decide +kernel
theorem occ_no {c : Nat} (h : isMark c = false) : Builtin.Str.occurrences "01x" ⟨#[c]⟩ 0 ("01x" : Str).length 1 = [] := by
  refine PySem.W.occ_nil_of_no _ _ (lim := 1) fun i hi => ?_
  have hl : ((⟨#[c]⟩ : Str).length) = 1 := rfl
  have hl2 : (("01x" : Str).length) = 3 := rfl
  rw [hl, hl2] at hi
  unfold isMark at h
  simp at h
  have : i = 0 ∨ i = 1 ∨ i = 2 := by omega
  rcases this with rfl | rfl | rfl
  · show ((#[48] : Array Nat) == #[c]) = false
    simp; omega
  · show ((#[49] : Array Nat) == #[c]) = false
    simp; omega
  · show ((#[120] : Array Nat) == #[c]) = false
    simp; omega
theorem mk_mark {v : Int} : isMark (mkc v) = true := by
  unfold mkc
  split
  · rfl
  · split <;> rfl
theorem code_mk {v : Int} (h : 0 ≤ v ∧ v ≤ 2) : code (mkc v) = v := by
  rcases v3 h with rfl | rfl | rfl <;> rfl
theorem strsD_map : ∀ l : List Str, strsD (l.map .str) = some l
  | [] => rfl
  | s :: r => by show (strsD (r.map .str)).map (s :: ·) = _; rw [strsD_map r]; rfl
theorem mk_len {v : Int} : (mk v).length = 1 := by
  unfold mk
  split
  · rfl
  · split <;> rfl
theorem sum_marks (l : List Int) : ((l.map mk).map (·.length)).sum = l.length := by
  induction l with
  | nil => rfl
  | cons x r ih => rw [List.map_cons, List.map_cons, List.sum_cons, ih, mk_len]; simp; omega
theorem toPws_iL (f : Nat → Option PyData) : ∀ l : List Int, toPws f (iL l) = some (l.map .int)
  | [] => rfl
  | x :: r => by
    show (some (PyData.int x)).bind (fun p => (toPws f (iL r)).map fun ps => p :: ps) = _
    rw [toPws_iL f r]; rfl
theorem lay_ints : ∀ l : List Int, PyData.canLayAll0 (l.map .int) = true ∧ PyData.depthAll (l.map .int) = 0
  | [] => ⟨rfl, rfl⟩
  | x :: r => by
    obtain ⟨a, b⟩ := lay_ints r
    constructor
    · show (PyData.canLay0 (.int x) && PyData.canLayAll0 (r.map .int)) = true
      rw [a]; rfl
    · show max (PyData.depth (.int x)) (PyData.depthAll (r.map .int)) = 0
      rw [b]; rfl
theorem eq_nil {l : List Int} {A : Ht} {k : Bool → Prop} (h : k l.isEmpty) : eqD (.tup (iL l)) (.tup []) A k := by
  have e : ∀ f : Nat → Option PyData, toPw f (.tup (iL l)) = some (.tuple (l.map .int)) := fun f => by
    show (toPws f (iL l)).map PyData.tuple = _
    rw [toPws_iL]; rfl
  show (match toP 3 A (.tup (iL l)), toP 3 A (.tup []) with | some p, some q => SeqAt.shaped p = true ∧ SeqAt.shaped q = true ∧ k (PyData.eqv p q) | _, _ => False)
  have e3 : toP 3 A (.tup (iL l)) = some (.tuple (l.map .int)) := e _
  rw [e3]
  refine ⟨?_, rfl, ?_⟩
  · obtain ⟨a, b⟩ := lay_ints l
    show (PyData.canLayAll0 (l.map .int) && decide (PyData.depthAll (l.map .int) + 1 ≤ 64)) = true
    rw [a, b]; rfl
  · cases l with
    | nil => exact h
    | cons x r => exact h
theorem eq_nilC {l : List Int} {A : Ht} {k : Bool → Prop} (h : k l.isEmpty) : cmpD .Eq (.tup (iL l)) (.tup []) A k := eq_nil h
theorem seqD_at {A : Ht} {n : Nat} {l : List D} (e : A[n]? = some (.lst l)) : seqD A (.obj n) = some l := by unfold seqD; dsimp only; rw [e]
theorem w_glob {G : Env'} {x : Str} {d : D} {ρ : Rho} {A : Ht} {X Q : D → Ht → Prop} (e : G.ct x = some d) (h : Q d A) : wE G (.glob x) ρ A X Q := by
  show (match G.ct x with | some d => Q d A | none => False)
  rw [e]; exact h
theorem w_ixg {G : Env'} {x : Str} {d : D} {i : Ie} {ρ : Rho} {A : Ht} {X Q : D → Ht → Prop} (e : G.ct x = some d) (h : wE G i ρ A X fun y A2 => ixD d y A2 Q) : wE G (.ix (.glob x) i) ρ A X Q := w_glob (ρ := ρ) (X := X) (Q := fun d A1 => wE G i ρ A1 X fun y A2 => ixD d y A2 Q) e h
theorem w_mtg {G : Env'} {x : Str} {d : D} {m : MI} {es : Ies} {ρ : Rho} {A : Ht} {X Q : D → Ht → Prop} (e : G.ct x = some d) (h : recvD m d A ∧ wEs G es ρ A X fun ds A2 => mtD m d ds A2 Q) : wE G (.mt m (.glob x) es) ρ A X Q := w_glob (ρ := ρ) (X := X) (Q := fun d A1 => recvD m d A1 ∧ wEs G es ρ A1 X fun ds A2 => mtD m d ds A2 Q) e h
def con__law_text : Con := fun ds A E Q => ∃ m r, ds = [.obj m] ∧ A[m]? = some (.lst (iL r)) ∧ VOK r ∧ r.length ≤ 1000 ∧ ∀ A', Keep [] A A' → Q (.str (vtext r)) A'
def con_values_text : Con := fun ds A E Q => ∃ d, ds = [d] ∧ kd A d ∧ tupLen d ≤ 1000 ∧ (allVal d = false → E (nu "values") A) ∧ ∀ r A', d = .tup (iL r) → VOK r → Keep [] A A' → Q (.str (vtext r)) A'
/-- the first place that is no mark -/
def badAt (s : Str) (p : Nat) : Prop := ∃ h : p < s.cps.toList.length, isMark s.cps.toList[p] = false ∧ ∀ j (hj : j < s.cps.toList.length), j < p → isMark s.cps.toList[j] = true
def allMarks (s : Str) : Prop := ∀ c ∈ s.cps.toList, isMark c = true
def con_read_values : Con := fun ds A E Q => ∃ d, ds = [d] ∧ kn A d = true ∧ ((∀ s, d ≠ .str s) → E (nu "text") A) ∧ ∀ s, d = .str s → s.length ≤ 10000 ∧ (s = "" → E (iv 0) A) ∧ (s = "-" → Q (.tup []) A) ∧
  (s ≠ "" → s ≠ "-" → ∀ A', Keep [] A A' → (allMarks s → Q (.tup (iL (s.cps.toList.map code))) A') ∧ ∀ p, badAt s p → E (iv p) A')
section
variable {G : Env'} (g : GOk4 G)
include g
theorem b__law_text (ds : List D) (A : Ht) (E Q : D → Ht → Prop) (_ : ds.length = 1) (h : con__law_text ds A E Q) : conOf G cc__law_text.N ir__law_text ds A E Q := by
  obtain ⟨m, r, rfl, em, hv, hl, q⟩ := h
  refine ⟨True.intro, ?_⟩
  conv => whnf
  rw [em]
  conv => whnf
  by_cases c : ((iL r).length : Int) = 0
  · rw [decide_eq_true c]
    have hr : r = [] := by simpa using c
    have q2 := q A .refl
    unfold vtext at q2
    rw [if_pos hr] at q2
    exact q2
  · rw [decide_eq_false c]
    have hr : r ≠ [] := by simpa using c
    refine ⟨by decide, True.intro, ?_⟩
    have ml := at_lt em
    have em2 : (A ++ [O.lst []])[m]? = some (.lst (iL r)) := by rw [List.getElem?_append_left ml]; exact em
    conv => whnf
    rw [em2]
    refine loop_go (fun i ρ A' => (∃ u, ρ = [some (.obj m), some (.obj A.length), u]) ∧ A'[A.length]? = some (.lst ((r.take i).map fun v => .str (mk v))) ∧ Keep [] A A' ∧ A.length < A'.length) ⟨⟨none, rfl⟩, at_push, .push, by simp⟩ (fun i ρ A' h => h.2.2.1.2 _ _ em (by simp)) ?_ ?_
    · rintro i hi ρ A1 k ⟨⟨u, rfl⟩, e1, k1, l1⟩ hk
      have hi2 : i < r.length := by simpa using hi
      have ei : (iL r)[i] = .int r[i] := by simp
      rw [ei]
      refine ⟨True.intro, q_rc (.inl rfl) e1, len3, True.intro, ?_⟩
      conv => whnf
      rw [at_push]
      have hvi := hv _ (List.getElem_mem hi2)
      have em' : L2.atI [D.str "0", .str "1", .str "x"] r[i] = some (.str (mk r[i])) := by
        rcases v3 hvi with e | e | e <;> (rw [e]; rfl)
      conv => whnf
      rw [em']
      conv => whnf
      have e2 : (A1 ++ [O.lst [D.str "0", .str "1", .str "x"]])[A.length]? = some (.lst ((r.take i).map fun v => .str (mk v))) := by rw [List.getElem?_append_left l1]; exact e1
      rw [e2]
      refine ⟨by have := sl32; simp; omega, ?_⟩
      refine hk _ _ ⟨⟨_, rfl⟩, ?_, (k1.trans .push).wr (Nat.le_refl _), by simp; omega⟩
      rw [at_set e2, List.take_succ_eq_append_getElem hi2, List.map_append]
      rfl
    · rintro ρ A1 ⟨⟨u, rfl⟩, e1, k1, l1⟩
      rw [iL_len, List.take_length] at e1
      refine ⟨True.intro, True.intro, ?_⟩
      conv => whnf
      rw [seqD_at e1]
      have e2 : strsD (r.map fun v => D.str (mk v)) = some (r.map mk) := by
        rw [show (r.map fun v => D.str (mk v)) = (r.map mk).map .str from by simp]
        exact strsD_map _
      conv => whnf
      rw [e2]
      refine ⟨by rw [sum_marks]; show r.length + (r.map mk).length * 0 ≤ 16777216; omega, ?_⟩
      have q2 := q A1 k1
      unfold vtext at q2
      rw [if_neg hr] at q2
      exact q2
theorem b_values_text (ds : List D) (A : Ht) (E Q : D → Ht → Prop) (_ : ds.length = 1) (h : con_values_text ds A E Q) : conOf G cc_values_text.N ir_values_text ds A E Q := by
  obtain ⟨d, rfl, hk, hlen, h1, q⟩ := h
  refine ⟨kn_nonX hk.1, use g.are_all_values ⟨d, rfl, hk, ?_⟩⟩
  cases va : allVal d with
  | false =>
    refine ⟨by rw [g.nu]; rfl, Nat.succ_pos _, ?_⟩
    rw [g.nu]
    exact h1 va
  | true =>
    obtain ⟨r, rfl, hv⟩ := allVal_tup va
    have hl : r.length ≤ 1000 := by simpa [tupLen] using hlen
    refine ⟨True.intro, Nat.zero_le _, ?_⟩
    refine eq_nilC ?_
    cases r with
    | nil => exact q [] A rfl hv .refl
    | cons x r' =>
      have hr : (x :: r') ≠ [] := by simp
      generalize x :: r' = r at *
      have em : r.isEmpty = false := by cases r <;> simp at hr ⊢
      rw [em]
      refine ⟨True.intro, True.intro, ?_⟩
      refine comp_go (fun i acc A' => A' = A ∧ acc = (r.take i).map fun v => .str (mk v)) ⟨rfl, rfl⟩ (fun _ _ _ _ => True.intro) ?_ ?_
      · rintro i hi acc A1 k ⟨rfl, rfl⟩ hk1 hk2
        have hi2 : i < r.length := by simpa using hi
        have ei : (iL r)[i] = .int r[i] := by simp
        rw [ei]
        show wE G (.ix (.glob "VALUE_MARKS") (.var 1)) [some (.tup (iL r)), some (.int r[i])] A1 (fun _ _ => False) (fun y A4 => k (some y) A4)
        refine w_ixg g.vm ⟨True.intro, by decide, ?_⟩
        have hvi := hv _ (List.getElem_mem hi2)
        have em' : L2.atI ("01x" : Str).cps.toList r[i] = some (mkc r[i]) := by
          rcases v3 hvi with e | e | e <;> (rw [e]; rfl)
        rw [em']
        refine hk2 _ _ ⟨by have := sl32; simp; omega, rfl, ?_⟩
        have em2 : mk r[i] = ⟨#[mkc r[i]]⟩ := by
          rcases v3 hvi with e | e | e <;> (rw [e]; rfl)
        rw [List.take_succ_eq_append_getElem hi2, List.map_append, ← em2]
        rfl
      · rintro acc A1 ⟨rfl, rfl⟩
        rw [iL_len, List.take_length]
        conv => whnf
        rw [seqD_at at_push]
        have e2 : strsD (r.map fun v => D.str (mk v)) = some (r.map mk) := by
          rw [show (r.map fun v => D.str (mk v)) = (r.map mk).map .str from by simp]
          exact strsD_map _
        conv => whnf
        rw [e2]
        refine ⟨by rw [sum_marks]; show r.length + (r.map mk).length * 0 ≤ 16777216; omega, ?_⟩
        have q2 := q r _ rfl hv (.push (o := .lst (r.map fun v => .str (mk v))))
        unfold vtext at q2
        rw [if_neg hr] at q2
        exact q2
omit g in
theorem isi_str {A : Ht} {d : D} (k : kn A d = true) : isiD A d .str = some (match d with | .str _ => true | _ => false) := by
  cases d with
  | obj n =>
    unfold kn isiD at k
    unfold isiD
    dsimp only at k ⊢
    split at k <;> first | rfl | cases k
  | exn c ks ds => cases k
  | _ => rfl
theorem b_read_values (ds : List D) (A : Ht) (E Q : D → Ht → Prop) (_ : ds.length = 1) (h : con_read_values ds A E Q) : conOf G cc_read_values.N ir_read_values ds A E Q := by
  obtain ⟨d, rfl, hk, h1, h2⟩ := h
  refine ⟨kn_nonX hk, ?_⟩
  show optD (isiD A d .str) _
  rw [isi_str hk]
  have bad : (∀ s, d ≠ .str s) → (G.fds "NotUsable").length = 2 ∧ 0 < 2 ∧ E (.exn "NotUsable" (G.fds "NotUsable") [.str "text", .int (-1)]) A := fun hd => by
    rw [g.nu]; exact ⟨rfl, by decide, h1 hd⟩
  cases d with
  | str s =>
    obtain ⟨hl, q1, q2, q3⟩ := h2 s rfl
    refine ⟨True.intro, ?_⟩
    conv => whnf
    by_cases c1 : s = ""
    · rw [decide_eq_true c1]
      refine ⟨by rw [g.iv]; rfl, Nat.succ_pos _, ?_⟩
      rw [g.iv]
      exact q1 c1
    · rw [decide_eq_false c1]
      refine ⟨True.intro, ?_⟩
      conv => whnf
      by_cases c2 : s = "-"
      · rw [decide_eq_true c2]
        exact ⟨Nat.zero_le _, q2 c2⟩
      · rw [decide_eq_false c2]
        refine ⟨by decide, True.intro, ?_⟩
        have hlen : s.cps.toList.length = s.length := by simp [Str.length]
        refine loop_go (fun i ρ A' => (∃ u v, ρ = [some (.str s), some (.obj A.length), u, v]) ∧ A' = A ++ [.lst (iL ((s.cps.toList.take i).map code))] ∧ ∀ j (hj : j < s.cps.toList.length), j < i → isMark s.cps.toList[j] = true) ⟨⟨none, none, rfl⟩, rfl, fun j _ hj => by omega⟩ (fun _ _ _ _ => True.intro) ?_ ?_
        · rintro i hi ρ A1 k ⟨⟨u, v, rfl⟩, rfl, hall⟩ hk
          have hi2 : i < s.cps.toList.length := by simpa using hi
          have ei : ((s.cps.toList.map fun c => D.str ⟨#[c]⟩).zipIdx.map fun p => D.tup [.int (p.2 : Int), p.1])[i]'(by simpa using hi) = .tup [.int (i : Int), .str ⟨#[s.cps.toList[i]]⟩] := by simp
          rw [ei]
          show wS G (.ife (.cmp .NotIn (.var 3) (.glob "VALUE_MARKS")) (.cons (.rse "InvalidText" (.cons (.cst (.int 0)) (.cons (.var 2) .nil))) .nil) .nil) _ [some (.str s), some (.obj A.length), some (.int (i : Int)), some (.str ⟨#[s.cps.toList[i]]⟩)] _
          refine ⟨True.intro, ?_⟩
          refine w_glob g.vm ?_
          conv => whnf
          have l2 : (iL ((s.cps.toList.take i).map code)).length < PySem.sizeLine := by have := sl32; simp; omega
          cases hm : isMark s.cps.toList[i] with
          | false =>
            rw [occ_no hm]
            refine ⟨True.intro, by rw [g.iv]; rfl, Nat.succ_pos _, ?_⟩
            rw [g.iv]
            exact (q3 c1 c2 _ .push).2 i ⟨hi2, hm, fun j hj h => hall j hj h⟩
          | true =>
            rw [occ_yes hm]
            refine ⟨True.intro, q_rc (.inl rfl) at_push, ?_⟩
            refine w_mtg g.vm ?_
            refine ⟨True.intro, True.intro, ?_⟩
            conv => whnf
            rw [at_push]
            refine ⟨l2, ?_⟩
            rw [set_last]
            refine hk _ _ ⟨⟨_, _, rfl⟩, ?_, fun j hj h => ?_⟩
            · rw [find_yes hm, List.take_succ_eq_append_getElem hi2, List.map_append]
              simp
            · by_cases hji : j = i
              · subst hji; exact hm
              · exact hall j hj (by omega)
        · rintro ρ A1 ⟨⟨u, v, rfl⟩, rfl, hall⟩
          refine ⟨True.intro, ?_⟩
          conv => whnf
          rw [at_push]
          have all : allMarks s := fun c hc => by
            obtain ⟨j, hj, rfl⟩ := List.getElem_of_mem hc
            exact hall j hj (by simpa using hj)
          have e : (s.cps.toList.take (((s.cps.toList.map fun c => D.str ⟨#[c]⟩).zipIdx.map fun p => D.tup [.int (p.2 : Int), p.1]).length)) = s.cps.toList := by rw [List.take_of_length_le (by simp)]
          rw [e]
          exact (q3 c1 c2 _ .push).1 all
  | _ => exact bad (by intro s z; cases z)
end
end K16
end TextK16g

section TextK16h
set_option autoImplicit false
set_option maxRecDepth 100000
set_option maxHeartbeats 4000000
namespace K16
open PySem Px
theorem iL_inj : ∀ {a b : List Int}, iL a = iL b → a = b
  | [], [], _ => rfl
  | [], _ :: _, h => by cases h
  | _ :: _, [], h => by cases h
  | x :: a, y :: b, h => by
    simp only [iL, List.map_cons, List.cons.injEq, D.int.injEq] at h
    rw [h.1, iL_inj (show iL a = iL b from h.2)]
theorem tup_inj {a b : List Int} (h : D.tup (iL a) = D.tup (iL b)) : a = b := by
  injection h with h
  exact iL_inj h
theorem kd_ints {A : Ht} {r : List Int} : kd A (.tup (iL r)) := ⟨rfl, fun xs e d hd => by
  cases e
  obtain ⟨x, _, rfl⟩ := List.mem_map.mp hd
  rfl⟩
theorem all_ok : ∀ {r : List Int}, VOK r → (iL r).all isVal = true
  | [], _ => rfl
  | x :: r, h => by
    show (isVal (.int x) && (iL r).all isVal) = true
    rw [all_ok fun y hy => h y (by simp [hy])]
    have := h x (by simp)
    show (decide (0 ≤ x ∧ x ≤ 2) && true) = true
    rw [decide_eq_true this]; rfl
theorem allVal_ok {r : List Int} (h : VOK r) : allVal (.tup (iL r)) = true := all_ok h
theorem vtext_len {r : List Int} (h : r.length ≤ 5000) : (vtext r).length ≤ 5000 := by
  by_cases hr : r = []
  · subst hr; decide
  · have e := congrArg List.length (vtext_cps hr)
    have z : (vtext r).length = r.length := by simpa [Str.length] using e
    omega
theorem read_vtext {r : List Int} {A : Ht} {E Q : D → Ht → Prop} (hv : VOK r) (hl : r.length ≤ 5000) (q : ∀ A', Keep [] A A' → Q (.tup (iL r)) A') : con_read_values [.str (vtext r)] A E Q := by
  refine ⟨_, rfl, rfl, fun h => absurd rfl (h _), fun s hs => ?_⟩
  cases hs
  refine ⟨Nat.le_trans (vtext_len hl) (by decide), fun h => ?_, fun h => ?_, fun h1 h2 A' k => ?_⟩
  · by_cases hr : r = []
    · subst hr; exact absurd h (by decide)
    · have e := vtext_cps hr
      rw [h] at e
      cases r with
      | nil => exact absurd rfl hr
      | cons x r => cases e
  · by_cases hr : r = []
    · subst hr; exact q A .refl
    · have e := vtext_cps hr
      rw [h] at e
      cases r with
      | nil => exact absurd rfl hr
      | cons x r =>
        have e2 : (45 : Nat) :: [] = mkc x :: r.map mkc := e
        injection e2 with e3 _
        have := mk_mark (v := x)
        rw [← e3] at this
        cases this
  · have hr : r ≠ [] := fun z => by subst z; exact h2 rfl
    have e := vtext_cps hr
    refine ⟨fun _ => ?_, fun p ⟨hp, hb, _⟩ => ?_⟩
    · rw [e]
      have z : (r.map mkc).map code = r := by
        rw [List.map_map]
        calc r.map (code ∘ mkc) = r.map id := List.map_congr_left fun x hx => code_mk (hv x hx)
          _ = r := List.map_id r
      rw [z]
      exact q A' k
    · have z : isMark (vtext r).cps.toList[p] = true := by
        have : (vtext r).cps.toList[p] ∈ r.map mkc := by rw [← e]; exact List.getElem_mem hp
        obtain ⟨x, _, hx⟩ := List.mem_map.mp this
        rw [← hx]; exact mk_mark
      rw [z] at hb; cases hb
def con__law_texts : Con := fun ds A E Q => ∃ m r, ds = [.obj m] ∧ A[m]? = some (.lst (iL r)) ∧ VOK r ∧ r.length ≤ 1000 ∧ ∀ A', Keep [] A A' → Q (.bl true) A'
def con__law_characters : Con := fun ds A E Q => ds = [] ∧ ∀ s : Str, 0 < s.length → s.length ≤ 200 → Q (.str s) A
def con__law_spoilt : Con := fun ds A E Q => ∃ t m r, ds = [.obj t, .obj m] ∧ tp A t ∧ A[m]? = some (.lst (iL r)) ∧ m ≠ t ∧ VOK r ∧ r.length ≤ 500 ∧ ∀ A' s, Keep [t] A A' → tp A' t → s.length ≤ 4000 → Q (.str s) A'
/-- read_values(s) raises InvalidText(0, p) -/
def unreadAt (s : Str) (p : Nat) : Prop := (s = "" ∧ p = 0) ∨ (s ≠ "" ∧ s ≠ "-" ∧ badAt s p)
def con__law_unread : Con := fun ds A E Q => ∃ s p, ds = [.str s, .int ((p : Nat) : Int)] ∧ s.length ≤ 10000 ∧ unreadAt s p ∧ ∀ A', Keep [] A A' → Q (.bl true) A'
def con__law_reads : Con := fun ds A E Q => ∃ s, ds = [.str s] ∧ s.length ≤ 10000 ∧ ∀ A', Keep [] A A' → Q (.bl true) A'
structure GOk5 (G : Env') : Prop extends GOk4 G where
  _law_text : G.con "_law_text" = con__law_text
  _law_characters : G.con "_law_characters" = con__law_characters
  values_text : G.con "values_text" = con_values_text
  read_values : G.con "read_values" = con_read_values
  _law_is_row : G.con "_law_is_row" = con__law_is_row
  _law_is_truth : G.con "_law_is_truth" = con__law_is_truth
  _law_unread : G.con "_law_unread" = con__law_unread
section
variable {G : Env'} (g : GOk5 G)
include g
theorem b__law_texts (ds : List D) (A : Ht) (E Q : D → Ht → Prop) (_ : ds.length = 1) (h : con__law_texts ds A E Q) : conOf G cc__law_texts.N ir__law_texts ds A E Q := by
  obtain ⟨m, r, rfl, em, hv, hl, q⟩ := h
  refine ⟨True.intro, use g._law_text ⟨m, r, rfl, em, hv, hl, fun A1 k1 => ?_⟩⟩
  have em1 := k1.2 _ _ em (by simp)
  refine ⟨True.intro, ?_⟩
  conv => whnf
  rw [em1]
  refine use g.values_text ⟨.tup (iL r), rfl, kd_ints, by simpa [tupLen] using hl, fun h => absurd (allVal_ok hv) (by rw [h]; decide), fun r' A2 er hv' k2 => ?_⟩
  cases tup_inj er
  have em2 := k2.2 _ _ em1 (by simp)
  refine ⟨True.intro, True.intro, True.intro, ?_⟩
  conv => whnf
  rw [decide_eq_true rfl]
  refine ⟨True.intro, ?_⟩
  conv => whnf
  rw [em2]
  refine use g.values_text ⟨.tup (iL r), rfl, kd_ints, by simpa [tupLen] using hl, fun h => absurd (allVal_ok hv) (by rw [h]; decide), fun r' A3 er hv' k3 => ?_⟩
  cases tup_inj er
  have em3 := k3.2 _ _ em2 (by simp)
  refine ⟨True.intro, ?_⟩
  conv => whnf
  rw [decide_eq_true rfl]
  refine ⟨True.intro, use g.read_values (read_vtext hv (by omega) fun A4 k4 => ?_)⟩
  have em4 := k4.2 _ _ em3 (by simp)
  refine ⟨True.intro, use g._law_is_row ⟨m, r, rfl, em4, by omega, ?_⟩⟩
  refine ⟨True.intro, use g.read_values (read_vtext hv (by omega) fun A5 k5 => ?_)⟩
  have em5 := k5.2 _ _ em4 (by simp)
  exact ⟨True.intro, use g._law_is_row ⟨m, r, rfl, em5, by omega, q _ ((((k1.trans k2).trans k3).trans k4).trans k5)⟩⟩
theorem b__law_characters (ds : List D) (A : Ht) (E Q : D → Ht → Prop) (_ : ds.length = 0) (h : con__law_characters ds A E Q) : conOf G cc__law_characters.N ir__law_characters ds A E Q := by
  obtain ⟨rfl, q⟩ := h
  refine ⟨True.intro, True.intro, by decide +kernel, by decide +kernel, by decide +kernel, True.intro, by decide +kernel, by decide +kernel, ?_⟩
  exact q _ (by decide +kernel) (by decide +kernel)
end
end K16
end TextK16h

section TextK16i
set_option autoImplicit false
set_option maxRecDepth 100000
set_option maxHeartbeats 4000000
namespace K16
open PySem Px
def refuses (A : Ht) (w : Str) (args : List D) (name : Str) : Prop :=
  ((w = "joined" ∨ w = "is_above") ∧ ∃ a b, args = [a, b] ∧ kn A a = true ∧ kn A b = true ∧ ((isVal a = false ∧ name = "one") ∨ (isVal a = true ∧ isVal b = false ∧ name = "other"))) ∨
  ((w = "joined_all" ∨ w = "is_above_all") ∧ ∃ a b, args = [a, b] ∧ kd A a ∧ kd A b ∧ tupLen a ≤ 1000 ∧ ((allVal a = false ∧ name = "ones") ∨ (allVal a = true ∧ (allVal b = false ∨ tupLen b ≠ tupLen a) ∧ name = "others"))) ∨
  (w = "flipped" ∧ ∃ a, args = [a] ∧ kn A a = true ∧ isVal a = false ∧ name = "value") ∨
  (w = "values_text" ∧ ∃ a, args = [a] ∧ kd A a ∧ tupLen a ≤ 1000 ∧ allVal a = false ∧ name = "values") ∨
  (w = "read_values" ∧ ∃ a, args = [a] ∧ kn A a = true ∧ (∀ s, a ≠ .str s) ∧ name = "text")
def con__law_do : Con := fun ds A E Q => ∃ w n args name, ds = [.str w, .obj n] ∧ A[n]? = some (.lst args) ∧ refuses A w args name ∧ E (nu name) A
def con__law_refused : Con := fun ds A E Q => ∃ w n args name, ds = [.str w, .obj n, .str name] ∧ A[n]? = some (.lst args) ∧ refuses A w args name ∧ Q (.bl true) A
structure GOk6 (G : Env') : Prop extends GOk5 G where
  joined : G.con "joined" = con_joined
  is_above : G.con "is_above" = con_is_above
  joined_all : G.con "joined_all" = con_joined_all
  is_above_all : G.con "is_above_all" = con_is_above_all
  flipped : G.con "flipped" = con_flipped
  _law_do : G.con "_law_do" = con__law_do
  i1 : G.sub "InvalidText" "InvalidText" = true
  i2 : G.sub "InvalidText" "TextError" = true
  i3 : G.sub "InvalidText" "OhmError" = true
  i4 : G.sub "InvalidText" "ValueError" = true
  i5 : G.sub "InvalidText" "UseError" = false
  i6 : G.sub "InvalidText" "NetError" = false
  i7 : G.sub "InvalidText" "LiveError" = false
  i8 : G.sub "InvalidText" "Unended" = false
  n1 : G.sub "NotUsable" "NotUsable" = true
  n2 : G.sub "NotUsable" "UseError" = true
  n3 : G.sub "NotUsable" "OhmError" = true
  n4 : G.sub "NotUsable" "ValueError" = true
  n5 : G.sub "NotUsable" "TooMany" = false
  n6 : G.sub "NotUsable" "NetError" = false
  n7 : G.sub "NotUsable" "TextError" = false
  n8 : G.sub "NotUsable" "LiveError" = false
theorem w_isx {G : Env'} {c t : Str} {b : Bool} {i : Nat} {ks : List Str} {ds : List D} {ρ : Rho} {A : Ht} {X : D → Ht → Prop} {Q : Bool → Ht → Prop} (hi : ρ[i]? = some (some (.exn c ks ds))) (e : G.sub c t = b) (h : Q b A) : wT G (.isx i t) ρ A X Q := by
  show (match ρ[i]? with | some (some (.exn c' _ _)) => Q (G.sub c' t) A | _ => False)
  rw [hi]
  show Q (G.sub c t) A
  rw [e]; exact h
theorem w_hd {G : Env'} {c : Str} {i : Nat} {b : Iss} {hs : Ihs} {d : D} {N : Dn} {ρ : Rho} {A : Ht} (e : G.sub (clsOf d) c = true) (h : wSs G b { nx := fun ρ' A' => N.nx (clean (ρ'.set i none)) A', rt := N.rt, bk := fun ρ' A' => N.bk (clean (ρ'.set i none)) A', ct := fun ρ' A' => N.ct (clean (ρ'.set i none)) A' } (ρ.set i (some d)) A) :
    wHs G (.cons c (some i) b hs) d N ρ A := by
  show (if G.sub (clsOf d) c = true then _ else _)
  rw [if_pos e]; exact h
section
variable {G : Env'} (g : GOk6 G)
include g
theorem unread_h {N : Dn} {s : Str} {p : Nat} {A : Ht} (h : N.rt (.bl true) A) : wHs G (.cons "InvalidText" (some 2) (.cons (.ife (.orv (.notv (.isx 2 "TextError")) (.orv (.notv (.isx 2 "OhmError")) (.notv (.isx 2 "ValueError")))) (.cons (.ret (.cst (.bl false))) .nil) .nil) (.cons (.ife (.orv (.isx 2 "UseError") (.orv (.isx 2 "NetError") (.orv (.isx 2 "LiveError") (.isx 2 "Unended")))) (.cons (.ret (.cst (.bl false))) .nil) .nil) (.cons (.ret (.andv (.call "_law_is_number" (.cons (.fld 2 "line") (.cons (.cst (.int 0)) .nil))) (.call "_law_is_number" (.cons (.fld 2 "word") (.cons (.var 1) .nil))))) .nil))) (.cons "OhmError" none (.cons (.ret (.cst (.bl false))) .nil) .nil)) (iv p) N [some (.str s), some (.int (p : Int)), none] A := by
  refine w_hd g.i1 ?_
  conv => whnf
  rw [g.i2]
  conv => whnf
  rw [g.i3]
  conv => whnf
  rw [g.i4]
  conv => whnf
  rw [g.i5]
  conv => whnf
  rw [g.i6]
  conv => whnf
  rw [g.i7]
  conv => whnf
  rw [g.i8]
  refine use g._law_is_number ⟨0, rfl, ?_⟩
  refine ⟨True.intro, ?_⟩
  exact use g._law_is_number ⟨p, rfl, h⟩
theorem b__law_unread (ds : List D) (A : Ht) (E Q : D → Ht → Prop) (_ : ds.length = 2) (h : con__law_unread ds A E Q) : conOf G cc__law_unread.N ir__law_unread ds A E Q := by
  obtain ⟨s, p, rfl, hl, hu, q⟩ := h
  refine ⟨True.intro, use g.read_values ⟨.str s, rfl, rfl, fun h => absurd rfl (h _), fun s' hs => ?_⟩⟩
  cases hs
  rcases hu with ⟨rfl, rfl⟩ | ⟨u1, u2, hb⟩
  · exact ⟨hl, fun _ => unread_h g (q _ .refl), fun h => absurd h (by decide), fun h => absurd rfl h⟩
  · refine ⟨hl, fun h => absurd h u1, fun h => absurd h u2, fun _ _ A' k => ⟨fun hm => ?_, fun p' hb' => ?_⟩⟩
    · obtain ⟨hp, h1, _⟩ := hb
      rw [hm _ (List.getElem_mem hp)] at h1; cases h1
    · have e : p' = p := by
        obtain ⟨hp, h1, h2⟩ := hb
        obtain ⟨hp', h1', h2'⟩ := hb'
        rcases Nat.lt_trichotomy p p' with z | z | z
        · rw [h2' p hp z] at h1; cases h1
        · exact z.symm
        · rw [h2 p' hp' z] at h1'; cases h1'
      subst e
      exact unread_h g (q _ k)
theorem refused_h {N : Dn} {w name : Str} {n : Nat} {A : Ht} (h : N.rt (.bl true) A) : wHs G (.cons "NotUsable" (some 3) (.cons (.ife (.orv (.notv (.isx 3 "UseError")) (.orv (.notv (.isx 3 "OhmError")) (.notv (.isx 3 "ValueError")))) (.cons (.ret (.cst (.bl false))) .nil) .nil) (.cons (.ife (.orv (.isx 3 "TooMany") (.orv (.isx 3 "NetError") (.orv (.isx 3 "TextError") (.isx 3 "LiveError")))) (.cons (.ret (.cst (.bl false))) .nil) .nil) (.cons (.ret (.andv (.isi (.fld 3 "word") .str) (.andv (.cmp .Eq (.fld 3 "word") (.var 2)) (.call "_law_is_number" (.cons (.fld 3 "at") (.cons (.neg (.cst (.int 1))) .nil)))))) .nil))) (.cons "OhmError" none (.cons (.ret (.cst (.bl false))) .nil) .nil)) (nu name) N [some (.str w), some (.obj n), some (.str name), none] A := by
  refine w_hd g.n1 ?_
  conv => whnf
  rw [g.n2]
  conv => whnf
  rw [g.n3]
  conv => whnf
  rw [g.n4]
  conv => whnf
  rw [g.n5]
  conv => whnf
  rw [g.n6]
  conv => whnf
  rw [g.n7]
  conv => whnf
  rw [g.n8]
  refine ⟨True.intro, ?_⟩
  conv => whnf
  rw [decide_eq_true rfl]
  exact use g._law_is_number ⟨-1, rfl, h⟩
theorem b__law_refused (ds : List D) (A : Ht) (E Q : D → Ht → Prop) (_ : ds.length = 3) (h : con__law_refused ds A E Q) : conOf G cc__law_refused.N ir__law_refused ds A E Q := by
  obtain ⟨w, n, args, name, rfl, e, hr, q⟩ := h
  exact ⟨True.intro, True.intro, use g._law_do ⟨w, n, args, name, rfl, e, hr, refused_h g q⟩⟩
theorem b__law_do (ds : List D) (A : Ht) (E Q : D → Ht → Prop) (_ : ds.length = 2) (h : con__law_do ds A E Q) : conOf G cc__law_do.N ir__law_do ds A E Q := by
  obtain ⟨w, n, args, name, rfl, e, hr, q⟩ := h
  have nope : ∀ {a b : Str}, a ≠ b → decide (a = b) = false := fun h => decide_eq_false h
  rcases hr with ⟨hw, a, b, rfl, ka, kb, hc⟩ | ⟨hw, a, b, rfl, ka, kb, hl, hc⟩ | ⟨rfl, a, rfl, ka, hc, rfl⟩ | ⟨rfl, a, rfl, ka, hl, hc, rfl⟩ | ⟨rfl, a, rfl, ka, hc, rfl⟩
  · have e0 : L2.atI [a, b] 0 = some a := rfl
    have e1 : L2.atI [a, b] 1 = some b := rfl
    have c1 : isVal a = false → name = "one" := fun h => by
      rcases hc with ⟨_, h2⟩ | ⟨h2, _⟩
      · exact h2
      · rw [h] at h2; cases h2
    have c2 : isVal a = true → isVal b = false → name = "other" := fun h _ => by
      rcases hc with ⟨h2, _⟩ | ⟨_, _, h2⟩
      · rw [h] at h2; cases h2
      · exact h2
    have c3 : isVal a = true → isVal b = true → False := fun h h' => by
      rcases hc with ⟨h2, _⟩ | ⟨_, h2, _⟩
      · rw [h] at h2; cases h2
      · rw [h'] at h2; cases h2
    rcases hw with rfl | rfl
    · refine ⟨True.intro, True.intro, ?_⟩
      conv => whnf
      rw [e]
      refine ⟨True.intro, ?_⟩
      conv => whnf
      rw [e]
      exact use g.joined ⟨a, b, rfl, ka, kb, fun h => by rw [← c1 h]; exact q, fun h h' => by rw [← c2 h h']; exact q, fun h h' => (c3 h h').elim⟩
    · refine ⟨True.intro, True.intro, True.intro, ?_⟩
      conv => whnf
      rw [e]
      refine ⟨True.intro, ?_⟩
      conv => whnf
      rw [e]
      exact use g.is_above ⟨a, b, rfl, ka, kb, fun h => by rw [← c1 h]; exact q, fun h h' => by rw [← c2 h h']; exact q, fun h h' => (c3 h h').elim⟩
  · have c1 : allVal a = false → name = "ones" := fun h => by
      rcases hc with ⟨_, h2⟩ | ⟨h2, _⟩
      · exact h2
      · rw [h] at h2; cases h2
    have c2 : allVal a = true → name = "others" := fun h => by
      rcases hc with ⟨h2, _⟩ | ⟨_, _, h2⟩
      · rw [h] at h2; cases h2
      · exact h2
    have c3 : ∀ xs ys, a = .tup (iL xs) → b = .tup (iL ys) → VOK xs → VOK ys → ys.length = xs.length → False := fun xs ys ha hb hx hy hxy => by
      subst ha hb
      rcases hc with ⟨h2, _⟩ | ⟨_, h2, _⟩
      · rw [allVal_ok hx] at h2; cases h2
      · rcases h2 with h2 | h2
        · rw [allVal_ok hy] at h2; cases h2
        · exact h2 (by simpa [tupLen] using hxy)
    rcases hw with rfl | rfl
    · refine ⟨True.intro, True.intro, True.intro, True.intro, ?_⟩
      conv => whnf
      rw [e]
      refine ⟨True.intro, ?_⟩
      conv => whnf
      rw [e]
      exact use g.joined_all ⟨a, b, rfl, ka, kb, hl, fun h => by rw [← c1 h]; exact q, fun h _ => by rw [← c2 h]; exact q, fun xs ys A' h1 h2 h3 h4 h5 _ => (c3 xs ys h1 h2 h3 h4 h5).elim⟩
    · refine ⟨True.intro, True.intro, True.intro, True.intro, True.intro, ?_⟩
      conv => whnf
      rw [e]
      refine ⟨True.intro, ?_⟩
      conv => whnf
      rw [e]
      exact use g.is_above_all ⟨a, b, rfl, ka, kb, fun h => by rw [← c1 h]; exact q, fun h _ => by rw [← c2 h]; exact q, fun xs ys h1 h2 h3 h4 h5 => (c3 xs ys h1 h2 h3 h4 h5).elim⟩
  · refine ⟨True.intro, True.intro, True.intro, True.intro, True.intro, True.intro, ?_⟩
    conv => whnf
    rw [e]
    exact use g.flipped ⟨a, rfl, ka, fun _ => q, fun h => by rw [h] at hc; cases hc⟩
  · refine ⟨True.intro, True.intro, True.intro, True.intro, True.intro, True.intro, True.intro, ?_⟩
    conv => whnf
    rw [e]
    exact use g.values_text ⟨a, rfl, ka, hl, fun _ => q, fun r A' h hv _ => by subst h; rw [allVal_ok hv] at hc; cases hc⟩
  · refine ⟨True.intro, True.intro, True.intro, True.intro, True.intro, True.intro, True.intro, ?_⟩
    conv => whnf
    rw [e]
    exact use g.read_values ⟨a, rfl, ka, fun _ => q, fun s h => absurd h (hc s)⟩
end
end K16
end TextK16i

section TextK16j
set_option autoImplicit false
set_option maxRecDepth 100000
set_option maxHeartbeats 4000000
namespace K16
open PySem Px
def con__law_no_value : Con := fun ds A E Q => ∃ t, ds = [.obj t] ∧ tp A t ∧ ∀ A' d, Keep [t] A A' → tp A' t → kn A' d = true → isVal d = false → Q d A'
structure GOk7 (G : Env') : Prop extends GOk6 G where
  _law_no_value : G.con "_law_no_value" = con__law_no_value
theorem kn_obj {A : Ht} {n : Nat} {l : List D} (e : A[n]? = some (.lst l)) : kn A (.obj n) = true := by
  unfold kn isiD
  dsimp only
  rw [e]; rfl
theorem cps_len {s : Str} : s.cps.toList.length = s.length := by simp [Str.length]
theorem str_ix {s : Str} {i : Nat} (h : i < s.cps.toList.length) : L2.atI s.cps.toList (i : Int) = some s.cps.toList[i] := L2.atI_nat (List.getElem?_eq_getElem h)
section
variable {G : Env'} (g : GOk6 G)
include g
theorem b__law_reads (ds : List D) (A : Ht) (E Q : D → Ht → Prop) (_ : ds.length = 1) (h : con__law_reads ds A E Q) : conOf G cc__law_reads.N ir__law_reads ds A E Q := by
  obtain ⟨s, rfl, hl, q⟩ := h
  refine ⟨True.intro, ?_⟩
  conv => whnf
  by_cases c : s = "-"
  · rw [decide_eq_true c]
    subst c
    refine ⟨True.intro, use g.read_values (read_vtext (r := []) (by simp [VOK]) (by decide) fun A1 k1 => ?_)⟩
    exact ⟨by decide, use g._law_is_row ⟨A1.length, [], rfl, at_push, by decide, q _ (k1.trans .push)⟩⟩
  · rw [decide_eq_false c]
    have h32 := sl32
    have hs : s.length ≤ PySem.sizeLine := by omega
    refine ⟨by decide, True.intro, hs, by omega, by omega, ?_⟩
    refine loop_go (fun i ρ A' => (∃ u, ρ = [some (.str s), some (.obj A.length), u]) ∧ A' = A ++ [.lst (iL ((s.cps.toList.take i).map code))] ∧ ∀ j (hj : j < s.cps.toList.length), j < i → isMark s.cps.toList[j] = true) ⟨⟨none, rfl⟩, rfl, fun j _ hj => by omega⟩ (fun _ _ _ _ => True.intro) ?_ ?_
    · rintro i hi ρ A1 k ⟨⟨u, rfl⟩, rfl, hall⟩ hk
      have hi2 : i < s.cps.toList.length := by rw [cps_len]; simpa [rngD] using hi
      have ei : (rngD 0 (s.length : Int).toNat)[i]'(by simpa using hi) = .int (i : Int) := by simp [rngD]
      rw [ei]
      refine ⟨True.intro, True.intro, hs, ?_⟩
      rw [str_ix hi2]
      conv => whnf
      cases hm : isMark s.cps.toList[i] with
      | false =>
        rw [occ_no hm]
        have hu : unreadAt s i := by
          by_cases hs0 : s = ""
          · subst hs0; exact absurd hi2 (Nat.not_lt_zero _)
          · exact .inr ⟨hs0, c, hi2, hm, fun j hj h => hall j hj h⟩
        exact ⟨True.intro, True.intro, use g._law_unread ⟨s, i, rfl, hl, hu, fun A' k' => q _ (Keep.push.trans k')⟩⟩
      | true =>
        rw [occ_yes hm]
        refine ⟨True.intro, q_rc (.inl rfl) at_push, True.intro, True.intro, True.intro, hs, ?_⟩
        rw [str_ix hi2]
        conv => whnf
        rw [at_push]
        refine ⟨by simp; have := cps_len (s := s); omega, ?_⟩
        rw [set_last]
        refine hk _ _ ⟨⟨_, rfl⟩, ?_, fun j hj h => ?_⟩
        · rw [find_yes hm, List.take_succ_eq_append_getElem hi2, List.map_append]
          simp
        · by_cases hji : j = i
          · subst hji; exact hm
          · exact hall j hj (by omega)
    · rintro ρ A1 ⟨⟨u, rfl⟩, rfl, hall⟩
      have e : s.cps.toList.take ((rngD 0 (s.length : Int).toNat).length) = s.cps.toList := by rw [List.take_of_length_le (by simp [rngD, Str.length])]
      have all : allMarks s := fun ch hc => by
        obtain ⟨j, hj, rfl⟩ := List.getElem_of_mem hc
        exact hall j hj (by have := cps_len (s := s); simp [rngD]; omega)
      rw [e]
      refine ⟨True.intro, ?_⟩
      conv => whnf
      rw [at_push]
      conv => whnf
      by_cases c2 : ((iL (s.cps.toList.map code)).length : Int) = 0
      · rw [decide_eq_true c2]
        have hs0 : s = "" := by
          have z : s.cps.size = 0 := by simpa using c2
          obtain ⟨cps⟩ := s
          have : cps = #[] := Array.eq_empty_of_size_eq_zero z
          rw [this]; rfl
        exact ⟨True.intro, use g._law_unread ⟨s, 0, rfl, hl, .inl ⟨hs0, rfl⟩, fun A' k' => q _ (Keep.push.trans k')⟩⟩
      · rw [decide_eq_false c2]
        have hs0 : s ≠ "" := fun z => by subst z; exact c2 rfl
        refine ⟨True.intro, use g.read_values ⟨.str s, rfl, rfl, fun h => absurd rfl (h _), fun s' he => ?_⟩⟩
        cases he
        refine ⟨hl, fun h => absurd h hs0, fun h => absurd h c, fun _ _ A' k' => ⟨fun _ => ?_, fun p ⟨hp, hb, _⟩ => ?_⟩⟩
        · have e2 := k'.2 _ _ at_push (by simp)
          exact ⟨True.intro, use g._law_is_row ⟨A.length, s.cps.toList.map code, rfl, e2, by rw [List.length_map, cps_len]; exact hl, q _ (Keep.push.trans k')⟩⟩
        · rw [all _ (List.getElem_mem hp)] at hb; cases hb
theorem b__law_spoilt (ds : List D) (A : Ht) (E Q : D → Ht → Prop) (_ : ds.length = 2) (h : con__law_spoilt ds A E Q) : conOf G cc__law_spoilt.N ir__law_spoilt ds A E Q := by
  obtain ⟨t, m, r, rfl, ht, em, hmt, hv, hl, q⟩ := h
  refine ⟨True.intro, use g._law_text ⟨m, r, rfl, em, hv, by omega, fun A1 k1 => ?_⟩⟩
  have ht1 := tp_keep ht k1 (by simp)
  refine use g._law_characters ⟨rfl, fun cs c0 c1 => ?_⟩
  have h32 := sl32
  have hvt : (vtext r).length ≤ 500 ∨ (vtext r).length ≤ 1 := by
    by_cases hr : r = []
    · subst hr; exact .inr (by decide)
    · have e := congrArg List.length (vtext_cps hr)
      have z : (vtext r).length = r.length := by simpa [Str.length] using e
      exact .inl (by omega)
  refine ⟨True.intro, use g._law_pick ⟨t, 2, rfl, by decide, by decide, ht1, fun A2 n n0 n1 k2 l2 ht2 => ?_⟩⟩
  refine ⟨by omega, by omega, ?_⟩
  refine loop_go (fun i ρ A' => (∃ s u v w, ρ = [some (.obj t), some (.obj m), some (.str s), some (.str cs), u, v, w] ∧ s.length ≤ 500 * (i + 1) + 500 * i * i + i * 2) ∧ Keep [t] A A' ∧ tp A' t) ⟨⟨vtext r, none, none, none, rfl, by omega⟩, k1.any.trans k2, ht2⟩ (fun _ _ _ _ => True.intro) ?_ ?_
  · rintro i hi ρ A3 k ⟨⟨s, u, v, w, rfl, hsl⟩, k3, ht3⟩ hk
    have hi2 : i < 2 := by simp [rngD] at hi; omega
    have hs4 : s.length ≤ 1900 := by
      have : i = 0 ∨ i = 1 := by omega
      rcases this with rfl | rfl <;> omega
    have hs : s.length ≤ PySem.sizeLine := by omega
    refine ⟨True.intro, True.intro, hs, use g._law_pick ⟨t, (s.length : Int) + 1, rfl, by omega, by omega, ht3, fun A4 p p0 p1 k4 l4 ht4 => ?_⟩⟩
    refine ⟨True.intro, True.intro, True.intro, by omega, use g._law_pick ⟨t, (cs.length : Int), rfl, by omega, by omega, ht4, fun A5 y y0 y1 k5 l5 ht5 => ?_⟩⟩
    obtain ⟨yn, rfl⟩ := Int.eq_ofNat_of_zero_le y0
    have hy : yn < cs.cps.toList.length := by rw [cps_len]; omega
    refine ⟨by omega, ?_⟩
    rw [str_ix hy]
    have cl : ∀ lo hi, (L2.cutS s lo hi).length ≤ s.length := fun lo hi => L2.cutS_length s lo hi
    refine ⟨True.intro, True.intro, hs, True.intro, ?_, True.intro, True.intro, True.intro, use g._law_pick ⟨t, 2, rfl, by decide, by decide, ht5, fun A6 z z0 z1 k6 l6 ht6 => ?_⟩⟩
    · have := cl none (some p)
      show (L2.cutS s none (some p)).length + 1 ≤ _
      omega
    · have e1 := cl none (some p)
      have e2 := cl (some (p + z)) none
      have ea : ∀ a b : Str, (a ++ b).length = a.length + b.length := fun a b => by
        show (a.cps ++ b.cps).size = _
        simp [Str.length]
      have one : ((⟨#[cs.cps.toList[yn]]⟩ : Str)).length = 1 := rfl
      refine ⟨hs, by rw [ea, one]; omega, ?_⟩
      refine hk _ _ ⟨⟨_, _, _, _, rfl, ?_⟩, ((k3.trans k4).trans k5).trans k6, ht6⟩
      rw [ea, ea, one]
      have : i = 0 ∨ i = 1 := by omega
      rcases this with rfl | rfl <;> omega
  · rintro ρ A3 ⟨⟨s, u, v, w, rfl, hsl⟩, k3, ht3⟩
    refine ⟨True.intro, q _ _ k3 ht3 ?_⟩
    have hn : (rngD 0 (1 + n).toNat).length ≤ 2 := by simp [rngD]; omega
    have : (rngD 0 (1 + n).toNat).length = 0 ∨ (rngD 0 (1 + n).toNat).length = 1 ∨ (rngD 0 (1 + n).toNat).length = 2 := by omega
    rcases this with e | e | e <;> (rw [e] at hsl; omega)
theorem b__law_no_value (ds : List D) (A : Ht) (E Q : D → Ht → Prop) (_ : ds.length = 1) (h : con__law_no_value ds A E Q) : conOf G cc__law_no_value.N ir__law_no_value ds A E Q := by
  obtain ⟨t, rfl, ht, q⟩ := h
  have tl := tp_lt ht
  refine ⟨by decide, by decide, by decide, ⟨by decide, by decide, by decide⟩, by decide, by have := sl32; simp; omega, True.intro, True.intro, True.intro, ?_⟩
  conv => whnf
  rw [at_push]
  refine use g._law_pick ⟨t, 16, rfl, by decide, by decide, tp_keep (tp_keep ht .push (S := []) (by simp)) .push (S := []) (by simp), fun A1 r r0 r1 k1 l1 ht1 => ?_⟩
  have e1 := k1.2 _ _ (at_push (A := A ++ [O.lst [D.int 1]])) (by simp; omega)
  have e0 : A1[A.length]? = some (.lst [.int 1]) := k1.2 A.length _ (by rw [List.getElem?_append_left (by simp), at_push]) (by simp; omega)
  have kA : Keep [t] A A1 := (Keep.push.trans .push).trans k1
  conv => whnf
  rw [e1]
  have : r = 0 ∨ r = 1 ∨ r = 2 ∨ r = 3 ∨ r = 4 ∨ r = 5 ∨ r = 6 ∨ r = 7 ∨ r = 8 ∨ r = 9 ∨ r = 10 ∨ r = 11 ∨ r = 12 ∨ r = 13 ∨ r = 14 ∨ r = 15 := by omega
  rcases this with rfl | rfl | rfl | rfl | rfl | rfl | rfl | rfl | rfl | rfl | rfl | rfl | rfl | rfl | rfl | rfl
  · exact q A1 _ kA ht1 rfl rfl
  · exact q A1 _ kA ht1 rfl rfl
  · exact q A1 _ kA ht1 rfl rfl
  · exact q A1 _ kA ht1 rfl rfl
  · exact q A1 _ kA ht1 rfl rfl
  · exact q A1 _ kA ht1 rfl rfl
  · exact q A1 _ kA ht1 rfl rfl
  · exact q A1 _ kA ht1 rfl rfl
  · exact q A1 _ kA ht1 rfl rfl
  · exact q A1 _ kA ht1 rfl rfl
  · exact q A1 _ kA ht1 rfl rfl
  · exact q A1 _ kA ht1 (kn_obj e0) rfl
  · exact q A1 _ kA ht1 rfl (by decide)
  · exact q A1 _ kA ht1 rfl rfl
  · exact q A1 _ kA ht1 rfl rfl
  · exact q A1 _ kA ht1 rfl rfl
end
end K16
end TextK16j

section TextK16k
set_option autoImplicit false
set_option maxRecDepth 100000
set_option maxHeartbeats 4000000
namespace K16
open PySem Px
def con__law_no_row : Con := fun ds A E Q => ∃ t m r, ds = [.obj t, .obj m] ∧ tp A t ∧ A[m]? = some (.lst (iL r)) ∧ m ≠ t ∧ VOK r ∧ r.length ≤ 480 ∧ ∀ A' d, Keep [t] A A' → tp A' t → kd A' d → allVal d = false → tupLen d ≤ 1000 → Q d A'
theorem kn_keep {A A' : Ht} {t : Nat} {d : D} (h : kn A d = true) (k : Keep [t] A A') (ht : tp A' t) : kn A' d = true := by
  cases d with
  | obj n =>
    by_cases e : n = t
    · subst e
      obtain ⟨xs, _, _, e⟩ := ht
      exact kn_obj e
    · unfold kn isiD at h ⊢
      dsimp only at h ⊢
      split at h
      · rename_i l z; rw [k.2 _ _ z (by simpa using e)]; rfl
      · rename_i l z; rw [k.2 _ _ z (by simpa using e)]; rfl
      · rename_i l z; rw [k.2 _ _ z (by simpa using e)]; rfl
      · cases h
  | exn c ks ds => cases h
  | _ => rfl
theorem kd_keep {A A' : Ht} {t : Nat} {d : D} (h : kd A d) (k : Keep [t] A A') (ht : tp A' t) : kd A' d := ⟨kn_keep h.1 k ht, fun xs e x hx => kn_keep (h.2 xs e x hx) k ht⟩
theorem kd_plain {A : Ht} {d : D} (h : kn A d = true) (hn : ∀ xs, d ≠ .tup xs) : kd A d := ⟨h, fun xs e => absurd e (hn xs)⟩
theorem cut_mem {l : List D} {lo hi : Option Int} {x : D} (h : x ∈ cutD l lo hi) : x ∈ l := List.mem_of_mem_drop (List.mem_of_mem_take h)
theorem cut_len {l : List D} {lo hi : Option Int} : (cutD l lo hi).length ≤ l.length := by
  unfold cutD
  rw [List.length_take, List.length_drop]
  omega
theorem kn_iL {A : Ht} {r : List Int} {x : D} (h : x ∈ iL r) : kn A x = true := by
  obtain ⟨i, _, rfl⟩ := List.mem_map.mp h
  rfl
structure GOk8 (G : Env') : Prop extends GOk7 G where
  _law_no_row : G.con "_law_no_row" = con__law_no_row
  _law_refused : G.con "_law_refused" = con__law_refused
  _law_joins : G.con "_law_joins" = con__law_joins
  _law_all_above : G.con "_law_all_above" = con__law_all_above
section
variable {G : Env'}
theorem b__law_no_row (g : GOk7 G) (ds : List D) (A : Ht) (E Q : D → Ht → Prop) (_ : ds.length = 2) (h : con__law_no_row ds A E Q) : conOf G cc__law_no_row.N ir__law_no_row ds A E Q := by
  obtain ⟨t, m, r, rfl, ht, em, hmt, hv, hl, q⟩ := h
  have h32 := sl32
  refine ⟨True.intro, True.intro, ?_⟩
  conv => whnf
  rw [em]
  refine use g._law_pick ⟨t, ((iL r).length : Int) + 1, rfl, by omega, by simp; omega, ht, fun A1 p p0 p1 k1 l1 ht1 => ?_⟩
  have em1 := k1.2 _ _ em (by simpa using hmt)
  refine ⟨True.intro, True.intro, ?_⟩
  conv => whnf
  rw [em1]
  refine ⟨True.intro, use g._law_no_value ⟨t, rfl, tp_keep ht1 .push (S := []) (by simp), fun A2 d k2 ht2 hd hdv => ?_⟩⟩
  have e1 : A2[A1.length]? = some (.lst (cutD (iL r) none (some p))) := k2.2 _ _ at_push (by have := tp_lt ht1; simp; omega)
  have l2 : A1.length < A2.length := at_lt e1
  refine ⟨by show 1 ≤ PySem.sizeLine; omega, ?_⟩
  conv => whnf
  have e1' : (A2 ++ [O.lst [d]])[A1.length]? = some (.lst (cutD (iL r) none (some p))) := by rw [List.getElem?_append_left l2]; exact e1
  rw [e1', at_push]
  have c1 := cut_len (l := iL r) (lo := none) (hi := some p)
  have c2 := cut_len (l := iL r) (lo := some (p + 1)) (hi := none)
  rw [iL_len] at c1 c2
  refine ⟨by simp; omega, True.intro, True.intro, ?_⟩
  conv => whnf
  have k12 : Keep [t] A1 ((A2 ++ [O.lst [d]]) ++ [O.lst (cutD (iL r) none (some p) ++ [d])]) := (Keep.push.trans k2).trans (.trans .push .push)
  have em3 := k12.2 _ _ em1 (by simpa using hmt)
  rw [em3]
  conv => whnf
  have ea : ∀ x : O, (((A2 ++ [O.lst [d]]) ++ [O.lst (cutD (iL r) none (some p) ++ [d])]) ++ [x])[(A2 ++ [O.lst [d]]).length]? = some (.lst (cutD (iL r) none (some p) ++ [d])) := fun x => by
    rw [List.getElem?_append_left (by simp), at_push]
  rw [ea, at_push]
  refine ⟨by simp; omega, ?_⟩
  conv => whnf
  rw [at_push]
  generalize hbl : cutD (iL r) none (some p) ++ [d] ++ cutD (iL r) (some (p + 1)) none = bl
  generalize hB : ((((A2 ++ [O.lst [d]]) ++ [O.lst (cutD (iL r) none (some p) ++ [d])]) ++ [O.lst (cutD (iL r) (some (p + 1)) none)]) ++ [O.lst bl]) = B
  have kB : Keep [t] A2 B := by subst hB; exact (Keep.push.trans .push).trans (.trans .push .push)
  have htB : tp B t := by
    subst hB
    exact tp_keep (tp_keep (tp_keep (tp_keep ht2 .push (S := []) (by simp)) .push (S := []) (by simp)) .push (S := []) (by simp)) .push (S := []) (by simp)
  have kAB : Keep [t] A B := (k1.trans (Keep.push.trans k2)).trans kB
  have emB := kAB.2 _ _ em (by simpa using hmt)
  have kbad : kd B (.tup bl) := by
    subst hbl
    refine ⟨rfl, fun xs e x hx => ?_⟩
    cases e
    rcases List.mem_append.mp hx with hx | hx
    · rcases List.mem_append.mp hx with hx | hx
      · exact kn_iL (cut_mem hx)
      · rw [List.mem_singleton.mp hx]; exact kn_keep hd kB htB
    · exact kn_iL (cut_mem hx)
  have vbad : allVal (.tup bl) = false := by
    subst hbl
    show List.all _ isVal = false
    rw [List.all_eq_false]
    exact ⟨d, by simp, by rw [hdv]; simp⟩
  have lbad : tupLen (.tup bl) ≤ 1000 := by
    subst hbl
    show List.length _ ≤ 1000
    simp; omega
  refine ⟨True.intro, True.intro, True.intro, True.intro, ?_⟩
  conv => whnf
  rw [emB]
  refine ⟨True.intro, by show 1 ≤ PySem.sizeLine; omega, True.intro, ?_⟩
  conv => whnf
  have emC : ((B ++ [O.lst (iL r)]) ++ [O.lst [.tup bl]])[m]? = some (.lst (iL r)) := by
    have := at_lt emB
    rw [List.getElem?_append_left (by simp; omega), List.getElem?_append_left this]; exact emB
  rw [emC]
  refine ⟨by show 2 ≤ PySem.sizeLine; omega, True.intro, use g._law_text ⟨m, r, rfl, emC, hv, by omega, fun A3 k3 => ?_⟩⟩
  have htC : tp A3 t := tp_keep (tp_keep (tp_keep htB .push (S := []) (by simp)) .push (S := []) (by simp)) k3 (by simp)
  have o1 : A3[B.length]? = some (.lst (iL r)) := k3.2 _ _ (by rw [List.getElem?_append_left (by simp), at_push]) (by simp)
  have o2 : A3[(B ++ [O.lst (iL r)]).length]? = some (.lst [.tup bl]) := k3.2 _ _ at_push (by simp)
  have kC : Keep [t] B A3 := (Keep.push.trans .push).trans k3.any
  refine ⟨by show 12 ≤ PySem.sizeLine; omega, True.intro, True.intro, True.intro, ?_⟩
  conv => whnf
  rw [at_push]
  refine use g._law_pick ⟨t, 12, rfl, by decide, by decide, tp_keep htC .push (S := []) (by simp), fun A4 x x0 x1 k4 l4 ht4 => ?_⟩
  have e4 := k4.2 _ _ (at_push (A := A3)) (by have := tp_lt htC; simp; omega)
  have kD : Keep [t] B A4 := kC.trans (Keep.push.trans k4)
  have kE : Keep [t] A A4 := kAB.trans kD
  have kD3 : Keep [t] A3 A4 := Keep.push.trans k4
  conv => whnf
  rw [e4]
  have fb : Q (.tup bl) A4 := q A4 _ kE ht4 (kd_keep kbad kD ht4) vbad lbad
  have := tp_lt htB
  have : x = 0 ∨ x = 1 ∨ x = 2 ∨ x = 3 ∨ x = 4 ∨ x = 5 ∨ x = 6 ∨ x = 7 ∨ x = 8 ∨ x = 9 ∨ x = 10 ∨ x = 11 := by omega
  rcases this with rfl | rfl | rfl | rfl | rfl | rfl | rfl | rfl | rfl | rfl | rfl | rfl
  · exact fb
  · exact fb
  · exact fb
  · exact q A4 _ kE ht4 (kd_plain (kn_obj (kD3.2 _ _ o1 (by simp; omega))) (fun xs h => by cases h)) rfl (by show 0 ≤ 1000; decide)
  · exact q A4 _ kE ht4 (kd_plain rfl (fun xs h => by cases h)) rfl (by show 0 ≤ 1000; decide)
  · exact q A4 _ kE ht4 (kd_plain rfl (fun xs h => by cases h)) rfl (by show 0 ≤ 1000; decide)
  · exact q A4 _ kE ht4 (kd_plain rfl (fun xs h => by cases h)) rfl (by show 0 ≤ 1000; decide)
  · exact q A4 _ kE ht4 (kd_plain rfl (fun xs h => by cases h)) rfl (by show 0 ≤ 1000; decide)
  · exact q A4 _ kE ht4 (kd_plain rfl (fun xs h => by cases h)) rfl (by show 0 ≤ 1000; decide)
  · exact q A4 _ kE ht4 (kd_plain (kn_obj (kD3.2 _ _ o2 (by simp; omega))) (fun xs h => by cases h)) rfl (by show 0 ≤ 1000; decide)
  · refine q A4 _ kE ht4 ⟨rfl, fun xs e y hy => ?_⟩ rfl (by show 2 ≤ 1000; decide)
    cases e
    rcases List.mem_cons.mp hy with rfl | hy
    · rfl
    · rw [List.mem_singleton.mp hy]; rfl
  · exact q A4 _ kE ht4 (kd_plain rfl (fun xs h => by cases h)) rfl (by show 0 ≤ 1000; decide)
end
end K16
end TextK16k

section TextK16l
set_option autoImplicit false
set_option maxRecDepth 100000
set_option maxHeartbeats 4000000
namespace K16
open PySem Px
def con__law_pairs : Con := fun ds A E Q => ds = [] ∧ ∀ A', Keep [] A A' → Q (.bl true) A'
def con__law_rows : Con := fun ds A E Q => ∃ a b xs ys, ds = [.obj a, .obj b] ∧ A[a]? = some (.lst (iL xs)) ∧ A[b]? = some (.lst (iL ys)) ∧ VOK xs ∧ VOK ys ∧ xs.length ≤ 480 ∧ ys.length = xs.length ∧ ∀ A', Keep [] A A' → Q (.bl true) A'
theorem jp_ok {i j : Int} (hi : 0 ≤ i ∧ i ≤ 2) : 0 ≤ jp i j ∧ jp i j ≤ 2 := by
  unfold jp
  split
  · exact hi
  · decide
theorem VOK.zip : ∀ {xs ys : List Int}, VOK xs → VOK (List.zipWith jp xs ys)
  | [], _, _ => by simp [VOK]
  | _ :: _, [], _ => by simp [VOK]
  | x :: xs, y :: ys, h => fun z hz => by
    rw [List.zipWith_cons_cons] at hz
    rcases List.mem_cons.mp hz with rfl | hz
    · exact jp_ok (h x (by simp))
    · exact VOK.zip (xs := xs) (ys := ys) (fun y hy => h y (by simp [hy])) z hz
theorem zip_flip (xs ys : List Int) : List.zipWith jp ys xs = List.zipWith jp xs ys := by
  rw [List.zipWith_comm]
  congr 1
  funext a b
  unfold jp
  by_cases h : a = b
  · subst h; rfl
  · rw [if_neg h, if_neg (Ne.symm h)]
theorem above_join : ∀ {xs ys : List Int}, aboveAll (List.zipWith jp xs ys) xs = true
  | [], _ => rfl
  | _ :: _, [] => rfl
  | x :: xs, y :: ys => by
    have ih := above_join (xs := xs) (ys := ys)
    unfold aboveAll at ih ⊢
    rw [List.zipWith_cons_cons, List.zip_cons_cons, List.all_cons, ih, Bool.and_true]
    unfold ab jp
    by_cases h : x = y
    · rw [if_pos h]; simp
    · rw [if_neg h]; simp
theorem above_refl : ∀ {xs : List Int}, aboveAll xs xs = true
  | [] => rfl
  | x :: xs => by
    have ih := above_refl (xs := xs)
    unfold aboveAll at ih ⊢
    rw [List.zip_cons_cons, List.all_cons, ih, Bool.and_true]
    unfold ab; simp
section
variable {G : Env'} (g : GOk8 G)
include g
theorem b__law_rows (ds : List D) (A : Ht) (E Q : D → Ht → Prop) (_ : ds.length = 2) (h : con__law_rows ds A E Q) : conOf G cc__law_rows.N ir__law_rows ds A E Q := by
  obtain ⟨a, b, xs, ys, rfl, ea, eb, hx, hy, hl, hxy, q⟩ := h
  refine use g._law_joins ⟨rfl, fun A1 n r0 r1 r2 k1 en e0 e1 e2 => ?_⟩
  have ea1 := k1.2 _ _ ea (by simp)
  have eb1 := k1.2 _ _ eb (by simp)
  refine ⟨True.intro, ?_⟩
  conv => whnf
  rw [ea1]
  refine ⟨by omega, by simp; omega, ?_⟩
  have hzl : (List.zipWith jp xs ys).length = xs.length := by simp; omega
  refine comp_go (fun i acc A' => A' = A1 ∧ acc = iL ((List.zipWith jp xs ys).take i)) ⟨rfl, rfl⟩ (fun _ _ _ _ => True.intro) ?_ ?_
  · rintro i hi acc A2 k ⟨rfl, rfl⟩ hk1 hk2
    have hi2 : i < xs.length := by simpa [rngD] using hi
    have hi3 : i < ys.length := by omega
    have ei : (rngD 0 ((iL xs).length : Int).toNat)[i]'(by simpa using hi) = .int (i : Int) := by simp [rngD]
    rw [ei]
    refine ⟨True.intro, True.intro, True.intro, ?_⟩
    conv => whnf
    rw [ea1]
    conv => whnf
    rw [L2.atI_nat (iL_get hi2)]
    conv => whnf
    rw [en]
    have hxi := hx _ (List.getElem_mem hi2)
    have hyi := hy _ (List.getElem_mem hi3)
    have fin : (iL ((List.zipWith jp xs ys).take i)).length < PySem.sizeLine ∧ A2 = A2 ∧ iL ((List.zipWith jp xs ys).take i) ++ [.int (jp xs[i] ys[i])] = iL ((List.zipWith jp xs ys).take (i + 1)) := by
      have := sl32
      refine ⟨by simp; omega, rfl, ?_⟩
      rw [List.take_succ_eq_append_getElem (by rw [hzl]; exact hi2)]
      simp
    have done := hk2 _ _ fin
    generalize hxv : xs[i] = xv at *
    generalize hyv : ys[i] = yv at *
    rcases v3 hxi with rfl | rfl | rfl
    · refine ⟨True.intro, True.intro, ?_⟩
      conv => whnf
      rw [eb1]
      conv => whnf
      rw [L2.atI_nat (iL_get hi3), hyv]
      conv => whnf
      rw [e0]
      rcases v3 hyi with rfl | rfl | rfl <;> exact done
    · refine ⟨True.intro, True.intro, ?_⟩
      conv => whnf
      rw [eb1]
      conv => whnf
      rw [L2.atI_nat (iL_get hi3), hyv]
      conv => whnf
      rw [e1]
      rcases v3 hyi with rfl | rfl | rfl <;> exact done
    · refine ⟨True.intro, True.intro, ?_⟩
      conv => whnf
      rw [eb1]
      conv => whnf
      rw [L2.atI_nat (iL_get hi3), hyv]
      conv => whnf
      rw [e2]
      rcases v3 hyi with rfl | rfl | rfl <;> exact done
  · rintro acc A2 ⟨rfl, rfl⟩
    have et : (List.zipWith jp xs ys).take ((rngD 0 ((iL xs).length : Int).toNat).length) = List.zipWith jp xs ys := by rw [List.take_of_length_le (by simp [rngD]; omega)]
    rw [et]
    have hz := hx.zip (ys := ys)
    generalize hzz : List.zipWith jp xs ys = zs at *
    have kA : Keep [] A (A2 ++ [.lst (iL zs)]) := k1.trans .push
    have ez : (A2 ++ [O.lst (iL zs)])[A2.length]? = some (.lst (iL zs)) := at_push
    generalize hB : A2 ++ [O.lst (iL zs)] = B at *
    generalize A2.length = zn at *
    have ea2 := kA.2 _ _ ea (by simp)
    have eb2 := kA.2 _ _ eb (by simp)
    have nx : allVal (.tup (iL xs)) = true := allVal_ok hx
    have ny : allVal (.tup (iL ys)) = true := allVal_ok hy
    have nz : allVal (.tup (iL zs)) = true := allVal_ok hz
    refine ⟨True.intro, ?_⟩
    conv => whnf
    rw [ea2]
    refine ⟨True.intro, ?_⟩
    conv => whnf
    rw [eb2]
    refine ⟨True.intro, True.intro, use g.joined_all ⟨.tup (iL xs), .tup (iL ys), rfl, kd_ints, kd_ints, by simp [tupLen]; omega, fun h => absurd nx (by rw [h]; decide), fun _ h => ?_, fun xs' ys' A3 hx' hy' _ _ _ k3 => ?_⟩⟩
    · rcases h with h | h
      · exact absurd ny (by rw [h]; decide)
      · exact absurd (by simpa [tupLen] using hxy) h
    cases tup_inj hx'
    cases tup_inj hy'
    rw [hzz]
    have ez3 := k3.2 _ _ ez (by simp)
    refine ⟨True.intro, use g._law_is_row ⟨zn, zs, rfl, ez3, by omega, ?_⟩⟩
    refine ⟨True.intro, True.intro, use g.joined_all ⟨.tup (iL ys), .tup (iL xs), rfl, kd_ints, kd_ints, by simp [tupLen]; omega, fun h => absurd ny (by rw [h]; decide), fun _ h => ?_, fun xs' ys' A4 hx' hy' _ _ _ k4 => ?_⟩⟩
    · rcases h with h | h
      · exact absurd nx (by rw [h]; decide)
      · exact absurd (by simp [tupLen]; omega) h
    cases tup_inj hx'
    cases tup_inj hy'
    rw [zip_flip, hzz]
    have ez4 := k4.2 _ _ ez3 (by simp)
    have k04 := (kA.trans k3).trans k4
    have ea4 := k04.2 _ _ ea (by simp)
    have eb4 := k04.2 _ _ eb (by simp)
    refine ⟨True.intro, use g._law_is_row ⟨zn, zs, rfl, ez4, by omega, ?_⟩⟩
    -- above
    have up : ∀ (us vs : List Int) (A5 : Ht) (E5 Q5 : D → Ht → Prop), VOK us → VOK vs → vs.length = us.length → Q5 (.bl (aboveAll us vs)) A5 → con_is_above_all [.tup (iL us), .tup (iL vs)] A5 E5 Q5 := fun us vs A5 E5 Q5 hu hv hl q5 => by
      refine ⟨_, _, rfl, kd_ints, kd_ints, fun h => absurd (allVal_ok hu) (by rw [h]; decide), fun _ h => ?_, fun us' vs' e1 e2 _ _ _ => ?_⟩
      · rcases h with h | h
        · exact absurd (allVal_ok hv) (by rw [h]; decide)
        · exact absurd (by simpa [tupLen] using hl) h
      · cases tup_inj e1
        cases tup_inj e2
        exact q5
    refine ⟨True.intro, True.intro, use g.is_above_all (up xs ys _ _ _ hx hy hxy ?_)⟩
    refine ⟨True.intro, True.intro, use g._law_all_above ⟨a, b, xs, ys, rfl, ea4, eb4, hx, hy, by omega, hxy, fun A5 k5 => use g._law_is_truth ⟨_, rfl, ?_⟩⟩⟩
    have ea5 := k5.2 _ _ ea4 (by simp)
    have eb5 := k5.2 _ _ eb4 (by simp)
    have ez5 := k5.2 _ _ ez4 (by simp)
    refine ⟨True.intro, True.intro, use g.is_above_all (up ys xs _ _ _ hy hx hxy.symm ?_)⟩
    refine ⟨True.intro, True.intro, use g._law_all_above ⟨b, a, ys, xs, rfl, eb5, ea5, hy, hx, by omega, hxy.symm, fun A6 k6 => use g._law_is_truth ⟨_, rfl, ?_⟩⟩⟩
    have ez6 := k6.2 _ _ ez5 (by simp)
    have eb6 := k6.2 _ _ eb5 (by simp)
    have hzx : zs.length = xs.length := hzl
    refine ⟨True.intro, ?_⟩
    conv => whnf
    rw [ez6]
    refine ⟨True.intro, use g.is_above_all (up zs xs _ _ _ hz hx hzx.symm ?_)⟩
    have az : aboveAll zs xs = true := by rw [← hzz]; exact above_join
    rw [az]
    refine use g._law_is_truth ⟨true, rfl, ?_⟩
    refine ⟨True.intro, True.intro, use g.is_above_all (up ys ys _ _ _ hy hy rfl ?_)⟩
    rw [above_refl]
    refine use g._law_is_truth ⟨true, rfl, ?_⟩
    refine ⟨True.intro, True.intro, ?_⟩
    conv => whnf
    rw [ez6]
    refine use g.is_above_all (up ys zs _ _ _ hy hz (by omega) ?_)
    refine ⟨True.intro, True.intro, use g._law_all_above ⟨b, zn, ys, zs, rfl, eb6, ez6, hy, hz, by omega, by omega, fun A7 k7 => use g._law_is_truth ⟨_, rfl, ?_⟩⟩⟩
    exact q _ (((k04.trans k5).trans k6).trans k7)
end
end K16
end TextK16l

section TextK16m
set_option autoImplicit false
set_option maxRecDepth 100000
set_option maxHeartbeats 4000000
namespace K16
open PySem Px
def con__law_refusals : Con := fun ds A E Q => ∃ t a b xs ys, ds = [.obj t, .obj a, .obj b] ∧ tp A t ∧ A[a]? = some (.lst (iL xs)) ∧ A[b]? = some (.lst (iL ys)) ∧ a ≠ t ∧ b ≠ t ∧ VOK xs ∧ VOK ys ∧ xs.length ≤ 480 ∧ ys.length = xs.length ∧ ∀ A', Keep [t] A A' → tp A' t → Q (.bl true) A'
def con_law : Con := fun ds A E Q => ∃ ns : List Int, ds = [.rol (iL ns)] ∧ ns.length ≤ 63 ∧ ∀ A', Q (.bl true) A'
structure GOk9 (G : Env') : Prop extends GOk8 G where
  _law_tape : G.con "_law_tape" = con__law_tape
  _law_row : G.con "_law_row" = con__law_row
  _law_beside : G.con "_law_beside" = con__law_beside
  _law_pairs : G.con "_law_pairs" = con__law_pairs
  _law_rows : G.con "_law_rows" = con__law_rows
  _law_texts : G.con "_law_texts" = con__law_texts
  _law_reads : G.con "_law_reads" = con__law_reads
  _law_spoilt : G.con "_law_spoilt" = con__law_spoilt
  _law_refusals : G.con "_law_refusals" = con__law_refusals
section
variable {G : Env'}
theorem b__law_pairs (g : GOk8 G) (ds : List D) (A : Ht) (E Q : D → Ht → Prop) (_ : ds.length = 0) (h : con__law_pairs ds A E Q) : conOf G cc__law_pairs.N ir__law_pairs ds A E Q := by
  obtain ⟨rfl, q⟩ := h
  refine use g._law_joins ⟨rfl, fun A1 n r0 r1 r2 k1 en e0 e1 e2 => ?_⟩
  refine ⟨len3, ?_⟩
  conv => whnf
  rw [at_push]
  have tab : ∀ B, Keep [] A1 B → (B[n]? = some (.lst [.obj r0, .obj r1, .obj r2]) ∧ B[r0]? = some (.lst (iL [0, 2, 2])) ∧ B[r1]? = some (.lst (iL [2, 1, 2])) ∧ B[r2]? = some (.lst (iL [2, 2, 2]))) := fun B k =>
    ⟨k.2 _ _ en (by simp), k.2 _ _ e0 (by simp), k.2 _ _ e1 (by simp), k.2 _ _ e2 (by simp)⟩
  refine loop_go (fun i ρ A' => (∃ u v w x, ρ = [some (.obj n), u, v, w, x]) ∧ Keep [] (A1 ++ [O.lst [.int 0, .int 1, .int 2]]) A') ⟨⟨_, _, _, _, rfl⟩, .refl⟩ (fun i ρ A' h => h.2.2 _ _ at_push (by simp)) ?_ ?_
  · rintro i hi ρ A2 k ⟨⟨u, v, w, x, rfl⟩, k2⟩ hk
    have hi2 : i < 3 := hi
    obtain ⟨a, ha, ea⟩ : ∃ a : Int, (0 ≤ a ∧ a ≤ 2) ∧ ([D.int 0, .int 1, .int 2] : List D)[i]'hi = .int a := by
      have : i = 0 ∨ i = 1 ∨ i = 2 := by omega
      rcases this with rfl | rfl | rfl
      · exact ⟨0, by decide, rfl⟩
      · exact ⟨1, by decide, rfl⟩
      · exact ⟨2, by decide, rfl⟩
    rw [ea]
    have k02 : Keep [] A1 A2 := Keep.push.trans k2
    refine ⟨len3, True.intro, ?_⟩
    conv => whnf
    rw [at_push]
    have efl : L2.atI [D.int 1, .int 0, .int 2] a = some (.int (fl a)) := by rcases v3 ha with rfl | rfl | rfl <;> rfl
    conv => whnf
    rw [efl]
    have hva : isVal (.int a) = true := decide_eq_true ha
    have flp : ∀ (B : Ht) (E5 Q5 : D → Ht → Prop), Q5 (.int (fl a)) B → con_flipped [.int a] B E5 Q5 := fun B E5 Q5 h => ⟨_, rfl, rfl, fun z => (by rw [hva] at z; cases z), fun _ => h⟩
    refine ⟨True.intro, use g.flipped (flp _ _ _ ?_)⟩
    refine ⟨True.intro, use g._law_is_number ⟨_, rfl, ?_⟩⟩
    refine ⟨True.intro, use g.flipped (flp _ _ _ ?_)⟩
    refine ⟨True.intro, use g._law_is_number ⟨_, rfl, ?_⟩⟩
    refine ⟨len3, ?_⟩
    conv => whnf
    rw [at_push]
    have k03 : Keep [] (A1 ++ [O.lst [.int 0, .int 1, .int 2]]) ((A2 ++ [O.lst [.int 1, .int 0, .int 2]]) ++ [O.lst [.int 0, .int 1, .int 2]]) := (k2.trans .push).trans .push
    generalize hB : (A2 ++ [O.lst [.int 1, .int 0, .int 2]]) = B at *
    refine loop_go (fun j ρ A' => (∃ v w x, ρ = [some (.obj n), some (.int a), v, w, x]) ∧ Keep [] (B ++ [O.lst [.int 0, .int 1, .int 2]]) A') ⟨⟨_, _, _, rfl⟩, .refl⟩ (fun i ρ A' h => h.2.2 _ _ at_push (by simp)) ?_ ?_
    · rintro j hj ρ A3 k' ⟨⟨v, w, x, rfl⟩, k3⟩ hk'
      have hj2 : j < 3 := hj
      obtain ⟨b, hb, eb⟩ : ∃ b : Int, (0 ≤ b ∧ b ≤ 2) ∧ ([D.int 0, .int 1, .int 2] : List D)[j]'hj = .int b := by
        have : j = 0 ∨ j = 1 ∨ j = 2 := by omega
        rcases this with rfl | rfl | rfl
        · exact ⟨0, by decide, rfl⟩
        · exact ⟨1, by decide, rfl⟩
        · exact ⟨2, by decide, rfl⟩
      rw [eb]
      have hvb : isVal (.int b) = true := decide_eq_true hb
      obtain ⟨t1, t2, t3, t4⟩ := tab A3 ((Keep.push.trans k03).trans k3)
      have jn : ∀ (p r : Int) (hp : isVal (.int p) = true) (hr : isVal (.int r) = true) (B : Ht) (E5 Q5 : D → Ht → Prop), Q5 (.int (jp p r)) B → con_joined [.int p, .int r] B E5 Q5 := fun p r hp hr B E5 Q5 h => ⟨_, _, rfl, rfl, rfl, fun z => (by rw [hp] at z; cases z), fun _ z => (by rw [hr] at z; cases z), fun _ _ => h⟩
      have av : ∀ (p r : Int) (hp : isVal (.int p) = true) (hr : isVal (.int r) = true) (B : Ht) (E5 Q5 : D → Ht → Prop), Q5 (.bl (ab p r)) B → con_is_above [.int p, .int r] B E5 Q5 := fun p r hp hr B E5 Q5 h => ⟨_, _, rfl, rfl, rfl, fun z => (by rw [hp] at z; cases z), fun _ z => (by rw [hr] at z; cases z), fun _ _ => h⟩
      have jc : jp b a = jp a b := by
        unfold jp
        by_cases h : a = b
        · subst h; rfl
        · rw [if_neg h, if_neg (Ne.symm h)]
      refine ⟨True.intro, True.intro, ?_⟩
      conv => whnf
      rw [t1]
      rcases v3 ha with rfl | rfl | rfl
      · refine ⟨True.intro, ?_⟩
        conv => whnf
        rw [t2]
        rcases v3 hb with rfl | rfl | rfl
        all_goals
          refine ⟨True.intro, True.intro, use g.joined (jn _ _ hvb hva _ _ _ ?_)⟩
          refine ⟨True.intro, True.intro, use g.joined (jn _ _ hva hvb _ _ _ ?_)⟩
          refine ⟨True.intro, use g._law_is_number ⟨_, rfl, ?_⟩⟩
          refine ⟨True.intro, True.intro, use g._law_is_number ⟨_, rfl, ?_⟩⟩
          refine ⟨True.intro, True.intro, use g.is_above (av _ _ hva hvb _ _ _ ?_)⟩
          refine ⟨True.intro, True.intro, use g._law_above ⟨_, _, rfl, ha, hb, fun A4 k4 => use g._law_is_truth ⟨_, rfl, ?_⟩⟩⟩
          refine ⟨True.intro, True.intro, use g.is_above (av _ _ hvb hva _ _ _ ?_)⟩
          refine ⟨True.intro, True.intro, use g._law_above ⟨_, _, rfl, hb, ha, fun A5 k5 => use g._law_is_truth ⟨_, rfl, ?_⟩⟩⟩
          exact hk' _ _ ⟨⟨_, _, _, rfl⟩, (k3.trans k4).trans k5⟩
      · refine ⟨True.intro, ?_⟩
        conv => whnf
        rw [t3]
        rcases v3 hb with rfl | rfl | rfl
        all_goals
          refine ⟨True.intro, True.intro, use g.joined (jn _ _ hvb hva _ _ _ ?_)⟩
          refine ⟨True.intro, True.intro, use g.joined (jn _ _ hva hvb _ _ _ ?_)⟩
          refine ⟨True.intro, use g._law_is_number ⟨_, rfl, ?_⟩⟩
          refine ⟨True.intro, True.intro, use g._law_is_number ⟨_, rfl, ?_⟩⟩
          refine ⟨True.intro, True.intro, use g.is_above (av _ _ hva hvb _ _ _ ?_)⟩
          refine ⟨True.intro, True.intro, use g._law_above ⟨_, _, rfl, ha, hb, fun A4 k4 => use g._law_is_truth ⟨_, rfl, ?_⟩⟩⟩
          refine ⟨True.intro, True.intro, use g.is_above (av _ _ hvb hva _ _ _ ?_)⟩
          refine ⟨True.intro, True.intro, use g._law_above ⟨_, _, rfl, hb, ha, fun A5 k5 => use g._law_is_truth ⟨_, rfl, ?_⟩⟩⟩
          exact hk' _ _ ⟨⟨_, _, _, rfl⟩, (k3.trans k4).trans k5⟩
      · refine ⟨True.intro, ?_⟩
        conv => whnf
        rw [t4]
        rcases v3 hb with rfl | rfl | rfl
        all_goals
          refine ⟨True.intro, True.intro, use g.joined (jn _ _ hvb hva _ _ _ ?_)⟩
          refine ⟨True.intro, True.intro, use g.joined (jn _ _ hva hvb _ _ _ ?_)⟩
          refine ⟨True.intro, use g._law_is_number ⟨_, rfl, ?_⟩⟩
          refine ⟨True.intro, True.intro, use g._law_is_number ⟨_, rfl, ?_⟩⟩
          refine ⟨True.intro, True.intro, use g.is_above (av _ _ hva hvb _ _ _ ?_)⟩
          refine ⟨True.intro, True.intro, use g._law_above ⟨_, _, rfl, ha, hb, fun A4 k4 => use g._law_is_truth ⟨_, rfl, ?_⟩⟩⟩
          refine ⟨True.intro, True.intro, use g.is_above (av _ _ hvb hva _ _ _ ?_)⟩
          refine ⟨True.intro, True.intro, use g._law_above ⟨_, _, rfl, hb, ha, fun A5 k5 => use g._law_is_truth ⟨_, rfl, ?_⟩⟩⟩
          exact hk' _ _ ⟨⟨_, _, _, rfl⟩, (k3.trans k4).trans k5⟩
    · rintro ρ A3 ⟨⟨v, w, x, rfl⟩, k3⟩
      exact hk _ _ ⟨⟨_, _, _, _, rfl⟩, k03.trans k3⟩
  · rintro ρ A2 ⟨⟨u, v, w, x, rfl⟩, k2⟩
    exact q _ (k1.trans (Keep.push.trans k2))
theorem b_law (g : GOk9 G) (ds : List D) (A : Ht) (E Q : D → Ht → Prop) (_ : ds.length = 1) (h : con_law ds A E Q) : conOf G cc_law.N ir_law ds A E Q := by
  obtain ⟨ns, rfl, hn, q⟩ := h
  have h32 := sl32
  refine ⟨True.intro, use g._law_tape ⟨ns, rfl, hn, fun A1 t tA k1 ht1 => ?_⟩⟩
  refine ⟨True.intro, use g._law_row ⟨t, rfl, ht1, fun A2 a xs aA k2 ht2 ea hx hxl => ?_⟩⟩
  have at' : a ≠ t := by have := tp_lt ht1; omega
  refine ⟨True.intro, True.intro, use g._law_beside ⟨t, a, xs, rfl, ht2, ea, at', hx, by omega, fun A3 b ys bA k3 ht3 eb hy hyl => ?_⟩⟩
  have bt : b ≠ t := by have := tp_lt ht2; omega
  have ea3 := k3.2 _ _ ea (by simpa using at')
  refine use g._law_pairs ⟨rfl, fun A4 k4 => ?_⟩
  have ea4 := k4.2 _ _ ea3 (by simp)
  have eb4 := k4.2 _ _ eb (by simp)
  refine ⟨True.intro, True.intro, use g._law_rows ⟨a, b, xs, ys, rfl, ea4, eb4, hx, hy, hxl, hyl, fun A5 k5 => ?_⟩⟩
  have ea5 := k5.2 _ _ ea4 (by simp)
  have eb5 := k5.2 _ _ eb4 (by simp)
  refine ⟨True.intro, True.intro, use g._law_rows ⟨b, a, ys, xs, rfl, eb5, ea5, hy, hx, by omega, hyl.symm, fun A6 k6 => ?_⟩⟩
  have ea6 := k6.2 _ _ ea5 (by simp)
  have eb6 := k6.2 _ _ eb5 (by simp)
  refine ⟨by decide, by decide, use g._law_rows ⟨A6.length, (A6 ++ [O.lst []]).length, [], [], rfl, by rw [List.getElem?_append_left (by simp), at_push]; rfl, at_push, by simp [VOK], by simp [VOK], by decide, rfl, fun A7 k7 => ?_⟩⟩
  have k67 : Keep [] A6 A7 := (Keep.push.trans .push).trans k7
  have ea7 := k67.2 _ _ ea6 (by simp)
  have eb7 := k67.2 _ _ eb6 (by simp)
  refine ⟨True.intro, use g._law_texts ⟨a, xs, rfl, ea7, hx, by omega, fun A8 k8 => ?_⟩⟩
  have eb8 := k8.2 _ _ eb7 (by simp)
  refine ⟨True.intro, use g._law_texts ⟨b, ys, rfl, eb8, hy, by omega, fun A9 k9 => ?_⟩⟩
  refine ⟨by decide, use g._law_texts ⟨A9.length, [], rfl, at_push, by simp [VOK], by decide, fun A10 k10 => ?_⟩⟩
  have k310 : Keep [] A3 A10 := (((((k4.trans k5).trans k6).trans k67).trans k8).trans k9).trans (Keep.push.trans k10)
  have ht10 := tp_keep ht3 k310 (by simp)
  have ea10 := k310.2 _ _ ea3 (by simp)
  have eb10 := k310.2 _ _ eb (by simp)
  refine ⟨by show 16 ≤ PySem.sizeLine; omega, True.intro, True.intro, use g._law_pick ⟨t, 16, rfl, by decide, by decide, tp_keep ht10 .push (S := []) (by simp), fun A11 r r0 r1 k11 l11 ht11 => ?_⟩⟩
  have em := k11.2 _ _ (at_push (A := A10)) (by have := tp_lt ht10; simp; omega)
  have k1011 : Keep [t] A10 A11 := Keep.push.trans k11
  have ea11 := k1011.2 _ _ ea10 (by simpa using at')
  have eb11 := k1011.2 _ _ eb10 (by simpa using bt)
  conv => whnf
  rw [em]
  obtain ⟨s, es, hs⟩ : ∃ s : Str, L2.atI [D.str "", .str "-", .str "--", .str "-0", .str "0-", .str "2", .str "X", .str " ", .str "x ", .str "01-2", .str "0,1", .str "x-", .str "01x", .str "xx2", .str " 0", .str "O"] r = some (.str s) ∧ s.length ≤ 10000 := by
    have : r = 0 ∨ r = 1 ∨ r = 2 ∨ r = 3 ∨ r = 4 ∨ r = 5 ∨ r = 6 ∨ r = 7 ∨ r = 8 ∨ r = 9 ∨ r = 10 ∨ r = 11 ∨ r = 12 ∨ r = 13 ∨ r = 14 ∨ r = 15 := by omega
    rcases this with rfl | rfl | rfl | rfl | rfl | rfl | rfl | rfl | rfl | rfl | rfl | rfl | rfl | rfl | rfl | rfl <;> exact ⟨_, rfl, by decide⟩
  conv => whnf
  rw [es]
  refine use g._law_reads ⟨s, rfl, hs, fun A12 k12 => ?_⟩
  refine use g._law_reads ⟨"", rfl, by decide, fun A13 k13 => ?_⟩
  have k1113 : Keep [] A11 A13 := k12.trans k13
  have ht13 := tp_keep ht11 k1113 (by simp)
  have ea13 := k1113.2 _ _ ea11 (by simp)
  have eb13 := k1113.2 _ _ eb11 (by simp)
  refine ⟨True.intro, True.intro, True.intro, by show 3 ≤ PySem.sizeLine; omega, ?_⟩
  conv => whnf
  rw [at_push]
  have tl13 := tp_lt ht13
  refine loop_go (fun i ρ A' => (∃ u, ρ = [some (.rol (iL ns)), some (.obj t), some (.obj a), some (.obj b), some (.obj A10.length), u]) ∧ Keep [t] (A13 ++ [O.lst [.obj a, .obj b, .obj a]]) A' ∧ tp A' t) ⟨⟨none, rfl⟩, .refl, tp_keep ht13 .push (S := []) (by simp)⟩ (fun i ρ A' h => h.2.1.2 _ _ at_push (by simp; omega)) ?_ ?_
  · rintro i hi ρ A14 k ⟨⟨u, rfl⟩, k14, ht14⟩ hk
    have hi2 : i < 3 := hi
    have k1314 : Keep [t] A13 A14 := Keep.push.trans k14
    have ea14 := k1314.2 _ _ ea13 (by simpa using at')
    have eb14 := k1314.2 _ _ eb13 (by simpa using bt)
    have done : ∀ c zs, A14[c]? = some (.lst (iL zs)) → c ≠ t → VOK zs → zs.length ≤ 480 → ∀ (Qq : D → Ht → Prop), (∀ A', (Keep [t] A14 A' ∧ tp A' t) → Qq (.bl true) A') → ∀ E', con__law_spoilt [.obj t, .obj c] A14 E' fun d A1 => (∀ s, d = .str s → s.length ≤ 10000 → G.con "_law_reads" [d] A1 E' Qq) → G.con "_law_reads" [d] A1 E' Qq := fun c zs ec hct hz hzl Qq hq E' => ⟨t, c, zs, rfl, ht14, ec, hct, hz, by omega, fun A' s k' ht' hs' h => h s rfl (by omega)⟩
    have : i = 0 ∨ i = 1 ∨ i = 2 := by omega
    rcases this with rfl | rfl | rfl
    · refine ⟨True.intro, True.intro, use g._law_spoilt ⟨t, a, xs, rfl, ht14, ea14, at', hx, by omega, fun A15 s k15 ht15 hs => use g._law_reads ⟨s, rfl, by omega, fun A16 k16 => ?_⟩⟩⟩
      exact hk _ _ ⟨⟨_, rfl⟩, (k14.trans k15).trans k16.any, tp_keep ht15 k16 (by simp)⟩
    · refine ⟨True.intro, True.intro, use g._law_spoilt ⟨t, b, ys, rfl, ht14, eb14, bt, hy, by omega, fun A15 s k15 ht15 hs => use g._law_reads ⟨s, rfl, by omega, fun A16 k16 => ?_⟩⟩⟩
      exact hk _ _ ⟨⟨_, rfl⟩, (k14.trans k15).trans k16.any, tp_keep ht15 k16 (by simp)⟩
    · refine ⟨True.intro, True.intro, use g._law_spoilt ⟨t, a, xs, rfl, ht14, ea14, at', hx, by omega, fun A15 s k15 ht15 hs => use g._law_reads ⟨s, rfl, by omega, fun A16 k16 => ?_⟩⟩⟩
      exact hk _ _ ⟨⟨_, rfl⟩, (k14.trans k15).trans k16.any, tp_keep ht15 k16 (by simp)⟩
  · rintro ρ A14 ⟨⟨u, rfl⟩, k14, ht14⟩
    have k1314 : Keep [t] A13 A14 := Keep.push.trans k14
    have ea14 := k1314.2 _ _ ea13 (by simpa using at')
    have eb14 := k1314.2 _ _ eb13 (by simpa using bt)
    refine ⟨True.intro, True.intro, True.intro, use g._law_refusals ⟨t, a, b, xs, ys, rfl, ht14, ea14, eb14, at', bt, hx, hy, hxl, hyl, fun A15 k15 ht15 => ?_⟩⟩
    have eb15 := k15.2 _ _ eb14 (by simpa using bt)
    exact ⟨True.intro, use g._law_texts ⟨b, ys, rfl, eb15, hy, by omega, fun A16 _ => q A16⟩⟩
end
end K16
end TextK16m

section TextK16n
set_option autoImplicit false
set_option maxRecDepth 100000
set_option maxHeartbeats 4000000
namespace K16
open PySem Px
theorem len2 {a b : D} : [a, b].length ≤ PySem.sizeLine := by have := sl32; simp; omega
theorem len1 {a : D} : [a].length ≤ PySem.sizeLine := by have := sl32; simp; omega
theorem tp_push {A : Ht} {t : Nat} {o : O} (h : tp A t) : tp (A ++ [o]) t := tp_keep h .push (S := []) (by simp)
section
variable {G : Env'} (g : GOk8 G)
include g
theorem b__law_refusals (ds : List D) (A : Ht) (E Q : D → Ht → Prop) (_ : ds.length = 3) (h : con__law_refusals ds A E Q) : conOf G cc__law_refusals.N ir__law_refusals ds A E Q := by
  obtain ⟨t, a, b, xs, ys, rfl, ht, ea, eb, at', bt, hx, hy, hl, hxy, q⟩ := h
  have h32 := sl32
  refine ⟨True.intro, ?_⟩
  conv => whnf
  rw [ea]
  refine ⟨True.intro, ?_⟩
  conv => whnf
  rw [eb]
  refine ⟨len2, ?_⟩
  conv => whnf
  rw [at_push]
  have tl := tp_lt ht
  have vy : allVal (.tup (iL ys)) = true := allVal_ok hy
  have vx : allVal (.tup (iL xs)) = true := allVal_ok hx
  refine loop_go (fun i ρ A' => (∃ u v w x, ρ = [some (.obj t), some (.obj a), some (.obj b), some (.tup (iL xs)), some (.tup (iL ys)), u, v, w, x]) ∧ Keep [t] (A ++ [O.lst [.str "joined", .str "is_above"]]) A' ∧ tp A' t) ⟨⟨_, _, _, _, rfl⟩, .refl, tp_push ht⟩ (fun i ρ A' h => h.2.1.2 _ _ at_push (by simp; omega)) ?_ ?_
  · rintro i hi ρ A1 k ⟨⟨u, v, w, x, rfl⟩, k1, ht1⟩ hk
    have hi2 : i < 2 := hi
    obtain ⟨wd, hw, ew⟩ : ∃ wd : Str, (wd = "joined" ∨ wd = "is_above") ∧ ([D.str "joined", .str "is_above"] : List D)[i]'hi = .str wd := by
      have : i = 0 ∨ i = 1 := by omega
      rcases this with rfl | rfl
      · exact ⟨_, .inl rfl, rfl⟩
      · exact ⟨_, .inr rfl, rfl⟩
    rw [ew]
    refine ⟨True.intro, use g._law_pick ⟨t, 3, rfl, by decide, by decide, ht1, fun A2 r r0 r1 k2 l2 ht2 => ?_⟩⟩
    refine ⟨True.intro, use g._law_no_value ⟨t, rfl, ht2, fun A3 d k3 ht3 hd hdv => ?_⟩⟩
    have hvr : isVal (.int r) = true := decide_eq_true ⟨r0, by omega⟩
    have one : ∀ (A' : Ht) (y : D), kn A' d = true → kn A' y = true → refuses A' wd [d, y] "one" := fun A' y h1 h2 => .inl ⟨hw, d, y, rfl, h1, h2, .inl ⟨hdv, rfl⟩⟩
    refine ⟨True.intro, kn_nonX hd, True.intro, len2, use g._law_refused ⟨wd, A3.length, _, "one", rfl, at_push, one _ _ (kn_keep hd .push (tp_push ht3)) rfl, ?_⟩⟩
    refine ⟨True.intro, kn_nonX hd, True.intro, use g._law_no_value ⟨t, rfl, tp_push ht3, fun A4 d2 k4 ht4 hd2 _ => ?_⟩⟩
    have hd4 : kn A4 d = true := kn_keep hd (Keep.push.trans k4) ht4
    refine ⟨len2, use g._law_refused ⟨wd, A4.length, _, "one", rfl, at_push, one _ _ (kn_keep hd4 .push (tp_push ht4)) (kn_keep hd2 .push (tp_push ht4)), ?_⟩⟩
    have hd5 : kn (A4 ++ [O.lst [d, d2]]) d = true := kn_keep hd4 .push (tp_push ht4)
    have ht5 : tp (A4 ++ [O.lst [d, d2]]) t := tp_push ht4
    have k15 : Keep [t] A1 (A4 ++ [O.lst [d, d2]]) := ((k2.trans k3).trans (Keep.push.trans k4)).trans .push
    generalize (A4 ++ [O.lst [d, d2]]) = A5 at *
    refine ⟨True.intro, True.intro, kn_nonX hd5, len2, use g._law_refused ⟨wd, A5.length, _, "other", rfl, at_push, .inl ⟨hw, .int r, d, rfl, rfl, kn_keep hd5 .push (tp_push ht5), .inr ⟨hvr, hdv, rfl⟩⟩, ?_⟩⟩
    refine ⟨kn_nonX hd5, len1, use g._law_refused ⟨"flipped", (A5 ++ [O.lst [.int r, d]]).length, _, "value", rfl, at_push, .inr (.inr (.inl ⟨rfl, d, rfl, kn_keep hd5 (Keep.push.trans .push) (tp_push (tp_push ht5)), hdv, rfl⟩)), ?_⟩⟩
    exact hk _ _ ⟨⟨_, _, _, _, rfl⟩, (k1.trans k15).trans (.trans .push .push), tp_push (tp_push ht5)⟩
  · rintro ρ A1 ⟨⟨u, v, w, x, rfl⟩, k1, ht1⟩
    have kA1 : Keep [t] A A1 := Keep.push.trans k1
    refine ⟨len2, ?_⟩
    conv => whnf
    rw [at_push]
    have tl1 := tp_lt ht1
    refine loop_go (fun i ρ A' => (∃ u v w x, ρ = [some (.obj t), some (.obj a), some (.obj b), some (.tup (iL xs)), some (.tup (iL ys)), u, v, w, x]) ∧ Keep [t] (A1 ++ [O.lst [.str "joined_all", .str "is_above_all"]]) A' ∧ tp A' t) ⟨⟨_, _, _, _, rfl⟩, .refl, tp_push ht1⟩ (fun i ρ A' h => h.2.1.2 _ _ at_push (by simp; omega)) ?_ ?_
    · rintro i hi ρ A2 k ⟨⟨u, v, w, x, rfl⟩, k2, ht2⟩ hk
      have hi2 : i < 2 := hi
      obtain ⟨wd, hw, ew⟩ : ∃ wd : Str, (wd = "joined_all" ∨ wd = "is_above_all") ∧ ([D.str "joined_all", .str "is_above_all"] : List D)[i]'hi = .str wd := by
        have : i = 0 ∨ i = 1 := by omega
        rcases this with rfl | rfl
        · exact ⟨_, .inl rfl, rfl⟩
        · exact ⟨_, .inr rfl, rfl⟩
      rw [ew]
      have kA2 : Keep [t] A A2 := kA1.trans (Keep.push.trans k2)
      have ea2 := kA2.2 _ _ ea (by simpa using at')
      refine ⟨True.intro, True.intro, use g._law_no_row ⟨t, a, xs, rfl, ht2, ea2, at', hx, hl, fun A3 d k3 ht3 hd hdv hdl => ?_⟩⟩
      have ones : ∀ (A' : Ht) (y : D), kd A' d → kd A' y → refuses A' wd [d, y] "ones" := fun A' y h1 h2 => .inr (.inl ⟨hw, d, y, rfl, h1, h2, hdl, .inl ⟨hdv, rfl⟩⟩)
      refine ⟨True.intro, kn_nonX hd.1, True.intro, len2, use g._law_refused ⟨wd, A3.length, _, "ones", rfl, at_push, ones _ _ (kd_keep hd .push (tp_push ht3)) kd_ints, ?_⟩⟩
      refine ⟨True.intro, kn_nonX hd.1, kn_nonX hd.1, len2, use g._law_refused ⟨wd, (A3 ++ [O.lst [d, .tup (iL ys)]]).length, _, "ones", rfl, at_push, ones _ _ (kd_keep hd (Keep.push.trans .push) (tp_push (tp_push ht3))) (kd_keep hd (Keep.push.trans .push) (tp_push (tp_push ht3))), ?_⟩⟩
      have ht4 : tp ((A3 ++ [O.lst [d, .tup (iL ys)]]) ++ [O.lst [d, d]]) t := tp_push (tp_push ht3)
      have k24 : Keep [t] A2 ((A3 ++ [O.lst [d, .tup (iL ys)]]) ++ [O.lst [d, d]]) := k3.trans (.trans .push .push)
      generalize ((A3 ++ [O.lst [d, .tup (iL ys)]]) ++ [O.lst [d, d]]) = A4 at *
      have eb4 := (kA2.trans k24).2 _ _ eb (by simpa using bt)
      refine ⟨True.intro, True.intro, True.intro, True.intro, use g._law_no_row ⟨t, b, ys, rfl, ht4, eb4, bt, hy, by omega, fun A5 d5 k5 ht5 hd5 hdv5 _ => ?_⟩⟩
      have oth : ∀ (A' : Ht) (us : List Int) (y : D), VOK us → us.length ≤ 1000 → kd A' y → (allVal y = false ∨ tupLen y ≠ us.length) → refuses A' wd [.tup (iL us), y] "others" := fun A' us y hu hul h2 h3 => .inr (.inl ⟨hw, _, y, rfl, kd_ints, h2, by simpa [tupLen] using hul, .inr ⟨allVal_ok hu, by simpa [tupLen] using h3, rfl⟩⟩)
      refine ⟨len2, use g._law_refused ⟨wd, A5.length, _, "others", rfl, at_push, oth _ xs d5 hx (by omega) (kd_keep hd5 .push (tp_push ht5)) (.inl hdv5), ?_⟩⟩
      have ht6 : tp (A5 ++ [O.lst [.tup (iL xs), d5]]) t := tp_push ht5
      have k46 : Keep [t] A4 (A5 ++ [O.lst [.tup (iL xs), d5]]) := k5.trans .push
      generalize (A5 ++ [O.lst [.tup (iL xs), d5]]) = A6 at *
      have yl : (iL ys).length = ys.length := iL_len
      refine ⟨True.intro, by show 1 ≤ PySem.sizeLine; omega, by show (iL ys).length + 1 ≤ _; omega, True.intro, True.intro, by omega, by show 1 ≤ PySem.sizeLine; omega, by show ((iL ys) ++ (iL ys)).length + 1 ≤ _; rw [List.length_append]; omega, by show 1 ≤ PySem.sizeLine; omega, True.intro, by show 1 + (iL ys).length ≤ _; omega, by show 3 ≤ PySem.sizeLine; omega, ?_⟩
      have tl6 := tp_lt ht6
      conv => whnf
      rw [at_push]
      refine loop_go (fun i ρ A' => (∃ x, ρ = [some (.obj t), some (.obj a), some (.obj b), some (.tup (iL xs)), some (.tup (iL ys)), some (.str wd), v, some d, x]) ∧ Keep [t] (A6 ++ [O.lst [.tup (iL ys ++ [.int 0]), .tup (iL ys ++ iL ys ++ [.int 2]), .tup ([.int 1] ++ iL ys)]]) A' ∧ tp A' t) ⟨⟨_, rfl⟩, .refl, tp_push ht6⟩ (fun i ρ A' h => h.2.1.2 _ _ at_push (by simp; omega)) ?_ ?_
      · rintro j hj ρ A7 k' ⟨⟨x7, rfl⟩, k7, ht7⟩ hk'
        have hj2 : j < 3 := hj
        obtain ⟨zs, hz, hzl, hzn, ez⟩ : ∃ zs, VOK zs ∧ zs.length ≤ 1000 ∧ zs.length ≠ xs.length ∧ ([D.tup (iL ys ++ [.int 0]), .tup (iL ys ++ iL ys ++ [.int 2]), .tup ([.int 1] ++ iL ys)] : List D)[j]'hj = .tup (iL zs) := by
          have : j = 0 ∨ j = 1 ∨ j = 2 := by omega
          rcases this with rfl | rfl | rfl
          · exact ⟨ys ++ [0], hy.app (.one (by decide) (by decide)), by simp; omega, by simp; omega, by simp⟩
          · exact ⟨ys ++ ys ++ [2], (hy.app hy).app (.one (by decide) (by decide)), by simp; omega, by simp; omega, by simp⟩
          · exact ⟨[1] ++ ys, VOK.app (.one (by decide) (by decide)) hy, by simp; omega, by simp; omega, by simp⟩
        rw [ez]
        refine ⟨True.intro, True.intro, True.intro, len2, use g._law_refused ⟨wd, A7.length, _, "others", rfl, at_push, oth _ xs _ hx (by omega) kd_ints (.inr (by simpa [tupLen] using hzn)), ?_⟩⟩
        refine ⟨True.intro, True.intro, True.intro, len2, use g._law_refused ⟨wd, (A7 ++ [O.lst [.tup (iL xs), .tup (iL zs)]]).length, _, "others", rfl, at_push, oth _ zs _ hz hzl kd_ints (.inr (by simp [tupLen]; omega)), ?_⟩⟩
        exact hk' _ _ ⟨⟨_, rfl⟩, (k7.trans .push).trans .push, tp_push (tp_push ht7)⟩
      · rintro ρ A7 ⟨⟨x7, rfl⟩, k7, ht7⟩
        have k67 : Keep [t] A6 A7 := Keep.push.trans k7
        have k27 : Keep [t] A2 A7 := (k24.trans k46).trans k67
        have eb7 := (kA2.trans k27).2 _ _ eb (by simpa using bt)
        have fin : ∀ A8, Keep [t] A7 A8 → tp A8 t → k [some (.obj t), some (.obj a), some (.obj b), some (.tup (iL xs)), some (.tup (iL ys)), some (.str wd), v, some d, x7] A8 := fun A8 k8 ht8 => hk _ _ ⟨⟨_, _, _, _, rfl⟩, (k2.trans k27).trans k8, ht8⟩
        refine ⟨True.intro, ?_⟩
        conv => whnf
        rw [eb7]
        conv => whnf
        by_cases c : (0 : Int) < ((iL ys).length : Int)
        · rw [decide_eq_true c]
          have hp : 1 ≤ ys.length := by simp at c; omega
          refine ⟨True.intro, True.intro, True.intro, ?_⟩
          have ec := cut1 hp
          show _ ∧ _
          rw [ec]
          refine ⟨len2, use g._law_refused ⟨wd, A7.length, _, "others", rfl, at_push, oth _ xs _ hx (by omega) kd_ints (.inr (by simp [tupLen]; omega)), ?_⟩⟩
          exact fin _ .push (tp_push ht7)
        · rw [decide_eq_false c]
          exact fin _ .refl ht7
    · rintro ρ A2 ⟨⟨u, v, w, x, rfl⟩, k2, ht2⟩
      have kA2 : Keep [t] A A2 := kA1.trans (Keep.push.trans k2)
      have ea2 := kA2.2 _ _ ea (by simpa using at')
      refine ⟨True.intro, True.intro, use g._law_no_row ⟨t, a, xs, rfl, ht2, ea2, at', hx, hl, fun A3 d k3 ht3 hd hdv hdl => ?_⟩⟩
      refine ⟨len1, use g._law_refused ⟨"values_text", A3.length, _, "values", rfl, at_push, .inr (.inr (.inr (.inl ⟨rfl, d, rfl, kd_keep hd .push (tp_push ht3), hdl, hdv, rfl⟩))), ?_⟩⟩
      have ht4 : tp (A3 ++ [O.lst [d]]) t := tp_push ht3
      have kA4 : Keep [t] A (A3 ++ [O.lst [d]]) := (kA2.trans k3).trans .push
      generalize (A3 ++ [O.lst [d]]) = A4 at *
      have tl4 := tp_lt ht4
      refine ⟨Nat.zero_le _, len1, len2, Nat.zero_le _, True.intro, by show 8 ≤ PySem.sizeLine; omega, True.intro, use g._law_pick ⟨t, 8, rfl, by decide, by decide, tp_push (tp_push (tp_push ht4)), fun A5 r r0 r1 k5 l5 ht5 => ?_⟩⟩
      have em := k5.2 _ _ at_push (by simp; omega)
      have o1 := k5.2 A4.length (.lst [.str "0", .str "1"]) (by simp [List.getElem?_append]) (by simp; omega)
      have o2 := k5.2 (A4 ++ [O.lst [.str "0", .str "1"]]).length (.lst []) (by simp [List.getElem?_append]) (by simp; omega)
      have kA5 : Keep [t] A A5 := kA4.trans ((Keep.push.trans (.trans .push .push)).trans k5)
      conv => whnf
      rw [em]
      have fin : ∀ y : D, kn A5 y = true → (∀ s, y ≠ .str s) → con__law_refused [.str "read_values", .obj A5.length, .str "text"] (A5 ++ [O.lst [y]]) E Q := fun y hy1 hy2 => ⟨"read_values", A5.length, _, "text", rfl, at_push, .inr (.inr (.inr (.inr ⟨rfl, y, rfl, kn_keep hy1 .push (tp_push ht5), hy2, rfl⟩))), q _ (kA5.trans .push) (tp_push ht5)⟩
      have : r = 0 ∨ r = 1 ∨ r = 2 ∨ r = 3 ∨ r = 4 ∨ r = 5 ∨ r = 6 ∨ r = 7 := by omega
      rcases this with rfl | rfl | rfl | rfl | rfl | rfl | rfl | rfl
      · exact ⟨True.intro, len1, use g._law_refused (fin _ rfl (fun s h => by cases h))⟩
      · exact ⟨True.intro, len1, use g._law_refused (fin _ rfl (fun s h => by cases h))⟩
      · exact ⟨True.intro, len1, use g._law_refused (fin _ rfl (fun s h => by cases h))⟩
      · exact ⟨True.intro, len1, use g._law_refused (fin _ rfl (fun s h => by cases h))⟩
      · exact ⟨True.intro, len1, use g._law_refused (fin _ rfl (fun s h => by cases h))⟩
      · exact ⟨True.intro, len1, use g._law_refused (fin _ (kn_obj o1) (fun s h => by cases h))⟩
      · exact ⟨True.intro, len1, use g._law_refused (fin _ (kn_obj o2) (fun s h => by cases h))⟩
      · exact ⟨True.intro, len1, use g._law_refused (fin _ rfl (fun s h => by cases h))⟩
end
end K16
end TextK16n

section TextK16z
set_option autoImplicit false
set_option maxRecDepth 100000
set_option maxHeartbeats 8000000
namespace K16
open PySem PySem.Spec PyProof.Rows L2 Px
theorem sc_is_integer : FnScope cc_is_integer.N ["thing"] (defScope st_is_integer) := ⟨rfl, rfl, rfl, by decide +kernel, rfl, by decide +kernel, by decide +kernel⟩
theorem sc_is_value : FnScope cc_is_value.N ["thing"] (defScope st_is_value) := ⟨rfl, rfl, rfl, by decide +kernel, rfl, by decide +kernel, by decide +kernel⟩
theorem sc__joined_pair : FnScope cc__joined_pair.N ["one", "other"] (defScope st__joined_pair) := ⟨rfl, rfl, rfl, by decide +kernel, rfl, by decide +kernel, by decide +kernel⟩
theorem sc_joined : FnScope cc_joined.N ["one", "other"] (defScope st_joined) := ⟨rfl, rfl, rfl, by decide +kernel, rfl, by decide +kernel, by decide +kernel⟩
theorem sc_is_above : FnScope cc_is_above.N ["one", "other"] (defScope st_is_above) := ⟨rfl, rfl, rfl, by decide +kernel, rfl, by decide +kernel, by decide +kernel⟩
theorem sc_flipped : FnScope cc_flipped.N ["value"] (defScope st_flipped) := ⟨rfl, rfl, rfl, by decide +kernel, rfl, by decide +kernel, by decide +kernel⟩
theorem sc_are_all_values : FnScope cc_are_all_values.N ["thing"] (defScope st_are_all_values) := ⟨rfl, rfl, rfl, by decide +kernel, rfl, by decide +kernel, by decide +kernel⟩
theorem sc_joined_all : FnScope cc_joined_all.N ["ones", "others"] (defScope st_joined_all) := ⟨rfl, rfl, rfl, by decide +kernel, rfl, by decide +kernel, by decide +kernel⟩
theorem sc_is_above_all : FnScope cc_is_above_all.N ["ones", "others"] (defScope st_is_above_all) := ⟨rfl, rfl, rfl, by decide +kernel, rfl, by decide +kernel, by decide +kernel⟩
theorem sc_values_text : FnScope cc_values_text.N ["values"] (defScope st_values_text) := ⟨rfl, rfl, rfl, by decide +kernel, rfl, by decide +kernel, by decide +kernel⟩
theorem sc_read_values : FnScope cc_read_values.N ["text"] (defScope st_read_values) := ⟨rfl, rfl, rfl, by decide +kernel, rfl, by decide +kernel, by decide +kernel⟩
theorem sc__law_tape : FnScope cc__law_tape.N ["_law_script"] (defScope st__law_tape) := ⟨rfl, rfl, rfl, by decide +kernel, rfl, by decide +kernel, by decide +kernel⟩
theorem sc__law_pick : FnScope cc__law_pick.N ["_law_tape_here", "_law_many"] (defScope st__law_pick) := ⟨rfl, rfl, rfl, by decide +kernel, rfl, by decide +kernel, by decide +kernel⟩
theorem sc__law_row : FnScope cc__law_row.N ["_law_tape_here"] (defScope st__law_row) := ⟨rfl, rfl, rfl, by decide +kernel, rfl, by decide +kernel, by decide +kernel⟩
theorem sc__law_beside : FnScope cc__law_beside.N ["_law_tape_here", "_law_row_here"] (defScope st__law_beside) := ⟨rfl, rfl, rfl, by decide +kernel, rfl, by decide +kernel, by decide +kernel⟩
theorem sc__law_is_number : FnScope cc__law_is_number.N ["_law_thing", "_law_due"] (defScope st__law_is_number) := ⟨rfl, rfl, rfl, by decide +kernel, rfl, by decide +kernel, by decide +kernel⟩
theorem sc__law_is_row : FnScope cc__law_is_row.N ["_law_thing", "_law_due"] (defScope st__law_is_row) := ⟨rfl, rfl, rfl, by decide +kernel, rfl, by decide +kernel, by decide +kernel⟩
theorem sc__law_is_truth : FnScope cc__law_is_truth.N ["_law_thing", "_law_due"] (defScope st__law_is_truth) := ⟨rfl, rfl, rfl, by decide +kernel, rfl, by decide +kernel, by decide +kernel⟩
theorem sc__law_joins : FnScope cc__law_joins.N [] (defScope st__law_joins) := ⟨rfl, rfl, rfl, by decide +kernel, rfl, by decide +kernel, by decide +kernel⟩
theorem sc__law_above : FnScope cc__law_above.N ["_law_first", "_law_second"] (defScope st__law_above) := ⟨rfl, rfl, rfl, by decide +kernel, rfl, by decide +kernel, by decide +kernel⟩
theorem sc__law_pairs : FnScope cc__law_pairs.N [] (defScope st__law_pairs) := ⟨rfl, rfl, rfl, by decide +kernel, rfl, by decide +kernel, by decide +kernel⟩
theorem sc__law_all_above : FnScope cc__law_all_above.N ["_law_first", "_law_second"] (defScope st__law_all_above) := ⟨rfl, rfl, rfl, by decide +kernel, rfl, by decide +kernel, by decide +kernel⟩
theorem sc__law_rows : FnScope cc__law_rows.N ["_law_first", "_law_second"] (defScope st__law_rows) := ⟨rfl, rfl, rfl, by decide +kernel, rfl, by decide +kernel, by decide +kernel⟩
theorem sc__law_text : FnScope cc__law_text.N ["_law_row_here"] (defScope st__law_text) := ⟨rfl, rfl, rfl, by decide +kernel, rfl, by decide +kernel, by decide +kernel⟩
theorem sc__law_texts : FnScope cc__law_texts.N ["_law_row_here"] (defScope st__law_texts) := ⟨rfl, rfl, rfl, by decide +kernel, rfl, by decide +kernel, by decide +kernel⟩
theorem sc__law_characters : FnScope cc__law_characters.N [] (defScope st__law_characters) := ⟨rfl, rfl, rfl, by decide +kernel, rfl, by decide +kernel, by decide +kernel⟩
theorem sc__law_spoilt : FnScope cc__law_spoilt.N ["_law_tape_here", "_law_row_here"] (defScope st__law_spoilt) := ⟨rfl, rfl, rfl, by decide +kernel, rfl, by decide +kernel, by decide +kernel⟩
theorem sc__law_unread : FnScope cc__law_unread.N ["_law_text_here", "_law_place"] (defScope st__law_unread) := ⟨rfl, rfl, rfl, by decide +kernel, rfl, by decide +kernel, by decide +kernel⟩
theorem sc__law_reads : FnScope cc__law_reads.N ["_law_text_here"] (defScope st__law_reads) := ⟨rfl, rfl, rfl, by decide +kernel, rfl, by decide +kernel, by decide +kernel⟩
theorem sc__law_do : FnScope cc__law_do.N ["_law_word", "_law_args"] (defScope st__law_do) := ⟨rfl, rfl, rfl, by decide +kernel, rfl, by decide +kernel, by decide +kernel⟩
theorem sc__law_refused : FnScope cc__law_refused.N ["_law_word", "_law_args", "_law_name"] (defScope st__law_refused) := ⟨rfl, rfl, rfl, by decide +kernel, rfl, by decide +kernel, by decide +kernel⟩
theorem sc__law_no_value : FnScope cc__law_no_value.N ["_law_tape_here"] (defScope st__law_no_value) := ⟨rfl, rfl, rfl, by decide +kernel, rfl, by decide +kernel, by decide +kernel⟩
theorem sc__law_no_row : FnScope cc__law_no_row.N ["_law_tape_here", "_law_row_here"] (defScope st__law_no_row) := ⟨rfl, rfl, rfl, by decide +kernel, rfl, by decide +kernel, by decide +kernel⟩
theorem sc__law_refusals : FnScope cc__law_refusals.N ["_law_tape_here", "_law_first", "_law_second"] (defScope st__law_refusals) := ⟨rfl, rfl, rfl, by decide +kernel, rfl, by decide +kernel, by decide +kernel⟩
theorem sc_law : FnScope cc_law.N ["_law_script"] (defScope st_law) := ⟨rfl, rfl, rfl, by decide +kernel, rfl, by decide +kernel, by decide +kernel⟩
structure Pure (G : Env') : Prop where
  is_integer : ∀ (ds : List D) (A : Ht) (E Q : D → Ht → Prop), ds.length = 1 → con_is_integer ds A E Q → conOf G cc_is_integer.N ir_is_integer ds A E Q
  is_value : ∀ (ds : List D) (A : Ht) (E Q : D → Ht → Prop), ds.length = 1 → con_is_value ds A E Q → conOf G cc_is_value.N ir_is_value ds A E Q
  _joined_pair : ∀ (ds : List D) (A : Ht) (E Q : D → Ht → Prop), ds.length = 2 → con__joined_pair ds A E Q → conOf G cc__joined_pair.N ir__joined_pair ds A E Q
  joined : ∀ (ds : List D) (A : Ht) (E Q : D → Ht → Prop), ds.length = 2 → con_joined ds A E Q → conOf G cc_joined.N ir_joined ds A E Q
  is_above : ∀ (ds : List D) (A : Ht) (E Q : D → Ht → Prop), ds.length = 2 → con_is_above ds A E Q → conOf G cc_is_above.N ir_is_above ds A E Q
  flipped : ∀ (ds : List D) (A : Ht) (E Q : D → Ht → Prop), ds.length = 1 → con_flipped ds A E Q → conOf G cc_flipped.N ir_flipped ds A E Q
  are_all_values : ∀ (ds : List D) (A : Ht) (E Q : D → Ht → Prop), ds.length = 1 → con_are_all_values ds A E Q → conOf G cc_are_all_values.N ir_are_all_values ds A E Q
  joined_all : ∀ (ds : List D) (A : Ht) (E Q : D → Ht → Prop), ds.length = 2 → con_joined_all ds A E Q → conOf G cc_joined_all.N ir_joined_all ds A E Q
  is_above_all : ∀ (ds : List D) (A : Ht) (E Q : D → Ht → Prop), ds.length = 2 → con_is_above_all ds A E Q → conOf G cc_is_above_all.N ir_is_above_all ds A E Q
  values_text : ∀ (ds : List D) (A : Ht) (E Q : D → Ht → Prop), ds.length = 1 → con_values_text ds A E Q → conOf G cc_values_text.N ir_values_text ds A E Q
  read_values : ∀ (ds : List D) (A : Ht) (E Q : D → Ht → Prop), ds.length = 1 → con_read_values ds A E Q → conOf G cc_read_values.N ir_read_values ds A E Q
  _law_tape : ∀ (ds : List D) (A : Ht) (E Q : D → Ht → Prop), ds.length = 1 → con__law_tape ds A E Q → conOf G cc__law_tape.N ir__law_tape ds A E Q
  _law_pick : ∀ (ds : List D) (A : Ht) (E Q : D → Ht → Prop), ds.length = 2 → con__law_pick ds A E Q → conOf G cc__law_pick.N ir__law_pick ds A E Q
  _law_row : ∀ (ds : List D) (A : Ht) (E Q : D → Ht → Prop), ds.length = 1 → con__law_row ds A E Q → conOf G cc__law_row.N ir__law_row ds A E Q
  _law_beside : ∀ (ds : List D) (A : Ht) (E Q : D → Ht → Prop), ds.length = 2 → con__law_beside ds A E Q → conOf G cc__law_beside.N ir__law_beside ds A E Q
  _law_is_number : ∀ (ds : List D) (A : Ht) (E Q : D → Ht → Prop), ds.length = 2 → con__law_is_number ds A E Q → conOf G cc__law_is_number.N ir__law_is_number ds A E Q
  _law_is_row : ∀ (ds : List D) (A : Ht) (E Q : D → Ht → Prop), ds.length = 2 → con__law_is_row ds A E Q → conOf G cc__law_is_row.N ir__law_is_row ds A E Q
  _law_is_truth : ∀ (ds : List D) (A : Ht) (E Q : D → Ht → Prop), ds.length = 2 → con__law_is_truth ds A E Q → conOf G cc__law_is_truth.N ir__law_is_truth ds A E Q
  _law_joins : ∀ (ds : List D) (A : Ht) (E Q : D → Ht → Prop), ds.length = 0 → con__law_joins ds A E Q → conOf G cc__law_joins.N ir__law_joins ds A E Q
  _law_above : ∀ (ds : List D) (A : Ht) (E Q : D → Ht → Prop), ds.length = 2 → con__law_above ds A E Q → conOf G cc__law_above.N ir__law_above ds A E Q
  _law_pairs : ∀ (ds : List D) (A : Ht) (E Q : D → Ht → Prop), ds.length = 0 → con__law_pairs ds A E Q → conOf G cc__law_pairs.N ir__law_pairs ds A E Q
  _law_all_above : ∀ (ds : List D) (A : Ht) (E Q : D → Ht → Prop), ds.length = 2 → con__law_all_above ds A E Q → conOf G cc__law_all_above.N ir__law_all_above ds A E Q
  _law_rows : ∀ (ds : List D) (A : Ht) (E Q : D → Ht → Prop), ds.length = 2 → con__law_rows ds A E Q → conOf G cc__law_rows.N ir__law_rows ds A E Q
  _law_text : ∀ (ds : List D) (A : Ht) (E Q : D → Ht → Prop), ds.length = 1 → con__law_text ds A E Q → conOf G cc__law_text.N ir__law_text ds A E Q
  _law_texts : ∀ (ds : List D) (A : Ht) (E Q : D → Ht → Prop), ds.length = 1 → con__law_texts ds A E Q → conOf G cc__law_texts.N ir__law_texts ds A E Q
  _law_characters : ∀ (ds : List D) (A : Ht) (E Q : D → Ht → Prop), ds.length = 0 → con__law_characters ds A E Q → conOf G cc__law_characters.N ir__law_characters ds A E Q
  _law_spoilt : ∀ (ds : List D) (A : Ht) (E Q : D → Ht → Prop), ds.length = 2 → con__law_spoilt ds A E Q → conOf G cc__law_spoilt.N ir__law_spoilt ds A E Q
  _law_unread : ∀ (ds : List D) (A : Ht) (E Q : D → Ht → Prop), ds.length = 2 → con__law_unread ds A E Q → conOf G cc__law_unread.N ir__law_unread ds A E Q
  _law_reads : ∀ (ds : List D) (A : Ht) (E Q : D → Ht → Prop), ds.length = 1 → con__law_reads ds A E Q → conOf G cc__law_reads.N ir__law_reads ds A E Q
  _law_do : ∀ (ds : List D) (A : Ht) (E Q : D → Ht → Prop), ds.length = 2 → con__law_do ds A E Q → conOf G cc__law_do.N ir__law_do ds A E Q
  _law_refused : ∀ (ds : List D) (A : Ht) (E Q : D → Ht → Prop), ds.length = 3 → con__law_refused ds A E Q → conOf G cc__law_refused.N ir__law_refused ds A E Q
  _law_no_value : ∀ (ds : List D) (A : Ht) (E Q : D → Ht → Prop), ds.length = 1 → con__law_no_value ds A E Q → conOf G cc__law_no_value.N ir__law_no_value ds A E Q
  _law_no_row : ∀ (ds : List D) (A : Ht) (E Q : D → Ht → Prop), ds.length = 2 → con__law_no_row ds A E Q → conOf G cc__law_no_row.N ir__law_no_row ds A E Q
  _law_refusals : ∀ (ds : List D) (A : Ht) (E Q : D → Ht → Prop), ds.length = 3 → con__law_refusals ds A E Q → conOf G cc__law_refusals.N ir__law_refusals ds A E Q
  law : ∀ (ds : List D) (A : Ht) (E Q : D → Ht → Prop), ds.length = 1 → con_law ds A E Q → conOf G cc_law.N ir_law ds A E Q
def conL : List (Str × Con) := [(("is_integer" : Str), con_is_integer), (("is_value" : Str), con_is_value), (("_joined_pair" : Str), con__joined_pair), (("joined" : Str), con_joined), (("is_above" : Str), con_is_above), (("flipped" : Str), con_flipped), (("are_all_values" : Str), con_are_all_values), (("joined_all" : Str), con_joined_all), (("is_above_all" : Str), con_is_above_all), (("values_text" : Str), con_values_text), (("read_values" : Str), con_read_values), (("_law_tape" : Str), con__law_tape), (("_law_pick" : Str), con__law_pick), (("_law_row" : Str), con__law_row), (("_law_beside" : Str), con__law_beside), (("_law_is_number" : Str), con__law_is_number), (("_law_is_row" : Str), con__law_is_row), (("_law_is_truth" : Str), con__law_is_truth), (("_law_joins" : Str), con__law_joins), (("_law_above" : Str), con__law_above), (("_law_pairs" : Str), con__law_pairs), (("_law_all_above" : Str), con__law_all_above), (("_law_rows" : Str), con__law_rows), (("_law_text" : Str), con__law_text), (("_law_texts" : Str), con__law_texts), (("_law_characters" : Str), con__law_characters), (("_law_spoilt" : Str), con__law_spoilt), (("_law_unread" : Str), con__law_unread), (("_law_reads" : Str), con__law_reads), (("_law_do" : Str), con__law_do), (("_law_refused" : Str), con__law_refused), (("_law_no_value" : Str), con__law_no_value), (("_law_no_row" : Str), con__law_no_row), (("_law_refusals" : Str), con__law_refusals), (("law" : Str), con_law)]
def GG : Env' := { con := fun f => (conL.lookup f).getD fun _ _ _ _ => False, ct := fun x => if x = "VALUE_MARKS" then some (.str "01x") else none, sub := fun a b => (decide (a = "InvalidText") && (decide (b = "InvalidText") || decide (b = "TextError") || decide (b = "OhmError") || decide (b = "ValueError") || decide (b = "Exception") || decide (b = "BaseException"))) || (decide (a = "NotUsable") && (decide (b = "NotUsable") || decide (b = "UseError") || decide (b = "OhmError") || decide (b = "ValueError") || decide (b = "Exception") || decide (b = "BaseException"))), fds := fun x => if x = "InvalidText" then ["line", "word"] else if x = "NotUsable" then ["word", "at"] else [] }
abbrev si_InvalidText : Stmt := inClass (top 8) 0
abbrev si_NotUsable : Stmt := inClass (top 6) 0
abbrev rssA : List (Str × Nat) := [("InvalidText", 2), ("NotUsable", 2)]
abbrev exsA : List Str := ["InvalidText", "TextError", "OhmError", "ValueError", "UseError", "NetError", "LiveError", "Unended", "NotUsable", "TooMany"]
abbrev fldA : List Str := ["at", "line", "word"]
abbrev ctsA : List Str := ["VALUE_MARKS"]
theorem all_mk {P : Program} {w : World} {K : PySem.W.Frag} {h : Heap} {mg : Str → Option Value} {fa : Addr} (pu : Pure GG) (X : K.In h) (G0 : h.Ns mainGlobals mg) (hfa : mg "law" = some (.ref fa))
    {f0 : Addr} {od0 an0 : Option Addr} {sl0 : Array (Option Value)} {oc0 kV0 dc0 pm0 cd0 ct0 : Value}
    {f1 : Addr} {od1 an1 : Option Addr} {sl1 : Array (Option Value)} {oc1 kV1 dc1 pm1 cd1 ct1 : Value}
    {f2 : Addr} {od2 an2 : Option Addr} {sl2 : Array (Option Value)} {oc2 kV2 dc2 pm2 cd2 ct2 : Value}
    {f3 : Addr} {od3 an3 : Option Addr} {sl3 : Array (Option Value)} {oc3 kV3 dc3 pm3 cd3 ct3 : Value}
    {f4 : Addr} {od4 an4 : Option Addr} {sl4 : Array (Option Value)} {oc4 kV4 dc4 pm4 cd4 ct4 : Value}
    {f5 : Addr} {od5 an5 : Option Addr} {sl5 : Array (Option Value)} {oc5 kV5 dc5 pm5 cd5 ct5 : Value}
    {f6 : Addr} {od6 an6 : Option Addr} {sl6 : Array (Option Value)} {oc6 kV6 dc6 pm6 cd6 ct6 : Value}
    {f7 : Addr} {od7 an7 : Option Addr} {sl7 : Array (Option Value)} {oc7 kV7 dc7 pm7 cd7 ct7 : Value}
    {f8 : Addr} {od8 an8 : Option Addr} {sl8 : Array (Option Value)} {oc8 kV8 dc8 pm8 cd8 ct8 : Value}
    {f9 : Addr} {od9 an9 : Option Addr} {sl9 : Array (Option Value)} {oc9 kV9 dc9 pm9 cd9 ct9 : Value}
    {f10 : Addr} {od10 an10 : Option Addr} {sl10 : Array (Option Value)} {oc10 kV10 dc10 pm10 cd10 ct10 : Value}
    {f11 : Addr} {od11 an11 : Option Addr} {sl11 : Array (Option Value)} {oc11 kV11 dc11 pm11 cd11 ct11 : Value}
    {f12 : Addr} {od12 an12 : Option Addr} {sl12 : Array (Option Value)} {oc12 kV12 dc12 pm12 cd12 ct12 : Value}
    {f13 : Addr} {od13 an13 : Option Addr} {sl13 : Array (Option Value)} {oc13 kV13 dc13 pm13 cd13 ct13 : Value}
    {f14 : Addr} {od14 an14 : Option Addr} {sl14 : Array (Option Value)} {oc14 kV14 dc14 pm14 cd14 ct14 : Value}
    {f15 : Addr} {od15 an15 : Option Addr} {sl15 : Array (Option Value)} {oc15 kV15 dc15 pm15 cd15 ct15 : Value}
    {f16 : Addr} {od16 an16 : Option Addr} {sl16 : Array (Option Value)} {oc16 kV16 dc16 pm16 cd16 ct16 : Value}
    {f17 : Addr} {od17 an17 : Option Addr} {sl17 : Array (Option Value)} {oc17 kV17 dc17 pm17 cd17 ct17 : Value}
    {f18 : Addr} {od18 an18 : Option Addr} {sl18 : Array (Option Value)} {oc18 kV18 dc18 pm18 cd18 ct18 : Value}
    {f19 : Addr} {od19 an19 : Option Addr} {sl19 : Array (Option Value)} {oc19 kV19 dc19 pm19 cd19 ct19 : Value}
    {f20 : Addr} {od20 an20 : Option Addr} {sl20 : Array (Option Value)} {oc20 kV20 dc20 pm20 cd20 ct20 : Value}
    {f21 : Addr} {od21 an21 : Option Addr} {sl21 : Array (Option Value)} {oc21 kV21 dc21 pm21 cd21 ct21 : Value}
    {f22 : Addr} {od22 an22 : Option Addr} {sl22 : Array (Option Value)} {oc22 kV22 dc22 pm22 cd22 ct22 : Value}
    {f23 : Addr} {od23 an23 : Option Addr} {sl23 : Array (Option Value)} {oc23 kV23 dc23 pm23 cd23 ct23 : Value}
    {f24 : Addr} {od24 an24 : Option Addr} {sl24 : Array (Option Value)} {oc24 kV24 dc24 pm24 cd24 ct24 : Value}
    {f25 : Addr} {od25 an25 : Option Addr} {sl25 : Array (Option Value)} {oc25 kV25 dc25 pm25 cd25 ct25 : Value}
    {f26 : Addr} {od26 an26 : Option Addr} {sl26 : Array (Option Value)} {oc26 kV26 dc26 pm26 cd26 ct26 : Value}
    {f27 : Addr} {od27 an27 : Option Addr} {sl27 : Array (Option Value)} {oc27 kV27 dc27 pm27 cd27 ct27 : Value}
    {f28 : Addr} {od28 an28 : Option Addr} {sl28 : Array (Option Value)} {oc28 kV28 dc28 pm28 cd28 ct28 : Value}
    {f29 : Addr} {od29 an29 : Option Addr} {sl29 : Array (Option Value)} {oc29 kV29 dc29 pm29 cd29 ct29 : Value}
    {f30 : Addr} {od30 an30 : Option Addr} {sl30 : Array (Option Value)} {oc30 kV30 dc30 pm30 cd30 ct30 : Value}
    {f31 : Addr} {od31 an31 : Option Addr} {sl31 : Array (Option Value)} {oc31 kV31 dc31 pm31 cd31 ct31 : Value}
    {f32 : Addr} {od32 an32 : Option Addr} {sl32 : Array (Option Value)} {oc32 kV32 dc32 pm32 cd32 ct32 : Value}
    {f33 : Addr} {od33 an33 : Option Addr} {sl33 : Array (Option Value)} {oc33 kV33 dc33 pm33 cd33 ct33 : Value}
    {f34 : Addr} {od34 an34 : Option Addr} {sl34 : Array (Option Value)} {oc34 kV34 dc34 pm34 cd34 ct34 : Value}
    {tk0 : Tok}
    {CInvalidText : Addr}
    {CLiveError : Addr}
    {CNetError : Addr}
    {CNotUsable : Addr}
    {COhmError : Addr}
    {CTextError : Addr}
    {CTooMany : Addr}
    {CUnended : Addr}
    {CUseError : Addr}
    {nmInvalidText qqInvalidText : Str} {NInvalidText : Addr} {bsInvalidText bmInvalidText : List Value} {snInvalidText : List Str} {subInvalidText : List Value} {abInvalidText : Bool} {colInvalidText : Option Bool} {ddInvalidText : Option Addr} {m0InvalidText m1InvalidText m2InvalidText m3InvalidText m5InvalidText : Option Value} {iInvalidText : Addr} {iodInvalidText ianInvalidText : Option Addr} {islInvalidText : Array (Option Value)} {iocInvalidText ikVInvalidText idcInvalidText ipmInvalidText icdInvalidText ictInvalidText : Value}
    {nmNotUsable qqNotUsable : Str} {NNotUsable : Addr} {bsNotUsable bmNotUsable : List Value} {snNotUsable : List Str} {subNotUsable : List Value} {abNotUsable : Bool} {colNotUsable : Option Bool} {ddNotUsable : Option Addr} {m0NotUsable m1NotUsable m2NotUsable m3NotUsable m5NotUsable : Option Value} {iNotUsable : Addr} {iodNotUsable ianNotUsable : Option Addr} {islNotUsable : Array (Option Value)} {iocNotUsable ikVNotUsable idcNotUsable ipmNotUsable icdNotUsable ictNotUsable : Value}
    (a0 : PySem.W.nsIn K mainGlobals "is_integer" = some (some (.ref f0)))
    (l0 : K.lookup f0 = some ⟨oc0, od0, .func (PySem.W.fnOf "is_integer" "is_integer" (defArgs st_is_integer) (defBody st_is_integer) (defScope st_is_integer) .none kV0 dc0 pm0 an0 cd0 ct0), sl0⟩)
    (c0 : PySem.W.codeIn K cd0 "is_integer" = true)
    (k0 : PySem.W.keepIn K (.ref f0) = true)
    (a1 : PySem.W.nsIn K mainGlobals "is_value" = some (some (.ref f1)))
    (l1 : K.lookup f1 = some ⟨oc1, od1, .func (PySem.W.fnOf "is_value" "is_value" (defArgs st_is_value) (defBody st_is_value) (defScope st_is_value) .none kV1 dc1 pm1 an1 cd1 ct1), sl1⟩)
    (c1 : PySem.W.codeIn K cd1 "is_value" = true)
    (k1 : PySem.W.keepIn K (.ref f1) = true)
    (a2 : PySem.W.nsIn K mainGlobals "_joined_pair" = some (some (.ref f2)))
    (l2 : K.lookup f2 = some ⟨oc2, od2, .func (PySem.W.fnOf "_joined_pair" "_joined_pair" (defArgs st__joined_pair) (defBody st__joined_pair) (defScope st__joined_pair) .none kV2 dc2 pm2 an2 cd2 ct2), sl2⟩)
    (c2 : PySem.W.codeIn K cd2 "_joined_pair" = true)
    (k2 : PySem.W.keepIn K (.ref f2) = true)
    (a3 : PySem.W.nsIn K mainGlobals "joined" = some (some (.ref f3)))
    (l3 : K.lookup f3 = some ⟨oc3, od3, .func (PySem.W.fnOf "joined" "joined" (defArgs st_joined) (defBody st_joined) (defScope st_joined) .none kV3 dc3 pm3 an3 cd3 ct3), sl3⟩)
    (c3 : PySem.W.codeIn K cd3 "joined" = true)
    (k3 : PySem.W.keepIn K (.ref f3) = true)
    (a4 : PySem.W.nsIn K mainGlobals "is_above" = some (some (.ref f4)))
    (l4 : K.lookup f4 = some ⟨oc4, od4, .func (PySem.W.fnOf "is_above" "is_above" (defArgs st_is_above) (defBody st_is_above) (defScope st_is_above) .none kV4 dc4 pm4 an4 cd4 ct4), sl4⟩)
    (c4 : PySem.W.codeIn K cd4 "is_above" = true)
    (k4 : PySem.W.keepIn K (.ref f4) = true)
    (a5 : PySem.W.nsIn K mainGlobals "flipped" = some (some (.ref f5)))
    (l5 : K.lookup f5 = some ⟨oc5, od5, .func (PySem.W.fnOf "flipped" "flipped" (defArgs st_flipped) (defBody st_flipped) (defScope st_flipped) .none kV5 dc5 pm5 an5 cd5 ct5), sl5⟩)
    (c5 : PySem.W.codeIn K cd5 "flipped" = true)
    (k5 : PySem.W.keepIn K (.ref f5) = true)
    (a6 : PySem.W.nsIn K mainGlobals "are_all_values" = some (some (.ref f6)))
    (l6 : K.lookup f6 = some ⟨oc6, od6, .func (PySem.W.fnOf "are_all_values" "are_all_values" (defArgs st_are_all_values) (defBody st_are_all_values) (defScope st_are_all_values) .none kV6 dc6 pm6 an6 cd6 ct6), sl6⟩)
    (c6 : PySem.W.codeIn K cd6 "are_all_values" = true)
    (k6 : PySem.W.keepIn K (.ref f6) = true)
    (a7 : PySem.W.nsIn K mainGlobals "joined_all" = some (some (.ref f7)))
    (l7 : K.lookup f7 = some ⟨oc7, od7, .func (PySem.W.fnOf "joined_all" "joined_all" (defArgs st_joined_all) (defBody st_joined_all) (defScope st_joined_all) .none kV7 dc7 pm7 an7 cd7 ct7), sl7⟩)
    (c7 : PySem.W.codeIn K cd7 "joined_all" = true)
    (k7 : PySem.W.keepIn K (.ref f7) = true)
    (a8 : PySem.W.nsIn K mainGlobals "is_above_all" = some (some (.ref f8)))
    (l8 : K.lookup f8 = some ⟨oc8, od8, .func (PySem.W.fnOf "is_above_all" "is_above_all" (defArgs st_is_above_all) (defBody st_is_above_all) (defScope st_is_above_all) .none kV8 dc8 pm8 an8 cd8 ct8), sl8⟩)
    (c8 : PySem.W.codeIn K cd8 "is_above_all" = true)
    (k8 : PySem.W.keepIn K (.ref f8) = true)
    (a9 : PySem.W.nsIn K mainGlobals "values_text" = some (some (.ref f9)))
    (l9 : K.lookup f9 = some ⟨oc9, od9, .func (PySem.W.fnOf "values_text" "values_text" (defArgs st_values_text) (defBody st_values_text) (defScope st_values_text) .none kV9 dc9 pm9 an9 cd9 ct9), sl9⟩)
    (c9 : PySem.W.codeIn K cd9 "values_text" = true)
    (k9 : PySem.W.keepIn K (.ref f9) = true)
    (a10 : PySem.W.nsIn K mainGlobals "read_values" = some (some (.ref f10)))
    (l10 : K.lookup f10 = some ⟨oc10, od10, .func (PySem.W.fnOf "read_values" "read_values" (defArgs st_read_values) (defBody st_read_values) (defScope st_read_values) .none kV10 dc10 pm10 an10 cd10 ct10), sl10⟩)
    (c10 : PySem.W.codeIn K cd10 "read_values" = true)
    (k10 : PySem.W.keepIn K (.ref f10) = true)
    (a11 : PySem.W.nsIn K mainGlobals "_law_tape" = some (some (.ref f11)))
    (l11 : K.lookup f11 = some ⟨oc11, od11, .func (PySem.W.fnOf "_law_tape" "_law_tape" (defArgs st__law_tape) (defBody st__law_tape) (defScope st__law_tape) .none kV11 dc11 pm11 an11 cd11 ct11), sl11⟩)
    (c11 : PySem.W.codeIn K cd11 "_law_tape" = true)
    (k11 : PySem.W.keepIn K (.ref f11) = true)
    (a12 : PySem.W.nsIn K mainGlobals "_law_pick" = some (some (.ref f12)))
    (l12 : K.lookup f12 = some ⟨oc12, od12, .func (PySem.W.fnOf "_law_pick" "_law_pick" (defArgs st__law_pick) (defBody st__law_pick) (defScope st__law_pick) .none kV12 dc12 pm12 an12 cd12 ct12), sl12⟩)
    (c12 : PySem.W.codeIn K cd12 "_law_pick" = true)
    (k12 : PySem.W.keepIn K (.ref f12) = true)
    (a13 : PySem.W.nsIn K mainGlobals "_law_row" = some (some (.ref f13)))
    (l13 : K.lookup f13 = some ⟨oc13, od13, .func (PySem.W.fnOf "_law_row" "_law_row" (defArgs st__law_row) (defBody st__law_row) (defScope st__law_row) .none kV13 dc13 pm13 an13 cd13 ct13), sl13⟩)
    (c13 : PySem.W.codeIn K cd13 "_law_row" = true)
    (k13 : PySem.W.keepIn K (.ref f13) = true)
    (a14 : PySem.W.nsIn K mainGlobals "_law_beside" = some (some (.ref f14)))
    (l14 : K.lookup f14 = some ⟨oc14, od14, .func (PySem.W.fnOf "_law_beside" "_law_beside" (defArgs st__law_beside) (defBody st__law_beside) (defScope st__law_beside) .none kV14 dc14 pm14 an14 cd14 ct14), sl14⟩)
    (c14 : PySem.W.codeIn K cd14 "_law_beside" = true)
    (k14 : PySem.W.keepIn K (.ref f14) = true)
    (a15 : PySem.W.nsIn K mainGlobals "_law_is_number" = some (some (.ref f15)))
    (l15 : K.lookup f15 = some ⟨oc15, od15, .func (PySem.W.fnOf "_law_is_number" "_law_is_number" (defArgs st__law_is_number) (defBody st__law_is_number) (defScope st__law_is_number) .none kV15 dc15 pm15 an15 cd15 ct15), sl15⟩)
    (c15 : PySem.W.codeIn K cd15 "_law_is_number" = true)
    (k15 : PySem.W.keepIn K (.ref f15) = true)
    (a16 : PySem.W.nsIn K mainGlobals "_law_is_row" = some (some (.ref f16)))
    (l16 : K.lookup f16 = some ⟨oc16, od16, .func (PySem.W.fnOf "_law_is_row" "_law_is_row" (defArgs st__law_is_row) (defBody st__law_is_row) (defScope st__law_is_row) .none kV16 dc16 pm16 an16 cd16 ct16), sl16⟩)
    (c16 : PySem.W.codeIn K cd16 "_law_is_row" = true)
    (k16 : PySem.W.keepIn K (.ref f16) = true)
    (a17 : PySem.W.nsIn K mainGlobals "_law_is_truth" = some (some (.ref f17)))
    (l17 : K.lookup f17 = some ⟨oc17, od17, .func (PySem.W.fnOf "_law_is_truth" "_law_is_truth" (defArgs st__law_is_truth) (defBody st__law_is_truth) (defScope st__law_is_truth) .none kV17 dc17 pm17 an17 cd17 ct17), sl17⟩)
    (c17 : PySem.W.codeIn K cd17 "_law_is_truth" = true)
    (k17 : PySem.W.keepIn K (.ref f17) = true)
    (a18 : PySem.W.nsIn K mainGlobals "_law_joins" = some (some (.ref f18)))
    (l18 : K.lookup f18 = some ⟨oc18, od18, .func (PySem.W.fnOf "_law_joins" "_law_joins" (defArgs st__law_joins) (defBody st__law_joins) (defScope st__law_joins) .none kV18 dc18 pm18 an18 cd18 ct18), sl18⟩)
    (c18 : PySem.W.codeIn K cd18 "_law_joins" = true)
    (k18 : PySem.W.keepIn K (.ref f18) = true)
    (a19 : PySem.W.nsIn K mainGlobals "_law_above" = some (some (.ref f19)))
    (l19 : K.lookup f19 = some ⟨oc19, od19, .func (PySem.W.fnOf "_law_above" "_law_above" (defArgs st__law_above) (defBody st__law_above) (defScope st__law_above) .none kV19 dc19 pm19 an19 cd19 ct19), sl19⟩)
    (c19 : PySem.W.codeIn K cd19 "_law_above" = true)
    (k19 : PySem.W.keepIn K (.ref f19) = true)
    (a20 : PySem.W.nsIn K mainGlobals "_law_pairs" = some (some (.ref f20)))
    (l20 : K.lookup f20 = some ⟨oc20, od20, .func (PySem.W.fnOf "_law_pairs" "_law_pairs" (defArgs st__law_pairs) (defBody st__law_pairs) (defScope st__law_pairs) .none kV20 dc20 pm20 an20 cd20 ct20), sl20⟩)
    (c20 : PySem.W.codeIn K cd20 "_law_pairs" = true)
    (k20 : PySem.W.keepIn K (.ref f20) = true)
    (a21 : PySem.W.nsIn K mainGlobals "_law_all_above" = some (some (.ref f21)))
    (l21 : K.lookup f21 = some ⟨oc21, od21, .func (PySem.W.fnOf "_law_all_above" "_law_all_above" (defArgs st__law_all_above) (defBody st__law_all_above) (defScope st__law_all_above) .none kV21 dc21 pm21 an21 cd21 ct21), sl21⟩)
    (c21 : PySem.W.codeIn K cd21 "_law_all_above" = true)
    (k21 : PySem.W.keepIn K (.ref f21) = true)
    (a22 : PySem.W.nsIn K mainGlobals "_law_rows" = some (some (.ref f22)))
    (l22 : K.lookup f22 = some ⟨oc22, od22, .func (PySem.W.fnOf "_law_rows" "_law_rows" (defArgs st__law_rows) (defBody st__law_rows) (defScope st__law_rows) .none kV22 dc22 pm22 an22 cd22 ct22), sl22⟩)
    (c22 : PySem.W.codeIn K cd22 "_law_rows" = true)
    (k22 : PySem.W.keepIn K (.ref f22) = true)
    (a23 : PySem.W.nsIn K mainGlobals "_law_text" = some (some (.ref f23)))
    (l23 : K.lookup f23 = some ⟨oc23, od23, .func (PySem.W.fnOf "_law_text" "_law_text" (defArgs st__law_text) (defBody st__law_text) (defScope st__law_text) .none kV23 dc23 pm23 an23 cd23 ct23), sl23⟩)
    (c23 : PySem.W.codeIn K cd23 "_law_text" = true)
    (k23 : PySem.W.keepIn K (.ref f23) = true)
    (a24 : PySem.W.nsIn K mainGlobals "_law_texts" = some (some (.ref f24)))
    (l24 : K.lookup f24 = some ⟨oc24, od24, .func (PySem.W.fnOf "_law_texts" "_law_texts" (defArgs st__law_texts) (defBody st__law_texts) (defScope st__law_texts) .none kV24 dc24 pm24 an24 cd24 ct24), sl24⟩)
    (c24 : PySem.W.codeIn K cd24 "_law_texts" = true)
    (k24 : PySem.W.keepIn K (.ref f24) = true)
    (a25 : PySem.W.nsIn K mainGlobals "_law_characters" = some (some (.ref f25)))
    (l25 : K.lookup f25 = some ⟨oc25, od25, .func (PySem.W.fnOf "_law_characters" "_law_characters" (defArgs st__law_characters) (defBody st__law_characters) (defScope st__law_characters) .none kV25 dc25 pm25 an25 cd25 ct25), sl25⟩)
    (c25 : PySem.W.codeIn K cd25 "_law_characters" = true)
    (k25 : PySem.W.keepIn K (.ref f25) = true)
    (a26 : PySem.W.nsIn K mainGlobals "_law_spoilt" = some (some (.ref f26)))
    (l26 : K.lookup f26 = some ⟨oc26, od26, .func (PySem.W.fnOf "_law_spoilt" "_law_spoilt" (defArgs st__law_spoilt) (defBody st__law_spoilt) (defScope st__law_spoilt) .none kV26 dc26 pm26 an26 cd26 ct26), sl26⟩)
    (c26 : PySem.W.codeIn K cd26 "_law_spoilt" = true)
    (k26 : PySem.W.keepIn K (.ref f26) = true)
    (a27 : PySem.W.nsIn K mainGlobals "_law_unread" = some (some (.ref f27)))
    (l27 : K.lookup f27 = some ⟨oc27, od27, .func (PySem.W.fnOf "_law_unread" "_law_unread" (defArgs st__law_unread) (defBody st__law_unread) (defScope st__law_unread) .none kV27 dc27 pm27 an27 cd27 ct27), sl27⟩)
    (c27 : PySem.W.codeIn K cd27 "_law_unread" = true)
    (k27 : PySem.W.keepIn K (.ref f27) = true)
    (a28 : PySem.W.nsIn K mainGlobals "_law_reads" = some (some (.ref f28)))
    (l28 : K.lookup f28 = some ⟨oc28, od28, .func (PySem.W.fnOf "_law_reads" "_law_reads" (defArgs st__law_reads) (defBody st__law_reads) (defScope st__law_reads) .none kV28 dc28 pm28 an28 cd28 ct28), sl28⟩)
    (c28 : PySem.W.codeIn K cd28 "_law_reads" = true)
    (k28 : PySem.W.keepIn K (.ref f28) = true)
    (a29 : PySem.W.nsIn K mainGlobals "_law_do" = some (some (.ref f29)))
    (l29 : K.lookup f29 = some ⟨oc29, od29, .func (PySem.W.fnOf "_law_do" "_law_do" (defArgs st__law_do) (defBody st__law_do) (defScope st__law_do) .none kV29 dc29 pm29 an29 cd29 ct29), sl29⟩)
    (c29 : PySem.W.codeIn K cd29 "_law_do" = true)
    (k29 : PySem.W.keepIn K (.ref f29) = true)
    (a30 : PySem.W.nsIn K mainGlobals "_law_refused" = some (some (.ref f30)))
    (l30 : K.lookup f30 = some ⟨oc30, od30, .func (PySem.W.fnOf "_law_refused" "_law_refused" (defArgs st__law_refused) (defBody st__law_refused) (defScope st__law_refused) .none kV30 dc30 pm30 an30 cd30 ct30), sl30⟩)
    (c30 : PySem.W.codeIn K cd30 "_law_refused" = true)
    (k30 : PySem.W.keepIn K (.ref f30) = true)
    (a31 : PySem.W.nsIn K mainGlobals "_law_no_value" = some (some (.ref f31)))
    (l31 : K.lookup f31 = some ⟨oc31, od31, .func (PySem.W.fnOf "_law_no_value" "_law_no_value" (defArgs st__law_no_value) (defBody st__law_no_value) (defScope st__law_no_value) .none kV31 dc31 pm31 an31 cd31 ct31), sl31⟩)
    (c31 : PySem.W.codeIn K cd31 "_law_no_value" = true)
    (k31 : PySem.W.keepIn K (.ref f31) = true)
    (a32 : PySem.W.nsIn K mainGlobals "_law_no_row" = some (some (.ref f32)))
    (l32 : K.lookup f32 = some ⟨oc32, od32, .func (PySem.W.fnOf "_law_no_row" "_law_no_row" (defArgs st__law_no_row) (defBody st__law_no_row) (defScope st__law_no_row) .none kV32 dc32 pm32 an32 cd32 ct32), sl32⟩)
    (c32 : PySem.W.codeIn K cd32 "_law_no_row" = true)
    (k32 : PySem.W.keepIn K (.ref f32) = true)
    (a33 : PySem.W.nsIn K mainGlobals "_law_refusals" = some (some (.ref f33)))
    (l33 : K.lookup f33 = some ⟨oc33, od33, .func (PySem.W.fnOf "_law_refusals" "_law_refusals" (defArgs st__law_refusals) (defBody st__law_refusals) (defScope st__law_refusals) .none kV33 dc33 pm33 an33 cd33 ct33), sl33⟩)
    (c33 : PySem.W.codeIn K cd33 "_law_refusals" = true)
    (k33 : PySem.W.keepIn K (.ref f33) = true)
    (a34 : PySem.W.nsIn K mainGlobals "law" = some (some (.ref f34)))
    (l34 : K.lookup f34 = some ⟨oc34, od34, .func (PySem.W.fnOf "law" "law" (defArgs st_law) (defBody st_law) (defScope st_law) .none kV34 dc34 pm34 an34 cd34 ct34), sl34⟩)
    (c34 : PySem.W.codeIn K cd34 "law" = true)
    (k34 : PySem.W.keepIn K (.ref f34) = true)
    (b0 : PySem.W.nsIn K mainGlobals "len" = some none)
    (b1 : PySem.W.nsIn K mainGlobals "int" = some none)
    (b2 : PySem.W.nsIn K mainGlobals "abs" = some none)
    (b3 : PySem.W.nsIn K mainGlobals "min" = some none)
    (b4 : PySem.W.nsIn K mainGlobals "max" = some none)
    (b5 : PySem.W.nsIn K mainGlobals "tuple" = some none)
    (b6 : PySem.W.nsIn K mainGlobals "list" = some none)
    (b7 : PySem.W.nsIn K mainGlobals "str" = some none)
    (b8 : PySem.W.nsIn K mainGlobals "sorted" = some none)
    (b9 : PySem.W.nsIn K mainGlobals "sum" = some none)
    (b10 : PySem.W.nsIn K mainGlobals "all" = some none)
    (b11 : PySem.W.nsIn K mainGlobals "any" = some none)
    (b12 : PySem.W.nsIn K mainGlobals "bool" = some none)
    (b13 : PySem.W.nsIn K mainGlobals "dict" = some none)
    (b14 : PySem.W.nsIn K mainGlobals "isinstance" = some none)
    (b15 : PySem.W.nsIn K mainGlobals "range" = some none)
    (b16 : PySem.W.nsIn K mainGlobals "enumerate" = some none)
    (b17 : PySem.W.nsIn K mainGlobals "zip" = some none)
    (v0 : PySem.W.nsIn K mainGlobals "VALUE_MARKS" = some (some (.str "01x" tk0)))
    (sn : PySem.W.specialIn K (.builtin "object.__class__") "__get__" = some (some (.builtin "getset_descriptor.__get__")))
    (st : PySem.W.takesIn K (.builtin "object.__class__") = some true)
    (aCInvalidText : PySem.W.nsIn K mainGlobals "InvalidText" = some (some (.ref CInvalidText)))
    (aCLiveError : PySem.W.nsIn K mainGlobals "LiveError" = some (some (.ref CLiveError)))
    (aCNetError : PySem.W.nsIn K mainGlobals "NetError" = some (some (.ref CNetError)))
    (aCNotUsable : PySem.W.nsIn K mainGlobals "NotUsable" = some (some (.ref CNotUsable)))
    (aCOhmError : PySem.W.nsIn K mainGlobals "OhmError" = some (some (.ref COhmError)))
    (aCTextError : PySem.W.nsIn K mainGlobals "TextError" = some (some (.ref CTextError)))
    (aCTooMany : PySem.W.nsIn K mainGlobals "TooMany" = some (some (.ref CTooMany)))
    (aCUnended : PySem.W.nsIn K mainGlobals "Unended" = some (some (.ref CUnended)))
    (aCUseError : PySem.W.nsIn K mainGlobals "UseError" = some (some (.ref CUseError)))
    (aCValueError : PySem.W.nsIn K mainGlobals "ValueError" = some none)
    (xLInvalidText : K.lookup CInvalidText = some (excClassObj nmInvalidText qqInvalidText CInvalidText NInvalidText bsInvalidText bmInvalidText true snInvalidText subInvalidText abInvalidText colInvalidText ddInvalidText m0InvalidText m1InvalidText m2InvalidText m3InvalidText m5InvalidText "ValueError.__new__"))
    (rvInvalidText : PySem.HandSPX.refsVE bmInvalidText = true)
    (saInvalidText : PySem.W.findIn K (.ref CInvalidText) "__setattr__" = some (some (.builtin "object.__setattr__")))
    (gaInvalidText : PySem.W.findIn K (.ref CInvalidText) "__getattribute__" = some (some (.builtin "BaseException.__getattribute__")))
    (ggInvalidText : PySem.W.findIn K (.ref CInvalidText) "__getattr__" = some none)
    (noInvalidTextat : PySem.W.findIn K (.ref CInvalidText) "at" = some none)
    (noInvalidTextline : PySem.W.findIn K (.ref CInvalidText) "line" = some none)
    (noInvalidTextword : PySem.W.findIn K (.ref CInvalidText) "word" = some none)
    (inInvalidText : PySem.W.findIn K (.ref CInvalidText) "__init__" = some (some (.ref iInvalidText)))
    (tiInvalidText : PySem.W.typeIn K (.ref iInvalidText) = some (.type "function"))
    (liInvalidText : K.lookup iInvalidText = some ⟨iocInvalidText, iodInvalidText, .func (PySem.W.fnOf "__init__" "InvalidText.__init__" (defArgs si_InvalidText) (defBody si_InvalidText) (defScope si_InvalidText) .none ikVInvalidText idcInvalidText ipmInvalidText ianInvalidText icdInvalidText ictInvalidText), islInvalidText⟩)
    (ciInvalidText : PySem.W.codeIn K icdInvalidText "InvalidText.__init__" = true)
    (kiInvalidText : PySem.W.keepIn K (.ref iInvalidText) = true)
    (kCInvalidText : PySem.W.keepIn K (.ref CInvalidText) = true)
    (eCInvalidText : PySem.W.subIn K (.ref CInvalidText) (.type "BaseException") = some true)
    (tCInvalidText : PySem.W.typeIn K (.ref CInvalidText) = some (.type "type"))
    (hCInvalidText : PySem.W.hasDictIn K CInvalidText = true)
    (clInvalidText : PySem.W.findIn K (.ref CInvalidText) "__class__" = some (some (.builtin "object.__class__")))
    (moInvalidText : PySem.W.mroIn K CInvalidText (.type "object") = some true)
    (ktInvalidTextInvalidText : PySem.W.kitOne K (.ref CInvalidText) (.ref CInvalidText) = some true)
    (emInvalidTextInvalidText : PySem.W.exmOne K (.ref CInvalidText) (.ref CInvalidText) = some true)
    (ktInvalidTextTextError : PySem.W.kitOne K (.ref CInvalidText) (.ref CTextError) = some true)
    (emInvalidTextTextError : PySem.W.exmOne K (.ref CInvalidText) (.ref CTextError) = some true)
    (ktInvalidTextOhmError : PySem.W.kitOne K (.ref CInvalidText) (.ref COhmError) = some true)
    (emInvalidTextOhmError : PySem.W.exmOne K (.ref CInvalidText) (.ref COhmError) = some true)
    (ktInvalidTextValueError : PySem.W.kitOne K (.ref CInvalidText) (.type "ValueError") = some true)
    (emInvalidTextValueError : PySem.W.exmOne K (.ref CInvalidText) (.type "ValueError") = some true)
    (ktInvalidTextUseError : PySem.W.kitOne K (.ref CInvalidText) (.ref CUseError) = some false)
    (emInvalidTextUseError : PySem.W.exmOne K (.ref CInvalidText) (.ref CUseError) = some false)
    (ktInvalidTextNetError : PySem.W.kitOne K (.ref CInvalidText) (.ref CNetError) = some false)
    (emInvalidTextNetError : PySem.W.exmOne K (.ref CInvalidText) (.ref CNetError) = some false)
    (ktInvalidTextLiveError : PySem.W.kitOne K (.ref CInvalidText) (.ref CLiveError) = some false)
    (emInvalidTextLiveError : PySem.W.exmOne K (.ref CInvalidText) (.ref CLiveError) = some false)
    (ktInvalidTextUnended : PySem.W.kitOne K (.ref CInvalidText) (.ref CUnended) = some false)
    (emInvalidTextUnended : PySem.W.exmOne K (.ref CInvalidText) (.ref CUnended) = some false)
    (ktInvalidTextNotUsable : PySem.W.kitOne K (.ref CInvalidText) (.ref CNotUsable) = some false)
    (emInvalidTextNotUsable : PySem.W.exmOne K (.ref CInvalidText) (.ref CNotUsable) = some false)
    (ktInvalidTextTooMany : PySem.W.kitOne K (.ref CInvalidText) (.ref CTooMany) = some false)
    (emInvalidTextTooMany : PySem.W.exmOne K (.ref CInvalidText) (.ref CTooMany) = some false)
    (xLNotUsable : K.lookup CNotUsable = some (excClassObj nmNotUsable qqNotUsable CNotUsable NNotUsable bsNotUsable bmNotUsable true snNotUsable subNotUsable abNotUsable colNotUsable ddNotUsable m0NotUsable m1NotUsable m2NotUsable m3NotUsable m5NotUsable "ValueError.__new__"))
    (rvNotUsable : PySem.HandSPX.refsVE bmNotUsable = true)
    (saNotUsable : PySem.W.findIn K (.ref CNotUsable) "__setattr__" = some (some (.builtin "object.__setattr__")))
    (gaNotUsable : PySem.W.findIn K (.ref CNotUsable) "__getattribute__" = some (some (.builtin "BaseException.__getattribute__")))
    (ggNotUsable : PySem.W.findIn K (.ref CNotUsable) "__getattr__" = some none)
    (noNotUsableat : PySem.W.findIn K (.ref CNotUsable) "at" = some none)
    (noNotUsableline : PySem.W.findIn K (.ref CNotUsable) "line" = some none)
    (noNotUsableword : PySem.W.findIn K (.ref CNotUsable) "word" = some none)
    (inNotUsable : PySem.W.findIn K (.ref CNotUsable) "__init__" = some (some (.ref iNotUsable)))
    (tiNotUsable : PySem.W.typeIn K (.ref iNotUsable) = some (.type "function"))
    (liNotUsable : K.lookup iNotUsable = some ⟨iocNotUsable, iodNotUsable, .func (PySem.W.fnOf "__init__" "NotUsable.__init__" (defArgs si_NotUsable) (defBody si_NotUsable) (defScope si_NotUsable) .none ikVNotUsable idcNotUsable ipmNotUsable ianNotUsable icdNotUsable ictNotUsable), islNotUsable⟩)
    (ciNotUsable : PySem.W.codeIn K icdNotUsable "NotUsable.__init__" = true)
    (kiNotUsable : PySem.W.keepIn K (.ref iNotUsable) = true)
    (kCNotUsable : PySem.W.keepIn K (.ref CNotUsable) = true)
    (eCNotUsable : PySem.W.subIn K (.ref CNotUsable) (.type "BaseException") = some true)
    (tCNotUsable : PySem.W.typeIn K (.ref CNotUsable) = some (.type "type"))
    (hCNotUsable : PySem.W.hasDictIn K CNotUsable = true)
    (clNotUsable : PySem.W.findIn K (.ref CNotUsable) "__class__" = some (some (.builtin "object.__class__")))
    (moNotUsable : PySem.W.mroIn K CNotUsable (.type "object") = some true)
    (ktNotUsableInvalidText : PySem.W.kitOne K (.ref CNotUsable) (.ref CInvalidText) = some false)
    (emNotUsableInvalidText : PySem.W.exmOne K (.ref CNotUsable) (.ref CInvalidText) = some false)
    (ktNotUsableTextError : PySem.W.kitOne K (.ref CNotUsable) (.ref CTextError) = some false)
    (emNotUsableTextError : PySem.W.exmOne K (.ref CNotUsable) (.ref CTextError) = some false)
    (ktNotUsableOhmError : PySem.W.kitOne K (.ref CNotUsable) (.ref COhmError) = some true)
    (emNotUsableOhmError : PySem.W.exmOne K (.ref CNotUsable) (.ref COhmError) = some true)
    (ktNotUsableValueError : PySem.W.kitOne K (.ref CNotUsable) (.type "ValueError") = some true)
    (emNotUsableValueError : PySem.W.exmOne K (.ref CNotUsable) (.type "ValueError") = some true)
    (ktNotUsableUseError : PySem.W.kitOne K (.ref CNotUsable) (.ref CUseError) = some true)
    (emNotUsableUseError : PySem.W.exmOne K (.ref CNotUsable) (.ref CUseError) = some true)
    (ktNotUsableNetError : PySem.W.kitOne K (.ref CNotUsable) (.ref CNetError) = some false)
    (emNotUsableNetError : PySem.W.exmOne K (.ref CNotUsable) (.ref CNetError) = some false)
    (ktNotUsableLiveError : PySem.W.kitOne K (.ref CNotUsable) (.ref CLiveError) = some false)
    (emNotUsableLiveError : PySem.W.exmOne K (.ref CNotUsable) (.ref CLiveError) = some false)
    (ktNotUsableUnended : PySem.W.kitOne K (.ref CNotUsable) (.ref CUnended) = some false)
    (emNotUsableUnended : PySem.W.exmOne K (.ref CNotUsable) (.ref CUnended) = some false)
    (ktNotUsableNotUsable : PySem.W.kitOne K (.ref CNotUsable) (.ref CNotUsable) = some true)
    (emNotUsableNotUsable : PySem.W.exmOne K (.ref CNotUsable) (.ref CNotUsable) = some true)
    (ktNotUsableTooMany : PySem.W.kitOne K (.ref CNotUsable) (.ref CTooMany) = some false)
    (emNotUsableTooMany : PySem.W.exmOne K (.ref CNotUsable) (.ref CTooMany) = some false)
    : ∃ (T : Tab) (fd : FuncData), (∀ (s : Shared) (u : Value), BindsTo s fd ⟨[u], []⟩ [("_law_script", u)]) ∧ ∀ base : Heap, K.In base → base.Ns mainGlobals mg → FnOk P w K mg base (L2N.CX P w) 38 fa fd ["_law_script"] (spD K T con_law 1) := by
  let T : Tab := fun x => if x = "InvalidText" then some (CInvalidText, ["line", "word"]) else if x = "NotUsable" then some (CNotUsable, ["word", "at"]) else none
  have F0 := fun_mk (st := st_is_integer) l0 c0 k0
  have F1 := fun_mk (st := st_is_value) l1 c1 k1
  have F2 := fun_mk (st := st__joined_pair) l2 c2 k2
  have F3 := fun_mk (st := st_joined) l3 c3 k3
  have F4 := fun_mk (st := st_is_above) l4 c4 k4
  have F5 := fun_mk (st := st_flipped) l5 c5 k5
  have F6 := fun_mk (st := st_are_all_values) l6 c6 k6
  have F7 := fun_mk (st := st_joined_all) l7 c7 k7
  have F8 := fun_mk (st := st_is_above_all) l8 c8 k8
  have F9 := fun_mk (st := st_values_text) l9 c9 k9
  have F10 := fun_mk (st := st_read_values) l10 c10 k10
  have F11 := fun_mk (st := st__law_tape) l11 c11 k11
  have F12 := fun_mk (st := st__law_pick) l12 c12 k12
  have F13 := fun_mk (st := st__law_row) l13 c13 k13
  have F14 := fun_mk (st := st__law_beside) l14 c14 k14
  have F15 := fun_mk (st := st__law_is_number) l15 c15 k15
  have F16 := fun_mk (st := st__law_is_row) l16 c16 k16
  have F17 := fun_mk (st := st__law_is_truth) l17 c17 k17
  have F18 := fun_mk (st := st__law_joins) l18 c18 k18
  have F19 := fun_mk (st := st__law_above) l19 c19 k19
  have F20 := fun_mk (st := st__law_pairs) l20 c20 k20
  have F21 := fun_mk (st := st__law_all_above) l21 c21 k21
  have F22 := fun_mk (st := st__law_rows) l22 c22 k22
  have F23 := fun_mk (st := st__law_text) l23 c23 k23
  have F24 := fun_mk (st := st__law_texts) l24 c24 k24
  have F25 := fun_mk (st := st__law_characters) l25 c25 k25
  have F26 := fun_mk (st := st__law_spoilt) l26 c26 k26
  have F27 := fun_mk (st := st__law_unread) l27 c27 k27
  have F28 := fun_mk (st := st__law_reads) l28 c28 k28
  have F29 := fun_mk (st := st__law_do) l29 c29 k29
  have F30 := fun_mk (st := st__law_refused) l30 c30 k30
  have F31 := fun_mk (st := st__law_no_value) l31 c31 k31
  have F32 := fun_mk (st := st__law_no_row) l32 c32 k32
  have F33 := fun_mk (st := st__law_refusals) l33 c33 k33
  have F34 := fun_mk (st := st_law) l34 c34 k34
  have m0 := PySem.W.mg_of X G0 a0
  have m1 := PySem.W.mg_of X G0 a1
  have m2 := PySem.W.mg_of X G0 a2
  have m3 := PySem.W.mg_of X G0 a3
  have m4 := PySem.W.mg_of X G0 a4
  have m5 := PySem.W.mg_of X G0 a5
  have m6 := PySem.W.mg_of X G0 a6
  have m7 := PySem.W.mg_of X G0 a7
  have m8 := PySem.W.mg_of X G0 a8
  have m9 := PySem.W.mg_of X G0 a9
  have m10 := PySem.W.mg_of X G0 a10
  have m11 := PySem.W.mg_of X G0 a11
  have m12 := PySem.W.mg_of X G0 a12
  have m13 := PySem.W.mg_of X G0 a13
  have m14 := PySem.W.mg_of X G0 a14
  have m15 := PySem.W.mg_of X G0 a15
  have m16 := PySem.W.mg_of X G0 a16
  have m17 := PySem.W.mg_of X G0 a17
  have m18 := PySem.W.mg_of X G0 a18
  have m19 := PySem.W.mg_of X G0 a19
  have m20 := PySem.W.mg_of X G0 a20
  have m21 := PySem.W.mg_of X G0 a21
  have m22 := PySem.W.mg_of X G0 a22
  have m23 := PySem.W.mg_of X G0 a23
  have m24 := PySem.W.mg_of X G0 a24
  have m25 := PySem.W.mg_of X G0 a25
  have m26 := PySem.W.mg_of X G0 a26
  have m27 := PySem.W.mg_of X G0 a27
  have m28 := PySem.W.mg_of X G0 a28
  have m29 := PySem.W.mg_of X G0 a29
  have m30 := PySem.W.mg_of X G0 a30
  have m31 := PySem.W.mg_of X G0 a31
  have m32 := PySem.W.mg_of X G0 a32
  have m33 := PySem.W.mg_of X G0 a33
  have m34 := PySem.W.mg_of X G0 a34
  have e := hfa.symm.trans m34
  cases e
  refine ⟨T, PySem.W.fnOf "law" "law" (defArgs st_law) (defBody st_law) (defScope st_law) .none kV34 dc34 pm34 an34 cd34 ct34, fun s u => BindsTo.of_eq rfl, fun base hb1 hb2 => ?_⟩
  have oxInvalidText : OexC K CInvalidText := ⟨⟨_, _, _, _, _, _, _, _, _, _, _, _, _, _, _, xLInvalidText, rvInvalidText⟩, saInvalidText, eCInvalidText, tCInvalidText, kCInvalidText⟩
  have FiInvalidText := fun_mk (st := si_InvalidText) liInvalidText ciInvalidText kiInvalidText
  have in1InvalidText : FnOk P w K mg base CX0 1 iInvalidText _ ["self", "line", "word"] (spInit CInvalidText ["line", "word"]) := ini2 oxInvalidText noInvalidTextline noInvalidTextword (by decide) liInvalidText ciInvalidText ⟨rfl, rfl, rfl, by decide +kernel, rfl, by decide +kernel, by decide +kernel⟩ (by decide) (by decide) (by decide)
  have ecInvalidText : EclOk P w K mg base T "InvalidText" ["line", "word"] := ⟨CInvalidText, iInvalidText, _, _, rfl, PySem.W.mg_of X G0 aCInvalidText, oxInvalidText, inInvalidText, tiInvalidText, in1InvalidText, FiInvalidText.binds (ps := ["self", "line", "word"]) fun _ _ _ _ _ _ us hl => match us, hl with | [_, _, _], _ => rfl⟩
  have oxNotUsable : OexC K CNotUsable := ⟨⟨_, _, _, _, _, _, _, _, _, _, _, _, _, _, _, xLNotUsable, rvNotUsable⟩, saNotUsable, eCNotUsable, tCNotUsable, kCNotUsable⟩
  have FiNotUsable := fun_mk (st := si_NotUsable) liNotUsable ciNotUsable kiNotUsable
  have in1NotUsable : FnOk P w K mg base CX0 1 iNotUsable _ ["self", "word", "at"] (spInit CNotUsable ["word", "at"]) := ini2 oxNotUsable noNotUsableword noNotUsableat (by decide) liNotUsable ciNotUsable ⟨rfl, rfl, rfl, by decide +kernel, rfl, by decide +kernel, by decide +kernel⟩ (by decide) (by decide) (by decide)
  have ecNotUsable : EclOk P w K mg base T "NotUsable" ["word", "at"] := ⟨CNotUsable, iNotUsable, _, _, rfl, PySem.W.mg_of X G0 aCNotUsable, oxNotUsable, inNotUsable, tiNotUsable, in1NotUsable, FiNotUsable.binds (ps := ["self", "word", "at"]) fun _ _ _ _ _ _ us hl => match us, hl with | [_, _, _], _ => rfl⟩
  have gl : Globs P w K mg base T GG exsA rssA fldA ctsA := by
    refine ⟨fun x hx => ?_, fun x hx => ?_, fun x k e => ?_, fun cn ca ks e => ?_, fun t ht => ?_⟩
    · simp only [blNames, List.mem_cons, List.not_mem_nil, or_false] at hx
      rcases hx with rfl | rfl | rfl | rfl | rfl | rfl | rfl | rfl | rfl | rfl | rfl | rfl | rfl | rfl | rfl | rfl | rfl | rfl
      · exact PySem.W.mg_none_of X G0 b0
      · exact PySem.W.mg_none_of X G0 b1
      · exact PySem.W.mg_none_of X G0 b2
      · exact PySem.W.mg_none_of X G0 b3
      · exact PySem.W.mg_none_of X G0 b4
      · exact PySem.W.mg_none_of X G0 b5
      · exact PySem.W.mg_none_of X G0 b6
      · exact PySem.W.mg_none_of X G0 b7
      · exact PySem.W.mg_none_of X G0 b8
      · exact PySem.W.mg_none_of X G0 b9
      · exact PySem.W.mg_none_of X G0 b10
      · exact PySem.W.mg_none_of X G0 b11
      · exact PySem.W.mg_none_of X G0 b12
      · exact PySem.W.mg_none_of X G0 b13
      · exact PySem.W.mg_none_of X G0 b14
      · exact PySem.W.mg_none_of X G0 b15
      · exact PySem.W.mg_none_of X G0 b16
      · exact PySem.W.mg_none_of X G0 b17
    · simp only [ctsA, List.mem_cons, List.not_mem_nil, or_false] at hx
      rcases hx with rfl
      · exact ⟨_, _, .str "01x", rfl, PySem.W.mg_of X G0 v0, ⟨_, rfl⟩, fun μ H => to_str⟩
    · have e2 := lookup_mem e
      simp only [rssA, List.mem_cons, Prod.mk.injEq, List.not_mem_nil, or_false] at e2
      rcases e2 with ⟨rfl, rfl⟩ | ⟨rfl, rfl⟩
      · exact ⟨ecInvalidText, rfl⟩
      · exact ⟨ecNotUsable, rfl⟩
    · have e2 : T cn = some (ca, ks) := e
      simp only [T] at e2
      by_cases hInvalidText : cn = "InvalidText"
      · rw [if_pos hInvalidText] at e2
        cases e2
        refine ⟨⟨gaInvalidText, ggInvalidText, eCInvalidText, hCInvalidText⟩, ⟨gaInvalidText, ggInvalidText, eCInvalidText, hCInvalidText, clInvalidText, sn, st, moInvalidText⟩, fun f hf => ?_⟩
        simp only [fldA, List.mem_cons, List.not_mem_nil, or_false] at hf
        rcases hf with rfl | rfl | rfl
        · exact noInvalidTextat
        · exact noInvalidTextline
        · exact noInvalidTextword
      rw [if_neg hInvalidText] at e2
      by_cases hNotUsable : cn = "NotUsable"
      · rw [if_pos hNotUsable] at e2
        cases e2
        refine ⟨⟨gaNotUsable, ggNotUsable, eCNotUsable, hCNotUsable⟩, ⟨gaNotUsable, ggNotUsable, eCNotUsable, hCNotUsable, clNotUsable, sn, st, moNotUsable⟩, fun f hf => ?_⟩
        simp only [fldA, List.mem_cons, List.not_mem_nil, or_false] at hf
        rcases hf with rfl | rfl | rfl
        · exact noNotUsableat
        · exact noNotUsableline
        · exact noNotUsableword
      rw [if_neg hNotUsable] at e2
      cases e2
    · simp only [exsA, List.mem_cons, List.not_mem_nil, or_false] at ht
      rcases ht with rfl | rfl | rfl | rfl | rfl | rfl | rfl | rfl | rfl | rfl
      · refine ⟨.ref CInvalidText, .ref CInvalidText, fun u r => r, rfl, .inl (PySem.W.mg_of X G0 aCInvalidText), fun cn ca ks e => ?_⟩
        have e2 : T cn = some (ca, ks) := e
        simp only [T] at e2
        by_cases hInvalidText : cn = "InvalidText"
        · rw [if_pos hInvalidText] at e2
          cases e2
          subst hInvalidText
          exact ⟨ktInvalidTextInvalidText, emInvalidTextInvalidText⟩
        rw [if_neg hInvalidText] at e2
        by_cases hNotUsable : cn = "NotUsable"
        · rw [if_pos hNotUsable] at e2
          cases e2
          subst hNotUsable
          exact ⟨ktNotUsableInvalidText, emNotUsableInvalidText⟩
        rw [if_neg hNotUsable] at e2
        cases e2
      · refine ⟨.ref CTextError, .ref CTextError, fun u r => r, rfl, .inl (PySem.W.mg_of X G0 aCTextError), fun cn ca ks e => ?_⟩
        have e2 : T cn = some (ca, ks) := e
        simp only [T] at e2
        by_cases hInvalidText : cn = "InvalidText"
        · rw [if_pos hInvalidText] at e2
          cases e2
          subst hInvalidText
          exact ⟨ktInvalidTextTextError, emInvalidTextTextError⟩
        rw [if_neg hInvalidText] at e2
        by_cases hNotUsable : cn = "NotUsable"
        · rw [if_pos hNotUsable] at e2
          cases e2
          subst hNotUsable
          exact ⟨ktNotUsableTextError, emNotUsableTextError⟩
        rw [if_neg hNotUsable] at e2
        cases e2
      · refine ⟨.ref COhmError, .ref COhmError, fun u r => r, rfl, .inl (PySem.W.mg_of X G0 aCOhmError), fun cn ca ks e => ?_⟩
        have e2 : T cn = some (ca, ks) := e
        simp only [T] at e2
        by_cases hInvalidText : cn = "InvalidText"
        · rw [if_pos hInvalidText] at e2
          cases e2
          subst hInvalidText
          exact ⟨ktInvalidTextOhmError, emInvalidTextOhmError⟩
        rw [if_neg hInvalidText] at e2
        by_cases hNotUsable : cn = "NotUsable"
        · rw [if_pos hNotUsable] at e2
          cases e2
          subst hNotUsable
          exact ⟨ktNotUsableOhmError, emNotUsableOhmError⟩
        rw [if_neg hNotUsable] at e2
        cases e2
      · refine ⟨.ty "ValueError", .type "ValueError", fun u r => r, rfl, .inr ⟨PySem.W.mg_none_of X G0 aCValueError, by decide +kernel⟩, fun cn ca ks e => ?_⟩
        have e2 : T cn = some (ca, ks) := e
        simp only [T] at e2
        by_cases hInvalidText : cn = "InvalidText"
        · rw [if_pos hInvalidText] at e2
          cases e2
          subst hInvalidText
          exact ⟨ktInvalidTextValueError, emInvalidTextValueError⟩
        rw [if_neg hInvalidText] at e2
        by_cases hNotUsable : cn = "NotUsable"
        · rw [if_pos hNotUsable] at e2
          cases e2
          subst hNotUsable
          exact ⟨ktNotUsableValueError, emNotUsableValueError⟩
        rw [if_neg hNotUsable] at e2
        cases e2
      · refine ⟨.ref CUseError, .ref CUseError, fun u r => r, rfl, .inl (PySem.W.mg_of X G0 aCUseError), fun cn ca ks e => ?_⟩
        have e2 : T cn = some (ca, ks) := e
        simp only [T] at e2
        by_cases hInvalidText : cn = "InvalidText"
        · rw [if_pos hInvalidText] at e2
          cases e2
          subst hInvalidText
          exact ⟨ktInvalidTextUseError, emInvalidTextUseError⟩
        rw [if_neg hInvalidText] at e2
        by_cases hNotUsable : cn = "NotUsable"
        · rw [if_pos hNotUsable] at e2
          cases e2
          subst hNotUsable
          exact ⟨ktNotUsableUseError, emNotUsableUseError⟩
        rw [if_neg hNotUsable] at e2
        cases e2
      · refine ⟨.ref CNetError, .ref CNetError, fun u r => r, rfl, .inl (PySem.W.mg_of X G0 aCNetError), fun cn ca ks e => ?_⟩
        have e2 : T cn = some (ca, ks) := e
        simp only [T] at e2
        by_cases hInvalidText : cn = "InvalidText"
        · rw [if_pos hInvalidText] at e2
          cases e2
          subst hInvalidText
          exact ⟨ktInvalidTextNetError, emInvalidTextNetError⟩
        rw [if_neg hInvalidText] at e2
        by_cases hNotUsable : cn = "NotUsable"
        · rw [if_pos hNotUsable] at e2
          cases e2
          subst hNotUsable
          exact ⟨ktNotUsableNetError, emNotUsableNetError⟩
        rw [if_neg hNotUsable] at e2
        cases e2
      · refine ⟨.ref CLiveError, .ref CLiveError, fun u r => r, rfl, .inl (PySem.W.mg_of X G0 aCLiveError), fun cn ca ks e => ?_⟩
        have e2 : T cn = some (ca, ks) := e
        simp only [T] at e2
        by_cases hInvalidText : cn = "InvalidText"
        · rw [if_pos hInvalidText] at e2
          cases e2
          subst hInvalidText
          exact ⟨ktInvalidTextLiveError, emInvalidTextLiveError⟩
        rw [if_neg hInvalidText] at e2
        by_cases hNotUsable : cn = "NotUsable"
        · rw [if_pos hNotUsable] at e2
          cases e2
          subst hNotUsable
          exact ⟨ktNotUsableLiveError, emNotUsableLiveError⟩
        rw [if_neg hNotUsable] at e2
        cases e2
      · refine ⟨.ref CUnended, .ref CUnended, fun u r => r, rfl, .inl (PySem.W.mg_of X G0 aCUnended), fun cn ca ks e => ?_⟩
        have e2 : T cn = some (ca, ks) := e
        simp only [T] at e2
        by_cases hInvalidText : cn = "InvalidText"
        · rw [if_pos hInvalidText] at e2
          cases e2
          subst hInvalidText
          exact ⟨ktInvalidTextUnended, emInvalidTextUnended⟩
        rw [if_neg hInvalidText] at e2
        by_cases hNotUsable : cn = "NotUsable"
        · rw [if_pos hNotUsable] at e2
          cases e2
          subst hNotUsable
          exact ⟨ktNotUsableUnended, emNotUsableUnended⟩
        rw [if_neg hNotUsable] at e2
        cases e2
      · refine ⟨.ref CNotUsable, .ref CNotUsable, fun u r => r, rfl, .inl (PySem.W.mg_of X G0 aCNotUsable), fun cn ca ks e => ?_⟩
        have e2 : T cn = some (ca, ks) := e
        simp only [T] at e2
        by_cases hInvalidText : cn = "InvalidText"
        · rw [if_pos hInvalidText] at e2
          cases e2
          subst hInvalidText
          exact ⟨ktInvalidTextNotUsable, emInvalidTextNotUsable⟩
        rw [if_neg hInvalidText] at e2
        by_cases hNotUsable : cn = "NotUsable"
        · rw [if_pos hNotUsable] at e2
          cases e2
          subst hNotUsable
          exact ⟨ktNotUsableNotUsable, emNotUsableNotUsable⟩
        rw [if_neg hNotUsable] at e2
        cases e2
      · refine ⟨.ref CTooMany, .ref CTooMany, fun u r => r, rfl, .inl (PySem.W.mg_of X G0 aCTooMany), fun cn ca ks e => ?_⟩
        have e2 : T cn = some (ca, ks) := e
        simp only [T] at e2
        by_cases hInvalidText : cn = "InvalidText"
        · rw [if_pos hInvalidText] at e2
          cases e2
          subst hInvalidText
          exact ⟨ktInvalidTextTooMany, emInvalidTextTooMany⟩
        rw [if_neg hInvalidText] at e2
        by_cases hNotUsable : cn = "NotUsable"
        · rw [if_pos hNotUsable] at e2
          cases e2
          subst hNotUsable
          exact ⟨ktNotUsableTooMany, emNotUsableTooMany⟩
        rw [if_neg hNotUsable] at e2
        cases e2
  have K0 : Known P w K mg base T GG 2 [] := known_nil
  have H0 : KnownH P w K mg base T GG 2 [] := knownH_nil
  have bd0 := (F0.binds (ps := ["thing"]) fun _ _ _ _ _ _ us hl => match us, hl with | [_], _ => rfl)
  have K1 := fn_step (kw := []) K0 H0 gl F0 m0 (by decide) cs_is_integer rfl rfl rfl rfl (by decide +kernel) sc_is_integer (pu.is_integer) bd0 no_kw
  have H1 := H0.up (Nat.le_succ _)
  have bd1 := (F1.binds (ps := ["thing"]) fun _ _ _ _ _ _ us hl => match us, hl with | [_], _ => rfl)
  have K2 := fn_step (kw := []) K1 H1 gl F1 m1 (by decide) cs_is_value rfl rfl rfl rfl (by decide +kernel) sc_is_value (pu.is_value) bd1 no_kw
  have H2 := H1.up (Nat.le_succ _)
  have bd2 := (F2.binds (ps := ["one", "other"]) fun _ _ _ _ _ _ us hl => match us, hl with | [_, _], _ => rfl)
  have K3 := fn_step (kw := []) K2 H2 gl F2 m2 (by decide) cs__joined_pair rfl rfl rfl rfl (by decide +kernel) sc__joined_pair (pu._joined_pair) bd2 no_kw
  have H3 := H2.up (Nat.le_succ _)
  have bd3 := (F3.binds (ps := ["one", "other"]) fun _ _ _ _ _ _ us hl => match us, hl with | [_, _], _ => rfl)
  have K4 := fn_step (kw := [((0, ["other", "one"]), [1, 0])]) K3 H3 gl F3 m3 (by decide) cs_joined rfl rfl rfl rfl (by decide +kernel) sc_joined (pu.joined) bd3 (fun m ns pm e s us ws _ h1 h2 => by
      have e2 := lookup_mem e
      simp only [List.mem_cons, Prod.mk.injEq, List.not_mem_nil, or_false] at e2
      obtain ⟨oc, od, kV, doc, pm, an, cdv, ct, osl, efd, lk, hcd⟩ := F3.ex
      rw [efd]
      rcases e2 with ⟨⟨rfl, rfl⟩, rfl⟩
      · match us, ws, h1, h2 with | [], [_, _], _, _ => exact BindsTo.of_eq rfl
    )
  have H4 := H3.up (Nat.le_succ _)
  have bd4 := (F4.binds (ps := ["one", "other"]) fun _ _ _ _ _ _ us hl => match us, hl with | [_, _], _ => rfl)
  have K5 := fn_step (kw := [((0, ["other", "one"]), [1, 0])]) K4 H4 gl F4 m4 (by decide) cs_is_above rfl rfl rfl rfl (by decide +kernel) sc_is_above (pu.is_above) bd4 (fun m ns pm e s us ws _ h1 h2 => by
      have e2 := lookup_mem e
      simp only [List.mem_cons, Prod.mk.injEq, List.not_mem_nil, or_false] at e2
      obtain ⟨oc, od, kV, doc, pm, an, cdv, ct, osl, efd, lk, hcd⟩ := F4.ex
      rw [efd]
      rcases e2 with ⟨⟨rfl, rfl⟩, rfl⟩
      · match us, ws, h1, h2 with | [], [_, _], _, _ => exact BindsTo.of_eq rfl
    )
  have H5 := H4.up (Nat.le_succ _)
  have bd5 := (F5.binds (ps := ["value"]) fun _ _ _ _ _ _ us hl => match us, hl with | [_], _ => rfl)
  have K6 := fn_step (kw := [((0, ["value"]), [0])]) K5 H5 gl F5 m5 (by decide) cs_flipped rfl rfl rfl rfl (by decide +kernel) sc_flipped (pu.flipped) bd5 (fun m ns pm e s us ws _ h1 h2 => by
      have e2 := lookup_mem e
      simp only [List.mem_cons, Prod.mk.injEq, List.not_mem_nil, or_false] at e2
      obtain ⟨oc, od, kV, doc, pm, an, cdv, ct, osl, efd, lk, hcd⟩ := F5.ex
      rw [efd]
      rcases e2 with ⟨⟨rfl, rfl⟩, rfl⟩
      · match us, ws, h1, h2 with | [], [_], _, _ => exact BindsTo.of_eq rfl
    )
  have H6 := H5.up (Nat.le_succ _)
  have bd6 := (F6.binds (ps := ["thing"]) fun _ _ _ _ _ _ us hl => match us, hl with | [_], _ => rfl)
  have K7 := fn_step (kw := []) K6 H6 gl F6 m6 (by decide) cs_are_all_values rfl rfl rfl rfl (by decide +kernel) sc_are_all_values (pu.are_all_values) bd6 no_kw
  have H7 := H6.up (Nat.le_succ _)
  have bd7 := (F7.binds (ps := ["ones", "others"]) fun _ _ _ _ _ _ us hl => match us, hl with | [_, _], _ => rfl)
  have K8 := fn_step (kw := [((0, ["others", "ones"]), [1, 0])]) K7 H7 gl F7 m7 (by decide) cs_joined_all rfl rfl rfl rfl (by decide +kernel) sc_joined_all (pu.joined_all) bd7 (fun m ns pm e s us ws _ h1 h2 => by
      have e2 := lookup_mem e
      simp only [List.mem_cons, Prod.mk.injEq, List.not_mem_nil, or_false] at e2
      obtain ⟨oc, od, kV, doc, pm, an, cdv, ct, osl, efd, lk, hcd⟩ := F7.ex
      rw [efd]
      rcases e2 with ⟨⟨rfl, rfl⟩, rfl⟩
      · match us, ws, h1, h2 with | [], [_, _], _, _ => exact BindsTo.of_eq rfl
    )
  have H8 := H7.up (Nat.le_succ _)
  have bd8 := (F8.binds (ps := ["ones", "others"]) fun _ _ _ _ _ _ us hl => match us, hl with | [_, _], _ => rfl)
  have K9 := fn_step (kw := [((0, ["others", "ones"]), [1, 0])]) K8 H8 gl F8 m8 (by decide) cs_is_above_all rfl rfl rfl rfl (by decide +kernel) sc_is_above_all (pu.is_above_all) bd8 (fun m ns pm e s us ws _ h1 h2 => by
      have e2 := lookup_mem e
      simp only [List.mem_cons, Prod.mk.injEq, List.not_mem_nil, or_false] at e2
      obtain ⟨oc, od, kV, doc, pm, an, cdv, ct, osl, efd, lk, hcd⟩ := F8.ex
      rw [efd]
      rcases e2 with ⟨⟨rfl, rfl⟩, rfl⟩
      · match us, ws, h1, h2 with | [], [_, _], _, _ => exact BindsTo.of_eq rfl
    )
  have H9 := H8.up (Nat.le_succ _)
  have bd9 := (F9.binds (ps := ["values"]) fun _ _ _ _ _ _ us hl => match us, hl with | [_], _ => rfl)
  have K10 := fn_step (kw := [((0, ["values"]), [0])]) K9 H9 gl F9 m9 (by decide) cs_values_text rfl rfl rfl rfl (by decide +kernel) sc_values_text (pu.values_text) bd9 (fun m ns pm e s us ws _ h1 h2 => by
      have e2 := lookup_mem e
      simp only [List.mem_cons, Prod.mk.injEq, List.not_mem_nil, or_false] at e2
      obtain ⟨oc, od, kV, doc, pm, an, cdv, ct, osl, efd, lk, hcd⟩ := F9.ex
      rw [efd]
      rcases e2 with ⟨⟨rfl, rfl⟩, rfl⟩
      · match us, ws, h1, h2 with | [], [_], _, _ => exact BindsTo.of_eq rfl
    )
  have H10 := H9.up (Nat.le_succ _)
  have bd10 := (F10.binds (ps := ["text"]) fun _ _ _ _ _ _ us hl => match us, hl with | [_], _ => rfl)
  have K11 := fn_step (kw := [((0, ["text"]), [0])]) K10 H10 gl F10 m10 (by decide) cs_read_values rfl rfl rfl rfl (by decide +kernel) sc_read_values (pu.read_values) bd10 (fun m ns pm e s us ws _ h1 h2 => by
      have e2 := lookup_mem e
      simp only [List.mem_cons, Prod.mk.injEq, List.not_mem_nil, or_false] at e2
      obtain ⟨oc, od, kV, doc, pm, an, cdv, ct, osl, efd, lk, hcd⟩ := F10.ex
      rw [efd]
      rcases e2 with ⟨⟨rfl, rfl⟩, rfl⟩
      · match us, ws, h1, h2 with | [], [_], _, _ => exact BindsTo.of_eq rfl
    )
  have H11 := H10.up (Nat.le_succ _)
  have bd11 := (F11.binds (ps := ["_law_script"]) fun _ _ _ _ _ _ us hl => match us, hl with | [_], _ => rfl)
  have K12 := fn_step (kw := []) K11 H11 gl F11 m11 (by decide) cs__law_tape rfl rfl rfl rfl (by decide +kernel) sc__law_tape (pu._law_tape) bd11 no_kw
  have H12 := H11.up (Nat.le_succ _)
  have bd12 := (F12.binds (ps := ["_law_tape_here", "_law_many"]) fun _ _ _ _ _ _ us hl => match us, hl with | [_, _], _ => rfl)
  have K13 := fn_step (kw := []) K12 H12 gl F12 m12 (by decide) cs__law_pick rfl rfl rfl rfl (by decide +kernel) sc__law_pick (pu._law_pick) bd12 no_kw
  have H13 := H12.up (Nat.le_succ _)
  have bd13 := (F13.binds (ps := ["_law_tape_here"]) fun _ _ _ _ _ _ us hl => match us, hl with | [_], _ => rfl)
  have K14 := fn_step (kw := []) K13 H13 gl F13 m13 (by decide) cs__law_row rfl rfl rfl rfl (by decide +kernel) sc__law_row (pu._law_row) bd13 no_kw
  have H14 := H13.up (Nat.le_succ _)
  have bd14 := (F14.binds (ps := ["_law_tape_here", "_law_row_here"]) fun _ _ _ _ _ _ us hl => match us, hl with | [_, _], _ => rfl)
  have K15 := fn_step (kw := []) K14 H14 gl F14 m14 (by decide) cs__law_beside rfl rfl rfl rfl (by decide +kernel) sc__law_beside (pu._law_beside) bd14 no_kw
  have H15 := H14.up (Nat.le_succ _)
  have bd15 := (F15.binds (ps := ["_law_thing", "_law_due"]) fun _ _ _ _ _ _ us hl => match us, hl with | [_, _], _ => rfl)
  have K16 := fn_step (kw := []) K15 H15 gl F15 m15 (by decide) cs__law_is_number rfl rfl rfl rfl (by decide +kernel) sc__law_is_number (pu._law_is_number) bd15 no_kw
  have G16 := fnH_step K16 (H15.up (Nat.le_succ _)) gl F15 m15 csh__law_is_number rfl rfl rfl rfl (by decide +kernel) sc__law_is_number (pu._law_is_number) bd15
  have K16b := K16.up (Nat.le_succ _)
  have bd16 := (F16.binds (ps := ["_law_thing", "_law_due"]) fun _ _ _ _ _ _ us hl => match us, hl with | [_, _], _ => rfl)
  have K17 := fn_step (kw := []) K16b G16 gl F16 m16 (by decide) cs__law_is_row rfl rfl rfl rfl (by decide +kernel) sc__law_is_row (pu._law_is_row) bd16 no_kw
  have H17 := G16.up (Nat.le_succ _)
  have bd17 := (F17.binds (ps := ["_law_thing", "_law_due"]) fun _ _ _ _ _ _ us hl => match us, hl with | [_, _], _ => rfl)
  have K18 := fn_step (kw := []) K17 H17 gl F17 m17 (by decide) cs__law_is_truth rfl rfl rfl rfl (by decide +kernel) sc__law_is_truth (pu._law_is_truth) bd17 no_kw
  have H18 := H17.up (Nat.le_succ _)
  have bd18 := (F18.binds (ps := []) fun _ _ _ _ _ _ us hl => match us, hl with | [], _ => rfl)
  have K19 := fn_step (kw := []) K18 H18 gl F18 m18 (by decide) cs__law_joins rfl rfl rfl rfl (by decide +kernel) sc__law_joins (pu._law_joins) bd18 no_kw
  have H19 := H18.up (Nat.le_succ _)
  have bd19 := (F19.binds (ps := ["_law_first", "_law_second"]) fun _ _ _ _ _ _ us hl => match us, hl with | [_, _], _ => rfl)
  have K20 := fn_step (kw := []) K19 H19 gl F19 m19 (by decide) cs__law_above rfl rfl rfl rfl (by decide +kernel) sc__law_above (pu._law_above) bd19 no_kw
  have H20 := H19.up (Nat.le_succ _)
  have bd20 := (F20.binds (ps := []) fun _ _ _ _ _ _ us hl => match us, hl with | [], _ => rfl)
  have K21 := fn_step (kw := []) K20 H20 gl F20 m20 (by decide) cs__law_pairs rfl rfl rfl rfl (by decide +kernel) sc__law_pairs (pu._law_pairs) bd20 no_kw
  have H21 := H20.up (Nat.le_succ _)
  have bd21 := (F21.binds (ps := ["_law_first", "_law_second"]) fun _ _ _ _ _ _ us hl => match us, hl with | [_, _], _ => rfl)
  have K22 := fn_step (kw := []) K21 H21 gl F21 m21 (by decide) cs__law_all_above rfl rfl rfl rfl (by decide +kernel) sc__law_all_above (pu._law_all_above) bd21 no_kw
  have H22 := H21.up (Nat.le_succ _)
  have bd22 := (F22.binds (ps := ["_law_first", "_law_second"]) fun _ _ _ _ _ _ us hl => match us, hl with | [_, _], _ => rfl)
  have K23 := fn_step (kw := []) K22 H22 gl F22 m22 (by decide) cs__law_rows rfl rfl rfl rfl (by decide +kernel) sc__law_rows (pu._law_rows) bd22 no_kw
  have H23 := H22.up (Nat.le_succ _)
  have bd23 := (F23.binds (ps := ["_law_row_here"]) fun _ _ _ _ _ _ us hl => match us, hl with | [_], _ => rfl)
  have K24 := fn_step (kw := []) K23 H23 gl F23 m23 (by decide) cs__law_text rfl rfl rfl rfl (by decide +kernel) sc__law_text (pu._law_text) bd23 no_kw
  have H24 := H23.up (Nat.le_succ _)
  have bd24 := (F24.binds (ps := ["_law_row_here"]) fun _ _ _ _ _ _ us hl => match us, hl with | [_], _ => rfl)
  have K25 := fn_step (kw := []) K24 H24 gl F24 m24 (by decide) cs__law_texts rfl rfl rfl rfl (by decide +kernel) sc__law_texts (pu._law_texts) bd24 no_kw
  have H25 := H24.up (Nat.le_succ _)
  have bd25 := (F25.binds (ps := []) fun _ _ _ _ _ _ us hl => match us, hl with | [], _ => rfl)
  have K26 := fn_step (kw := []) K25 H25 gl F25 m25 (by decide) cs__law_characters rfl rfl rfl rfl (by decide +kernel) sc__law_characters (pu._law_characters) bd25 no_kw
  have H26 := H25.up (Nat.le_succ _)
  have bd26 := (F26.binds (ps := ["_law_tape_here", "_law_row_here"]) fun _ _ _ _ _ _ us hl => match us, hl with | [_, _], _ => rfl)
  have K27 := fn_step (kw := []) K26 H26 gl F26 m26 (by decide) cs__law_spoilt rfl rfl rfl rfl (by decide +kernel) sc__law_spoilt (pu._law_spoilt) bd26 no_kw
  have H27 := H26.up (Nat.le_succ _)
  have bd27 := (F27.binds (ps := ["_law_text_here", "_law_place"]) fun _ _ _ _ _ _ us hl => match us, hl with | [_, _], _ => rfl)
  have K28 := fn_step (kw := []) K27 H27 gl F27 m27 (by decide) cs__law_unread rfl rfl rfl rfl (by decide +kernel) sc__law_unread (pu._law_unread) bd27 no_kw
  have H28 := H27.up (Nat.le_succ _)
  have bd28 := (F28.binds (ps := ["_law_text_here"]) fun _ _ _ _ _ _ us hl => match us, hl with | [_], _ => rfl)
  have K29 := fn_step (kw := []) K28 H28 gl F28 m28 (by decide) cs__law_reads rfl rfl rfl rfl (by decide +kernel) sc__law_reads (pu._law_reads) bd28 no_kw
  have H29 := H28.up (Nat.le_succ _)
  have bd29 := (F29.binds (ps := ["_law_word", "_law_args"]) fun _ _ _ _ _ _ us hl => match us, hl with | [_, _], _ => rfl)
  have K30 := fn_step (kw := []) K29 H29 gl F29 m29 (by decide) cs__law_do rfl rfl rfl rfl (by decide +kernel) sc__law_do (pu._law_do) bd29 no_kw
  have H30 := H29.up (Nat.le_succ _)
  have bd30 := (F30.binds (ps := ["_law_word", "_law_args", "_law_name"]) fun _ _ _ _ _ _ us hl => match us, hl with | [_, _, _], _ => rfl)
  have K31 := fn_step (kw := []) K30 H30 gl F30 m30 (by decide) cs__law_refused rfl rfl rfl rfl (by decide +kernel) sc__law_refused (pu._law_refused) bd30 no_kw
  have H31 := H30.up (Nat.le_succ _)
  have bd31 := (F31.binds (ps := ["_law_tape_here"]) fun _ _ _ _ _ _ us hl => match us, hl with | [_], _ => rfl)
  have K32 := fn_step (kw := []) K31 H31 gl F31 m31 (by decide) cs__law_no_value rfl rfl rfl rfl (by decide +kernel) sc__law_no_value (pu._law_no_value) bd31 no_kw
  have H32 := H31.up (Nat.le_succ _)
  have bd32 := (F32.binds (ps := ["_law_tape_here", "_law_row_here"]) fun _ _ _ _ _ _ us hl => match us, hl with | [_, _], _ => rfl)
  have K33 := fn_step (kw := []) K32 H32 gl F32 m32 (by decide) cs__law_no_row rfl rfl rfl rfl (by decide +kernel) sc__law_no_row (pu._law_no_row) bd32 no_kw
  have H33 := H32.up (Nat.le_succ _)
  have bd33 := (F33.binds (ps := ["_law_tape_here", "_law_first", "_law_second"]) fun _ _ _ _ _ _ us hl => match us, hl with | [_, _, _], _ => rfl)
  have K34 := fn_step (kw := []) K33 H33 gl F33 m33 (by decide) cs__law_refusals rfl rfl rfl rfl (by decide +kernel) sc__law_refusals (pu._law_refusals) bd33 no_kw
  have H34 := H33.up (Nat.le_succ _)
  exact fn_sound F34 (mk_callees K34 H34 gl (by decide +kernel)) (by decide) cs_law rfl rfl rfl rfl sc_law (pu.law)
theorem gok : GOk9 GG := by
  refine { nu := rfl, iv := rfl, vm := rfl, is_integer := rfl, is_value := rfl, _joined_pair := rfl, are_all_values := rfl, _law_pick := rfl, _law_is_number := rfl, _law_above := rfl, _law_text := rfl, _law_characters := rfl, values_text := rfl, read_values := rfl, _law_is_row := rfl, _law_is_truth := rfl, _law_unread := rfl, joined := rfl, is_above := rfl, joined_all := rfl, is_above_all := rfl, flipped := rfl, _law_do := rfl, i1 := ?_, i2 := ?_, i3 := ?_, i4 := ?_, i5 := ?_, i6 := ?_, i7 := ?_, i8 := ?_, n1 := ?_, n2 := ?_, n3 := ?_, n4 := ?_, n5 := ?_, n6 := ?_, n7 := ?_, n8 := ?_, _law_no_value := rfl, _law_no_row := rfl, _law_refused := rfl, _law_joins := rfl, _law_all_above := rfl, _law_tape := rfl, _law_row := rfl, _law_beside := rfl, _law_pairs := rfl, _law_rows := rfl, _law_texts := rfl, _law_reads := rfl, _law_spoilt := rfl, _law_refusals := rfl } <;> decide +kernel
theorem pure : Pure GG where
  is_integer := b_is_integer gok.toGOk8.toGOk7.toGOk6.toGOk5.toGOk4.toGOk3.toGOk2.toGOk
  is_value := b_is_value gok.toGOk8.toGOk7.toGOk6.toGOk5.toGOk4.toGOk3.toGOk2.toGOk
  _joined_pair := b__joined_pair gok.toGOk8.toGOk7.toGOk6.toGOk5.toGOk4.toGOk3.toGOk2.toGOk
  joined := b_joined gok.toGOk8.toGOk7.toGOk6.toGOk5.toGOk4.toGOk3.toGOk2.toGOk
  is_above := b_is_above gok.toGOk8.toGOk7.toGOk6.toGOk5.toGOk4.toGOk3.toGOk2.toGOk
  flipped := b_flipped gok.toGOk8.toGOk7.toGOk6.toGOk5.toGOk4.toGOk3.toGOk2.toGOk
  are_all_values := b_are_all_values gok.toGOk8.toGOk7.toGOk6.toGOk5.toGOk4.toGOk3.toGOk2
  joined_all := b_joined_all gok.toGOk8.toGOk7.toGOk6.toGOk5.toGOk4.toGOk3.toGOk2
  is_above_all := b_is_above_all gok.toGOk8.toGOk7.toGOk6.toGOk5.toGOk4.toGOk3.toGOk2
  values_text := b_values_text gok.toGOk8.toGOk7.toGOk6.toGOk5.toGOk4
  read_values := b_read_values gok.toGOk8.toGOk7.toGOk6.toGOk5.toGOk4
  _law_tape := b__law_tape
  _law_pick := b__law_pick
  _law_row := b__law_row gok.toGOk8.toGOk7.toGOk6.toGOk5.toGOk4.toGOk3
  _law_beside := b__law_beside gok.toGOk8.toGOk7.toGOk6.toGOk5.toGOk4
  _law_is_number := b__law_is_number gok.toGOk8.toGOk7.toGOk6.toGOk5.toGOk4
  _law_is_row := b__law_is_row gok.toGOk8.toGOk7.toGOk6.toGOk5.toGOk4
  _law_is_truth := b__law_is_truth gok.toGOk8.toGOk7.toGOk6.toGOk5.toGOk4
  _law_joins := b__law_joins gok.toGOk8.toGOk7.toGOk6.toGOk5.toGOk4
  _law_above := b__law_above gok.toGOk8.toGOk7.toGOk6.toGOk5.toGOk4
  _law_pairs := b__law_pairs gok.toGOk8
  _law_all_above := b__law_all_above gok.toGOk8.toGOk7.toGOk6.toGOk5.toGOk4
  _law_rows := b__law_rows gok.toGOk8
  _law_text := b__law_text gok.toGOk8.toGOk7.toGOk6.toGOk5.toGOk4
  _law_texts := b__law_texts gok.toGOk8.toGOk7.toGOk6.toGOk5
  _law_characters := b__law_characters gok.toGOk8.toGOk7.toGOk6.toGOk5
  _law_spoilt := b__law_spoilt gok.toGOk8.toGOk7.toGOk6
  _law_unread := b__law_unread gok.toGOk8.toGOk7.toGOk6
  _law_reads := b__law_reads gok.toGOk8.toGOk7.toGOk6
  _law_do := b__law_do gok.toGOk8.toGOk7.toGOk6
  _law_refused := b__law_refused gok.toGOk8.toGOk7.toGOk6
  _law_no_value := b__law_no_value gok.toGOk8.toGOk7.toGOk6
  _law_no_row := b__law_no_row gok.toGOk8.toGOk7
  _law_refusals := b__law_refusals gok.toGOk8
  law := b_law gok
theorem law_true : ∀ ns : List Int, ns.length ≤ 63 → con_law [.rol (ns.map .int)] [] (fun _ _ => False) (fun d _ => d = .bl true) := fun ns h => ⟨ns, rfl, h, fun _ => rfl⟩
end K16
end TextK16z

section TextK16y
set_option autoImplicit false
set_option maxRecDepth 100000
open PySem PySem.W PyProof.Rows
set_option maxHeartbeats 0 in
theorem PySem.Challenge.cw_everyohm_k16_values_and_their_texts_holds : PySem.Challenge.rw_everyohm_k16_values_and_their_texts.Holds := by
  w_on; o_law; k_head; (case hw => w_witness2)
  k_fill
  refine Px.walkP (l := PySem.Challenge.rw_everyohm_k16_values_and_their_texts) (lv := 38) (x := "_law_script") (con := K16.con_law) rfl (by decide) rfl ⟨rfl, by decide, by decide⟩ (fun w h Y => PySem.W.kIn_of Y) K16.law_true ?F
  case F =>
    intro w mg fa h KX G hmg
    refine' K16.all_mk K16.pure KX G hmg ?a0 ?l0 ?c0 ?k0 ?a1 ?l1 ?c1 ?k1 ?a2 ?l2 ?c2 ?k2 ?a3 ?l3 ?c3 ?k3 ?a4 ?l4 ?c4 ?k4 ?a5 ?l5 ?c5 ?k5 ?a6 ?l6 ?c6 ?k6 ?a7 ?l7 ?c7 ?k7 ?a8 ?l8 ?c8 ?k8 ?a9 ?l9 ?c9 ?k9 ?a10 ?l10 ?c10 ?k10 ?a11 ?l11 ?c11 ?k11 ?a12 ?l12 ?c12 ?k12 ?a13 ?l13 ?c13 ?k13 ?a14 ?l14 ?c14 ?k14 ?a15 ?l15 ?c15 ?k15 ?a16 ?l16 ?c16 ?k16 ?a17 ?l17 ?c17 ?k17 ?a18 ?l18 ?c18 ?k18 ?a19 ?l19 ?c19 ?k19 ?a20 ?l20 ?c20 ?k20 ?a21 ?l21 ?c21 ?k21 ?a22 ?l22 ?c22 ?k22 ?a23 ?l23 ?c23 ?k23 ?a24 ?l24 ?c24 ?k24 ?a25 ?l25 ?c25 ?k25 ?a26 ?l26 ?c26 ?k26 ?a27 ?l27 ?c27 ?k27 ?a28 ?l28 ?c28 ?k28 ?a29 ?l29 ?c29 ?k29 ?a30 ?l30 ?c30 ?k30 ?a31 ?l31 ?c31 ?k31 ?a32 ?l32 ?c32 ?k32 ?a33 ?l33 ?c33 ?k33 ?a34 ?l34 ?c34 ?k34 ?b0 ?b1 ?b2 ?b3 ?b4 ?b5 ?b6 ?b7 ?b8 ?b9 ?b10 ?b11 ?b12 ?b13 ?b14 ?b15 ?b16 ?b17 ?v0 ?sn ?st ?aCInvalidText ?aCLiveError ?aCNetError ?aCNotUsable ?aCOhmError ?aCTextError ?aCTooMany ?aCUnended ?aCUseError ?aCValueError ?xLInvalidText ?rvInvalidText ?saInvalidText ?gaInvalidText ?ggInvalidText ?noInvalidTextat ?noInvalidTextline ?noInvalidTextword ?inInvalidText ?tiInvalidText ?liInvalidText ?ciInvalidText ?kiInvalidText ?kCInvalidText ?eCInvalidText ?tCInvalidText ?hCInvalidText ?clInvalidText ?moInvalidText ?ktInvalidTextInvalidText ?emInvalidTextInvalidText ?ktInvalidTextTextError ?emInvalidTextTextError ?ktInvalidTextOhmError ?emInvalidTextOhmError ?ktInvalidTextValueError ?emInvalidTextValueError ?ktInvalidTextUseError ?emInvalidTextUseError ?ktInvalidTextNetError ?emInvalidTextNetError ?ktInvalidTextLiveError ?emInvalidTextLiveError ?ktInvalidTextUnended ?emInvalidTextUnended ?ktInvalidTextNotUsable ?emInvalidTextNotUsable ?ktInvalidTextTooMany ?emInvalidTextTooMany ?xLNotUsable ?rvNotUsable ?saNotUsable ?gaNotUsable ?ggNotUsable ?noNotUsableat ?noNotUsableline ?noNotUsableword ?inNotUsable ?tiNotUsable ?liNotUsable ?ciNotUsable ?kiNotUsable ?kCNotUsable ?eCNotUsable ?tCNotUsable ?hCNotUsable ?clNotUsable ?moNotUsable ?ktNotUsableInvalidText ?emNotUsableInvalidText ?ktNotUsableTextError ?emNotUsableTextError ?ktNotUsableOhmError ?emNotUsableOhmError ?ktNotUsableValueError ?emNotUsableValueError ?ktNotUsableUseError ?emNotUsableUseError ?ktNotUsableNetError ?emNotUsableNetError ?ktNotUsableLiveError ?emNotUsableLiveError ?ktNotUsableUnended ?emNotUsableUnended ?ktNotUsableNotUsable ?emNotUsableNotUsable ?ktNotUsableTooMany ?emNotUsableTooMany
    (case a0 => k_is)
    (case l0 => k_is)
    (case c0 => k_is)
    (case k0 => k_is)
    (case a1 => k_is)
    (case l1 => k_is)
    (case c1 => k_is)
    (case k1 => k_is)
    (case a2 => k_is)
    (case l2 => k_is)
    (case c2 => k_is)
    (case k2 => k_is)
    (case a3 => k_is)
    (case l3 => k_is)
    (case c3 => k_is)
    (case k3 => k_is)
    (case a4 => k_is)
    (case l4 => k_is)
    (case c4 => k_is)
    (case k4 => k_is)
    (case a5 => k_is)
    (case l5 => k_is)
    (case c5 => k_is)
    (case k5 => k_is)
    (case a6 => k_is)
    (case l6 => k_is)
    (case c6 => k_is)
    (case k6 => k_is)
    (case a7 => k_is)
    (case l7 => k_is)
    (case c7 => k_is)
    (case k7 => k_is)
    (case a8 => k_is)
    (case l8 => k_is)
    (case c8 => k_is)
    (case k8 => k_is)
    (case a9 => k_is)
    (case l9 => k_is)
    (case c9 => k_is)
    (case k9 => k_is)
    (case a10 => k_is)
    (case l10 => k_is)
    (case c10 => k_is)
    (case k10 => k_is)
    (case a11 => k_is)
    (case l11 => k_is)
    (case c11 => k_is)
    (case k11 => k_is)
    (case a12 => k_is)
    (case l12 => k_is)
    (case c12 => k_is)
    (case k12 => k_is)
    (case a13 => k_is)
    (case l13 => k_is)
    (case c13 => k_is)
    (case k13 => k_is)
    (case a14 => k_is)
    (case l14 => k_is)
    (case c14 => k_is)
    (case k14 => k_is)
    (case a15 => k_is)
    (case l15 => k_is)
    (case c15 => k_is)
    (case k15 => k_is)
    (case a16 => k_is)
    (case l16 => k_is)
    (case c16 => k_is)
    (case k16 => k_is)
    (case a17 => k_is)
    (case l17 => k_is)
    (case c17 => k_is)
    (case k17 => k_is)
    (case a18 => k_is)
    (case l18 => k_is)
    (case c18 => k_is)
    (case k18 => k_is)
    (case a19 => k_is)
    (case l19 => k_is)
    (case c19 => k_is)
    (case k19 => k_is)
    (case a20 => k_is)
    (case l20 => k_is)
    (case c20 => k_is)
    (case k20 => k_is)
    (case a21 => k_is)
    (case l21 => k_is)
    (case c21 => k_is)
    (case k21 => k_is)
    (case a22 => k_is)
    (case l22 => k_is)
    (case c22 => k_is)
    (case k22 => k_is)
    (case a23 => k_is)
    (case l23 => k_is)
    (case c23 => k_is)
    (case k23 => k_is)
    (case a24 => k_is)
    (case l24 => k_is)
    (case c24 => k_is)
    (case k24 => k_is)
    (case a25 => k_is)
    (case l25 => k_is)
    (case c25 => k_is)
    (case k25 => k_is)
    (case a26 => k_is)
    (case l26 => k_is)
    (case c26 => k_is)
    (case k26 => k_is)
    (case a27 => k_is)
    (case l27 => k_is)
    (case c27 => k_is)
    (case k27 => k_is)
    (case a28 => k_is)
    (case l28 => k_is)
    (case c28 => k_is)
    (case k28 => k_is)
    (case a29 => k_is)
    (case l29 => k_is)
    (case c29 => k_is)
    (case k29 => k_is)
    (case a30 => k_is)
    (case l30 => k_is)
    (case c30 => k_is)
    (case k30 => k_is)
    (case a31 => k_is)
    (case l31 => k_is)
    (case c31 => k_is)
    (case k31 => k_is)
    (case a32 => k_is)
    (case l32 => k_is)
    (case c32 => k_is)
    (case k32 => k_is)
    (case a33 => k_is)
    (case l33 => k_is)
    (case c33 => k_is)
    (case k33 => k_is)
    (case a34 => k_is)
    (case l34 => k_is)
    (case c34 => k_is)
    (case k34 => k_is)
    (case b0 => k_is)
    (case b1 => k_is)
    (case b2 => k_is)
    (case b3 => k_is)
    (case b4 => k_is)
    (case b5 => k_is)
    (case b6 => k_is)
    (case b7 => k_is)
    (case b8 => k_is)
    (case b9 => k_is)
    (case b10 => k_is)
    (case b11 => k_is)
    (case b12 => k_is)
    (case b13 => k_is)
    (case b14 => k_is)
    (case b15 => k_is)
    (case b16 => k_is)
    (case b17 => k_is)
    (case v0 => k_is)
    (case sn => k_is)
    (case st => k_is)
    (case aCInvalidText => k_is)
    (case aCLiveError => k_is)
    (case aCNetError => k_is)
    (case aCNotUsable => k_is)
    (case aCOhmError => k_is)
    (case aCTextError => k_is)
    (case aCTooMany => k_is)
    (case aCUnended => k_is)
    (case aCUseError => k_is)
    (case aCValueError => k_is)
    (case xLInvalidText => k_is)
    (case rvInvalidText => first | rfl | decide +kernel | k_is)
    (case saInvalidText => k_is)
    (case gaInvalidText => k_is)
    (case ggInvalidText => k_is)
    (case noInvalidTextat => k_is)
    (case noInvalidTextline => k_is)
    (case noInvalidTextword => k_is)
    (case inInvalidText => k_is)
    (case tiInvalidText => k_is)
    (case liInvalidText => k_is)
    (case ciInvalidText => k_is)
    (case kiInvalidText => k_is)
    (case kCInvalidText => k_is)
    (case eCInvalidText => k_is)
    (case tCInvalidText => k_is)
    (case hCInvalidText => k_is)
    (case clInvalidText => k_is)
    (case moInvalidText => k_is)
    (case ktInvalidTextInvalidText => first | k_is | kit_is)
    (case emInvalidTextInvalidText => first | k_is | rfl)
    (case ktInvalidTextTextError => first | k_is | kit_is)
    (case emInvalidTextTextError => first | k_is | rfl)
    (case ktInvalidTextOhmError => first | k_is | kit_is)
    (case emInvalidTextOhmError => first | k_is | rfl)
    (case ktInvalidTextValueError => first | k_is | kit_is)
    (case emInvalidTextValueError => first | k_is | rfl)
    (case ktInvalidTextUseError => first | k_is | kit_is)
    (case emInvalidTextUseError => first | k_is | rfl)
    (case ktInvalidTextNetError => first | k_is | kit_is)
    (case emInvalidTextNetError => first | k_is | rfl)
    (case ktInvalidTextLiveError => first | k_is | kit_is)
    (case emInvalidTextLiveError => first | k_is | rfl)
    (case ktInvalidTextUnended => first | k_is | kit_is)
    (case emInvalidTextUnended => first | k_is | rfl)
    (case ktInvalidTextNotUsable => first | k_is | kit_is)
    (case emInvalidTextNotUsable => first | k_is | rfl)
    (case ktInvalidTextTooMany => first | k_is | kit_is)
    (case emInvalidTextTooMany => first | k_is | rfl)
    (case xLNotUsable => k_is)
    (case rvNotUsable => first | rfl | decide +kernel | k_is)
    (case saNotUsable => k_is)
    (case gaNotUsable => k_is)
    (case ggNotUsable => k_is)
    (case noNotUsableat => k_is)
    (case noNotUsableline => k_is)
    (case noNotUsableword => k_is)
    (case inNotUsable => k_is)
    (case tiNotUsable => k_is)
    (case liNotUsable => k_is)
    (case ciNotUsable => k_is)
    (case kiNotUsable => k_is)
    (case kCNotUsable => k_is)
    (case eCNotUsable => k_is)
    (case tCNotUsable => k_is)
    (case hCNotUsable => k_is)
    (case clNotUsable => k_is)
    (case moNotUsable => k_is)
    (case ktNotUsableInvalidText => first | k_is | kit_is)
    (case emNotUsableInvalidText => first | k_is | rfl)
    (case ktNotUsableTextError => first | k_is | kit_is)
    (case emNotUsableTextError => first | k_is | rfl)
    (case ktNotUsableOhmError => first | k_is | kit_is)
    (case emNotUsableOhmError => first | k_is | rfl)
    (case ktNotUsableValueError => first | k_is | kit_is)
    (case emNotUsableValueError => first | k_is | rfl)
    (case ktNotUsableUseError => first | k_is | kit_is)
    (case emNotUsableUseError => first | k_is | rfl)
    (case ktNotUsableNetError => first | k_is | kit_is)
    (case emNotUsableNetError => first | k_is | rfl)
    (case ktNotUsableLiveError => first | k_is | kit_is)
    (case emNotUsableLiveError => first | k_is | rfl)
    (case ktNotUsableUnended => first | k_is | kit_is)
    (case emNotUsableUnended => first | k_is | rfl)
    (case ktNotUsableNotUsable => first | k_is | kit_is)
    (case emNotUsableNotUsable => first | k_is | rfl)
    (case ktNotUsableTooMany => first | k_is | kit_is)
    (case emNotUsableTooMany => first | k_is | rfl)
end TextK16y
