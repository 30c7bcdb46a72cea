import PyProof.Rows.All
import Wide.All
import OpenK.AllK
import Wide.FinOn
import PySem.Challenge.RW_everyohm_k02_whole_joined_fillings
import HandS.ForMost
import HandS.ForExc
import HandS.IsInst
import HandS.TupAny
import HandS.Wide
import HandS.Zip
import HandS.StrMore
import HandS.CallSlots
import HandS.HotCalls
import HandS.ExcInit
import HandS.ExcField
import HandS.ExcIs
import HandS.TryMany
import HandS.TupLe
import HandS.Conv
import HandS.Gcd
import HandS.Flow
import HandS.SortInts
import HandS.More
import HandS.Iter
import HandS.List
import HandS.TupMul
import KE.GoesMore
import KE.GoesEnum
import HandS.Walk
import HandS.Rev
import HandS.Hot
import HandS.Comp
import HandS.SetFor
import HandS.Strs
set_option Elab.async false
set_option linter.all false
section TextPx1
set_option autoImplicit false
set_option maxRecDepth 100000
set_option maxHeartbeats 2000000
/-! Px1: data, objects, the relation to the layer's values and heap. -/
namespace Px
open PySem PySem.Spec PyProof.Rows L2

/-- data: what a value is, tuples as they are, mutable objects by their numbers -/
inductive D where
  | non | bl (b : Bool) | int (i : Int) | str (s : Str) | tup (ds : List D) | obj (n : Nat) | rol (ds : List D)
  /-- a list that nobody writes any more, as a value -/
  | ls (ds : List D)
  /-- a range i, i + 1, .. below j, as a value -/
  | rg (i j : Int)
  | exn (c : Str) (ks : List Str) (ds : List D)
  deriving Inhabited
/-- what a numbered object is -/
inductive O where
  | lst (ds : List D) | ro (ds : List D) | dic (kvs : List (Key × D)) | gone
  deriving Inhabited
abbrev Ht := List O
abbrev Rho := List (Option D)
/-- the handled exception: its address, its class, its dict -/
abbrev HX := Option (Addr × Str × Addr)
/-- the classes of errors: where they lie, the names of their fields -/
abbrev Tab := Str → Option (Addr × List Str)

/-- a list that nobody writes: it is at hand from outside, or it is the text's own -/
def RoL (K : PySem.W.Frag) (H : Hp) (a : Addr) (xs : List V) : Prop := (∃ o, H a = some (.frz o (.lst xs))) ∨
  ∃ (o : Obj) (its : Array Value) (n : Nat), K.lookup a = some o ∧ o.cls = .type "list" ∧ o.dict = none ∧ o.data = .seq its n ∧ its.size ≤ sizeLine ∧ Vals xs its.toList
theorem RoL.sq {K : PySem.W.Frag} {H : Hp} {a : Addr} {xs : List V} (h : RoL K H a xs) : SqL K H a xs := h.elim (fun ⟨o, e⟩ => .inl (.inr ⟨o, e⟩)) .inr
mutual
def RelD (K : PySem.W.Frag) (μ : List Addr) (H : Hp) : D → V → Prop
  | .non, v => v = .non
  | .bl b, v => v = .bl b
  | .int i, v => v = .int i
  | .str s, v => v = .str s
  | .tup ds, v => ∃ a vs, v = .ref a ∧ SqT K H a vs ∧ RelDs K μ H ds vs
  | .obj n, v => ∃ a, μ[n]? = some a ∧ v = .ref a
  | .rol ds, v => ∃ a vs, v = .ref a ∧ RoL K H a vs ∧ RelDs K μ H ds vs
  | .ls ds, v => ∃ a vs, v = .ref a ∧ (∃ o, H a = some (.frz o (.lst vs))) ∧ RelDs K μ H ds vs
  | .rg i j, v => ∃ a, v = .ref a ∧ H a = some (.rng i j)
  | .exn _ _ _, _ => False
def RelDs (K : PySem.W.Frag) (μ : List Addr) (H : Hp) : List D → List V → Prop
  | [], vs => vs = []
  | d :: ds, vs => ∃ v r, vs = v :: r ∧ RelD K μ H d v ∧ RelDs K μ H ds r
end

/-- what never changes -/
def Fix : HO → Prop
  | .tup _ => True | .frz _ _ => True | .xd _ => True | .rng _ _ => True | _ => False
structure Stp (μ : List Addr) (H : Hp) (μ' : List Addr) (H' : Hp) : Prop where
  pre : μ <+: μ'
  fix : ∀ a o, H a = some o → Fix o → H' a = some o
  new : ∀ a, a ∈ μ' → a ∈ μ ∨ H a = none
  frame : ∀ a o, H a = some o → a ∉ μ → H' a = some o
theorem Stp.refl {μ : List Addr} {H : Hp} : Stp μ H μ H := ⟨List.prefix_refl _, fun _ _ h _ => h, fun _ h => .inl h, fun _ _ h _ => h⟩
theorem Stp.trans {μ μ1 μ2 : List Addr} {H H1 H2 : Hp} (a : Stp μ H μ1 H1) (b : Stp μ1 H1 μ2 H2) : Stp μ H μ2 H2 where
  pre := a.pre.trans b.pre
  fix := fun x o h f => b.fix x o (a.fix x o h f) f
  new := fun x h => by
    rcases b.new x h with h | h
    · exact a.new x h
    · cases e : H x with
      | none => exact .inr rfl
      | some o =>
        refine .inl (Classical.byContradiction fun n => ?_)
        rw [a.frame x o e n] at h
        cases h
  frame := fun x o h n => by
    refine b.frame x o (a.frame x o h n) fun m => ?_
    rcases a.new x m with q | q
    · exact n q
    · rw [h] at q; cases q
theorem pre_get {α : Type} {l l' : List α} (h : l <+: l') {n : Nat} {a : α} (e : l[n]? = some a) : l'[n]? = some a := by
  obtain ⟨t, rfl⟩ := h
  rw [List.getElem?_append_left (List.getElem?_eq_some_iff.mp e).1]
  exact e
theorem sqT_fix {K : PySem.W.Frag} {H H' : Hp} (f : ∀ a o, H a = some o → Fix o → H' a = some o) {a : Addr} {xs : List V} (h : SqT K H a xs) : SqT K H' a xs := by
  rcases h with (h | ⟨o, h⟩) | h
  · exact .inl (.inl (f _ _ h trivial))
  · exact .inl (.inr ⟨o, f _ _ h trivial⟩)
  · exact .inr h
theorem Stp.sqT {K : PySem.W.Frag} {μ μ' : List Addr} {H H' : Hp} (s : Stp μ H μ' H') {a : Addr} {xs : List V} (h : SqT K H a xs) : SqT K H' a xs := by
  rcases h with (h | ⟨o, h⟩) | h
  · exact .inl (.inl (s.fix _ _ h trivial))
  · exact .inl (.inr ⟨o, s.fix _ _ h trivial⟩)
  · exact .inr h

theorem RoL.fix {K : PySem.W.Frag} {H H' : Hp} (f : ∀ a o, H a = some o → Fix o → H' a = some o) {a : Addr} {xs : List V} (h : RoL K H a xs) : RoL K H' a xs :=
  h.elim (fun ⟨o, e⟩ => .inl ⟨o, f _ _ e trivial⟩) .inr
section
variable {K : PySem.W.Frag} {μ μ' : List Addr} {H H' : Hp}
mutual
theorem RelD.mono' (p : μ <+: μ') (f : ∀ a o, H a = some o → Fix o → H' a = some o) : ∀ (d : D) (v : V), RelD K μ H d v → RelD K μ' H' d v
  | .non, _, h => by simp only [RelD] at h ⊢; exact h
  | .bl _, _, h => by simp only [RelD] at h ⊢; exact h
  | .int _, _, h => by simp only [RelD] at h ⊢; exact h
  | .str _, _, h => by simp only [RelD] at h ⊢; exact h
  | .tup ds, _, h => by
    simp only [RelD] at h ⊢
    obtain ⟨a, vs, e, hs, hr⟩ := h
    exact ⟨a, vs, e, sqT_fix f hs, RelDs.mono' p f ds vs hr⟩
  | .obj n, _, h => by
    simp only [RelD] at h ⊢
    obtain ⟨a, e, ev⟩ := h
    exact ⟨a, pre_get p e, ev⟩
  | .rol ds, _, h => by
    simp only [RelD] at h ⊢
    obtain ⟨a, vs, e, hs, hr⟩ := h
    exact ⟨a, vs, e, hs.fix f, RelDs.mono' p f ds vs hr⟩
  | .ls ds, _, h => by
    simp only [RelD] at h ⊢
    obtain ⟨a, vs, e, ⟨o, hs⟩, hr⟩ := h
    exact ⟨a, vs, e, ⟨o, f _ _ hs trivial⟩, RelDs.mono' p f ds vs hr⟩
  | .rg i j, _, h => by
    simp only [RelD] at h ⊢
    obtain ⟨a, e, hs⟩ := h
    exact ⟨a, e, f _ _ hs trivial⟩
  | .exn c ks ds, _, h => by simp only [RelD] at h
theorem RelDs.mono' (p : μ <+: μ') (f : ∀ a o, H a = some o → Fix o → H' a = some o) : ∀ (ds : List D) (vs : List V), RelDs K μ H ds vs → RelDs K μ' H' ds vs
  | [], _, h => by simp only [RelDs] at h ⊢; exact h
  | d :: ds, _, h => by
    simp only [RelDs] at h ⊢
    obtain ⟨v, r, e, h1, h2⟩ := h
    exact ⟨v, r, e, RelD.mono' p f d v h1, RelDs.mono' p f ds r h2⟩
end
theorem RelD.mono (s : Stp μ H μ' H') (d : D) (v : V) (h : RelD K μ H d v) : RelD K μ' H' d v := RelD.mono' s.pre s.fix d v h
theorem RelDs.mono (s : Stp μ H μ' H') (ds : List D) (vs : List V) (h : RelDs K μ H ds vs) : RelDs K μ' H' ds vs := RelDs.mono' s.pre s.fix ds vs h
theorem RelDs.nil_iff {vs : List V} : RelDs K μ H [] vs ↔ vs = [] := by simp only [RelDs]
theorem RelDs.cons_iff {d : D} {ds : List D} {vs : List V} : RelDs K μ H (d :: ds) vs ↔ ∃ v r, vs = v :: r ∧ RelD K μ H d v ∧ RelDs K μ H ds r := by simp only [RelDs]
theorem RelDs.nil : RelDs K μ H [] [] := RelDs.nil_iff.mpr rfl
theorem RelDs.cons {d : D} {ds : List D} {v : V} {vs : List V} (h : RelD K μ H d v) (t : RelDs K μ H ds vs) : RelDs K μ H (d :: ds) (v :: vs) :=
  RelDs.cons_iff.mpr ⟨v, vs, rfl, h, t⟩
theorem RelDs.length : ∀ {ds : List D} {vs : List V}, RelDs K μ H ds vs → ds.length = vs.length
  | [], vs, h => by rw [RelDs.nil_iff.mp h]; rfl
  | d :: ds, vs, h => by
    obtain ⟨v, r, rfl, _, t⟩ := RelDs.cons_iff.mp h
    simp [RelDs.length t]
theorem RelDs.append : ∀ {ds es : List D} {vs ws : List V}, RelDs K μ H ds vs → RelDs K μ H es ws → RelDs K μ H (ds ++ es) (vs ++ ws)
  | [], _, _, _, h, t => by rw [RelDs.nil_iff.mp h]; exact t
  | d :: ds, es, vs, ws, h, t => by
    obtain ⟨v, r, rfl, h1, h2⟩ := RelDs.cons_iff.mp h
    exact .cons h1 (RelDs.append h2 t)
theorem RelDs.get : ∀ {ds : List D} {vs : List V} {i : Nat} {d : D}, RelDs K μ H ds vs → ds[i]? = some d → ∃ v, vs[i]? = some v ∧ RelD K μ H d v
  | [], _, _, _, _, e => by simp at e
  | d :: ds, vs, 0, x, h, e => by
    obtain ⟨v, r, rfl, h1, _⟩ := RelDs.cons_iff.mp h
    have e' : d = x := by simpa using e
    subst e'
    exact ⟨v, rfl, h1⟩
  | d :: ds, vs, i + 1, x, h, e => by
    obtain ⟨v, r, rfl, _, h2⟩ := RelDs.cons_iff.mp h
    exact RelDs.get (ds := ds) (vs := r) (i := i) h2 (by simpa using e)
theorem RelDs.getV {ds : List D} {vs : List V} {i : Nat} {v : V} (h : RelDs K μ H ds vs) (e : vs[i]? = some v) : ∃ d, ds[i]? = some d ∧ RelD K μ H d v := by
  have hl := h.length
  have hi : i < ds.length := by rw [hl]; exact (List.getElem?_eq_some_iff.mp e).1
  obtain ⟨v', e', r⟩ := h.get (List.getElem?_eq_getElem hi)
  rw [e] at e'; cases e'
  exact ⟨_, List.getElem?_eq_getElem hi, r⟩
theorem RelDs.set {d : D} {v : V} (r : RelD K μ H d v) : ∀ {ds : List D} {vs : List V} (i : Nat), RelDs K μ H ds vs → RelDs K μ H (ds.set i d) (vs.set i v)
  | [], _, _, h => by rw [RelDs.nil_iff.mp h]; exact .nil
  | x :: ds, vs, 0, h => by
    obtain ⟨w, t, rfl, _, h2⟩ := RelDs.cons_iff.mp h
    exact .cons r h2
  | x :: ds, vs, i + 1, h => by
    obtain ⟨w, t, rfl, h1, h2⟩ := RelDs.cons_iff.mp h
    exact .cons h1 (RelDs.set r i h2)
theorem RelDs.take : ∀ {ds : List D} {vs : List V} (n : Nat), RelDs K μ H ds vs → RelDs K μ H (ds.take n) (vs.take n)
  | _, _, 0, _ => by simpa using RelDs.nil
  | [], _, n + 1, h => by rw [RelDs.nil_iff.mp h]; exact .nil
  | d :: ds, vs, n + 1, h => by
    obtain ⟨w, t, rfl, h1, h2⟩ := RelDs.cons_iff.mp h
    exact .cons h1 (RelDs.take n h2)
theorem RelDs.drop : ∀ {ds : List D} {vs : List V} (n : Nat), RelDs K μ H ds vs → RelDs K μ H (ds.drop n) (vs.drop n)
  | _, _, 0, h => by simpa using h
  | [], _, n + 1, h => by rw [RelDs.nil_iff.mp h]; exact .nil
  | d :: ds, vs, n + 1, h => by
    obtain ⟨w, t, rfl, h1, h2⟩ := RelDs.cons_iff.mp h
    exact RelDs.drop n h2
theorem RelDs.reverse : ∀ {ds : List D} {vs : List V}, RelDs K μ H ds vs → RelDs K μ H ds.reverse vs.reverse
  | [], _, h => by rw [RelDs.nil_iff.mp h]; exact .nil
  | d :: ds, vs, h => by
    obtain ⟨w, t, rfl, h1, h2⟩ := RelDs.cons_iff.mp h
    rw [List.reverse_cons, List.reverse_cons]
    exact (RelDs.reverse h2).append (.cons h1 .nil)
theorem RelDs.eraseIdx : ∀ {ds : List D} {vs : List V} (n : Nat), RelDs K μ H ds vs → RelDs K μ H (ds.eraseIdx n) (vs.eraseIdx n)
  | [], _, _, h => by rw [RelDs.nil_iff.mp h]; exact .nil
  | d :: ds, vs, 0, h => by
    obtain ⟨w, t, rfl, h1, h2⟩ := RelDs.cons_iff.mp h
    exact h2
  | d :: ds, vs, n + 1, h => by
    obtain ⟨w, t, rfl, h1, h2⟩ := RelDs.cons_iff.mp h
    exact .cons h1 (RelDs.eraseIdx n h2)

/-- an object as it stands -/
def RelO (K : PySem.W.Frag) (μ : List Addr) (H : Hp) : O → Option HO → Prop
  | .lst ds, h => ∃ vs, h = some (.lst vs) ∧ RelDs K μ H ds vs
  | .ro ds, h => ∃ o vs, h = some (.frz o (.lst vs)) ∧ RelDs K μ H ds vs
  | .dic kvs, h => ∃ ws, h = some (.dK ws) ∧ ws.map (·.1) = kvs.map (·.1) ∧ RelDs K μ H (kvs.map (·.2)) (ws.map (·.2))
  | .gone, h => h ≠ none
theorem RelO.mono' (p : μ <+: μ') (f : ∀ a o, H a = some o → Fix o → H' a = some o) {o : O} {h : Option HO} (r : RelO K μ H o h) : RelO K μ' H' o h := by
  cases o with
  | lst ds => obtain ⟨vs, e, h⟩ := r; exact ⟨vs, e, h.mono' p f _ _⟩
  | ro ds => obtain ⟨o, vs, e, h⟩ := r; exact ⟨o, vs, e, h.mono' p f _ _⟩
  | dic kvs => obtain ⟨ws, e, e2, h⟩ := r; exact ⟨ws, e, e2, h.mono' p f _ _⟩
  | gone => exact r
theorem RelO.mono (s : Stp μ H μ' H') {o : O} {h : Option HO} (r : RelO K μ H o h) : RelO K μ' H' o h := RelO.mono' s.pre s.fix r
theorem RelO.some {o : O} {h : Option HO} (r : RelO K μ H o h) : h ≠ none := by
  cases o with
  | lst ds => obtain ⟨vs, e, h⟩ := r; rw [e]; simp
  | ro ds => obtain ⟨o, vs, e, h⟩ := r; rw [e]; simp
  | dic kvs => obtain ⟨ws, e, e2, h⟩ := r; rw [e]; simp
  | gone => exact r

structure HR (K : PySem.W.Frag) (μ : List Addr) (A : Ht) (H : Hp) : Prop where
  len : μ.length = A.length
  nd : μ.Nodup
  obj : ∀ (i : Nat) (o : O) (a : Addr), A[i]? = some o → μ[i]? = some a → RelO K μ H o (H a)
end
section
variable {K : PySem.W.Frag} {μ μ' : List Addr} {H H' : Hp} {A : Ht}
theorem nodup_at {α : Type} {l : List α} (h : l.Nodup) {i j : Nat} {a : α} (e : l[i]? = some a) (e' : l[j]? = some a) : i = j := by
  obtain ⟨h1, e1⟩ := List.getElem?_eq_some_iff.mp e
  obtain ⟨h2, e2⟩ := List.getElem?_eq_some_iff.mp e'
  exact (List.getElem_inj h).mp (e1.trans e2.symm)
theorem HR.at (h : HR K μ A H) {i : Nat} {o : O} (e : A[i]? = some o) : ∃ a, μ[i]? = some a ∧ RelO K μ H o (H a) := by
  have hi : i < μ.length := by rw [h.len]; exact (List.getElem?_eq_some_iff.mp e).1
  exact ⟨_, List.getElem?_eq_getElem hi, h.obj i o _ e (List.getElem?_eq_getElem hi)⟩
theorem HR.atV (h : HR K μ A H) {i : Nat} {o : O} {v : V} (e : A[i]? = some o) (r : RelD K μ H (.obj i) v) : ∃ a, μ[i]? = some a ∧ v = .ref a ∧ RelO K μ H o (H a) := by
  simp only [RelD] at r
  obtain ⟨a, ea, ev⟩ := r
  exact ⟨a, ea, ev, h.obj i o a e ea⟩
theorem stp_upd {p : Addr} {o : HO} (hp : H p = none) (t : List Addr) (ht : ∀ a ∈ t, a = p := by simp) : Stp μ H (μ ++ t) (upd H p o) :=
  ⟨List.prefix_append _ _, fun a u e _ => by rw [upd_ne (ne_of_none e hp)]; exact e, fun a h => by
    rcases List.mem_append.mp h with h | h
    · exact .inl h
    · rw [ht a h]; exact .inr hp, fun a u e _ => by rw [upd_ne (ne_of_none e hp)]; exact e⟩
theorem stp_upd0 {p : Addr} {o : HO} (hp : H p = none) : Stp μ H μ (upd H p o) := by simpa using (stp_upd (μ := μ) (o := o) hp [])
theorem HR.notIn (h : HR K μ A H) {p : Addr} (hp : H p = none) : p ∉ μ := by
  intro hm
  obtain ⟨i, hi⟩ := List.mem_iff_getElem?.mp hm
  have hl : i < A.length := by rw [← h.len]; exact (List.getElem?_eq_some_iff.mp hi).1
  exact (h.obj i _ p (List.getElem?_eq_getElem hl) hi).some hp
/-- a new object -/
theorem HR.push (h : HR K μ A H) {p : Addr} {ho : HO} {o : O} (hp : H p = none) (r : RelO K (μ ++ [p]) (upd H p ho) o (some ho)) : HR K (μ ++ [p]) (A ++ [o]) (upd H p ho) := by
  refine ⟨by rw [List.length_append, List.length_append, h.len]; rfl, ?_, fun i o' a e ea => ?_⟩
  · rw [List.nodup_append]
    refine ⟨h.nd, by simp, fun a ha b hb => ?_⟩
    have eb : b = p := by simpa using hb
    subst eb
    intro e
    exact h.notIn hp (e ▸ ha)
  · by_cases hi : i < A.length
    · rw [List.getElem?_append_left hi] at e
      rw [List.getElem?_append_left (by rw [h.len]; exact hi)] at ea
      have q := h.obj i o' a e ea
      have ne : a ≠ p := fun z => q.some (by rw [z]; exact hp)
      rw [upd_ne ne]
      exact q.mono (stp_upd hp [p])
    · have hi' : i = A.length := by
        have z := (List.getElem?_eq_some_iff.mp e).1
        rw [List.length_append] at z
        simp at z
        omega
      subst hi'
      rw [List.getElem?_concat_length] at e
      cases e
      rw [← h.len, List.getElem?_concat_length] at ea
      cases ea
      rw [upd_same]
      exact r
/-- an object that stands already gets a number -/
theorem HR.adopt (h : HR K μ A H) {p : Addr} {o : O} (hp : p ∉ μ) (r : RelO K μ H o (H p)) : HR K (μ ++ [p]) (A ++ [o]) H := by
  have pf : μ <+: μ ++ [p] := List.prefix_append _ _
  refine ⟨by rw [List.length_append, List.length_append, h.len]; rfl, ?_, fun i o' a e ea => ?_⟩
  · rw [List.nodup_append]
    refine ⟨h.nd, by simp, fun a ha b hb => ?_⟩
    have eb : b = p := by simpa using hb
    subst eb
    intro e
    exact hp (e ▸ ha)
  · by_cases hi : i < A.length
    · rw [List.getElem?_append_left hi] at e
      rw [List.getElem?_append_left (by rw [h.len]; exact hi)] at ea
      exact (h.obj i o' a e ea).mono' pf fun _ _ h _ => h
    · have hi' : i = A.length := by
        have z := (List.getElem?_eq_some_iff.mp e).1
        rw [List.length_append] at z
        simp at z
        omega
      subst hi'
      rw [List.getElem?_concat_length] at e
      cases e
      rw [← h.len, List.getElem?_concat_length] at ea
      cases ea
      exact r.mono' pf fun _ _ h _ => h
/-- a thing that bears no number is written -/
theorem HR.aside (h : HR K μ A H) {p : Addr} {old ho : HO} (hp : p ∉ μ) (e : H p = some old) (hf : ¬ Fix old) : HR K μ A (upd H p ho) := by
  refine ⟨h.len, h.nd, fun i o' a ei ea => ?_⟩
  have ne : a ≠ p := fun z => hp (z ▸ List.mem_of_getElem? ea)
  rw [upd_ne ne]
  exact (h.obj i o' a ei ea).mono' (List.prefix_refl _) fun b u eb f => by
    by_cases z : b = p
    · subst z; rw [e] at eb; cases eb; exact absurd f hf
    · rw [upd_ne z]; exact eb
/-- a new thing that bears no number (a tuple) -/
theorem HR.tupd (h : HR K μ A H) {p : Addr} {ho : HO} (hp : H p = none) : HR K μ A (upd H p ho) := by
  refine ⟨h.len, h.nd, fun i o a e ea => ?_⟩
  have q := h.obj i o a e ea
  have ne : a ≠ p := fun z => q.some (by rw [z]; exact hp)
  rw [upd_ne ne]
  exact q.mono (stp_upd0 hp)
theorem stp_write {n : Nat} {p : Addr} {old ho : HO} (en : μ[n]? = some p) (hp : H p = some old) (hf : ¬ Fix old) : Stp μ H μ (upd H p ho) :=
  ⟨List.prefix_refl _, fun a u e f => by
    by_cases z : a = p
    · subst z; rw [hp] at e; cases e; exact absurd f hf
    · rw [upd_ne z]; exact e, fun _ h => .inl h, fun a u e n => by
    have z : a ≠ p := fun z => n (z ▸ List.mem_of_getElem? en)
    rw [upd_ne z]; exact e⟩
/-- an object written -/
theorem HR.write (h : HR K μ A H) {n : Nat} {p : Addr} {old ho : HO} {o : O} (en : μ[n]? = some p) (hp : H p = some old) (hf : ¬ Fix old) (r : RelO K μ (upd H p ho) o (some ho)) : HR K μ (A.set n o) (upd H p ho) := by
  refine ⟨by rw [List.length_set]; exact h.len, h.nd, fun i o' a e ea => ?_⟩
  have hn : n < A.length := by rw [← h.len]; exact (List.getElem?_eq_some_iff.mp en).1
  by_cases hi : i = n
  · subst hi
    rw [List.getElem?_set_self hn] at e
    cases e
    rw [en] at ea; cases ea
    rw [upd_same]; exact r
  · rw [List.getElem?_set_ne (Ne.symm hi)] at e
    have ne : a ≠ p := fun z => by
      subst z
      exact hi (nodup_at h.nd ea en)
    rw [upd_ne ne]
    exact (h.obj i o' a e ea).mono (stp_write en hp hf)

/-- the slots; a slot may hold the handled exception -/
def RelX (K : PySem.W.Frag) (hx : HX) (μ : List Addr) (H : Hp) : D → V → Prop
  | .exn c ks ds, v => ∃ a d vs, v = .ref a ∧ hx = some (a, c, d) ∧ ks.length = vs.length ∧ H d = some (.xd (ks.zip vs)) ∧ RelDs K μ H ds vs
  | d, v => RelD K μ H d v
theorem RelX.of {hx : HX} {d : D} {v : V} (r : RelD K μ H d v) : RelX K hx μ H d v := by
  cases d with
  | exn c ks ds => simp only [RelD] at r
  | _ => exact r
theorem RelX.mono {hx : HX} (s : Stp μ H μ' H') {d : D} {v : V} (r : RelX K hx μ H d v) : RelX K hx μ' H' d v := by
  cases d with
  | exn c ks ds =>
    obtain ⟨a, d, vs, e, e2, hl, hd, hr⟩ := r
    exact ⟨a, d, vs, e, e2, hl, s.fix _ _ hd trivial, RelDs.mono s ds vs hr⟩
  | non => exact RelD.mono s _ _ r
  | bl _ => exact RelD.mono s _ _ r
  | int _ => exact RelD.mono s _ _ r
  | str _ => exact RelD.mono s _ _ r
  | tup _ => exact RelD.mono s _ _ r
  | obj _ => exact RelD.mono s _ _ r
  | rol _ => exact RelD.mono s _ _ r
  | ls _ => exact RelD.mono s _ _ r
  | rg _ _ => exact RelD.mono s _ _ r
structure RelS (K : PySem.W.Frag) (hx : HX) (μ : List Addr) (H : Hp) (ρ : Rho) (σ : L2.St) : Prop where
  len : ρ.length = σ.length
  val : ∀ (i : Nat) (d : D), ρ[i]? = some (some d) → ∃ v, σ[i]? = some (some v) ∧ RelX K hx μ H d v
theorem RelS.mono {hx : HX} {ρ : Rho} {σ : L2.St} (s : Stp μ H μ' H') (r : RelS K hx μ H ρ σ) : RelS K hx μ' H' ρ σ :=
  ⟨r.len, fun i d e => let ⟨v, e', q⟩ := r.val i d e; ⟨v, e', q.mono s⟩⟩
theorem RelS.setX {hx : HX} {ρ : Rho} {σ : L2.St} {d : D} {v : V} (r : RelS K hx μ H ρ σ) (i : Nat) (q : RelX K hx μ H d v) : RelS K hx μ H (ρ.set i (some d)) (σ.set i (some v)) := by
  refine ⟨by simp [r.len], fun j x e => ?_⟩
  by_cases hj : i = j
  · subst hj
    have hl : i < ρ.length := by
      have z := (List.getElem?_eq_some_iff.mp e).1
      simpa using z
    rw [List.getElem?_set_self hl] at e
    cases e
    exact ⟨v, by rw [List.getElem?_set_self (by rw [← r.len]; exact hl)], q⟩
  · rw [List.getElem?_set_ne hj] at e ⊢
    exact r.val j x e
theorem RelS.set {hx : HX} {ρ : Rho} {σ : L2.St} {d : D} {v : V} (r : RelS K hx μ H ρ σ) (i : Nat) (q : RelD K μ H d v) : RelS K hx μ H (ρ.set i (some d)) (σ.set i (some v)) := r.setX i (.of q)
theorem RelS.forget {hx : HX} {ρ : Rho} {σ : L2.St} (r : RelS K hx μ H ρ σ) (i : Nat) : RelS K hx μ H (ρ.set i none) (σ.set i none) := by
  refine ⟨by simp [r.len], fun j x e => ?_⟩
  by_cases hj : i = j
  · subst hj
    by_cases hl : i < ρ.length
    · rw [List.getElem?_set_self hl] at e; cases e
    · rw [List.getElem?_eq_none (by simpa using hl)] at e; cases e
  · rw [List.getElem?_set_ne hj] at e ⊢
    exact r.val j x e
/-- the slots without an exception -/
def clean : Rho → Rho
  | [] => []
  | some (.exn _ _ _) :: r => none :: clean r
  | x :: r => x :: clean r
theorem clean_length : ∀ ρ : Rho, (clean ρ).length = ρ.length
  | [] => rfl
  | none :: r => by simp [clean, clean_length r]
  | some d :: r => by cases d <;> simp [clean, clean_length r]
theorem clean_get : ∀ {ρ : Rho} {i : Nat} {d : D}, (clean ρ)[i]? = some (some d) → ρ[i]? = some (some d) ∧ ∀ c ks ds, d ≠ .exn c ks ds
  | [], i, d, h => by simp [clean] at h
  | none :: r, 0, d, h => by simp [clean] at h
  | none :: r, i + 1, d, h => by simpa using clean_get (ρ := r) (i := i) (d := d) (by simpa [clean] using h)
  | some x :: r, 0, d, h => by
    cases x with
    | exn c ks ds => simp [clean] at h
    | _ => (simp [clean] at h; subst h; exact ⟨rfl, fun _ _ _ z => nomatch z⟩)
  | some x :: r, i + 1, d, h => by
    have h' : (clean r)[i]? = some (some d) := by cases x <;> simpa [clean] using h
    simpa using clean_get (ρ := r) (i := i) (d := d) h'
theorem RelS.clean {hx hx' : HX} {ρ : Rho} {σ : L2.St} (r : RelS K hx μ H ρ σ) : RelS K hx' μ H (Px.clean ρ) σ :=
  ⟨by rw [clean_length]; exact r.len, fun i d e => by
    obtain ⟨e1, n⟩ := clean_get e
    obtain ⟨v, e2, q⟩ := r.val i d e1
    refine ⟨v, e2, ?_⟩
    cases d with
    | exn c ks ds => exact absurd rfl (n c ks ds)
    | _ => exact q⟩

/-- what is wanted, one level down -/
def Up (K : PySem.W.Frag) (μ : List Addr) (H : Hp) (Q : D → Ht → Prop) : VK := fun v H' =>
  ∃ μ' d A', Stp μ H μ' H' ∧ RelD K μ' H' d v ∧ HR K μ' A' H' ∧ Q d A'
def UpX (K : PySem.W.Frag) (T : Tab) (μ : List Addr) (H : Hp) (E : D → Ht → Prop) : XK := fun cls dd H' =>
  ∃ μ' A' c ca ks ds a vs, Stp μ H μ' H' ∧ HR K μ' A' H' ∧ T c = some (ca, ks) ∧ cls = .ref ca ∧ dd = some a ∧ ks.length = vs.length ∧ H' a = some (.xd (ks.zip vs)) ∧ RelDs K μ' H' ds vs ∧ E (.exn c ks ds) A'
theorem Up.mk {Q : D → Ht → Prop} {v : V} {d : D} (r : RelD K μ H d v) (h : HR K μ A H) (q : Q d A) : Up K μ H Q v H := ⟨μ, d, A, .refl, r, h, q⟩
theorem Up.step {Q : D → Ht → Prop} {v : V} {H2 : Hp} (s : Stp μ H μ' H') (u : Up K μ' H' Q v H2) : Up K μ H Q v H2 := by
  obtain ⟨μ2, d, A2, s2, r⟩ := u
  exact ⟨μ2, d, A2, s.trans s2, r⟩
theorem UpX.step {T : Tab} {E : D → Ht → Prop} {c : Value} {dd : Option Addr} {H2 : Hp} (s : Stp μ H μ' H') (u : UpX K T μ' H' E c dd H2) : UpX K T μ H E c dd H2 := by
  obtain ⟨μ2, A2, c, ca, ks, ds, a, vs, s2, r⟩ := u
  exact ⟨μ2, A2, c, ca, ks, ds, a, vs, s.trans s2, r⟩
/-- a new list -/
theorem Up.list {Q : D → Ht → Prop} {p : Addr} {ds : List D} {vs : List V} (h : HR K μ A H) (r : RelDs K μ H ds vs) (hp : H p = none) (q : Q (.obj A.length) (A ++ [.lst ds])) : Up K μ H Q (.ref p) (upd H p (.lst vs)) := by
  refine ⟨μ ++ [p], .obj A.length, A ++ [.lst ds], stp_upd hp _, ?_, h.push (o := .lst ds) hp ⟨vs, rfl, r.mono (stp_upd hp _) _ _⟩, q⟩
  simp only [RelD]
  exact ⟨p, by rw [← h.len, List.getElem?_concat_length], rfl⟩
/-- a new tuple -/
theorem Up.tuple {Q : D → Ht → Prop} {p : Addr} {ds : List D} {vs : List V} (h : HR K μ A H) (r : RelDs K μ H ds vs) (hp : H p = none) (q : Q (.tup ds) A) : Up K μ H Q (.ref p) (upd H p (.tup vs)) := by
  have s : Stp μ H μ (upd H p (.tup vs)) := stp_upd0 hp
  refine ⟨μ, .tup ds, A, s, ?_, h.tupd hp, q⟩
  simp only [RelD]
  exact ⟨p, vs, rfl, .inl (.inl upd_same), r.mono s _ _⟩
end
end Px
end TextPx1

section TextPx2
set_option autoImplicit false
set_option maxRecDepth 100000
set_option maxHeartbeats 2000000
/-! Px2: a small language of our own, and what its parts ask (predicate transformers over data and numbered objects). -/
namespace Px
open PySem PySem.Spec PyProof.Rows L2

inductive BI where
  | len | int | abs | min | max | tuple | list | str | sorted | sum | all | any | range
  deriving DecidableEq, Repr
inductive MI where
  | append | pop | reverse | extend | join | find | upper | index | count | split | insert | replace | isdigit | startswith
  deriving DecidableEq, Repr
inductive TI' where
  | int | bool | str | tuple | list | dict
  deriving DecidableEq, Repr
mutual
inductive Tg where
  | name (i : Nat) | tup (gs : Tgs)
inductive Tgs where
  | nil | cons (g : Tg) (gs : Tgs)
end
mutual
inductive Ie where
  | var (i : Nat) | cst (d : D) | glob (x : Str)
  | bin (op : Operator) (a b : Ie) | neg (a : Ie)
  | cmp (op : CmpOp) (a b : Ie) | chain (o1 o2 : CmpOp) (a b c : Ie)
  | andv (a b : Ie) | orv (a b : Ie) | notv (a : Ie) | ite (t a b : Ie)
  | tup (es : Ies) | lst (es : Ies) | dic (ks vs : Ies)
  | ix (a i : Ie) | sl (a : Ie) (lo hi : Ieo)
  | call (f : Str) (es : Ies) | callk (f : Str) (pm : List Nat) (es ws : Ies)
  | bi (b : BI) (es : Ies) | isi (e : Ie) (t : TI') | mt (m : MI) (o : Ie) (es : Ies)
  | lc (g : Tg) (it : Ii) (t : Ieo) (elt : Ie) (ws : List Nat)
  | fld (i : Nat) (f : Str) | isx (i : Nat) (c : Str) | isxs (i : Nat) (cs : List Str)
  | lrg1 (t : Bool) (a : Ie) | lrg2 (t : Bool) (a b : Ie)
  | rpr (a : Ie)
  /-- sorted(set(a)) -/
  | sset (a : Ie)
inductive Ies where
  | nil | cons (e : Ie) (es : Ies)
inductive Ieo where
  | no | so (e : Ie)
inductive Ii where
  | seq (e : Ie) | rng1 (a : Ie) | rng2 (a b : Ie) | rng3 (a b c : Ie) | enum (e : Ie) | zip (a b : Ie) | rev (e : Ie)
end
mutual
inductive Is where
  | set (i : Nat) (e : Ie) | asg (g : Tg) (e : Ie) | par (i j : Nat) (a b : Ie) | asgS (o i e : Ie)
  | aug (i : Nat) (op : Operator) (e : Ie) | augS (o i : Ie) (op : Operator) (e : Ie)
  | ex (e : Ie) | ret (e : Ie) | retN
  | ife (t : Ie) (a b : Iss) | whl (t : Ie) (b : Iss) | fr (g : Tg) (it : Ii) (b : Iss)
  | rse (c : Str) (es : Ies) | tri (b : Iss) (hs : Ihs)
  | brk | cnt | pss
inductive Iss where
  | nil | cons (s : Is) (ss : Iss)
inductive Ihs where
  | nil | cons (c : Str) (i : Option Nat) (b : Iss) (hs : Ihs)
end

/-- a contract: arguments, objects, what is wanted of an error, what is wanted of the answer -/
abbrev Con := List D → Ht → (D → Ht → Prop) → (D → Ht → Prop) → Prop
structure Env' where
  con : Str → Con
  ct : Str → Option D
  sub : Str → Str → Bool
  fds : Str → List Str

/-! ### reading -/
mutual
def toPw (f : Nat → Option PyData) : D → Option PyData
  | .non => some .none | .bl b => some (.bool b) | .int i => some (.int i) | .str s => some (.str s)
  | .tup ds => (toPws f ds).map .tuple | .obj n => f n | .rol _ => none | .exn _ _ _ => none | .rg _ _ => none | .ls ds => (toPws f ds).map .list
def toPws (f : Nat → Option PyData) : List D → Option (List PyData)
  | [] => some []
  | d :: ds => (toPw f d).bind fun p => (toPws f ds).map fun ps => p :: ps
end
def toP : Nat → Ht → D → Option PyData
  | 0, _ => toPw fun _ => none
  | k + 1, A => toPw fun n => match A[n]? with
    | some (.lst ds) => (ds.mapM (toP k A)).map .list
    | some (.ro ds) => (ds.mapM (toP k A)).map .list
    | _ => none
/-- == as a truth value -/
def eqD : D → D → Ht → (Bool → Prop) → Prop
  | .int i, .int j, _, k => k (decide (i = j))
  | .str s, .str t, _, k => k (decide (s = t))
  | x, y, A, k => match toP 3 A x, toP 3 A y with
    | some p, some q => SeqAt.shaped p = true ∧ SeqAt.shaped q = true ∧ k (PyData.eqv p q)
    | _, _ => False
/-- truth -/
def truD : D → Ht → (Bool → Prop) → Prop
  | .bl b, _, k => k b
  | .non, _, k => k false
  | .int i, _, k => k (i != 0)
  | .str s, _, k => s.length ≤ sizeLine ∧ k ((s.length : Int) != 0)
  | .tup ds, _, k => k (!ds.isEmpty)
  | .obj n, A, k => match A[n]? with
    | some (.lst ds) => k (!ds.isEmpty)
    | some (.ro ds) => k (!ds.isEmpty)
    | some (.dic kvs) => k (!kvs.isEmpty)
    | _ => False
  | .rol ds, _, k => k (!ds.isEmpty)
  | .ls ds, _, k => k (!ds.isEmpty)
  | .exn _ _ _, _, _ => False
  | .rg _ _, _, _ => False
def lookK : List (Key × D) → Key → Option D
  | [], _ => none
  | (j, e) :: r, k => if j = k then some e else lookK r k
def putK (kvs : List (Key × D)) (k : Key) (d : D) : List (Key × D) :=
  match kvs with
  | [] => [(k, d)]
  | (j, e) :: r => if j = k then (j, d) :: r else (j, e) :: putK r k d
def keyD : D → Option Key
  | .int i => some (.inl i) | .str s => some (.inr s) | _ => none
def seqD (A : Ht) : D → Option (List D)
  | .tup ds => some ds
  | .ls ds => some ds
  | .obj n => match A[n]? with | some (.lst ds) => some ds | some (.ro ds) => some ds | _ => none
  | _ => none
/-- a list, of either kind -/
def lisD (A : Ht) : D → Option (List D)
  | .ls ds => some ds
  | .obj n => match A[n]? with | some (.lst ds) => some ds | _ => none
  | _ => none
/-- a new list: a value, or an object if it is to be written -/
def nlD (ds : List D) (A : Ht) (Q : D → Ht → Prop) : Prop := Q (.ls ds) A ∨ Q (.obj A.length) (A ++ [.lst ds])
def binD (op : Operator) (x y : D) (A : Ht) (Q : D → Ht → Prop) : Prop :=
  match op, x, y with
  | .Add, .int i, .int j => Q (.int (i + j)) A
  | .Add, .str s, .str t => s.length + t.length ≤ sizeLine ∧ Q (.str (s ++ t)) A
  | .Add, .tup a, .tup b => a.length + b.length ≤ sizeLine ∧ Q (.tup (a ++ b)) A
  | .Add, .ls a, .ls b => a.length + b.length ≤ sizeLine ∧ nlD (a ++ b) A Q
  | .Add, .ls a, .obj m => match A[m]? with
    | some (.lst b) => a.length + b.length ≤ sizeLine ∧ nlD (a ++ b) A Q
    | _ => False
  | .Add, .obj n, .ls b => match A[n]? with
    | some (.lst a) => a.length + b.length ≤ sizeLine ∧ nlD (a ++ b) A Q
    | _ => False
  | .Add, .obj n, .obj m => match A[n]?, A[m]? with
    | some (.lst a), some (.lst b) => a.length + b.length ≤ sizeLine ∧ nlD (a ++ b) A Q
    | _, _ => False
  | .Sub, .int i, .int j => Q (.int (i - j)) A
  | .Mult, .int i, .int j => (CMul i j ∨ CMulW i j) ∧ Q (.int (i * j)) A
  | .Mult, .ls a, .int k => -(2 ^ 63) ≤ k ∧ k < 2 ^ 63 ∧ a.length * k.toNat ≤ sizeLine ∧ nlD (List.replicate k.toNat a).flatten A Q
  | .Mult, .tup a, .int k => a ≠ [] ∧ 2 ≤ k ∧ k ≤ 1000 ∧ a.length ≤ 1000 ∧ Q (.tup (List.replicate k.toNat a).flatten) A
  | .FloorDiv, .int i, .int j => 0 < j ∧ (j < 1073741824 ∨ j.natAbs.log2 < 9000) ∧ Q (.int (i / j)) A
  | .Mod, .int i, .int j => 0 < j ∧ Q (.int (i % j)) A
  | .Pow, .int i, .int j => CPow i j ∧ Q (.int (i ^ j.toNat)) A
  | .LShift, .int i, .int j => CPow i j ∧ Q (.int (i * 2 ^ j.toNat)) A
  | .RShift, .int i, .int j => 0 ≤ j ∧ Q (.int (i / 2 ^ j.toNat)) A
  | _, _, _ => False
def flatD : D → Bool
  | .non => true | .bl _ => true | .int _ => true | .str _ => true | _ => false
def eqF : D → D → Bool
  | .non, .non => true
  | .bl a, .bl b => a == b
  | .bl a, .int b => (if a then 1 else 0) == b
  | .int a, .bl b => a == (if b then 1 else 0)
  | .int a, .int b => a == b
  | .str a, .str b => a == b
  | _, _ => false
def inF (x y : D) (A : Ht) (k : Bool → Prop) : Prop :=
  match y with
  | .str t => match x with | .str s => k (!(Builtin.Str.occurrences t s 0 t.length 1).isEmpty) | _ => False
  | .tup ds => flatD x = true ∧ ds.all flatD = true ∧ k (ds.any fun z => eqF z x)
  | .ls ds => flatD x = true ∧ ds.all flatD = true ∧ k (ds.any fun z => eqF z x)
  | .obj n => match A[n]? with
    | some (.lst ds) => flatD x = true ∧ ds.all flatD = true ∧ k (ds.any fun z => eqF z x)
    | some (.ro ds) => flatD x = true ∧ ds.all flatD = true ∧ k (ds.any fun z => eqF z x)
    | some (.dic kvs) => match keyD x with | some q => k (lookK kvs q).isSome | none => False
    | _ => False
  | _ => False
/-- a tuple among others, compared as data -/
def inP (x y : D) (A : Ht) (k : Bool → Prop) : Prop :=
  match toP 3 A x, toP 3 A y with
  | some p, some (.list qs) => SeqAt.shaped p = true ∧ SeqAt.shaped (.list qs) = true ∧ p.depth ≤ 60 ∧ k (qs.any fun z => PyData.eqv z p)
  | some p, some (.tuple qs) => SeqAt.shaped p = true ∧ SeqAt.shaped (.tuple qs) = true ∧ p.depth ≤ 60 ∧ k (qs.any fun z => PyData.eqv z p)
  | _, _ => False
def inD (x y : D) (A : Ht) (k : Bool → Prop) : Prop :=
  match x with
  | .tup xs => inP (.tup xs) y A k
  | x => inF x y A k
def isBlD (b : Bool) : D → Bool
  | .bl a => a == b
  | _ => false
def isNonD : D → Bool
  | .non => true
  | _ => false
def isD (x y : D) (k : Bool → Prop) : Prop :=
  match y with
  | .non => k (isNonD x)
  | .bl b => k (isBlD b x)
  | _ => False
def cmpD (op : CmpOp) (x y : D) (A : Ht) (k : Bool → Prop) : Prop :=
  match op with
  | .Eq => eqD x y A k
  | .NotEq => eqD x y A fun b => k (!b)
  | .Is => isD x y k
  | .IsNot => isD x y fun b => k (!b)
  | .In => inD x y A k
  | .NotIn => inD x y A fun b => k (!b)
  | .Lt => match x, y with | .int i, .int j => k (decide (i < j)) | .str s, .str t => k (decide (s.cps.toList < t.cps.toList)) | _, _ => False
  | .LtE => match x, y with | .int i, .int j => k (decide (i ≤ j)) | .str s, .str t => k (!decide (t.cps.toList < s.cps.toList)) | _, _ => False
  | .Gt => match x, y with | .int i, .int j => k (decide (j < i)) | .str s, .str t => k (decide (t.cps.toList < s.cps.toList)) | _, _ => False
  | .GtE => match x, y with | .int i, .int j => k (decide (j ≤ i)) | .str s, .str t => k (!decide (s.cps.toList < t.cps.toList)) | _, _ => False
def ixD (x y : D) (A : Ht) (Q : D → Ht → Prop) : Prop :=
  match x, y with
  | .tup ds, .int i => match atI ds i with | some d => Q d A | none => False
  | .ls ds, .int i => match atI ds i with | some d => Q d A | none => False
  | .str z, .int i => z.length ≤ sizeLine ∧ match atI z.cps.toList i with | some c => Q (.str ⟨#[c]⟩) A | none => False
  | .obj n, y => match A[n]?, y with
    | some (.lst ds), .int i => (match atI ds i with | some d => Q d A | none => False)
    | some (.ro ds), .int i => (match atI ds i with | some d => Q d A | none => False)
    | some (.dic kvs), y => (match keyD y with | some k => (match lookK kvs k with | some d => Q d A | none => False) | none => False)
    | _, _ => False
  | _, _ => False
def cutD (xs : List D) (lo hi : Option Int) : List D := (xs.drop (HT.sIx xs.length 0 lo)).take (HT.sIx xs.length xs.length hi - HT.sIx xs.length 0 lo)
def slD (x : D) (lo hi : Option Int) (A : Ht) (Q : D → Ht → Prop) : Prop :=
  match x with
  | .tup ds => Q (.tup (cutD ds lo hi)) A
  | .str z => z.length ≤ sizeLine ∧ Q (.str (cutS z lo hi)) A
  | .ls ds => nlD (cutD ds lo hi) A Q
  | .obj n => match A[n]? with
    | some (.lst ds) => nlD (cutD ds lo hi) A Q
    | some (.ro ds) => nlD (cutD ds lo hi) A Q
    | _ => False
  | _ => False
def setD (o i v : D) (A : Ht) (k : Ht → Prop) : Prop :=
  match o with
  | .obj n => match A[n]? with
    | some (.lst ds) => (match i with | .int j => (match ixN ds.length j with | some m => k (A.set n (.lst (ds.set m v))) | none => False) | _ => False)
    | some (.dic kvs) => (match keyD i with | some q => kvs.length < sizeLine ∧ k (A.set n (.dic (putK kvs q v))) | none => False)
    | _ => False
  | _ => False
def intsD : List D → Option (List Int)
  | [] => some []
  | .int i :: r => (intsD r).map (i :: ·)
  | _ => none
def blsD : List D → Option (List Bool)
  | [] => some []
  | .bl i :: r => (blsD r).map (i :: ·)
  | _ => none
def strsD : List D → Option (List Str)
  | [] => some []
  | .str i :: r => (strsD r).map (i :: ·)
  | _ => none
def keysI : List (Key × D) → Option (List Int)
  | [] => some []
  | (.inl i, _) :: r => (keysI r).map (i :: ·)
  | _ => none
def isort : List Int → List Int := fun l => l.mergeSort (fun a b => decide (a ≤ b))
def biD (b : BI) (xs : List D) (A : Ht) (Q : D → Ht → Prop) : Prop :=
  match b, xs with
  | .len, [.str s] => s.length ≤ sizeLine ∧ Q (.int s.length) A
  | .len, [.tup ds] => Q (.int ds.length) A
  | .len, [.ls ds] => Q (.int ds.length) A
  | .len, [.rol ds] => Q (.int ds.length) A
  | .len, [.obj n] => match A[n]? with
    | some (.lst ds) => Q (.int ds.length) A
    | some (.ro ds) => Q (.int ds.length) A
    | some (.dic kvs) => Q (.int kvs.length) A
    | _ => False
  | .int, [.int i] => Q (.int i) A
  | .int, [.bl k] => Q (.int (if k then 1 else 0)) A
  | .int, [.str s] => s.length ≤ 640 ∧ match PySem.intText? s with | some n => Q (.int n) A | none => False
  | .abs, [.int i] => Q (.int (if i < 0 then -i else i)) A
  | .min, [.int i, .int j] => Q (.int (if j < i then j else i)) A
  | .max, [.int i, .int j] => Q (.int (if j > i then j else i)) A
  | .tuple, [.tup ds] => Q (.tup ds) A
  | .tuple, [.ls ds] => Q (.tup ds) A
  | .tuple, [.obj n] => match A[n]? with
    | some (.lst ds) => Q (.tup ds) A
    | some (.ro ds) => Q (.tup ds) A
    | _ => False
  | .list, [.tup ds] => nlD ds A Q
  | .list, [.ls ds] => nlD ds A Q
  | .list, [.obj n] => match A[n]? with
    | some (.lst ds) => nlD ds A Q
    | some (.ro ds) => nlD ds A Q
    | some (.dic kvs) => nlD (kvs.map fun p => match p.1 with | .inl i => .int i | .inr s => .str s) A Q
    | _ => False
  | .str, [.int i] => i.natAbs.log2 < 1920 ∧ Q (.str (toString i)) A
  | .sorted, [.ls ds] => (match intsD ds with | some ns => nlD ((isort ns).map .int) A Q | none => False)
  | .sorted, [.obj n] => match A[n]? with
    | some (.lst ds) => (match intsD ds with | some ns => nlD ((isort ns).map .int) A Q | none => False)
    | some (.ro ds) => (match intsD ds with | some ns => nlD ((isort ns).map .int) A Q | none => False)
    | some (.dic kvs) => (match keysI kvs with | some ns => ns.length < 64 ∧ nlD ((isort ns).map .int) A Q | none => False)
    | _ => False
  | .sum, [.ls ds] => (match intsD ds with | some ns => Q (.int ns.sum) A | none => False)
  | .all, [.ls ds] => (match blsD ds with | some ns => Q (.bl (ns.all id)) A | none => False)
  | .any, [.ls ds] => (match blsD ds with | some ns => Q (.bl (ns.any id)) A | none => False)
  | .sum, [.obj n] => match A[n]? with
    | some (.lst ds) => (match intsD ds with | some ns => Q (.int ns.sum) A | none => False)
    | _ => False
  | .all, [.obj n] => match A[n]? with
    | some (.lst ds) => (match blsD ds with | some ns => Q (.bl (ns.all id)) A | none => False)
    | _ => False
  | .any, [.obj n] => match A[n]? with
    | some (.lst ds) => (match blsD ds with | some ns => Q (.bl (ns.any id)) A | none => False)
    | _ => False
  | .max, [.ls ds] => (match intsD ds with | some ns => 0 < ns.length ∧ ∀ m : Int, m ∈ ns → (∀ y, y ∈ ns → y ≤ m) → Q (.int m) A | none => False)
  | .min, [.ls ds] => (match intsD ds with | some ns => 0 < ns.length ∧ ∀ m : Int, m ∈ ns → (∀ y, y ∈ ns → m ≤ y) → Q (.int m) A | none => False)
  | .max, [.obj n] => match A[n]? with
    | some (.lst ds) => (match intsD ds with | some ns => 0 < ns.length ∧ ∀ m : Int, m ∈ ns → (∀ y, y ∈ ns → y ≤ m) → Q (.int m) A | none => False)
    | _ => False
  | .min, [.obj n] => match A[n]? with
    | some (.lst ds) => (match intsD ds with | some ns => 0 < ns.length ∧ ∀ m : Int, m ∈ ns → (∀ y, y ∈ ns → m ≤ y) → Q (.int m) A | none => False)
    | _ => False
  | .range, [.int i, .int j] => Q (.rg i j) A
  | _, _ => False
def mtD (m : MI) (o : D) (xs : List D) (A : Ht) (Q : D → Ht → Prop) : Prop :=
  match m, o, xs with
  | .append, .obj n, [x] => match A[n]? with
    | some (.lst ds) => ds.length < sizeLine ∧ Q .non (A.set n (.lst (ds ++ [x])))
    | _ => False
  | .pop, .obj n, [] => match A[n]? with
    | some (.lst ds) => (match ds[ds.length - 1]? with | some d => Q d (A.set n (.lst ds.dropLast)) | none => False)
    | _ => False
  | .reverse, .obj n, [] => match A[n]? with
    | some (.lst ds) => Q .non (A.set n (.lst ds.reverse))
    | _ => False
  | .extend, .obj n, [y] => match A[n]?, lisD A y with
    | some (.lst ds), some es => ds.length + es.length ≤ sizeLine ∧ Q .non (A.set n (.lst (ds ++ es)))
    | _, _ => False
  | .join, .str s, [x] => match seqD A x with
    | some ds => (match strsD ds with
      | some ys => (ys.map (·.length)).sum + ys.length * s.length ≤ 16777216 ∧ Q (.str (Txt.join s ys)) A
      | none => False)
    | none => False
  | .find, .str s, [.str t] => Q (.int (Txt.find s t)) A
  | .find, .str s, [.str t, .int i] => Q (.int (Txt.find3 s t i)) A
  | .upper, .str s, [] => s.length ≤ 5592405 ∧ Q (.str (Txt.upper s)) A
  | .isdigit, .str s, [] => Q (.bl (Txt.isdigit s)) A
  | .startswith, .str s, [.str t] => Q (.bl (Txt.startswith s t)) A
  | .split, .str s, [.str t] => (t.length == 0) = false ∧ s.length + 2 ≤ sizeLine ∧ nlD ((Txt.split s t).map .str) A Q
  | .pop, .obj n, [.int i] => match A[n]? with
    | some (.lst ds) => -(2 ^ 63) ≤ i ∧ i < 2 ^ 63 ∧ (match seqIndex? i ds.length with
      | some j => (match ds[j]? with | some d => Q d (A.set n (.lst (ds.eraseIdx j))) | none => False)
      | none => False)
    | _ => False
  | .index, o, [y] => match lisD A o with
    | some ds => flatD y = true ∧ ds.all flatD = true ∧ ∃ (j : Nat) (z : D), ds[j]? = some z ∧ eqF z y = true ∧ (∀ (m : Nat) (z' : D), m < j → ds[m]? = some z' → eqF z' y = false) ∧ Q (.int (j : Int)) A
    | none => False
  | _, _, _ => False
/-- the text of a tuple -/
def rprD (d : D) (A : Ht) (Q : D → Ht → Prop) : Prop :=
  match d with
  | .tup ds => match toP 3 A (.tup ds) with
    | some p => p.showable = true ∧ p.hasDict = false ∧ p.depth ≤ 60 ∧ p.shown.length ≤ sizeLine ∧ Q (.str p.shown) A
    | none => False
  | _ => False
/-- the receiver's kind, ahead of the arguments -/
def recvD (m : MI) (x : D) (A : Ht) : Prop :=
  match m, x with
  | .append, .obj n => (match A[n]? with | some (.lst _) => True | _ => False)
  | .pop, .obj n => (match A[n]? with | some (.lst _) => True | _ => False)
  | .reverse, .obj n => (match A[n]? with | some (.lst _) => True | _ => False)
  | .extend, .obj n => (match A[n]? with | some (.lst _) => True | _ => False)
  | .index, .obj n => (match A[n]? with | some (.lst _) => True | _ => False)
  | .index, .ls _ => True
  | .join, .str _ => True | .find, .str _ => True | .upper, .str _ => True | .isdigit, .str _ => True | .startswith, .str _ => True | .split, .str _ => True
  | _, _ => False
def isiD (A : Ht) : D → TI' → Option Bool
  | .int _, t => some (t == .int)
  | .bl _, t => some (t == .int || t == .bool)
  | .str _, t => some (t == .str)
  | .tup _, t => some (t == .tuple)
  | .non, _ => some false
  | .obj n, t => match A[n]? with
    | some (.lst _) => some (t == .list)
    | some (.ro _) => some (t == .list)
    | some (.dic _) => some (t == .dict)
    | _ => none
  | .rol _, t => some (t == .list)
  | .ls _, t => some (t == .list)
  | .exn _ _ _, _ => none
  | .rg _ _, _ => none

/-! ### targets, walks -/
mutual
def bindT : Tg → D → Rho → Option Rho
  | .name i, d, ρ => some (ρ.set i (some d))
  | .tup gs, d, ρ => match d with | .tup ds => bindTs gs ds ρ | .ls ds => bindTs gs ds ρ | _ => none
def bindTs : Tgs → List D → Rho → Option Rho
  | .nil, ds, ρ => match ds with | [] => some ρ | _ :: _ => none
  | .cons g gs, ds, ρ => match ds with | [] => none | d :: r => (bindT g d ρ).bind fun ρ' => bindTs gs r ρ'
end
/-- what is walked: the items, and what must stand at each turn -/
structure Wk where
  items : List D
  ok : Ht → Prop
def wkD (d : D) (A : Ht) (k : Wk → Prop) : Prop :=
  match d with
  | .tup ds => k ⟨ds, fun _ => True⟩
  | .rol ds => k ⟨ds, fun _ => True⟩
  | .ls ds => k ⟨ds, fun _ => True⟩
  | .str s => k ⟨s.cps.toList.map fun c => .str ⟨#[c]⟩, fun _ => True⟩
  | .obj n => match A[n]? with
    | some (.lst ds) => k ⟨ds, fun A' => A'[n]? = some (.lst ds)⟩
    | some (.ro ds) => k ⟨ds, fun _ => True⟩
    | _ => False
  | _ => False
/-- backwards -/
def rvD (d : D) (A : Ht) (k : Wk → Prop) : Prop :=
  match d with
  | .tup ds => k ⟨ds.reverse, fun _ => True⟩
  | .rol ds => k ⟨ds.reverse, fun _ => True⟩
  | .ls ds => k ⟨ds.reverse, fun _ => True⟩
  | .obj n => match A[n]? with
    | some (.lst ds) => k ⟨ds.reverse, fun A' => A'[n]? = some (.lst ds)⟩
    | some (.ro ds) => k ⟨ds.reverse, fun _ => True⟩
    | _ => False
  | _ => False
/-- what a `for` walks: a range too -/
def wkS (d : D) (A : Ht) (k : Wk → Prop) : Prop :=
  match d with
  | .rg i j => (-(2 ^ 62) ≤ i ∧ i < 2 ^ 62 ∧ -(2 ^ 62) ≤ j ∧ j < 2 ^ 62) ∧ k ⟨(List.range (j - i).toNat).map fun (n : Nat) => .int (i + (n : Int)), fun _ => True⟩
  | d => wkD d A k
def rngD (lo : Int) (n : Nat) : List D := (List.range n).map fun (i : Nat) => .int (lo + (i : Int))
/-- range(i, j, c): n items -/
def stepD (lo c : Int) (n : Nat) : List D := (List.range n).map fun (i : Nat) => .int (lo + (i : Int) * c)
def loopD (ok : Ht → Prop) (st : D → Rho → Ht → (Rho → Ht → Prop) → Prop) (fin : Rho → Ht → Prop) : List D → Rho → Ht → Prop
  | [], ρ, A => ok A ∧ fin ρ A
  | d :: ds, ρ, A => ok A ∧ st d ρ A fun ρ' A' => loopD ok st fin ds ρ' A'
/-- a comprehension's turns; what is made so far -/
def compD (ok : Ht → Prop) (st : D → Ht → (Option D → Ht → Prop) → Prop) (fin : List D → Ht → Prop) : List D → List D → Ht → Prop
  | [], acc, A => ok A ∧ fin acc A
  | d :: ds, acc, A => ok A ∧ st d A fun y A' => match y with
    | none => compD ok st fin ds acc A'
    | some v => acc.length < sizeLine ∧ compD ok st fin ds (acc ++ [v]) A'
def wipeD (ρ : Rho) : List Nat → Rho
  | [] => ρ
  | v :: vs => (wipeD ρ vs).set v none
def nonX : D → Prop
  | .exn _ _ _ => False | _ => True
def varK (d : D) (k : D → Prop) : Prop :=
  match d with
  | .exn _ _ _ => False
  | d => k d
theorem varK_of {d : D} {k : D → Prop} (h : nonX d) (q : k d) : varK d k := by cases d <;> first | exact q | exact h.elim
theorem varK_at {d : D} {k : D → Prop} (h : varK d k) : nonX d ∧ k d := by cases d <;> first | exact ⟨trivial, h⟩ | exact h.elim
def varD (ρ : Rho) (i : Nat) (k : D → Prop) : Prop :=
  match ρ[i]? with
  | some (some d) => varK d k
  | _ => False
def optD (o : Option Bool) (k : Bool → Prop) : Prop := match o with | some b => k b | none => False

def permD {α : Type} (pm : List Nat) (l : List α) : List α := pm.filterMap fun i => l[i]?
/-- list(range(i, j)), tuple(range(i, j)) -/
def lrgD (t : Bool) (i j : Int) (A : Ht) (Q : D → Ht → Prop) : Prop := (-(2 ^ 62) ≤ i ∧ i < 2 ^ 62 ∧ -(2 ^ 62) ≤ j ∧ j < 2 ^ 62 ∧ (j - i).toNat ≤ 65536) ∧ (if t = true then Q (.tup (rngD i (j - i).toNat)) A else nlD (rngD i (j - i).toNat) A Q)
/-- sorted(set(t)) of a tuple of numbers: the numbers, each once, rising -/
def ssetD (d : D) (A : Ht) (Q : D → Ht → Prop) : Prop :=
  match d with
  | .tup ds => (match intsD ds with
    | some ns => ns.length < 64 ∧ ∀ ms : List Int, ms.Pairwise (· < ·) → (∀ k, k ∈ ms ↔ k ∈ ns) → nlD (ms.map .int) A Q
    | none => False)
  | _ => False
/-- keys that are written -/
def keysC : Ies → Option (List Key)
  | .nil => some []
  | .cons (.cst (.int i)) r => (keysC r).map (.inl i :: ·)
  | .cons (.cst (.str s)) r => (keysC r).map (.inr s :: ·)
  | .cons _ _ => none
/-! ### expressions -/
mutual
def wE (G : Env') : Ie → Rho → Ht → (D → Ht → Prop) → (D → Ht → Prop) → Prop
  | .var i, ρ, A, _, Q => varD ρ i fun d => Q d A
  | .cst d, _, A, _, Q => Q d A
  | .glob x, _, A, _, Q => match G.ct x with | some d => Q d A | none => False
  | .bin op a b, ρ, A, X, Q => wE G a ρ A X fun x A1 => wE G b ρ A1 X fun y A2 => binD op x y A2 Q
  | .neg a, ρ, A, X, Q => wE G a ρ A X fun x A1 => match x with | .int i => Q (.int (-i)) A1 | _ => False
  | .cmp op a b, ρ, A, X, Q => wE G a ρ A X fun x A1 => wE G b ρ A1 X fun y A2 => cmpD op x y A2 fun c => Q (.bl c) A2
  | .chain o1 o2 a b c, ρ, A, X, Q => wE G a ρ A X fun x A1 => wE G b ρ A1 X fun y A2 => cmpD o1 x y A2 fun k =>
      if k = true then wE G c ρ A2 X fun z A3 => cmpD o2 y z A3 fun k' => Q (.bl k') A3 else Q (.bl false) A2
  | .andv a b, ρ, A, X, Q => wE G a ρ A X fun x A1 => match x with
      | .bl c => if c = true then wE G b ρ A1 X Q else Q (.bl false) A1
      | _ => False
  | .orv a b, ρ, A, X, Q => wE G a ρ A X fun x A1 => match x with
      | .bl c => if c = true then Q (.bl true) A1 else wE G b ρ A1 X Q
      | _ => False
  | .notv a, ρ, A, X, Q => wE G a ρ A X fun x A1 => match x with | .bl c => Q (.bl (!c)) A1 | _ => False
  | .ite t a b, ρ, A, X, Q => wT G t ρ A X fun c A1 => if c = true then wE G a ρ A1 X Q else wE G b ρ A1 X Q
  | .tup es, ρ, A, X, Q => wEs G es ρ A X fun ds A1 => ds.length ≤ sizeLine ∧ Q (.tup ds) A1
  | .lst es, ρ, A, X, Q => wEs G es ρ A X fun ds A1 => ds.length ≤ sizeLine ∧ nlD ds A1 Q
  | .dic ks vs, ρ, A, X, Q => (match ks with
    | .nil => Q (.obj A.length) (A ++ [.dic []])
    | .cons _ _ => wEs G vs ρ (A ++ [.dic []]) X fun ds A1 => match keysC ks with
      | some kl => kl.Nodup ∧ kl.length = ds.length ∧ kl.length ≤ 15 ∧ A1[A.length]? = some (.dic []) ∧ Q (.obj A.length) (A1.set A.length (.dic (kl.zip ds)))
      | none => False)
  | .ix a i, ρ, A, X, Q => wE G a ρ A X fun x A1 => wE G i ρ A1 X fun y A2 => ixD x y A2 Q
  | .sl a lo hi, ρ, A, X, Q => wE G a ρ A X fun x A1 => wEo G lo ρ A1 X fun l A2 => wEo G hi ρ A2 X fun h A3 => slD x l h A3 Q
  | .call f es, ρ, A, X, Q => wEs G es ρ A X fun ds A1 => G.con f ds A1 X Q
  | .callk f pm es ws, ρ, A, X, Q => wEs G es ρ A X fun ds A1 => wEs G ws ρ A1 X fun bs A2 => G.con f (permD pm (ds ++ bs)) A2 X Q
  | .bi b es, ρ, A, X, Q => wEs G es ρ A X fun ds A1 => biD b ds A1 Q
  | .isi e t, ρ, A, X, Q => wE G e ρ A X fun x A1 => optD (isiD A1 x t) fun c => Q (.bl c) A1
  | .mt m o es, ρ, A, X, Q => wE G o ρ A X fun x A1 => recvD m x A1 ∧ wEs G es ρ A1 X fun ds A2 => mtD m x ds A2 Q
  | .lc g it t elt ws, ρ, A, X, Q => wI G it ρ A X fun w A1 => compD w.ok
      (fun d A2 k => match bindT g d (wipeD ρ ws) with
        | some ρ2 => wTo G t ρ2 A2 (fun _ _ => False) fun c A3 => if c = true then wE G elt ρ2 A3 (fun _ _ => False) fun y A4 => k (some y) A4 else k none A3
        | none => False)
      (fun acc A2 => nlD acc A2 Q) w.items [] A1
  | .rpr a, ρ, A, X, Q => wE G a ρ A X fun d A1 => rprD d A1 Q
  | .sset a, ρ, A, X, Q => wE G a ρ A X fun d A1 => ssetD d A1 Q
  | .lrg1 t a, ρ, A, X, Q => wE G a ρ A X fun d A1 => match d with | .int j => lrgD t 0 j A1 Q | _ => False
  | .lrg2 t a b, ρ, A, X, Q => wE G a ρ A X fun d A1 => wE G b ρ A1 X fun e A2 => match d, e with | .int i, .int j => lrgD t i j A2 Q | _, _ => False
  | .fld i f, ρ, A, _, Q => match ρ[i]? with
      | some (some (.exn _ ks ds)) => (match (ks.zip ds).lookup f with | some d => Q d A | none => False)
      | _ => False
  | .isx i c, ρ, A, _, Q => match ρ[i]? with
      | some (some (.exn c' _ _)) => Q (.bl (G.sub c' c)) A
      | _ => False
  | .isxs i cs, ρ, A, _, Q => match ρ[i]? with
      | some (some (.exn c' _ _)) => Q (.bl (cs.any fun c => G.sub c' c)) A
      | _ => False
def wT (G : Env') : Ie → Rho → Ht → (D → Ht → Prop) → (Bool → Ht → Prop) → Prop
  | .andv a b, ρ, A, X, Q => wT G a ρ A X fun c A1 => if c = true then wT G b ρ A1 X Q else Q false A1
  | .orv a b, ρ, A, X, Q => wT G a ρ A X fun c A1 => if c = true then Q true A1 else wT G b ρ A1 X Q
  | .notv a, ρ, A, X, Q => wT G a ρ A X fun c A1 => Q (!c) A1
  | .ite t a b, ρ, A, X, Q => wT G t ρ A X fun c A1 => if c = true then wT G a ρ A1 X Q else wT G b ρ A1 X Q
  | .cmp op a b, ρ, A, X, Q => wE G a ρ A X fun x A1 => wE G b ρ A1 X fun y A2 => cmpD op x y A2 fun c => Q c A2
  | .chain o1 o2 a b c, ρ, A, X, Q => wE G a ρ A X fun x A1 => wE G b ρ A1 X fun y A2 => cmpD o1 x y A2 fun k =>
      if k = true then wE G c ρ A2 X fun z A3 => cmpD o2 y z A3 fun k' => Q k' A3 else Q false A2
  | .cst d, _, A, _, Q => truD d A fun c => Q c A
  | .var i, ρ, A, _, Q => varD ρ i fun d => truD d A fun c => Q c A
  | .bin op a b, ρ, A, X, Q => wE G a ρ A X fun x A1 => wE G b ρ A1 X fun y A2 => binD op x y A2 fun d A3 => truD d A3 fun c => Q c A3
  | .ix a i, ρ, A, X, Q => wE G a ρ A X fun x A1 => wE G i ρ A1 X fun y A2 => ixD x y A2 fun d A3 => truD d A3 fun c => Q c A3
  | .call f es, ρ, A, X, Q => wEs G es ρ A X fun ds A1 => G.con f ds A1 X fun d A3 => truD d A3 fun c => Q c A3
  | .callk f pm es ws, ρ, A, X, Q => wEs G es ρ A X fun ds A1 => wEs G ws ρ A1 X fun bs A2 => G.con f (permD pm (ds ++ bs)) A2 X fun d A3 => truD d A3 fun c => Q c A3
  | .bi b es, ρ, A, X, Q => wEs G es ρ A X fun ds A1 => biD b ds A1 fun d A3 => truD d A3 fun c => Q c A3
  | .isi e t, ρ, A, X, Q => wE G e ρ A X fun x A1 => optD (isiD A1 x t) fun c => Q c A1
  | .mt m o es, ρ, A, X, Q => wE G o ρ A X fun x A1 => recvD m x A1 ∧ wEs G es ρ A1 X fun ds A2 => mtD m x ds A2 fun d A3 => truD d A3 fun c => Q c A3
  | .isx i c, ρ, A, _, Q => match ρ[i]? with
      | some (some (.exn c' _ _)) => Q (G.sub c' c) A
      | _ => False
  | .isxs i cs, ρ, A, _, Q => match ρ[i]? with
      | some (some (.exn c' _ _)) => Q (cs.any fun c => G.sub c' c) A
      | _ => False
  | _, _, _, _, _ => False
def wTo (G : Env') : Ieo → Rho → Ht → (D → Ht → Prop) → (Bool → Ht → Prop) → Prop
  | .no, _, A, _, Q => Q true A
  | .so e, ρ, A, X, Q => wT G e ρ A X Q
def wEs (G : Env') : Ies → Rho → Ht → (D → Ht → Prop) → (List D → Ht → Prop) → Prop
  | .nil, _, A, _, Q => Q [] A
  | .cons e es, ρ, A, X, Q => wE G e ρ A X fun d A1 => wEs G es ρ A1 X fun ds A2 => Q (d :: ds) A2
def wEo (G : Env') : Ieo → Rho → Ht → (D → Ht → Prop) → (Option Int → Ht → Prop) → Prop
  | .no, _, A, _, Q => Q none A
  | .so e, ρ, A, X, Q => wE G e ρ A X fun d A1 => match d with | .int i => Q (some i) A1 | _ => False
def wI (G : Env') : Ii → Rho → Ht → (D → Ht → Prop) → (Wk → Ht → Prop) → Prop
  | .seq e, ρ, A, X, Q => wE G e ρ A X fun d A1 => wkS d A1 fun w => Q w A1
  | .rng1 a, ρ, A, X, Q => wE G a ρ A X fun d A1 => match d with
      | .int j => -(2 ^ 62) ≤ j ∧ j < 2 ^ 62 ∧ Q ⟨rngD 0 j.toNat, fun _ => True⟩ A1
      | _ => False
  | .rng2 a b, ρ, A, X, Q => wE G a ρ A X fun d A1 => wE G b ρ A1 X fun e A2 => match d, e with
      | .int i, .int j => (-(2 ^ 62) ≤ i ∧ i < 2 ^ 62 ∧ -(2 ^ 62) ≤ j ∧ j < 2 ^ 62) ∧ Q ⟨rngD i (j - i).toNat, fun _ => True⟩ A2
      | _, _ => False
  | .rng3 a b c, ρ, A, X, Q => wE G a ρ A X fun d A1 => wE G b ρ A1 X fun e A2 => wE G c ρ A2 X fun f A3 => match d, e, f with
      | .int i, .int j, .int k => ∃ n, RgC i j k n ∧ Q ⟨stepD i k n, fun _ => True⟩ A3
      | _, _, _ => False
  | .rev e, ρ, A, X, Q => wE G e ρ A X fun d A1 => rvD d A1 fun w => Q w A1
  | .enum e, ρ, A, X, Q => wE G e ρ A X fun d A1 => wkD d A1 fun w => Q ⟨w.items.zipIdx.map fun p => .tup [.int (p.2 : Int), p.1], w.ok⟩ A1
  | .zip a b, ρ, A, X, Q => wE G a ρ A X fun d A1 => wE G b ρ A1 X fun e A2 => wkD d A2 fun w => wkD e A2 fun v =>
      Q ⟨(w.items.zip v.items).map fun p => .tup [p.1, p.2], fun A' => w.ok A' ∧ v.ok A'⟩ A2
end

/-! ### statements -/
structure Dn where
  nx : Rho → Ht → Prop
  rt : D → Ht → Prop
  bk : Rho → Ht → Prop := fun _ _ => False
  ct : Rho → Ht → Prop := fun _ _ => False
  xe : Rho → D → Ht → Prop := fun _ _ _ => False
def Dn.wnx (D : Dn) (k : Rho → Ht → Prop) : Dn := ⟨k, D.rt, D.bk, D.ct, D.xe⟩
def Dn.lop (D : Dn) (k : Rho → Ht → Prop) : Dn := ⟨k, D.rt, D.nx, k, D.xe⟩
def Dn.wxe (D : Dn) (e : Rho → Px.D → Ht → Prop) : Dn := ⟨D.nx, D.rt, D.bk, D.ct, e⟩
def tgD (g : Tg) (d : D) (ρ : Rho) (k : Rho → Prop) : Prop := match bindT g d ρ with | some ρ' => k ρ' | none => False
def whileD (t : Rho → Ht → (Bool → Ht → Prop) → Prop) (b : (Rho → Ht → Prop) → Rho → Ht → Prop) (fin : Rho → Ht → Prop) (ρ : Rho) (A : Ht) : Prop :=
  ∃ I : Nat → Rho → Ht → Prop, (∃ m, I m ρ A) ∧ ∀ m ρ A, I m ρ A → t ρ A fun c A1 => if c = true then b (fun ρ' A' => ∃ m', m' < m ∧ I m' ρ' A') ρ A1 else fin ρ A1
def clsOf : D → Str
  | .exn c _ _ => c
  | _ => ⟨#[]⟩
mutual
def wS (G : Env') : Is → Dn → Rho → Ht → Prop
  | .set i e, D, ρ, A => wE G e ρ A (D.xe ρ) fun d A1 => D.nx (ρ.set i (some d)) A1
  | .asg g e, D, ρ, A => wE G e ρ A (D.xe ρ) fun d A1 => tgD g d ρ fun ρ' => D.nx ρ' A1
  | .par i j a b, D, ρ, A => wE G a ρ A (D.xe ρ) fun d A1 => wE G b ρ A1 (D.xe ρ) fun e A2 => D.nx ((ρ.set i (some d)).set j (some e)) A2
  | .asgS o i e, D, ρ, A => wE G e ρ A (D.xe ρ) fun d A1 => wE G o ρ A1 (D.xe ρ) fun x A2 => wE G i ρ A2 (D.xe ρ) fun y A3 => setD x y d A3 fun A4 => D.nx ρ A4
  | .aug i op e, D, ρ, A => varD ρ i fun x => wE G e ρ A (D.xe ρ) fun y A1 => (match x, y with | .int _, .int _ => True | _, _ => False) ∧ binD op x y A1 fun z A2 => D.nx (ρ.set i (some z)) A2
  | .augS _ _ _ _, _, _, _ => False
  | .ex e, D, ρ, A => wE G e ρ A (D.xe ρ) fun _ A1 => D.nx ρ A1
  | .ret e, D, ρ, A => wE G e ρ A (D.xe ρ) D.rt
  | .retN, D, _, A => D.rt .non A
  | .ife t a b, D, ρ, A => wT G t ρ A (D.xe ρ) fun c A1 => if c = true then wSs G a D ρ A1 else wSs G b D ρ A1
  | .whl t b, D, ρ, A => whileD (fun ρ A k => wT G t ρ A (D.xe ρ) k) (fun k ρ A => wSs G b (D.lop k) ρ A) D.nx ρ A
  | .fr g it b, D, ρ, A => wI G it ρ A (D.xe ρ) fun w A1 => loopD w.ok (fun d ρ A k => tgD g d ρ fun ρ' => wSs G b (D.lop k) ρ' A) D.nx w.items ρ A1
  | .rse c es, D, ρ, A => wEs G es ρ A (D.xe ρ) fun ds A1 => (G.fds c).length = ds.length ∧ 0 < ds.length ∧ D.xe ρ (.exn c (G.fds c) ds) A1
  | .tri b hs, D, ρ, A => wSs G b (D.wxe fun ρ' d A' => wHs G hs d D ρ' A') ρ A
  | .brk, D, ρ, A => D.bk ρ A
  | .cnt, D, ρ, A => D.ct ρ A
  | .pss, D, ρ, A => D.nx ρ A
def wSs (G : Env') : Iss → Dn → Rho → Ht → Prop
  | .nil, D, ρ, A => D.nx ρ A
  | .cons s ss, D, ρ, A => wS G s (D.wnx fun ρ' A' => wSs G ss D ρ' A') ρ A
def wHs (G : Env') : Ihs → D → Dn → Rho → Ht → Prop
  | .nil, d, D, ρ, A => D.xe ρ d A
  | .cons c i b hs, d, D, ρ, A => if G.sub (clsOf d) c = true then
      (match i with
        | some i => wSs G b { nx := fun ρ' A' => D.nx (clean (ρ'.set i none)) A', rt := D.rt, bk := fun ρ' A' => D.bk (clean (ρ'.set i none)) A', ct := fun ρ' A' => D.ct (clean (ρ'.set i none)) A' } (ρ.set i (some d)) A
        | none => wSs G b { nx := D.nx, rt := D.rt, bk := D.bk, ct := D.ct } ρ A)
    else wHs G hs d D ρ A
end
end Px
end TextPx2

section TextPx20
set_option autoImplicit false
/-! Px20: loops, comprehensions and heaps of numbered objects, in plain Lean. -/
namespace Px
open PySem
theorem loopD_inv {ok : Ht → Prop} {st : D → Rho → Ht → (Rho → Ht → Prop) → Prop} {fin : Rho → Ht → Prop} (I : Nat → Rho → Ht → Prop) (hok : ∀ i ρ A, I i ρ A → ok A) :
    ∀ (items : List D) (n : Nat) (ρ : Rho) (A : Ht), I n ρ A → (∀ i (h : i < items.length) ρ A k, I (n + i) ρ A → (∀ ρ' A', I (n + i + 1) ρ' A' → k ρ' A') → st (items[i]) ρ A k) → (∀ ρ A, I (n + items.length) ρ A → fin ρ A) → loopD ok st fin items ρ A
  | [], n, ρ, A, h0, _, hf => ⟨hok _ _ _ h0, hf _ _ h0⟩
  | d :: ds, n, ρ, A, h0, hs, hf => by
    refine ⟨hok _ _ _ h0, hs 0 (Nat.succ_pos _) ρ A _ h0 fun ρ' A' h1 => ?_⟩
    refine loopD_inv I hok ds (n + 1) ρ' A' h1 (fun i hi ρ2 A2 k h2 hk => ?_) fun ρ2 A2 h2 => hf _ _ (by rw [List.length_cons, show n + (ds.length + 1) = n + 1 + ds.length from by omega]; exact h2)
    have e : n + 1 + i = n + (i + 1) := by omega
    exact hs (i + 1) (by simpa using hi) ρ2 A2 k (by rw [← e]; exact h2) fun ρ3 A3 h3 => hk _ _ (by rw [e]; exact h3)
/-- a loop's rule: I i holds ahead of the i-th turn -/
theorem loop_go {ok : Ht → Prop} {st : D → Rho → Ht → (Rho → Ht → Prop) → Prop} {fin : Rho → Ht → Prop} {items : List D} {ρ : Rho} {A : Ht} (I : Nat → Rho → Ht → Prop) (h0 : I 0 ρ A) (hok : ∀ i ρ A, I i ρ A → ok A)
    (hs : ∀ i (h : i < items.length) ρ A k, I i ρ A → (∀ ρ' A', I (i + 1) ρ' A' → k ρ' A') → st (items[i]) ρ A k) (hf : ∀ ρ A, I items.length ρ A → fin ρ A) : loopD ok st fin items ρ A :=
  loopD_inv I hok items 0 ρ A h0 (fun i hi ρ A k h hk => hs i hi ρ A k (by simpa using h) fun ρ' A' h' => hk ρ' A' (by simpa using h')) fun ρ A h => hf ρ A (by simpa using h)
theorem compD_inv {ok : Ht → Prop} {st : D → Ht → (Option D → Ht → Prop) → Prop} {fin : List D → Ht → Prop} (I : Nat → List D → Ht → Prop) (hok : ∀ i l A, I i l A → ok A) :
    ∀ (items : List D) (n : Nat) (acc : List D) (A : Ht), I n acc A → (∀ i (h : i < items.length) acc A k, I (n + i) acc A → (∀ A', I (n + i + 1) acc A' → k none A') → (∀ y A', acc.length < PySem.sizeLine ∧ I (n + i + 1) (acc ++ [y]) A' → k (some y) A') → st (items[i]) A k) → (∀ acc A, I (n + items.length) acc A → fin acc A) → compD ok st fin items acc A
  | [], n, acc, A, h0, _, hf => ⟨hok _ _ _ h0, hf _ _ h0⟩
  | d :: ds, n, acc, A, h0, hs, hf => by
    have go : ∀ acc' A', I (n + 1) acc' A' → compD ok st fin ds acc' A' := fun acc' A' h1 => by
      refine compD_inv I hok ds (n + 1) acc' A' h1 (fun i hi ρ2 A2 k h2 hk hk2 => ?_) fun ρ2 A2 h2 => hf _ _ (by rw [List.length_cons, show n + (ds.length + 1) = n + 1 + ds.length from by omega]; exact h2)
      have e : n + 1 + i = n + (i + 1) := by omega
      exact hs (i + 1) (by simpa using hi) ρ2 A2 k (by rw [← e]; exact h2) (fun A3 h3 => hk _ (by rw [e]; exact h3)) fun y A3 h3 => hk2 _ _ (by rw [e]; exact h3)
    refine ⟨hok _ _ _ h0, hs 0 (Nat.succ_pos _) acc A _ h0 (fun A' h1 => go _ _ h1) fun y A' h1 => ⟨h1.1, go _ _ h1.2⟩⟩
theorem comp_go {ok : Ht → Prop} {st : D → Ht → (Option D → Ht → Prop) → Prop} {fin : List D → Ht → Prop} {items : List D} {A : Ht} (I : Nat → List D → Ht → Prop) (h0 : I 0 [] A) (hok : ∀ i l A, I i l A → ok A)
    (hs : ∀ i (h : i < items.length) acc A k, I i acc A → (∀ A', I (i + 1) acc A' → k none A') → (∀ y A', acc.length < PySem.sizeLine ∧ I (i + 1) (acc ++ [y]) A' → k (some y) A') → st (items[i]) A k) (hf : ∀ acc A, I items.length acc A → fin acc A) : compD ok st fin items [] A :=
  compD_inv I hok items 0 [] A h0 (fun i hi acc A k h hk hk2 => hs i hi acc A k (by simpa using h) (fun A' h' => hk A' (by simpa using h')) fun y A' h' => hk2 y A' (by simpa using h')) fun acc A h => hf acc A (by simpa using h)
/-- all but the objects of S stand as they were -/
def Keep (S : List Nat) (A A' : Ht) : Prop := A.length ≤ A'.length ∧ ∀ i o, A[i]? = some o → i ∉ S → A'[i]? = some o
theorem Keep.refl {S : List Nat} {A : Ht} : Keep S A A := ⟨Nat.le_refl _, fun _ _ h _ => h⟩
theorem Keep.trans {S : List Nat} {A B C : Ht} (a : Keep S A B) (b : Keep S B C) : Keep S A C := ⟨Nat.le_trans a.1 b.1, fun i o h n => b.2 i o (a.2 i o h n) n⟩
theorem Keep.sub {S S' : List Nat} {A B : Ht} (a : Keep S A B) (h : ∀ i ∈ S, i ∈ S') : Keep S' A B := ⟨a.1, fun i o e n => a.2 i o e fun z => n (h i z)⟩
theorem Keep.any {S : List Nat} {A B : Ht} (a : Keep [] A B) : Keep S A B := a.sub (by simp)
theorem Keep.push {S : List Nat} {A : Ht} {o : O} : Keep S A (A ++ [o]) := ⟨by simp, fun i u h _ => by
  rw [List.getElem?_append_left (List.getElem?_eq_some_iff.mp h).1]; exact h⟩
theorem Keep.set {S : List Nat} {A : Ht} {n : Nat} {o : O} (h : n ∈ S) : Keep S A (A.set n o) := ⟨by simp, fun i u e k => by
  rw [List.getElem?_set_ne (fun z : n = i => k (by rw [← z]; exact h))]; exact e⟩
theorem at_push {A : Ht} {o : O} : (A ++ [o])[A.length]? = some o := List.getElem?_concat_length
theorem at_set {A : Ht} {n : Nat} {o u : O} (h : A[n]? = some u) : (A.set n o)[n]? = some o := List.getElem?_set_self (List.getElem?_eq_some_iff.mp h).1
theorem at_lt {A : Ht} {n : Nat} {u : O} (h : A[n]? = some u) : n < A.length := (List.getElem?_eq_some_iff.mp h).1
/-- beyond A: an object that A has not -/
theorem Keep.fresh {S : List Nat} {A B : Ht} {n : Nat} {u : O} (k : Keep S A B) (hn : A.length ≤ n) {i : Nat} {o : O} (h : A[i]? = some o) : i ≠ n := fun z => by
  have := at_lt h
  omega
abbrev iL (l : List Int) : List D := l.map D.int
end Px
end TextPx20

section TextPx20b
set_option autoImplicit false
set_option maxRecDepth 100000
/-! Px20b: operations on numbered objects, in the form in which they are used. -/
namespace Px
open PySem
section
variable {A : Ht} {n m : Nat} {l : List D} {Q : D → Ht → Prop}
theorem q_len (e : A[n]? = some (.lst l)) (h : Q (.int l.length) A) : biD .len [.obj n] A Q := by unfold biD; dsimp only; rw [e]; exact h
theorem q_tuple (e : A[n]? = some (.lst l)) (h : Q (.tup l) A) : biD .tuple [.obj n] A Q := by unfold biD; dsimp only; rw [e]; exact h
theorem q_list (e : A[n]? = some (.lst l)) (h : nlD l A Q) : biD .list [.obj n] A Q := by unfold biD; dsimp only; rw [e]; exact h
theorem q_ix {i : Int} {d : D} (e : A[n]? = some (.lst l)) (hi : L2.atI l i = some d) (h : Q d A) : ixD (.obj n) (.int i) A Q := by unfold ixD; dsimp only; rw [e]; dsimp only; rw [hi]; exact h
theorem q_ixN {i : Nat} {d : D} (e : A[n]? = some (.lst l)) (hi : l[i]? = some d) (h : Q d A) : ixD (.obj n) (.int (i : Int)) A Q := q_ix e (L2.atI_nat hi) h
theorem q_ixT {i : Int} {d : D} (hi : L2.atI l i = some d) (h : Q d A) : ixD (.tup l) (.int i) A Q := by unfold ixD; dsimp only; rw [hi]; exact h
theorem q_ixL {i : Int} {d : D} (hi : L2.atI l i = some d) (h : Q d A) : ixD (.ls l) (.int i) A Q := by unfold ixD; dsimp only; rw [hi]; exact h
theorem q_ixTn {i : Nat} {d : D} (hi : l[i]? = some d) (h : Q d A) : ixD (.tup l) (.int (i : Int)) A Q := q_ixT (L2.atI_nat hi) h
theorem q_ixLn {i : Nat} {d : D} (hi : l[i]? = some d) (h : Q d A) : ixD (.ls l) (.int (i : Int)) A Q := q_ixL (L2.atI_nat hi) h
theorem q_push {x : D} (e : A[n]? = some (.lst l)) (hl : l.length < PySem.sizeLine) (h : Q .non (A.set n (.lst (l ++ [x])))) : mtD .append (.obj n) [x] A Q := by unfold mtD; dsimp only; rw [e]; exact ⟨hl, h⟩
theorem q_pop {x : D} (e : A[n]? = some (.lst l)) (hl : l[l.length - 1]? = some x) (h : Q x (A.set n (.lst l.dropLast))) : mtD .pop (.obj n) [] A Q := by unfold mtD; dsimp only; rw [e]; dsimp only; rw [hl]; exact h
theorem q_rev (e : A[n]? = some (.lst l)) (h : Q .non (A.set n (.lst l.reverse))) : mtD .reverse (.obj n) [] A Q := by unfold mtD; dsimp only; rw [e]; exact h
theorem q_rc {mi : MI} (hm : mi = .append ∨ mi = .pop ∨ mi = .reverse) (e : A[n]? = some (.lst l)) : recvD mi (.obj n) A := by
  rcases hm with rfl | rfl | rfl <;> (unfold recvD; dsimp only; rw [e]; trivial)
theorem q_rcA (e : A[n]? = some (.lst l)) : recvD .append (.obj n) A := q_rc (.inl rfl) e
theorem q_rcP (e : A[n]? = some (.lst l)) : recvD .pop (.obj n) A := q_rc (.inr (.inl rfl)) e
theorem q_set {i : Nat} {x : D} {k : Ht → Prop} (e : A[n]? = some (.lst l)) (hi : i < l.length) (h : k (A.set n (.lst (l.set i x)))) : setD (.obj n) (.int (i : Int)) x A k := by
  unfold setD; dsimp only; rw [e]; dsimp only
  have z : L2.ixN l.length (i : Int) = some i := by unfold L2.ixN; rw [if_pos (by omega), if_pos (by omega)]; simp
  rw [z]; exact h
theorem q_sl {lo hi : Option Int} (e : A[n]? = some (.lst l)) (h : nlD (cutD l lo hi) A Q) : slD (.obj n) lo hi A Q := by unfold slD; dsimp only; rw [e]; exact h
theorem q_seq {k : Wk → Prop} (e : A[n]? = some (.lst l)) (h : k ⟨l, fun A' => A'[n]? = some (.lst l)⟩) : wkD (.obj n) A k := by unfold wkD; dsimp only; rw [e]; exact h
theorem nl_v {ds : List D} (h : Q (.ls ds) A) : nlD ds A Q := .inl h
theorem nl_o {ds : List D} (h : Q (.obj A.length) (A ++ [.lst ds])) : nlD ds A Q := .inr h
end
theorem Keep.wr {S : List Nat} {A B : Ht} {n : Nat} {o : O} (k : Keep S A B) (h : A.length ≤ n) : Keep S A (B.set n o) := ⟨by simpa using k.1, fun i u e hs => by
  rw [List.getElem?_set_ne (by have := at_lt e; omega)]
  exact k.2 i u e hs⟩
theorem sl32 : (65536 : Nat) < PySem.sizeLine := by rw [PySem.sizeLine_eq]; decide
theorem iL_get {l : List Int} {i : Nat} (h : i < l.length) : (iL l)[i]? = some (.int l[i]) := by simp [List.getElem?_eq_getElem h]
theorem iL_len {l : List Int} : (iL l).length = l.length := by simp
end Px
end TextPx20b

section TextPx3
set_option autoImplicit false
set_option maxRecDepth 100000
set_option maxHeartbeats 2000000
/-! Px3: the judgements, operators by values. -/
namespace Px
open PySem PySem.Spec PyProof.Rows L2

abbrev WE := Rho → Ht → (D → Ht → Prop) → (D → Ht → Prop) → Prop
abbrev WEs := Rho → Ht → (D → Ht → Prop) → (List D → Ht → Prop) → Prop
abbrev WTt := Rho → Ht → (D → Ht → Prop) → (Bool → Ht → Prop) → Prop
section
variable (K : PySem.W.Frag) (T : Tab) (hx : HX) (W : WX)
/-- where one stands -/
structure Pk (μ : List Addr) (ρ : Rho) (A : Ht) (E : D → Ht → Prop) (σ : L2.St) (H : Hp) : Prop where
  s : RelS K hx μ H ρ σ
  h : HR K μ A H
  x : ∀ c dd H', UpX K T μ H E c dd H' → W c dd σ H'
def tDE (w : WE) : TE := fun σ H Q => ∃ μ ρ A E Q', Pk K T hx W μ ρ A E σ H ∧ w ρ A E Q' ∧ ∀ v H' μ' d A', Stp μ H μ' H' → RelD K μ' H' d v → HR K μ' A' H' → Q' d A' → Q v H'
def tDT (w : WTt) : TT := fun σ H Q => ∃ μ ρ A E Q', Pk K T hx W μ ρ A E σ H ∧ w ρ A E Q' ∧ ∀ b H' μ' A', Stp μ H μ' H' → HR K μ' A' H' → Q' b A' → Q b H'
def tDA (n : Nat) (w : WEs) : TA := fun σ H Q => ∃ μ ρ A E Q', Pk K T hx W μ ρ A E σ H ∧ w ρ A E Q' ∧ ∀ vs H' μ' ds A', ds.length = n → Stp μ H μ' H' → RelDs K μ' H' ds vs → HR K μ' A' H' → Q' ds A' → Q vs H'
end
section
variable {K : PySem.W.Frag} {T : Tab} {hx : HX} {W : WX} {μ μ' : List Addr} {ρ : Rho} {A A' : Ht} {E : D → Ht → Prop} {σ : L2.St} {H H' : Hp}
theorem Pk.step (p : Pk K T hx W μ ρ A E σ H) (s : Stp μ H μ' H') (h : HR K μ' A' H') : Pk K T hx W μ' ρ A' E σ H' :=
  ⟨p.s.mono s, h, fun c dd H2 u => p.x c dd H2 (u.step s)⟩
theorem tDE.go {w : WE} {Q' : D → Ht → Prop} {R : VK} (p : Pk K T hx W μ ρ A E σ H) (h : w ρ A E Q')
    (k : ∀ v H' μ' d A', Stp μ H μ' H' → RelD K μ' H' d v → Pk K T hx W μ' ρ A' E σ H' → Q' d A' → R v H') : tDE K T hx W w σ H R :=
  ⟨μ, ρ, A, E, Q', p, h, fun v H' μ' d A' s r hr q => k v H' μ' d A' s r (p.step s hr) q⟩
theorem tDT.go {w : WTt} {Q' : Bool → Ht → Prop} {R : Bool → Hp → Prop} (p : Pk K T hx W μ ρ A E σ H) (h : w ρ A E Q')
    (k : ∀ b H' μ' A', Stp μ H μ' H' → Pk K T hx W μ' ρ A' E σ H' → Q' b A' → R b H') : tDT K T hx W w σ H R :=
  ⟨μ, ρ, A, E, Q', p, h, fun b H' μ' A' s hr q => k b H' μ' A' s (p.step s hr) q⟩
theorem tDA.go {n : Nat} {w : WEs} {Q' : List D → Ht → Prop} {R : List V → Hp → Prop} (p : Pk K T hx W μ ρ A E σ H) (h : w ρ A E Q')
    (k : ∀ vs H' μ' ds A', ds.length = n → Stp μ H μ' H' → RelDs K μ' H' ds vs → Pk K T hx W μ' ρ A' E σ H' → Q' ds A' → R vs H') : tDA K T hx W n w σ H R :=
  ⟨μ, ρ, A, E, Q', p, h, fun vs H' μ' ds A' l s r hr q => k vs H' μ' ds A' l s r (p.step s hr) q⟩
end
theorem PE.weaken {X : Cx} {e : Expr} {t t' : TE} (h : PE X e t) (k : ∀ σ H Q, t' σ H Q → t σ H Q) : PE X e t' := ⟨fun pins s σ H Q I q => h.run pins s σ H Q I (k σ H Q q)⟩
theorem PT.weaken {X : Cx} {e : Expr} {t t' : TT} (h : PT X e t) (k : ∀ σ H Q, t' σ H Q → t σ H Q) : PT X e t' := ⟨fun pins s σ H Q I q => h.run pins s σ H Q I (k σ H Q q)⟩
theorem PA.weaken {X : Cx} {es : List Expr} {t t' : TA} (h : PA X es t) (k : ∀ σ H Q, t' σ H Q → t σ H Q) : PA X es t' := ⟨fun pos pins s σ H Q I q => h.run pos pins s σ H Q I (k σ H Q q)⟩

/-! ### operations by values -/
section
variable (K : PySem.W.Frag)
def rD2 (d : D → D → Ht → (D → Ht → Prop) → Prop) : R2 := fun x y H Q => ∃ μ A dx dy Q', HR K μ A H ∧ RelD K μ H dx x ∧ RelD K μ H dy y ∧ d dx dy A Q' ∧ ∀ v H', Up K μ H Q' v H' → Q v H'
/-- a new list may be taken as a value from here on -/
def FzQ (Q : VK) : VK := fun v H => Q v H ∨ ∃ a xs, v = .ref a ∧ H a = some (.lst xs) ∧ ∀ od, Q v (upd H a (.frz od (.lst xs)))
def UpF (μ : List Addr) (H : Hp) (Q : D → Ht → Prop) : VK := FzQ (Up K μ H Q)
def rD2F (d : D → D → Ht → (D → Ht → Prop) → Prop) : R2 := fun x y H Q => ∃ μ A dx dy Q', HR K μ A H ∧ RelD K μ H dx x ∧ RelD K μ H dy y ∧ d dx dy A Q' ∧ ∀ v H', UpF K μ H Q' v H' → Q v H'
def rDn (d : List D → Ht → (D → Ht → Prop) → Prop) : List V → Hp → VK → Prop := fun xs H Q => ∃ μ A ds Q', HR K μ A H ∧ RelDs K μ H ds xs ∧ d ds A Q' ∧ ∀ v H', UpF K μ H Q' v H' → Q v H'
def rDm (d : D → List D → Ht → (D → Ht → Prop) → Prop) : V → List V → Hp → VK → Prop := fun x xs H Q => ∃ μ A dx ds Q', HR K μ A H ∧ RelD K μ H dx x ∧ RelDs K μ H ds xs ∧ d dx ds A Q' ∧ ∀ v H', UpF K μ H Q' v H' → Q v H'
end
section
variable {K : PySem.W.Frag} {μ : List Addr} {H : Hp} {A : Ht}
theorem rel_int {i : Int} {v : V} (r : RelD K μ H (.int i) v) : v = .int i := by simpa only [RelD] using r
theorem rel_str {i : Str} {v : V} (r : RelD K μ H (.str i) v) : v = .str i := by simpa only [RelD] using r
theorem rel_bl {i : Bool} {v : V} (r : RelD K μ H (.bl i) v) : v = .bl i := by simpa only [RelD] using r
theorem rel_non {v : V} (r : RelD K μ H .non v) : v = .non := by simpa only [RelD] using r
theorem rel_tup {ds : List D} {v : V} (r : RelD K μ H (.tup ds) v) : ∃ a vs, v = .ref a ∧ SqT K H a vs ∧ RelDs K μ H ds vs := by simpa only [RelD] using r
theorem rel_obj {n : Nat} {v : V} (r : RelD K μ H (.obj n) v) : ∃ a, μ[n]? = some a ∧ v = .ref a := by simpa only [RelD] using r
theorem rel_rol {ds : List D} {v : V} (r : RelD K μ H (.rol ds) v) : ∃ a vs, v = .ref a ∧ RoL K H a vs ∧ RelDs K μ H ds vs := by simpa only [RelD] using r
theorem rel_ls {ds : List D} {v : V} (r : RelD K μ H (.ls ds) v) : ∃ a vs o, v = .ref a ∧ H a = some (.frz o (.lst vs)) ∧ RelDs K μ H ds vs := by
  simp only [RelD] at r
  obtain ⟨a, vs, e, ⟨o, h⟩, r⟩ := r
  exact ⟨a, vs, o, e, h, r⟩
theorem rel_rg {i j : Int} {v : V} (r : RelD K μ H (.rg i j) v) : ∃ a, v = .ref a ∧ H a = some (.rng i j) := by simpa only [RelD] using r
theorem to_rg {i j : Int} {a : Addr} (h : H a = some (.rng i j)) : RelD K μ H (.rg i j) (.ref a) := by simp only [RelD]; exact ⟨a, rfl, h⟩
theorem to_ls {ds : List D} {a : Addr} {vs : List V} {o : Obj} (h : H a = some (.frz o (.lst vs))) (r : RelDs K μ H ds vs) : RelD K μ H (.ls ds) (.ref a) := by simp only [RelD]; exact ⟨a, vs, rfl, ⟨o, h⟩, r⟩
theorem frz_sq {a : Addr} {vs : List V} {o : Obj} (h : H a = some (.frz o (.lst vs))) : SqL K H a vs := .inl (.inr ⟨o, h⟩)
theorem upd_upd {p : Addr} {x y : HO} : upd (upd H p x) p y = upd H p y := by
  funext b
  by_cases h : b = p
  · subst h; rw [upd_same, upd_same]
  · rw [upd_ne h, upd_ne h, upd_ne h]
theorem UpF.mk {Q : D → Ht → Prop} {v : V} {d : D} (r : RelD K μ H d v) (h : HR K μ A H) (q : Q d A) : UpF K μ H Q v H := .inl (.mk r h q)
theorem UpF.tuple {Q : D → Ht → Prop} {p : Addr} {ds : List D} {vs : List V} (h : HR K μ A H) (r : RelDs K μ H ds vs) (hp : H p = none) (q : Q (.tup ds) A) : UpF K μ H Q (.ref p) (upd H p (.tup vs)) := .inl (Up.tuple h r hp q)
theorem UpF.list {Q : D → Ht → Prop} {p : Addr} {ds : List D} {vs : List V} (h : HR K μ A H) (r : RelDs K μ H ds vs) (hp : H p = none) (q : nlD ds A Q) : UpF K μ H Q (.ref p) (upd H p (.lst vs)) := by
  rcases q with q | q
  · refine .inr ⟨p, vs, rfl, upd_same, fun od => ?_⟩
    rw [upd_upd]
    have s : Stp μ H μ (upd H p (.frz od (.lst vs))) := stp_upd0 hp
    exact ⟨μ, .ls ds, A, s, to_ls upd_same (r.mono s _ _), h.tupd hp, q⟩
  · exact .inl (Up.list h r hp q)
theorem UpF.go {Q' : D → Ht → Prop} {Q : VK} {v : V} {H' : Hp} (u : UpF K μ H Q' v H') (k : ∀ v H', Up K μ H Q' v H' → Q v H') : FzQ Q v H' :=
  u.elim (fun u => .inl (k _ _ u)) fun ⟨a, xs, e, ea, f⟩ => .inr ⟨a, xs, e, ea, fun od => k _ _ (f od)⟩
theorem to_int {i : Int} : RelD K μ H (.int i) (.int i) := by simp only [RelD]
theorem to_str {i : Str} : RelD K μ H (.str i) (.str i) := by simp only [RelD]
theorem to_bl {i : Bool} : RelD K μ H (.bl i) (.bl i) := by simp only [RelD]
theorem to_non : RelD K μ H .non .non := by simp only [RelD]
theorem to_tup {ds : List D} {a : Addr} {vs : List V} (h : SqT K H a vs) (r : RelDs K μ H ds vs) : RelD K μ H (.tup ds) (.ref a) := by simp only [RelD]; exact ⟨a, vs, rfl, h, r⟩
theorem to_obj {n : Nat} {a : Addr} (h : μ[n]? = some a) : RelD K μ H (.obj n) (.ref a) := by simp only [RelD]; exact ⟨a, h, rfl⟩
theorem no_exn {c : Str} {ks : List Str} {ds : List D} {v : V} (r : RelD K μ H (.exn c ks ds) v) : False := by simpa only [RelD] using r
/-- a list at a number -/
theorem HR.lst (h : HR K μ A H) {n : Nat} {ds : List D} (e : A[n]? = some (.lst ds)) {v : V} (r : RelD K μ H (.obj n) v) : ∃ a vs, μ[n]? = some a ∧ v = .ref a ∧ H a = some (.lst vs) ∧ RelDs K μ H ds vs := by
  obtain ⟨a, e1, e2, vs, e3, q⟩ := h.atV e r
  exact ⟨a, vs, e1, e2, e3, q⟩
theorem HR.ro (h : HR K μ A H) {n : Nat} {ds : List D} (e : A[n]? = some (.ro ds)) {v : V} (r : RelD K μ H (.obj n) v) : ∃ a vs, μ[n]? = some a ∧ v = .ref a ∧ (∃ o, H a = some (.frz o (.lst vs))) ∧ RelDs K μ H ds vs := by
  obtain ⟨a, e1, e2, o, vs, e3, q⟩ := h.atV e r
  exact ⟨a, vs, e1, e2, ⟨o, e3⟩, q⟩
theorem HR.dic (h : HR K μ A H) {n : Nat} {kvs : List (Key × D)} (e : A[n]? = some (.dic kvs)) {v : V} (r : RelD K μ H (.obj n) v) :
    ∃ a ws, μ[n]? = some a ∧ v = .ref a ∧ H a = some (.dK ws) ∧ ws.map (·.1) = kvs.map (·.1) ∧ RelDs K μ H (kvs.map (·.2)) (ws.map (·.2)) := by
  obtain ⟨a, e1, e2, ws, e3, e4, q⟩ := h.atV e r
  exact ⟨a, ws, e1, e2, e3, e4, q⟩
/-- a list that is read: of either kind -/
theorem HR.sq (h : HR K μ A H) {n : Nat} {ds : List D} (e : A[n]? = some (.lst ds) ∨ A[n]? = some (.ro ds)) {v : V} (r : RelD K μ H (.obj n) v) : ∃ a vs, μ[n]? = some a ∧ v = .ref a ∧ SqL K H a vs ∧ RelDs K μ H ds vs := by
  rcases e with e | e
  · obtain ⟨a, vs, e1, e2, e3, q⟩ := h.lst e r
    exact ⟨a, vs, e1, e2, .inl (.inl e3), q⟩
  · obtain ⟨a, vs, e1, e2, ⟨o, e3⟩, q⟩ := h.ro e r
    exact ⟨a, vs, e1, e2, .inl (.inr ⟨o, e3⟩), q⟩
end

section
variable {X : Cx}
theorem OpR.cases {f : Value → Value → Sem Value} {K : PySem.W.Frag} {d : D → D → Ht → (D → Ht → Prop) → Prop} (h : ∀ (pins : List (Addr × Obj)) (s : Shared) (σ : L2.St) (H : Hp) (x y : V) (v u : Value) (μ : List Addr) (A : Ht) (dx dy : D) (Q : D → Ht → Prop),
      Inv X pins σ H s → RelV x v → RelV y u → HR K μ A H → RelD K μ H dx x → RelD K μ H dy y → d dx dy A Q → wpAny (model X.prog X.w) X.A (f v u) (EP X pins σ (Up K μ H Q)) X.xe s) : OpR X f (rD2 K d) := by
  rintro pins s σ H x y v u Q I rx ry ⟨μ, A, dx, dy, Q', hr, hx, hy, hd, k⟩
  exact thn (h pins s σ H x y v u μ A dx dy Q' I rx ry hr hx hy hd) fun a s1 ⟨w, H1, I1, r1, q1⟩ => ⟨w, H1, I1, r1, k _ _ q1⟩
theorem OpR.casesF {f : Value → Value → Sem Value} {K : PySem.W.Frag} {d : D → D → Ht → (D → Ht → Prop) → Prop} (h : ∀ (pins : List (Addr × Obj)) (s : Shared) (σ : L2.St) (H : Hp) (x y : V) (v u : Value) (μ : List Addr) (A : Ht) (dx dy : D) (Q : D → Ht → Prop),
      Inv X pins σ H s → RelV x v → RelV y u → HR K μ A H → RelD K μ H dx x → RelD K μ H dy y → d dx dy A Q → wpAny (model X.prog X.w) X.A (f v u) (EP X pins σ (UpF K μ H Q)) X.xe s) : OpR X f (rD2F K d) := by
  rintro pins s σ H x y v u Q I rx ry ⟨μ, A, dx, dy, Q', hr, hx, hy, hd, k⟩
  exact thn (h pins s σ H x y v u μ A dx dy Q' I rx ry hr hx hy hd) fun a s1 ⟨w, H1, I1, r1, q1⟩ => ⟨w, H1, I1, r1, k _ _ q1⟩
/-- a list just made is read only from here on -/
theorem pe_freeze {e : Expr} {t : TE} (h : PE X e t) : PE X e (fun σ H Q => t σ H (FzQ Q)) := by
  refine ⟨fun pins s σ H Q I hw => thn (h.run pins s σ H _ I hw) fun v s1 ⟨x, H1, I1, r, q⟩ => ?_⟩
  rcases q with q | ⟨a, xs, rfl, ea, f⟩
  · exact ⟨x, H1, I1, r, q⟩
  · obtain ⟨od, I2⟩ := I1.lock ea trivial
    exact ⟨.ref a, _, I2, r, f od⟩
/-- a list that may be read, whether it is still written or not -/
def LsM (H : Hp) (a : Addr) (xs : List V) : Prop := H a = some (.lst xs) ∨ ∃ o, H a = some (.frz o (.lst xs))
theorem lsM_ok {pins : List (Addr × Obj)} {σ : L2.St} {H : Hp} {s : Shared} (I : Inv X pins σ H s) {a : Addr} {xs : List V} (h : LsM H a xs) :
    ∃ (its : List Value) (n : Nat), xs.length ≤ sizeLine ∧ Vals xs its ∧ xs.length = its.length ∧ s.heap.get? a = some { cls := .type "list", data := .seq its.toArray n } := by
  have k : ObjOk X.prog X.w H s.heap a (.lst xs) := by
    rcases h with h | ⟨o, h⟩
    · exact I.hok a _ h
    · exact (show ObjOk X.prog X.w H s.heap a (.frz o (.lst xs)) from I.hok a _ h).2
  obtain ⟨z, its, n, r, e⟩ := k
  exact ⟨its, n, z, r, r.length, e⟩
def rCatF : R2 := fun x y H Q => ∃ l b xs zs, x = .ref l ∧ y = .ref b ∧ LsM H l xs ∧ LsM H b zs ∧ xs.length + zs.length ≤ sizeLine ∧ ∀ p, H p = none → Q (.ref p) (upd H p (.lst (xs ++ zs)))
theorem op_catF : OpR X (binaryOp .Add) rCatF := by
  rintro pins st σ H x y v u Q Iv rx ry ⟨l, b, xs, zs, rfl, rfl, hl, hb, sz, q⟩
  cases rx; cases ry
  obtain ⟨ps, n, _, rp, lp, ep⟩ := lsM_ok Iv hl
  obtain ⟨qs, m, _, rq, lq, eq⟩ := lsM_ok Iv hb
  refine PySem.P.add_list ep eq ?_ (by rw [List.size_toArray, List.size_toArray, ← lp, ← lq]; exact sz)
  rw [show ps.toArray ++ qs.toArray = (ps ++ qs).toArray by simp]
  refine ⟨.ref _, _, Iv.lnew (t' := st.toks) (rp.append rq) ?_, rfl, q _ Iv.fresh⟩
  rw [List.length_append]
  exact sz
def rRepF : R2 := fun x y H Q => ∃ l k xs, x = .ref l ∧ y = .int k ∧ LsM H l xs ∧ -(2 ^ 63) ≤ k ∧ k < 2 ^ 63 ∧ xs.length * k.toNat ≤ sizeLine ∧
  ∀ p, H p = none → Q (.ref p) (upd H p (.lst (List.replicate k.toNat xs).flatten))
theorem rep_flat (xs : List Value) (m : Nat) : (List.replicate m xs.toArray).foldl (fun p q => p ++ q) #[] = (List.replicate m xs).flatten.toArray := by
  have z := foldl_rep xs m []
  rwa [List.nil_append] at z
theorem op_repF : OpR X (binaryOp .Mult) rRepF := by
  rintro pins st σ H x y v u Q Iv rx ry ⟨l, k, xs, rfl, rfl, hH, lo, up, sz, q⟩
  obtain ⟨t, rfl⟩ := ry
  cases rx
  obtain ⟨ys, c, _, rv, ln, at0⟩ := lsM_ok Iv hH
  have sz2 : ys.toArray.size * k.toNat ≤ sizeLine := by rw [List.size_toArray, ← ln]; exact sz
  have c1 : ¬ ((!Builtin.List.listFitsIndex k) = true) := by rw [fitsIndex_both lo up]; simp
  have c2 : ¬ (ys.toArray.size * k.toNat > (2 ^ 63 - 1) / 8) := by have w : (sizeLine : Nat) ≤ (2 ^ 63 - 1) / 8 := by decide
                                                                   omega
  have c3 : ¬ (Builtin.List.listTooLong (ys.toArray.size * k.toNat) = true) := by rw [notLongL sz2]; simp
  have made : (List.replicate (if ys.toArray.isEmpty = true then 0 else k.toNat) ys.toArray).foldl (fun p q => p ++ q) #[] = (List.replicate k.toNat ys).flatten.toArray := by
    cases ys with
    | nil => rw [rep_flat]; simp
    | cons a r => rw [rep_flat, if_neg (by simp)]
  have ri := typeIs_int st k t
  refine wpAny_binaryOp_repeat_ref (U := "int") (T := "list") (by decide) ⟨_, at0, rfl⟩ (fun st2 => typeIs_int st2 k t) noFill_list_mul F.fills_int_mul F.slot_int_rmul repeat_list F.slot_int_index.lookup ?_
  refine call_meets F.slot_int_rmul ri F.entry_int_rmul (F.args_int_rmul_2 _ _) (int___rmul___int_list k t l ys.toArray c) ⟨at0, rfl, ⟨_, at0, rfl⟩, ?_⟩
  refine call_meets F.slot_list_mul ⟨_, at0, rfl⟩ F.entry_list_mul (F.args_list_mul_2 _ _) (AutoListH.list___mul___list_int_3 l ys.toArray c k t c1 c2 c3) ⟨at0, ?_⟩
  rw [made]
  refine ⟨.ref _, _, Iv.lnew (t' := st.toks) (rv.rep k.toNat) ?_, rfl, q _ Iv.fresh⟩
  rw [PyProof.Rows.lm_len_rep_flat, Nat.mul_comm]
  exact sz
theorem mapset {α β : Type} (f : α → β) : ∀ (l : List α) (n : Nat), (l.map f)[n]? = (l[n]?).map f := fun l n => by simp

theorem rep_rel {K : PySem.W.Frag} {μ : List Addr} {H : Hp} {ds : List D} {vs : List V} (r : RelDs K μ H ds vs) : ∀ n : Nat, RelDs K μ H (List.replicate n ds).flatten (List.replicate n vs).flatten
  | 0 => by simpa using RelDs.nil
  | n + 1 => by
    rw [List.replicate_succ, List.replicate_succ, List.flatten_cons, List.flatten_cons]
    exact r.append (rep_rel r n)

theorem sd_bin (op : Operator) : OpR X (binaryOp op) (rD2F X.K (binD op)) := by
  refine OpR.casesF fun pins s σ H x y v u μ A dx dy Q I rx ry hr hx hy h => ?_
  unfold binD at h
  split at h
  · cases rel_int hx; cases rel_int hy
    exact op_add pins s σ H _ _ v u _ I rx ry ⟨_, _, rfl, rfl, .mk to_int hr h⟩
  · cases rel_str hx; cases rel_str hy
    exact op_add_str pins s σ H _ _ v u _ I rx ry ⟨_, _, rfl, rfl, h.1, .mk to_str hr h.2⟩
  · obtain ⟨a, vs, rfl, hs, hv⟩ := rel_tup hx
    obtain ⟨b, ws, rfl, hs2, hw⟩ := rel_tup hy
    refine op_catA pins s σ H _ _ v u _ I rx ry ⟨a, b, vs, ws, rfl, rfl, hs, hs2, by rw [← hv.length, ← hw.length]; exact h.1, fun e => ?_, fun e e2 => ?_, fun e e2 p hp => ?_⟩
    · subst e
      have e := hv.length
      have e' : _ = [] := List.length_eq_zero_iff.mp e
      refine .mk (to_tup hs2 hw) hr ?_
      rw [e'] at h
      exact h.2
    · subst e2
      have e := hw.length
      have e' : _ = [] := List.length_eq_zero_iff.mp e
      refine .mk (to_tup hs hv) hr ?_
      rw [e', List.append_nil] at h
      exact h.2
    · exact UpF.tuple hr (hv.append hw) hp h.2
  · obtain ⟨a, vs, o, rfl, ea, hv⟩ := rel_ls hx
    obtain ⟨b, ws, o2, rfl, eb, hw⟩ := rel_ls hy
    exact op_catF pins s σ H _ _ v u _ I rx ry ⟨a, b, vs, ws, rfl, rfl, .inr ⟨o, ea⟩, .inr ⟨o2, eb⟩, by rw [← hv.length, ← hw.length]; exact h.1, fun p hp => UpF.list hr (hv.append hw) hp h.2⟩
  · split at h
    · rename_i e2
      obtain ⟨a, vs, o, rfl, ea, hv⟩ := rel_ls hx
      obtain ⟨b, ws, e4, rfl, eb, hw⟩ := hr.lst e2 hy
      exact op_catF pins s σ H _ _ v u _ I rx ry ⟨a, b, vs, ws, rfl, rfl, .inr ⟨o, ea⟩, .inl eb, by rw [← hv.length, ← hw.length]; exact h.1, fun p hp => UpF.list hr (hv.append hw) hp h.2⟩
    · exact h.elim
  · split at h
    · rename_i e1
      obtain ⟨a, vs, e3, rfl, ea, hv⟩ := hr.lst e1 hx
      obtain ⟨b, ws, o, rfl, eb, hw⟩ := rel_ls hy
      exact op_catF pins s σ H _ _ v u _ I rx ry ⟨a, b, vs, ws, rfl, rfl, .inl ea, .inr ⟨o, eb⟩, by rw [← hv.length, ← hw.length]; exact h.1, fun p hp => UpF.list hr (hv.append hw) hp h.2⟩
    · exact h.elim
  · split at h
    · rename_i e1 e2
      obtain ⟨a, vs, e3, rfl, ea, hv⟩ := hr.lst e1 hx
      obtain ⟨b, ws, e4, rfl, eb, hw⟩ := hr.lst e2 hy
      exact op_catF pins s σ H _ _ v u _ I rx ry ⟨a, b, vs, ws, rfl, rfl, .inl ea, .inl eb, by rw [← hv.length, ← hw.length]; exact h.1, fun p hp => UpF.list hr (hv.append hw) hp h.2⟩
    · exact h.elim
  · cases rel_int hx; cases rel_int hy
    exact op_sub pins s σ H _ _ v u _ I rx ry ⟨_, _, rfl, rfl, .mk to_int hr h⟩
  · cases rel_int hx; cases rel_int hy
    obtain ⟨h1 | h1, h⟩ := h
    · exact op_mul pins s σ H _ _ v u _ I rx ry ⟨_, _, rfl, rfl, h1, .mk to_int hr h⟩
    · exact op_mulW pins s σ H _ _ v u _ I rx ry ⟨_, _, rfl, rfl, h1, .mk to_int hr h⟩
  · obtain ⟨a, vs, o, rfl, ea, hv⟩ := rel_ls hx
    cases rel_int hy
    exact op_repF pins s σ H _ _ v u _ I rx ry ⟨a, _, vs, rfl, rfl, .inr ⟨o, ea⟩, h.1, h.2.1, by rw [← hv.length]; exact h.2.2.1, fun p hp => UpF.list hr (rep_rel hv _) hp h.2.2.2⟩
  · obtain ⟨a, vs, rfl, hs, hv⟩ := rel_tup hx
    cases rel_int hy
    obtain ⟨h1, h2, h3, h4, h5⟩ := h
    refine op_repT pins s σ H _ _ v u _ I rx ry ⟨a, _, vs, rfl, rfl, hs, fun e => h1 ?_, h2, h3, by rw [← hv.length]; exact h4, fun p hp => UpF.tuple hr (rep_rel hv _) hp h5⟩
    have e2 := hv.length
    rw [e] at e2
    exact List.length_eq_zero_iff.mp e2
  · cases rel_int hx; cases rel_int hy
    obtain ⟨h0, h1 | h1, h⟩ := h
    · exact op_fdiv pins s σ H _ _ v u _ I rx ry ⟨_, _, rfl, rfl, ⟨h0, h1⟩, .mk to_int hr h⟩
    · exact op_fdivW pins s σ H _ _ v u _ I rx ry ⟨_, _, rfl, rfl, ⟨h0, h1⟩, .mk to_int hr h⟩
  · cases rel_int hx; cases rel_int hy
    exact op_mod pins s σ H _ _ v u _ I rx ry ⟨_, _, rfl, rfl, h.1, .mk to_int hr h.2⟩
  · cases rel_int hx; cases rel_int hy
    exact op_pow pins s σ H _ _ v u _ I rx ry ⟨_, _, rfl, rfl, h.1, .mk to_int hr h.2⟩
  · cases rel_int hx; cases rel_int hy
    exact op_shl pins s σ H _ _ v u _ I rx ry ⟨_, _, rfl, rfl, h.1, .mk to_int hr h.2⟩
  · cases rel_int hx; cases rel_int hy
    exact op_shr pins s σ H _ _ v u _ I rx ry ⟨_, _, rfl, rfl, h.1, .mk to_int hr h.2⟩
  · exact h.elim
end
end Px
end TextPx3

section TextPx4
set_option autoImplicit false
set_option maxRecDepth 100000
set_option maxHeartbeats 2000000
/-! Px4: comparisons, subscripts, slices, stores by values. -/
namespace Px
open PySem PySem.Spec PyProof.Rows L2

section
variable {K : PySem.W.Frag} {μ : List Addr} {H : Hp} {A : Ht}
mutual
theorem dp_of {f : Nat → Option PyData} (hf : ∀ n p v, f n = some p → RelD K μ H (.obj n) v → Dp K H v p) : ∀ (d : D) (p : PyData) (v : V), toPw f d = some p → RelD K μ H d v → Dp K H v p
  | .non, p, v, h, r => by simp only [toPw, Option.some.injEq] at h; subst h; cases rel_non r; exact .non
  | .bl b, p, v, h, r => by simp only [toPw, Option.some.injEq] at h; subst h; cases rel_bl r; exact .bl b
  | .int b, p, v, h, r => by simp only [toPw, Option.some.injEq] at h; subst h; cases rel_int r; exact .int b
  | .str b, p, v, h, r => by simp only [toPw, Option.some.injEq] at h; subst h; cases rel_str r; exact .str b
  | .tup ds, p, v, h, r => by
    simp only [toPw, Option.map_eq_some_iff] at h
    obtain ⟨ps, hp, rfl⟩ := h
    obtain ⟨a, vs, rfl, hs, hv⟩ := rel_tup r
    exact .tup hs (dps_of hf ds ps vs hp hv)
  | .obj n, p, v, h, r => hf n p v (by simpa only [toPw] using h) r
  | .ls ds, p, v, h, r => by
    simp only [toPw, Option.map_eq_some_iff] at h
    obtain ⟨ps, hp, rfl⟩ := h
    obtain ⟨a, vs, o, rfl, hs, hv⟩ := rel_ls r
    exact .lst (.inl (.inr ⟨o, hs⟩)) (dps_of hf ds ps vs hp hv)
  | .exn _ _ _, p, v, h, r => by simp only [toPw] at h; cases h
theorem dps_of {f : Nat → Option PyData} (hf : ∀ n p v, f n = some p → RelD K μ H (.obj n) v → Dp K H v p) : ∀ (ds : List D) (ps : List PyData) (vs : List V), toPws f ds = some ps → RelDs K μ H ds vs → DpAll K H vs ps
  | [], ps, vs, h, r => by
    simp only [toPws, Option.some.injEq] at h; subst h
    rw [RelDs.nil_iff.mp r]; exact .nil
  | d :: ds, ps, vs, h, r => by
    simp only [toPws, Option.bind_eq_some_iff, Option.map_eq_some_iff] at h
    obtain ⟨p, hp, q, hq, rfl⟩ := h
    obtain ⟨v, t, rfl, r1, r2⟩ := RelDs.cons_iff.mp r
    exact .cons (dp_of hf d p v hp r1) (dps_of hf ds q t hq r2)
end
theorem mapM_all {f : D → Option PyData} (hf : ∀ d p v, f d = some p → RelD K μ H d v → Dp K H v p) : ∀ (ds : List D) (ps : List PyData) (vs : List V), ds.mapM f = some ps → RelDs K μ H ds vs → DpAll K H vs ps
  | [], ps, vs, h, r => by
    have h' : ps = [] := by simpa using h.symm
    subst h'
    rw [RelDs.nil_iff.mp r]; exact .nil
  | d :: ds, ps, vs, h, r => by
    rw [List.mapM_cons] at h
    cases hp : f d with
    | none => rw [hp] at h; simp at h
    | some p =>
      cases hq : ds.mapM f with
      | none => rw [hp, hq] at h; simp at h
      | some q =>
        rw [hp, hq] at h
        have h' : p :: q = ps := by simpa using h
        subst h'
        obtain ⟨v, t, rfl, r1, r2⟩ := RelDs.cons_iff.mp r
        exact .cons (hf d p v hp r1) (mapM_all hf ds q t hq r2)
theorem dp_toP (hr : HR K μ A H) : ∀ (k : Nat) (d : D) (p : PyData) (v : V), toP k A d = some p → RelD K μ H d v → Dp K H v p
  | 0, d, p, v, h, r => dp_of (fun n p v h => by cases h) d p v h r
  | k + 1, d, p, v, h, r => by
    refine dp_of (fun n p v h r => ?_) d p v h r
    split at h
    · rename_i ds e
      obtain ⟨ps, hp, rfl⟩ := Option.map_eq_some_iff.mp h
      obtain ⟨a, vs, _, rfl, ea, hv⟩ := hr.lst e r
      exact .lst (.inl (.inl ea)) (mapM_all (fun d p v => dp_toP hr k d p v) ds ps vs hp hv)
    · rename_i ds e
      obtain ⟨ps, hp, rfl⟩ := Option.map_eq_some_iff.mp h
      obtain ⟨a, vs, _, rfl, ⟨o, ea⟩, hv⟩ := hr.ro e r
      exact .lst (.inl (.inr ⟨o, ea⟩)) (mapM_all (fun d p v => dp_toP hr k d p v) ds ps vs hp hv)
    · cases h
end
section
variable {X : Cx}
/-- comparisons end with a truth value, the objects stay -/
theorem up_bl {K : PySem.W.Frag} {μ : List Addr} {H : Hp} {A : Ht} {Q : D → Ht → Prop} {b : Bool} (hr : HR K μ A H) (q : Q (.bl b) A) : Up K μ H Q (.bl b) H := .mk to_bl hr q
def isBlV (b : Bool) : V → Bool
  | .bl a => a == b
  | _ => false
theorem is_bl_gen {M : Model} {Ar : Around} {E : Value → Shared → Prop} {s : Shared} {Q : Value → Shared → Prop} {x : V} {v : Value} {b : Bool} (r : RelV x v)
    (h : Q (.bool (isBlV b x)) s) : wpAny M Ar (compareOp .Is v (.bool b)) Q E s := by
  cases x with
  | bl a =>
    cases r
    by_cases e : a = b
    · subst e; exact wpAny_is_self rfl (by simpa [isBlV] using h)
    · have e' : (a == b) = false := by simpa using e
      exact wpAny_is_other rfl (fun z => e (Value.bool.inj z)) (by simp only [isBlV, e'] at h; exact h)
  | non => cases r; exact wpAny_is_other rfl (fun z => nomatch z) h
  | int i => obtain ⟨t, rfl⟩ := r; exact wpAny_is_other rfl (fun z => nomatch z) h
  | str i => obtain ⟨t, rfl⟩ := r; exact wpAny_is_other rfl (fun z => nomatch z) h
  | byt i => obtain ⟨t, rfl⟩ := r; exact wpAny_is_other rfl (fun z => nomatch z) h
  | flt i => obtain ⟨t, rfl⟩ := r; exact wpAny_is_other rfl (fun z => nomatch z) h
  | ref a => cases r; exact wpAny_is_other rfl (fun z => nomatch z) h
  | ty n => cases r; exact wpAny_is_other rfl (fun z => nomatch z) h
theorem isnot_bl_gen {M : Model} {Ar : Around} {E : Value → Shared → Prop} {s : Shared} {Q : Value → Shared → Prop} {x : V} {v : Value} {b : Bool} (r : RelV x v)
    (h : Q (.bool (!(isBlV b x))) s) : wpAny M Ar (compareOp .IsNot v (.bool b)) Q E s := by
  cases x with
  | bl a =>
    cases r
    by_cases e : a = b
    · subst e; exact wpAny_isNot_self rfl (by simpa [isBlV] using h)
    · have e' : (a == b) = false := by simpa using e
      exact wpAny_isNot_other rfl (fun z => e (Value.bool.inj z)) (by simp only [isBlV, e'] at h; exact h)
  | non => cases r; exact wpAny_isNot_other rfl (fun z => nomatch z) h
  | int i => obtain ⟨t, rfl⟩ := r; exact wpAny_isNot_other rfl (fun z => nomatch z) h
  | str i => obtain ⟨t, rfl⟩ := r; exact wpAny_isNot_other rfl (fun z => nomatch z) h
  | byt i => obtain ⟨t, rfl⟩ := r; exact wpAny_isNot_other rfl (fun z => nomatch z) h
  | flt i => obtain ⟨t, rfl⟩ := r; exact wpAny_isNot_other rfl (fun z => nomatch z) h
  | ref a => cases r; exact wpAny_isNot_other rfl (fun z => nomatch z) h
  | ty n => cases r; exact wpAny_isNot_other rfl (fun z => nomatch z) h
theorem rel_bl_val {K : PySem.W.Frag} {μ : List Addr} {H : Hp} {d : D} {x : V} (r : RelD K μ H d x) (b : Bool) : isBlD b d = (isBlV b x) := by
  cases d with
  | non => cases rel_non r; rfl
  | bl _ => cases rel_bl r; rfl
  | int _ => cases rel_int r; rfl
  | str _ => cases rel_str r; rfl
  | tup _ => obtain ⟨a, vs, rfl, _⟩ := rel_tup r; rfl
  | obj _ => obtain ⟨a, _, rfl⟩ := rel_obj r; rfl
  | rol _ => obtain ⟨a, vs, rfl, _⟩ := rel_rol r; rfl
  | ls _ => obtain ⟨a, vs, o, rfl, _⟩ := rel_ls r; rfl
  | rg _ _ => obtain ⟨a, rfl, _⟩ := rel_rg r; rfl
  | exn _ _ _ => exact (no_exn r).elim
theorem rel_non_val {K : PySem.W.Frag} {μ : List Addr} {H : Hp} {d : D} {x : V} (r : RelD K μ H d x) : isNonD d = decide (x = .non) := by
  cases d with
  | non => cases rel_non r; rfl
  | bl _ => cases rel_bl r; rfl
  | int _ => cases rel_int r; rfl
  | str _ => cases rel_str r; rfl
  | tup _ => obtain ⟨a, vs, rfl, _⟩ := rel_tup r; rfl
  | obj _ => obtain ⟨a, _, rfl⟩ := rel_obj r; rfl
  | rol _ => obtain ⟨a, vs, rfl, _⟩ := rel_rol r; rfl
  | ls _ => obtain ⟨a, vs, o, rfl, _⟩ := rel_ls r; rfl
  | rg _ _ => obtain ⟨a, rfl, _⟩ := rel_rg r; rfl
  | exn _ _ _ => exact (no_exn r).elim

theorem eq_v (i j : Int) : decide (V.int i = V.int j) = decide (i = j) := by
  by_cases e : i = j
  · subst e; simp
  · simp [e]
theorem eq_s (i j : Str) : decide (V.str i = V.str j) = decide (i = j) := by
  by_cases e : i = j
  · subst e; simp
  · simp [e]
/-- == as in eqD: hands a truth value to what both == and != do with it -/
theorem sd_eq (hu : X.A.units + 64 < cLine) {μ : List Addr} {H : Hp} {A : Ht} {dx dy : D} {x y : V} {k : Bool → Prop} (hr : HR X.K μ A H) (hx : RelD X.K μ H dx x) (hy : RelD X.K μ H dy y) (h : eqD dx dy A k) :
    ∃ b, k b ∧ (∀ Q : VK, Q (.bl b) H → rEq x y H Q ∨ rEqD X.K x y H Q) ∧ (∀ Q : VK, Q (.bl (!b)) H → rNe x y H Q ∨ rNeD X.K x y H Q) := by
  unfold eqD at h
  split at h
  · cases rel_int hx; cases rel_int hy
    exact ⟨_, h, fun Q q => .inl ⟨rfl, by rw [eq_v]; exact q⟩, fun Q q => .inl ⟨rfl, by rw [eq_v]; exact q⟩⟩
  · cases rel_str hx; cases rel_str hy
    exact ⟨_, h, fun Q q => .inl ⟨rfl, by rw [eq_s]; exact q⟩, fun Q q => .inl ⟨rfl, by rw [eq_s]; exact q⟩⟩
  · split at h
    · rename_i p q e1 e2
      obtain ⟨s1, s2, h⟩ := h
      have d1 := dp_toP hr _ _ _ _ e1 hx
      have d2 := dp_toP hr _ _ _ _ e2 hy
      exact ⟨_, h, fun Q z => .inr ⟨_, _, d1, d2, s1, s2, z⟩, fun Q z => .inr ⟨_, _, d1, d2, s1, s2, z⟩⟩
    · exact h.elim
theorem flat_v {K : PySem.W.Frag} {μ : List Addr} {H : Hp} {d : D} {x : V} (r : RelD K μ H d x) (f : flatD d = true) : flatV x = true := by
  cases d with
  | non => cases rel_non r; rfl
  | bl _ => cases rel_bl r; rfl
  | int _ => cases rel_int r; rfl
  | str _ => cases rel_str r; rfl
  | _ => cases f
theorem eqF_v {K : PySem.W.Frag} {μ : List Addr} {H : Hp} {d e : D} {x y : V} (r : RelD K μ H d x) (q : RelD K μ H e y) (f : flatD d = true) (g : flatD e = true) : eqF d e = eqV x y := by
  cases d with
  | non => cases rel_non r; (cases e with
    | non => cases rel_non q; rfl
    | bl _ => cases rel_bl q; rfl
    | int _ => cases rel_int q; rfl
    | str _ => cases rel_str q; rfl
    | _ => cases g)
  | bl _ => cases rel_bl r; (cases e with
    | non => cases rel_non q; rfl
    | bl _ => cases rel_bl q; rfl
    | int _ => cases rel_int q; rfl
    | str _ => cases rel_str q; rfl
    | _ => cases g)
  | int _ => cases rel_int r; (cases e with
    | non => cases rel_non q; rfl
    | bl _ => cases rel_bl q; rfl
    | int _ => cases rel_int q; rfl
    | str _ => cases rel_str q; rfl
    | _ => cases g)
  | str _ => cases rel_str r; (cases e with
    | non => cases rel_non q; rfl
    | bl _ => cases rel_bl q; rfl
    | int _ => cases rel_int q; rfl
    | str _ => cases rel_str q; rfl
    | _ => cases g)
  | _ => cases f
theorem flats_v {K : PySem.W.Frag} {μ : List Addr} {H : Hp} : ∀ {ds : List D} {vs : List V}, RelDs K μ H ds vs → ds.all flatD = true → vs.all flatV = true
  | [], vs, r, _ => by rw [RelDs.nil_iff.mp r]; rfl
  | d :: ds, vs, r, f => by
    obtain ⟨v, t, rfl, r1, r2⟩ := RelDs.cons_iff.mp r
    simp only [List.all_cons, Bool.and_eq_true] at f ⊢
    exact ⟨flat_v r1 f.1, flats_v r2 f.2⟩
theorem any_v {K : PySem.W.Frag} {μ : List Addr} {H : Hp} {d : D} {x : V} (r : RelD K μ H d x) (f : flatD d = true) : ∀ {ds : List D} {vs : List V}, RelDs K μ H ds vs → ds.all flatD = true → (ds.any fun z => eqF z d) = inV x vs
  | [], vs, r, _ => by rw [RelDs.nil_iff.mp r]; rfl
  | e :: ds, vs, q, g => by
    obtain ⟨v, t, rfl, r1, r2⟩ := RelDs.cons_iff.mp q
    simp only [List.all_cons, Bool.and_eq_true] at g
    have ih := any_v r f r2 g.2
    unfold inV at ih ⊢
    rw [List.any_cons, List.any_cons, ih, eqF_v r1 r g.1 f]
theorem keyD_v {K : PySem.W.Frag} {μ : List Addr} {H : Hp} {d : D} {x : V} {k : Key} (r : RelD K μ H d x) (e : keyD d = some k) : x = kV k := by
  unfold keyD at e
  split at e
  · cases e; exact rel_int r
  · cases e; exact rel_str r
  · cases e
/-- a dict's places -/
theorem dic_look {K : PySem.W.Frag} {μ : List Addr} {H : Hp} {k : Key} : ∀ {kvs : List (Key × D)} {ws : List (Key × V)}, ws.map (·.1) = kvs.map (·.1) → RelDs K μ H (kvs.map (·.2)) (ws.map (·.2)) →
    (lookK kvs k = none ∧ L2.valV ws k = none) ∨ ∃ d v, lookK kvs k = some d ∧ L2.valV ws k = some v ∧ RelD K μ H d v
  | [], [], _, _ => .inl ⟨rfl, rfl⟩
  | [], _ :: _, e, _ => by simp at e
  | _ :: _, [], e, _ => by simp at e
  | (a, d) :: r, (b, v) :: t, e, q => by
    simp only [List.map_cons, List.cons.injEq] at e
    obtain ⟨e1, e2⟩ := e
    subst e1
    obtain ⟨v', t', e3, r1, r2⟩ := RelDs.cons_iff.mp q
    simp only [List.map_cons, List.cons.injEq] at e3
    obtain ⟨e4, e5⟩ := e3
    subst e4 e5
    by_cases hk : b = k
    · subst hk
      refine .inr ⟨d, v, ?_, L2.valV_pos rfl, r1⟩
      unfold lookK; rw [if_pos rfl]
    · rcases dic_look (k := k) e2 r2 with ⟨h1, h2⟩ | ⟨d', v', h1, h2, h3⟩
      · refine .inl ⟨?_, ?_⟩
        · unfold lookK
          rw [if_neg hk]
          exact h1
        · unfold L2.valV at h2 ⊢
          rw [List.find?_cons, show decide ((b, v).1 = k) = false from decide_eq_false hk]
          exact h2
      · refine .inr ⟨d', v', ?_, ?_, h3⟩
        · unfold lookK
          rw [if_neg hk]
          exact h1
        · unfold L2.valV at h2 ⊢
          rw [List.find?_cons, show decide ((b, v).1 = k) = false from decide_eq_false hk]
          exact h2
/-- in: a truth value for both in and not in -/
theorem sd_inF {pins : List (Addr × Obj)} {s : Shared} {σ : L2.St} (hu : X.A.units + 64 < cLine) {μ : List Addr} {H : Hp} {A : Ht} {dx dy : D} {x y : V} {v u : Value} {k : Bool → Prop} (I : Inv X pins σ H s) (rx : RelV x v) (ry : RelV y u) (hr : HR X.K μ A H) (hx : RelD X.K μ H dx x) (hy : RelD X.K μ H dy y) (h : inF dx dy A k) :
    ∃ b, k b ∧ (∀ Q : VK, Q (.bl b) H → wpAny (model X.prog X.w) X.A (compareOp .In v u) (EP X pins σ Q) X.xe s) ∧ (∀ Q : VK, Q (.bl (!b)) H → wpAny (model X.prog X.w) X.A (compareOp .NotIn v u) (EP X pins σ Q) X.xe s) := by
  unfold inF at h
  have sq : ∀ {a : Addr} {vs : List V} {ds : List D}, y = .ref a → (SqL X.K H a vs ∨ SqT X.K H a vs) → RelDs X.K μ H ds vs → flatD dx = true → ds.all flatD = true → k (ds.any fun z => eqF z dx) →
      ∃ b, k b ∧ (∀ Q : VK, Q (.bl b) H → wpAny (model X.prog X.w) X.A (compareOp .In v u) (EP X pins σ Q) X.xe s) ∧ (∀ Q : VK, Q (.bl (!b)) H → wpAny (model X.prog X.w) X.A (compareOp .NotIn v u) (EP X pins σ Q) X.xe s) := by
    intro a vs ds e hs hv f g q
    subst e
    have ea := any_v hx f hv g
    refine ⟨_, q, fun Q z => op_in_seq pins s σ H _ _ v u Q I rx ry ⟨a, vs, rfl, hs, flat_v hx f, flats_v hv g, ?_⟩, fun Q z => op_notIn_seq pins s σ H _ _ v u Q I rx ry ⟨a, vs, rfl, hs, flat_v hx f, flats_v hv g, ?_⟩⟩
    · rw [ea] at z; simpa using z
    · rw [ea] at z; simpa using z
  split at h
  · split at h
    · cases rel_str hx; cases rel_str hy
      exact ⟨_, h, fun Q q => op_in_str pins s σ H _ _ v u Q I rx ry ⟨_, _, rfl, rfl, q⟩, fun Q q => op_notin_str pins s σ H _ _ v u Q I rx ry ⟨_, _, rfl, rfl, q⟩⟩
    · exact h.elim
  · obtain ⟨a, vs, e, hs, hv⟩ := rel_tup hy
    exact sq e (.inr hs) hv h.1 h.2.1 h.2.2
  · obtain ⟨a, vs, o, e, hs, hv⟩ := rel_ls hy
    exact sq e (.inl (frz_sq hs)) hv h.1 h.2.1 h.2.2
  · split at h
    · rename_i e
      obtain ⟨a, vs, _, e', ea, hv⟩ := hr.lst e hy
      exact sq e' (.inl (.inl (.inl ea))) hv h.1 h.2.1 h.2.2
    · rename_i e
      obtain ⟨a, vs, _, e', ⟨o, ea⟩, hv⟩ := hr.ro e hy
      exact sq e' (.inl (.inl (.inr ⟨o, ea⟩))) hv h.1 h.2.1 h.2.2
    · rename_i kvs e
      split at h
      · rename_i q eq
        obtain ⟨a, ws, _, e', ea, hk, hv⟩ := hr.dic e hy
        subst e'
        cases ry
        have ex := keyD_v hx eq
        subst ex
        have g : DGet H a (kV q) (L2.valV ws q) := DGet.k ea
        have hu1 : X.A.units + 1 < cLine := by omega
        have same : (lookK kvs q).isSome = (L2.valV ws q).isSome := by
          rcases dic_look (k := q) hk hv with ⟨h1, h2⟩ | ⟨d', v', h1, h2, h3⟩
          · rw [h1, h2]; rfl
          · rw [h1, h2]; rfl
        refine ⟨_, h, fun Q z => d_in hu1 I g rx fun s3 I3 => ⟨.bl _, H, I3, rfl, by rw [← same]; exact z⟩, fun Q z => d_notIn hu1 I g rx fun s3 I3 => ⟨.bl _, H, I3, rfl, by rw [← same]; exact z⟩⟩
      · exact h.elim
    · exact h.elim
  · exact h.elim
theorem sd_in {pins : List (Addr × Obj)} {s : Shared} {σ : L2.St} (hu : X.A.units + 64 < cLine) {μ : List Addr} {H : Hp} {A : Ht} {dx dy : D} {x y : V} {v u : Value} {k : Bool → Prop} (I : Inv X pins σ H s) (rx : RelV x v) (ry : RelV y u) (hr : HR X.K μ A H) (hx : RelD X.K μ H dx x) (hy : RelD X.K μ H dy y) (h : inD dx dy A k) :
    ∃ b, k b ∧ (∀ Q : VK, Q (.bl b) H → wpAny (model X.prog X.w) X.A (compareOp .In v u) (EP X pins σ Q) X.xe s) ∧ (∀ Q : VK, Q (.bl (!b)) H → wpAny (model X.prog X.w) X.A (compareOp .NotIn v u) (EP X pins σ Q) X.xe s) := by
  unfold inD at h
  split at h
  · unfold inP at h
    split at h
    · rename_i p qs e1 e2
      have d1 := dp_toP hr _ _ _ _ e1 hx
      have d2 := dp_toP hr _ _ _ _ e2 hy
      obtain ⟨as, r1⟩ := Dp.reads I _ x v d1 rx
      obtain ⟨bs, r2⟩ := Dp.reads I _ y u d2 ry
      obtain ⟨sd, se, dl, q⟩ := h
      have room : X.A.units + 1 + min (PyData.depthAll qs) p.depth < cLine := by
        have := Nat.min_le_right (PyData.depthAll qs) p.depth
        omega
      exact ⟨_, q, fun Q z => SeqAt.in_list_reads r2 r1 (SeqAt.canLay_of_shaped se) (SeqAt.canLay_of_shaped sd) room ⟨.bl _, H, I, rfl, z⟩, fun Q z => SeqAt.notIn_list_reads r2 r1 (SeqAt.canLay_of_shaped se) (SeqAt.canLay_of_shaped sd) room ⟨.bl _, H, I, rfl, z⟩⟩
    · rename_i p qs e1 e2
      have d1 := dp_toP hr _ _ _ _ e1 hx
      have d2 := dp_toP hr _ _ _ _ e2 hy
      obtain ⟨as, r1⟩ := Dp.reads I _ x v d1 rx
      obtain ⟨bs, r2⟩ := Dp.reads I _ y u d2 ry
      obtain ⟨sd, se, dl, q⟩ := h
      have room : X.A.units + 1 + min (PyData.depthAll qs) p.depth < cLine := by
        have := Nat.min_le_right (PyData.depthAll qs) p.depth
        omega
      exact ⟨_, q, fun Q z => SeqAt.in_tuple_reads r2 r1 (SeqAt.canLay_of_shaped se) (SeqAt.canLay_of_shaped sd) room ⟨.bl _, H, I, rfl, z⟩, fun Q z => SeqAt.notIn_tuple_reads r2 r1 (SeqAt.canLay_of_shaped se) (SeqAt.canLay_of_shaped sd) room ⟨.bl _, H, I, rfl, z⟩⟩
    · exact h.elim
  · exact sd_inF hu I rx ry hr hx hy h
/-- a comparison, its answer a truth value -/
theorem sd_cmp (hu : X.A.units + 64 < cLine) (op : CmpOp) : OpR X (compareOp op) (rD2 X.K fun x y A Q => cmpD op x y A fun c => Q (.bl c) A) := by
  refine OpR.cases (d := fun x y A Q => cmpD op x y A fun c => Q (.bl c) A) fun pins s σ H x y v u μ A dx dy Q I rx ry hr hx hy h => ?_
  cases op with
  | Eq =>
    simp only [cmpD] at h
    obtain ⟨b, q, k1, _⟩ := sd_eq hu hr hx hy h
    rcases k1 _ (up_bl hr q) with z | z
    · exact op_eq pins s σ H _ _ v u _ I rx ry z
    · exact op_eqD hu pins s σ H _ _ v u _ I rx ry z
  | NotEq =>
    simp only [cmpD] at h
    obtain ⟨b, q, _, k1⟩ := sd_eq hu hr hx hy h
    rcases k1 _ (up_bl hr q) with z | z
    · exact op_ne pins s σ H _ _ v u _ I rx ry z
    · exact op_neD hu pins s σ H _ _ v u _ I rx ry z
  | In =>
    simp only [cmpD] at h
    obtain ⟨b, q, k1, _⟩ := sd_in hu I rx ry hr hx hy h
    exact k1 _ (up_bl hr q)
  | NotIn =>
    simp only [cmpD] at h
    obtain ⟨b, q, _, k1⟩ := sd_in hu I rx ry hr hx hy h
    exact k1 _ (up_bl hr q)
  | Is =>
    simp only [cmpD] at h
    unfold isD at h
    split at h
    · cases rel_non hy
      exact op_isN pins s σ H _ _ v u _ I rx ry ⟨rfl, up_bl hr (by rw [rel_non_val hx] at h; exact h)⟩
    · cases rel_bl hy
      cases ry
      exact is_bl_gen rx ⟨.bl _, H, I, rfl, up_bl hr (by rw [rel_bl_val hx] at h; exact h)⟩
    · exact h.elim
  | IsNot =>
    simp only [cmpD] at h
    unfold isD at h
    split at h
    · cases rel_non hy
      exact op_notN pins s σ H _ _ v u _ I rx ry ⟨rfl, up_bl hr (by rw [rel_non_val hx] at h; exact h)⟩
    · cases rel_bl hy
      cases ry
      exact isnot_bl_gen rx ⟨.bl _, H, I, rfl, up_bl hr (by rw [rel_bl_val hx] at h; exact h)⟩
    · exact h.elim
  | Lt =>
    simp only [cmpD] at h
    split at h
    · cases rel_int hx; cases rel_int hy
      exact op_lt pins s σ H _ _ v u _ I rx ry ⟨_, _, rfl, rfl, up_bl hr h⟩
    · cases rel_str hx; cases rel_str hy
      exact op_lt_str pins s σ H _ _ v u _ I rx ry ⟨_, _, rfl, rfl, up_bl hr h⟩
    · exact h.elim
  | LtE =>
    simp only [cmpD] at h
    split at h
    · cases rel_int hx; cases rel_int hy
      exact op_le pins s σ H _ _ v u _ I rx ry ⟨_, _, rfl, rfl, up_bl hr h⟩
    · cases rel_str hx; cases rel_str hy
      exact op_le_str pins s σ H _ _ v u _ I rx ry ⟨_, _, rfl, rfl, up_bl hr h⟩
    · exact h.elim
  | Gt =>
    simp only [cmpD] at h
    split at h
    · cases rel_int hx; cases rel_int hy
      exact op_gt pins s σ H _ _ v u _ I rx ry ⟨_, _, rfl, rfl, up_bl hr h⟩
    · cases rel_str hx; cases rel_str hy
      exact op_gt_str pins s σ H _ _ v u _ I rx ry ⟨_, _, rfl, rfl, up_bl hr h⟩
    · exact h.elim
  | GtE =>
    simp only [cmpD] at h
    split at h
    · cases rel_int hx; cases rel_int hy
      exact op_ge pins s σ H _ _ v u _ I rx ry ⟨_, _, rfl, rfl, up_bl hr h⟩
    · cases rel_str hx; cases rel_str hy
      exact op_ge_str pins s σ H _ _ v u _ I rx ry ⟨_, _, rfl, rfl, up_bl hr h⟩
    · exact h.elim
end
end Px
end TextPx4

section TextPx5
set_option autoImplicit false
set_option maxRecDepth 100000
set_option maxHeartbeats 2000000
/-! Px5: subscripts, slices, stores, truth, built-ins and methods by values. -/
namespace Px
open PySem PySem.Spec PyProof.Rows L2
section
variable {X : Cx}
theorem atI_rel {K : PySem.W.Frag} {μ : List Addr} {H : Hp} {ds : List D} {vs : List V} {i : Int} {d : D} (r : RelDs K μ H ds vs) (e : atI ds i = some d) : ∃ v, atI vs i = some v ∧ RelD K μ H d v := by
  unfold atI at e ⊢
  rw [← r.length]
  obtain ⟨j, e1, e2⟩ := Option.bind_eq_some_iff.mp e
  obtain ⟨v, e3, q⟩ := r.get e2
  exact ⟨v, by rw [e1]; exact e3, q⟩
theorem sd_ix (hu : X.A.units + 64 < cLine) : IxR X (rD2 X.K ixD) := by
  rintro value slice pins s σ H x y v u Q I rx ry ⟨μ, A, dx, dy, Q', hr, hx, hy, h, k⟩ hs
  unfold ixD at h
  split at h
  · cases rel_int hy
    obtain ⟨a, vs, rfl, hq, hv⟩ := rel_tup hx
    split at h
    · rename_i d e
      obtain ⟨w, ew, rw'⟩ := atI_rel hv e
      exact ix_tup value slice pins s σ H _ _ v u Q I rx ry ⟨a, vs, _, w, rfl, rfl, hq, ew, k _ _ (.mk rw' hr h)⟩ hs
    · exact h.elim
  · cases rel_int hy
    obtain ⟨a, vs, o, rfl, hq, hv⟩ := rel_ls hx
    split at h
    · rename_i d e
      obtain ⟨w, ew, rw'⟩ := atI_rel hv e
      exact ix_list value slice pins s σ H _ _ v u Q I rx ry ⟨a, vs, _, w, rfl, rfl, frz_sq hq, ew, k _ _ (.mk rw' hr h)⟩ hs
    · exact h.elim
  · cases rel_int hy; cases rel_str hx
    obtain ⟨hl, h⟩ := h
    split at h
    · rename_i c e
      exact ix_str value slice pins s σ H _ _ v u Q I rx ry ⟨_, _, c, rfl, rfl, hl, e, k _ _ (.mk to_str hr h)⟩ hs
    · exact h.elim
  · rename_i _ _ n
    have lst : ∀ {ds : List D} {i : Int}, (A[n]? = some (O.lst ds) ∨ A[n]? = some (O.ro ds)) → RelD X.K μ H (.int i) y → (match atI ds i with | some d => Q' d A | none => False) → wpAny (model X.prog X.w) X.A (subscriptTail value slice v u) (EP X pins σ Q) X.xe s := fun {ds i} e hy h => by
      obtain ⟨a, vs, _, rfl, hq, hv⟩ := hr.sq e hx
      cases rel_int hy
      split at h
      · rename_i d e
        obtain ⟨w, ew, rw'⟩ := atI_rel hv e
        exact ix_list value slice pins s σ H _ _ v u Q I rx ry ⟨a, vs, _, w, rfl, rfl, hq, ew, k _ _ (.mk rw' hr h)⟩ hs
      · exact h.elim
    split at h
    · rename_i e; exact lst (.inl e) hy h
    · rename_i e; exact lst (.inr e) hy h
    · rename_i kvs _ e
      obtain ⟨a, ws, _, rfl, ea, hk, hv⟩ := hr.dic e hx
      split at h
      · rename_i q eq
        have ey := keyD_v hy eq
        subst ey
        rcases dic_look (k := q) hk hv with ⟨h1, h2⟩ | ⟨d', v', h1, h2, h3⟩
        · rw [h1] at h; exact h.elim
        · rw [h1] at h
          have g : DGet H a (kV q) (some v') := by rw [← h2]; exact DGet.k ea
          cases rx
          refine tail_any (dict_typeIs I g) PySem.F.slot_dict_getitem.lookup (d_getItem (by omega) I g ry fun w' s3 I3 rw' => ⟨v', H, I3, rw', k _ _ (.mk h3 hr h)⟩) hs
      · exact h.elim
    · exact h.elim
  · exact h.elim
theorem cut_rel {K : PySem.W.Frag} {μ : List Addr} {H : Hp} {ds : List D} {vs : List V} (r : RelDs K μ H ds vs) (lo hi : Option Int) : RelDs K μ H (cutD ds lo hi) (cutV vs lo hi) := by
  unfold cutD cutV
  rw [← r.length]
  exact (r.drop _).take _
theorem sd_sl : SlR X (fun x lo hi H Q => ∃ μ A dx Q', HR X.K μ A H ∧ RelD X.K μ H dx x ∧ slD dx lo hi A Q' ∧ ∀ v H', UpF X.K μ H Q' v H' → Q v H') := by
  rintro pins s σ H x v vl vu lo hi sl Q I rx hs pl pu ⟨μ, A, dx, Q', hr, hx, h, k⟩
  unfold slD at h
  split at h
  · obtain ⟨a, vs, rfl, hq, hv⟩ := rel_tup hx
    refine sl_tupA pins s σ H _ v vl vu lo hi sl Q I rx hs pl pu ⟨a, vs, rfl, hq, fun e => ?_, fun _ p hp => k _ _ (UpF.tuple hr (cut_rel hv lo hi) hp h)⟩
    refine k _ _ (.mk (to_tup hq ?_) hr h)
    have c := cut_rel hv lo hi
    unfold cutV at c
    rw [e.1, e.2] at c
    simpa using c
  · cases rel_str hx
    exact sl_str pins s σ H _ v vl vu lo hi sl Q I rx hs pl pu ⟨_, rfl, h.1, k _ _ (.mk to_str hr h.2)⟩
  · obtain ⟨a, vs, o, rfl, hq, hv⟩ := rel_ls hx
    exact sl_list pins s σ H _ v vl vu lo hi sl Q I rx hs pl pu ⟨a, vs, rfl, frz_sq hq, fun p hp => k _ _ (UpF.list hr (cut_rel hv lo hi) hp h)⟩
  · split at h
    · rename_i e
      obtain ⟨a, vs, _, rfl, hq, hv⟩ := hr.sq (.inl e) hx
      exact sl_list pins s σ H _ v vl vu lo hi sl Q I rx hs pl pu ⟨a, vs, rfl, hq, fun p hp => k _ _ (UpF.list hr (cut_rel hv lo hi) hp h)⟩
    · rename_i e
      obtain ⟨a, vs, _, rfl, hq, hv⟩ := hr.sq (.inr e) hx
      exact sl_list pins s σ H _ v vl vu lo hi sl Q I rx hs pl pu ⟨a, vs, rfl, hq, fun p hp => k _ _ (UpF.list hr (cut_rel hv lo hi) hp h)⟩
    · exact h.elim
  · exact h.elim
/-- an object written: the new world -/
theorem HR.wr {K : PySem.W.Frag} {μ : List Addr} {H : Hp} {A : Ht} (hr : HR K μ A H) {n : Nat} {a : Addr} {vs vs' : List V} {ds' : List D} (en : μ[n]? = some a) (ea : H a = some (.lst vs)) (r : RelDs K μ H ds' vs') :
    Stp μ H μ (upd H a (.lst vs')) ∧ HR K μ (A.set n (.lst ds')) (upd H a (.lst vs')) := by
  have s : Stp μ H μ (upd H a (.lst vs')) := stp_write en ea (fun z => z)
  exact ⟨s, hr.write en ea (fun z => z) ⟨vs', rfl, r.mono s _ _⟩⟩
theorem dic_put {K : PySem.W.Frag} {μ : List Addr} {H : Hp} {k : Key} {d : D} {v : V} (q : RelD K μ H d v) : ∀ {kvs : List (Key × D)} {ws : List (Key × V)}, (kvs.map (·.1)).Nodup → ws.map (·.1) = kvs.map (·.1) → RelDs K μ H (kvs.map (·.2)) (ws.map (·.2)) →
    (L2.putK ws k v).map (·.1) = (putK kvs k d).map (·.1) ∧ RelDs K μ H ((putK kvs k d).map (·.2)) ((L2.putK ws k v).map (·.2)) := by
  intro kvs
  induction kvs with
  | nil =>
    intro ws _ e r
    have ew : ws = [] := by simpa using e
    subst ew
    refine ⟨by simp [L2.putK, putK], ?_⟩
    simp only [L2.putK, putK, List.any_nil, Bool.false_eq_true, if_false, List.nil_append, List.map_cons, List.map_nil]
    exact .cons q .nil
  | cons p r ih =>
    obtain ⟨j, e0⟩ := p
    intro ws nd e hr
    cases ws with
    | nil => simp at e
    | cons w t =>
      obtain ⟨j', v0⟩ := w
      simp only [List.map_cons, List.cons.injEq] at e
      obtain ⟨e1, e2⟩ := e
      subst e1
      obtain ⟨v', t', e3, r1, r2⟩ := RelDs.cons_iff.mp hr
      simp only [List.map_cons, List.cons.injEq] at e3
      obtain ⟨e4, e5⟩ := e3
      subst e4 e5
      simp only [List.map_cons, List.nodup_cons] at nd
      by_cases hk : j' = k
      · subst hk
        have nk : ∀ kv ∈ t, kv.1 ≠ j' := fun kv hkv z => nd.1 (by rw [← e2, ← z]; exact List.mem_map_of_mem hkv)
        have et : t.map (fun kv => if kv.1 = j' then (kv.1, v) else kv) = t := by
          conv => rhs; rw [← List.map_id t]
          exact List.map_congr_left fun kv hkv => if_neg (nk kv hkv)
        have eL : L2.putK ((j', v0) :: t) j' v = (j', v) :: t := by
          unfold L2.putK
          rw [if_pos (by simp)]
          rw [List.map_cons, et]; simp
        have eR : putK ((j', e0) :: r) j' d = (j', d) :: r := by unfold putK; rw [if_pos rfl]
        rw [eL, eR]
        exact ⟨by simp [e2], .cons q r2⟩
      · obtain ⟨i1, i2⟩ := ih (ws := t) nd.2 e2 r2
        have eL : L2.putK ((j', v0) :: t) k v = (j', v0) :: L2.putK t k v := by
          unfold L2.putK
          simp only [List.any_cons, decide_eq_false hk, Bool.false_or, List.map_cons, if_neg hk]
          split <;> simp
        have eR : putK ((j', e0) :: r) k d = (j', e0) :: putK r k d := by
          conv => lhs; unfold putK
          rw [if_neg hk]
        rw [eL, eR]
        simp only [List.map_cons]
        exact ⟨by rw [i1], .cons r1 i2⟩
theorem kv_keys {kvs : List (Key × V)} {vs : List (Key × Value)} (r : KV kvs vs) : kvs.map (·.1) = vs.map (·.1) := by
  induction r with
  | nil => rfl
  | cons h t ih => simp [h.1, ih]
/-- what the key list of a tracked dict says -/
theorem dk_nodup {P : Program} {w : World} {H : Hp} {h : Heap} {a : Addr} {kvs : List (Key × V)} (x : ObjOk P w H h a (.dK kvs)) : (kvs.map (·.1)).Nodup := by
  obtain ⟨_, _, vs, r, o, es, ep, d⟩ := x
  rw [kv_keys r]
  first | exact d.2.2.2.2.2 | exact d.2.2.2.2.1 | exact d.2.2.2.2 | exact d.2.2.2.1 | exact d.2.2.2
theorem sd_set {pins : List (Addr × Obj)} {s : Shared} {σ : L2.St} (hu : X.A.units + 64 < cLine) {μ : List Addr} {H : Hp} {A : Ht} {do' di dv : D} {o i x : V} {ov iv u : Value} {k : Ht → Prop} (I : Inv X pins σ H s) (ro : RelV o ov) (ri : RelV i iv) (rv : RelV x u)
    (hr : HR X.K μ A H) (ho : RelD X.K μ H do' o) (hi : RelD X.K μ H di i) (hv : RelD X.K μ H dv x) (h : setD do' di dv A k) :
    wpAny (model X.prog X.w) X.A (setItem ov iv u) (fun _ s' => ∃ H' A', Inv X pins σ H' s' ∧ Stp μ H μ H' ∧ HR X.K μ A' H' ∧ k A') X.xe s := by
  unfold setD at h
  split at h
  · split at h
    · rename_i e
      split at h
      · split at h
        · rename_i j m ej
          obtain ⟨a, vs, en, rfl, ea, hvs⟩ := hr.lst e ho
          cases rel_int hi
          obtain ⟨s1, h1⟩ := hr.wr en ea (RelDs.set hv m hvs)
          exact thn (set_list pins s σ H _ _ _ ov iv u (fun H' => H' = upd H a (.lst (vs.set m x))) I ro ri rv ⟨a, vs, _, m, rfl, rfl, ea, by rw [← hvs.length]; exact ej, rfl⟩) fun _ s2 ⟨H', I2, e2⟩ => ⟨H', _, I2, by rw [e2]; exact s1, by rw [e2]; exact h1, h⟩
        · exact h.elim
      · exact h.elim
    · rename_i kvs e
      split at h
      · rename_i q eq
        obtain ⟨a, ws, en, rfl, ea, hk, hvs⟩ := hr.dic e ho
        have ei := keyD_v hi eq
        subst ei
        have nd : (kvs.map (·.1)).Nodup := by rw [← hk]; exact dk_nodup (show ObjOk X.prog X.w H s.heap a (.dK ws) from I.hok a _ ea)
        obtain ⟨p1, p2⟩ := dic_put (k := q) hv nd hk hvs
        have hl : ws.length < sizeLine := by
          have := congrArg List.length hk
          simp only [List.length_map] at this
          rw [this]; exact h.1
        have g : DPut H a (kV q) x (upd H a (.dK (L2.putK ws q x))) := DPut.k ea hl
        have s1 : Stp μ H μ (upd H a (.dK (L2.putK ws q x))) := stp_write en ea (fun z => z)
        cases ro
        refine d_setItem (by omega) I g ri rv fun s3 I3 => ⟨_, _, I3, s1, hr.write (o := .dic (putK kvs q dv)) en ea (fun z => z) ⟨_, rfl, p1, p2.mono s1 _ _⟩, h.2⟩
      · exact h.elim
    · exact h.elim
  · exact h.elim
theorem isE {α : Type} {β : Type} {l : List α} {m : List β} (h : l.length = m.length) : l.isEmpty = m.isEmpty := by
  cases l <;> cases m <;> simp at h ⊢
theorem sd_tru {μ : List Addr} {H : Hp} {A : Ht} {d : D} {x : V} {k : Bool → Prop} (hr : HR X.K μ A H) (hx : RelD X.K μ H d x) (h : truD d A k) : ∃ b, TruV X.K x H b ∧ k b := by
  unfold truD at h
  split at h
  · cases rel_bl hx; exact ⟨_, rfl, h⟩
  · cases rel_non hx; exact ⟨_, rfl, h⟩
  · cases rel_int hx; exact ⟨_, rfl, h⟩
  · cases rel_str hx; exact ⟨_, ⟨h.1, rfl⟩, h.2⟩
  · obtain ⟨a, vs, rfl, hq, hv⟩ := rel_tup hx
    exact ⟨_, .inr (.inl ⟨vs, hq, by rw [isE hv.length]⟩), h⟩
  · split at h
    · rename_i e
      obtain ⟨a, vs, _, rfl, hq, hv⟩ := hr.sq (.inl e) hx
      exact ⟨_, .inl ⟨vs, hq, by rw [isE hv.length]⟩, h⟩
    · rename_i e
      obtain ⟨a, vs, _, rfl, hq, hv⟩ := hr.sq (.inr e) hx
      exact ⟨_, .inl ⟨vs, hq, by rw [isE hv.length]⟩, h⟩
    · rename_i kvs e
      obtain ⟨a, ws, _, rfl, ea, hk, hv⟩ := hr.dic e hx
      have hl : kvs.length = ws.length := by have := congrArg List.length hk; simpa using this.symm
      exact ⟨_, .inr (.inr ⟨ws, ea, by rw [isE hl]⟩), h⟩
    · exact h.elim
  · obtain ⟨a, vs, rfl, hq, hv⟩ := rel_rol hx
    exact ⟨_, .inl ⟨vs, hq.sq, by rw [isE hv.length]⟩, h⟩
  · obtain ⟨a, vs, o, rfl, hq, hv⟩ := rel_ls hx
    exact ⟨_, .inl ⟨vs, frz_sq hq, by rw [isE hv.length]⟩, h⟩
  · exact h.elim
  · exact h.elim
/-! ### isinstance -/
def tyN : TI' → String
  | .int => "int" | .bool => "bool" | .str => "str" | .tuple => "tuple" | .list => "list" | .dict => "dict"
theorem kit_all (a : String) (t : TI') (b : Bool) (h : kitB a (tyN t) = some b) {K : PySem.W.Frag} : PySem.W.kitOne K (.type a) (.type (tyN t)) = some b := kit_ty h
theorem sq_ty {K : PySem.W.Frag} {H : Hp} {a : Addr} {vs : List V} (h : SqT K H a vs) : TyX K H (.ref a) (.type "tuple") := by
  rcases h with (h | ⟨o, h⟩) | ⟨o, its, n, h1, h2, _⟩
  · exact .base (.tup h)
  · exact .fTuple h
  · exact .kTuple h1 h2
theorem sl_ty {K : PySem.W.Frag} {H : Hp} {a : Addr} {vs : List V} (h : SqL K H a vs) : TyX K H (.ref a) (.type "list") := by
  rcases h with (h | ⟨o, h⟩) | ⟨o, its, n, h1, h2, _⟩
  · exact .base (.lst h)
  · exact .base (.frz h)
  · exact .kList h1 h2
theorem sd_isi {μ : List Addr} {H : Hp} {A : Ht} {d : D} {x : V} {t : TI'} {b : Bool} (hr : HR X.K μ A H) (hx : RelD X.K μ H d x) (h : isiD A d t = some b) :
    ∃ ty, TyX X.K H x ty ∧ PySem.W.kitOne X.K ty (.type (tyN t)) = some b := by
  unfold isiD at h
  split at h
  · cases rel_int hx; cases h
    exact ⟨_, .base (.int _), kit_all "int" t _ (by cases t <;> decide +kernel)⟩
  · cases rel_bl hx; cases h
    exact ⟨_, .base (.bl _), kit_all "bool" t _ (by cases t <;> decide +kernel)⟩
  · cases rel_str hx; cases h
    exact ⟨_, .base (.str _), kit_all "str" t _ (by cases t <;> decide +kernel)⟩
  · obtain ⟨a, vs, rfl, hq, hv⟩ := rel_tup hx; cases h
    exact ⟨_, sq_ty hq, kit_all "tuple" t _ (by cases t <;> decide +kernel)⟩
  · cases rel_non hx; cases h
    exact ⟨_, .base .non, kit_all "NoneType" t _ (by cases t <;> decide +kernel)⟩
  · split at h
    · rename_i e
      obtain ⟨a, vs, _, rfl, hq, hv⟩ := hr.sq (.inl e) hx; cases h
      exact ⟨_, sl_ty hq, kit_all "list" t _ (by cases t <;> decide +kernel)⟩
    · rename_i e
      obtain ⟨a, vs, _, rfl, hq, hv⟩ := hr.sq (.inr e) hx; cases h
      exact ⟨_, sl_ty hq, kit_all "list" t _ (by cases t <;> decide +kernel)⟩
    · rename_i kvs e
      obtain ⟨a, ws, _, rfl, ea, hk, hv⟩ := hr.dic e hx; cases h
      exact ⟨_, .base (.dK ea), kit_all "dict" t _ (by cases t <;> decide +kernel)⟩
    · cases h
  · obtain ⟨a, vs, rfl, hq, hv⟩ := rel_rol hx; cases h
    exact ⟨_, sl_ty hq.sq, kit_all "list" t _ (by cases t <;> decide +kernel)⟩
  · obtain ⟨a, vs, o, rfl, hq, hv⟩ := rel_ls hx; cases h
    exact ⟨_, sl_ty (frz_sq hq), kit_all "list" t _ (by cases t <;> decide +kernel)⟩
  · cases h
  · cases h
end
end Px
end TextPx5

section TextPx6
set_option autoImplicit false
set_option maxRecDepth 100000
set_option maxHeartbeats 2000000
/-! Px6: built-ins and methods by values. -/
namespace Px
open PySem PySem.Spec PyProof.Rows L2
section
variable {X : Cx}
theorem ints_rel {K : PySem.W.Frag} {μ : List Addr} {H : Hp} : ∀ {ds : List D} {ns : List Int} {vs : List V}, intsD ds = some ns → RelDs K μ H ds vs → vs = ns.map V.int
  | [], ns, vs, e, r => by
    simp only [intsD, Option.some.injEq] at e; subst e
    rw [RelDs.nil_iff.mp r]; rfl
  | d :: ds, ns, vs, e, r => by
    obtain ⟨v, t, rfl, r1, r2⟩ := RelDs.cons_iff.mp r
    cases d with
    | int i =>
      simp only [intsD, Option.map_eq_some_iff] at e
      obtain ⟨q, e1, rfl⟩ := e
      rw [rel_int r1, ints_rel e1 r2]; rfl
    | _ => simp [intsD] at e
theorem bls_rel {K : PySem.W.Frag} {μ : List Addr} {H : Hp} : ∀ {ds : List D} {ns : List Bool} {vs : List V}, blsD ds = some ns → RelDs K μ H ds vs → vs = ns.map V.bl
  | [], ns, vs, e, r => by
    simp only [blsD, Option.some.injEq] at e; subst e
    rw [RelDs.nil_iff.mp r]; rfl
  | d :: ds, ns, vs, e, r => by
    obtain ⟨v, t, rfl, r1, r2⟩ := RelDs.cons_iff.mp r
    cases d with
    | bl i =>
      simp only [blsD, Option.map_eq_some_iff] at e
      obtain ⟨q, e1, rfl⟩ := e
      rw [rel_bl r1, bls_rel e1 r2]; rfl
    | _ => simp [blsD] at e
theorem strs_rel {K : PySem.W.Frag} {μ : List Addr} {H : Hp} : ∀ {ds : List D} {ns : List Str} {vs : List V}, strsD ds = some ns → RelDs K μ H ds vs → vs = ns.map V.str
  | [], ns, vs, e, r => by
    simp only [strsD, Option.some.injEq] at e; subst e
    rw [RelDs.nil_iff.mp r]; rfl
  | d :: ds, ns, vs, e, r => by
    obtain ⟨v, t, rfl, r1, r2⟩ := RelDs.cons_iff.mp r
    cases d with
    | str i =>
      simp only [strsD, Option.map_eq_some_iff] at e
      obtain ⟨q, e1, rfl⟩ := e
      rw [rel_str r1, strs_rel e1 r2]; rfl
    | _ => simp [strsD] at e
theorem rel_ints {K : PySem.W.Frag} {μ : List Addr} {H : Hp} : ∀ ns : List Int, RelDs K μ H (ns.map D.int) (ns.map V.int)
  | [] => .nil
  | n :: ns => .cons to_int (rel_ints ns)
theorem rel_strs {K : PySem.W.Frag} {μ : List Addr} {H : Hp} : ∀ ns : List Str, RelDs K μ H (ns.map D.str) (ns.map V.str)
  | [] => .nil
  | n :: ns => .cons to_str (rel_strs ns)
theorem keysI_eq : ∀ {kvs : List (Key × D)} {ns : List Int}, keysI kvs = some ns → kvs.map (·.1) = ns.map Sum.inl
  | [], ns, e => by simp only [keysI, Option.some.injEq] at e; subst e; rfl
  | (.inl i, d) :: r, ns, e => by
    simp only [keysI, Option.map_eq_some_iff] at e
    obtain ⟨q, e1, rfl⟩ := e
    rw [List.map_cons, keysI_eq e1]; rfl
  | (.inr i, d) :: r, ns, e => by simp [keysI] at e
theorem isort_perm (ns : List Int) : (isort ns).Perm ns := List.mergeSort_perm _ _
theorem isort_sorted (ns : List Int) : (isort ns).Pairwise (· ≤ ·) := by
  have h := List.pairwise_mergeSort (le := fun (a b : Int) => decide (a ≤ b)) (fun a b c h1 h2 => by simp at *; omega) (fun a b => by simp; omega) ns
  exact h.imp fun h => by simpa using h
theorem isort_unique {ns ns' : List Int} (h : ns'.Perm ns) (s : ns'.Pairwise (· ≤ ·)) : ns' = isort ns :=
  PySem.W.ksm_same (h.trans (isort_perm ns).symm) s (isort_sorted ns)
def needCalm : BI → Bool
  | .min => true | .max => true | .sum => true | .all => true | .any => true | .list => true | .sorted => true
  | _ => false
/-- what stands behind a built-in's name -/
def biV : BI → Value
  | .len => .builtin "len" | .int => .type "int" | .abs => .builtin "abs" | .min => .builtin "min" | .max => .builtin "max" | .tuple => .type "tuple" | .list => .type "list"
  | .str => .type "str" | .sorted => .builtin "sorted" | .sum => .builtin "sum" | .all => .builtin "all" | .any => .builtin "any" | .range => .type "range"
theorem rel1 {K : PySem.W.Frag} {μ : List Addr} {H : Hp} {d : D} {xs : List V} (r : RelDs K μ H [d] xs) : ∃ v, xs = [v] ∧ RelD K μ H d v := by
  obtain ⟨v, t, rfl, r1, r2⟩ := RelDs.cons_iff.mp r
  rw [RelDs.nil_iff.mp r2]; exact ⟨v, rfl, r1⟩
theorem rel2 {K : PySem.W.Frag} {μ : List Addr} {H : Hp} {d e : D} {xs : List V} (r : RelDs K μ H [d, e] xs) : ∃ v w, xs = [v, w] ∧ RelD K μ H d v ∧ RelD K μ H e w := by
  obtain ⟨v, t, rfl, r1, r2⟩ := RelDs.cons_iff.mp r
  obtain ⟨w, rfl, r3⟩ := rel1 r2
  exact ⟨v, w, rfl, r1, r3⟩
theorem rel0 {K : PySem.W.Frag} {μ : List Addr} {H : Hp} {xs : List V} (r : RelDs K μ H [] xs) : xs = [] := RelDs.nil_iff.mp r
theorem keys_rel {K : PySem.W.Frag} {μ : List Addr} {H : Hp} : ∀ {kvs : List (Key × D)} {ws : List (Key × V)}, ws.map (·.1) = kvs.map (·.1) →
    RelDs K μ H (kvs.map fun p => match p.1 with | .inl i => D.int i | .inr s => D.str s) (ws.map fun kv => kV kv.1)
  | [], [], _ => .nil
  | [], _ :: _, e => by simp at e
  | _ :: _, [], e => by simp at e
  | (a, d) :: r, (b, v) :: t, e => by
    simp only [List.map_cons, List.cons.injEq] at e
    obtain ⟨e1, e2⟩ := e
    subst e1
    refine .cons ?_ (keys_rel e2)
    cases b with
    | inl i => exact to_int
    | inr s => exact to_str
theorem sd_bi (b : BI) (hc : needCalm b = true → X.calm = true) : CallR X (biV b) (rDn X.K (biD b)) := by
  rintro pins s σ H xs us Q I rs ⟨μ, A, ds, Q', hr, hd, h, k⟩
  unfold biD at h
  split at h
  · obtain ⟨v, rfl, r1⟩ := rel1 hd; cases rel_str r1
    exact call_len_str pins s σ H _ us Q I rs ⟨_, rfl, h.1, k _ _ (.mk to_int hr h.2)⟩
  · obtain ⟨v, rfl, r1⟩ := rel1 hd
    obtain ⟨a, vs, rfl, hq, hv⟩ := rel_tup r1
    exact call_len_seq pins s σ H _ us Q I rs ⟨a, vs, rfl, .inr hq, k _ _ (by rw [← hv.length]; exact .mk to_int hr h)⟩
  · obtain ⟨v, rfl, r1⟩ := rel1 hd
    obtain ⟨a, vs, o, rfl, hq, hv⟩ := rel_ls r1
    exact call_len_seq pins s σ H _ us Q I rs ⟨a, vs, rfl, .inl (frz_sq hq), k _ _ (by rw [← hv.length]; exact .mk to_int hr h)⟩
  · obtain ⟨v, rfl, r1⟩ := rel1 hd
    obtain ⟨a, vs, rfl, hq, hv⟩ := rel_rol r1
    exact call_len_seq pins s σ H _ us Q I rs ⟨a, vs, rfl, .inl hq.sq, k _ _ (by rw [← hv.length]; exact .mk to_int hr h)⟩
  · obtain ⟨v, rfl, r1⟩ := rel1 hd
    split at h
    · rename_i e
      obtain ⟨a, vs, _, rfl, hq, hv⟩ := hr.sq (.inl e) r1
      exact call_len_seq pins s σ H _ us Q I rs ⟨a, vs, rfl, .inl hq, k _ _ (by rw [← hv.length]; exact .mk to_int hr h)⟩
    · rename_i e
      obtain ⟨a, vs, _, rfl, hq, hv⟩ := hr.sq (.inr e) r1
      exact call_len_seq pins s σ H _ us Q I rs ⟨a, vs, rfl, .inl hq, k _ _ (by rw [← hv.length]; exact .mk to_int hr h)⟩
    · rename_i kvs e
      obtain ⟨a, ws, _, rfl, ea, hk, hv⟩ := hr.dic e r1
      have hl : kvs.length = ws.length := by have := congrArg List.length hk; simpa using this.symm
      exact call_lenD pins s σ H _ us Q I rs ⟨a, ws, rfl, ea, k _ _ (by rw [← hl]; exact .mk to_int hr h)⟩
    · exact h.elim
  · obtain ⟨v, rfl, r1⟩ := rel1 hd; cases rel_int r1
    exact call_int1 pins s σ H _ us Q I rs (.inl ⟨_, rfl, k _ _ (.mk to_int hr h)⟩)
  · obtain ⟨v, rfl, r1⟩ := rel1 hd; cases rel_bl r1
    exact call_int1 pins s σ H _ us Q I rs (.inr ⟨_, rfl, k _ _ (.mk to_int hr h)⟩)
  · obtain ⟨v, rfl, r1⟩ := rel1 hd; cases rel_str r1
    obtain ⟨hl, h⟩ := h
    split at h
    · rename_i n e
      exact call_int_str pins s σ H _ us Q I rs ⟨_, n, rfl, e, hl, k _ _ (.mk to_int hr h)⟩
    · exact h.elim
  · obtain ⟨v, rfl, r1⟩ := rel1 hd; cases rel_int r1
    exact call_abs pins s σ H _ us Q I rs ⟨_, rfl, k _ _ (.mk to_int hr h)⟩
  · obtain ⟨v, w, rfl, r1, r2⟩ := rel2 hd; cases rel_int r1; cases rel_int r2
    exact call_min2 (hc rfl) pins s σ H _ us Q I rs ⟨_, _, rfl, k _ _ (.mk to_int hr h)⟩
  · obtain ⟨v, w, rfl, r1, r2⟩ := rel2 hd; cases rel_int r1; cases rel_int r2
    exact call_max2 (hc rfl) pins s σ H _ us Q I rs ⟨_, _, rfl, k _ _ (.mk to_int hr h)⟩
  · obtain ⟨v, rfl, r1⟩ := rel1 hd
    obtain ⟨a, vs, rfl, hq, hv⟩ := rel_tup r1
    exact call_tuple_of pins s σ H _ us Q I rs ⟨a, vs, rfl, .inr ⟨hq, k _ _ (.mk (to_tup hq hv) hr h)⟩⟩
  · obtain ⟨v, rfl, r1⟩ := rel1 hd
    obtain ⟨a, vs, o, rfl, hq, hv⟩ := rel_ls r1
    exact call_tuple_of pins s σ H _ us Q I rs ⟨a, vs, rfl, .inl ⟨frz_sq hq, fun p hp => k _ _ (UpF.tuple hr hv hp h)⟩⟩
  · obtain ⟨v, rfl, r1⟩ := rel1 hd
    split at h
    · rename_i e
      obtain ⟨a, vs, _, rfl, hq, hv⟩ := hr.sq (.inl e) r1
      exact call_tuple_of pins s σ H _ us Q I rs ⟨a, vs, rfl, .inl ⟨hq, fun p hp => k _ _ (UpF.tuple hr hv hp h)⟩⟩
    · rename_i e
      obtain ⟨a, vs, _, rfl, hq, hv⟩ := hr.sq (.inr e) r1
      exact call_tuple_of pins s σ H _ us Q I rs ⟨a, vs, rfl, .inl ⟨hq, fun p hp => k _ _ (UpF.tuple hr hv hp h)⟩⟩
    · exact h.elim
  · obtain ⟨v, rfl, r1⟩ := rel1 hd
    obtain ⟨a, vs, rfl, hq, hv⟩ := rel_tup r1
    exact call_list_of pins s σ H _ us Q I rs ⟨a, vs, rfl, .inr hq, fun p hp => k _ _ (UpF.list hr hv hp h)⟩
  · obtain ⟨v, rfl, r1⟩ := rel1 hd
    obtain ⟨a, vs, o, rfl, hq, hv⟩ := rel_ls r1
    exact call_list_of pins s σ H _ us Q I rs ⟨a, vs, rfl, .inl (frz_sq hq), fun p hp => k _ _ (UpF.list hr hv hp h)⟩
  · obtain ⟨v, rfl, r1⟩ := rel1 hd
    split at h
    · rename_i e
      obtain ⟨a, vs, _, rfl, hq, hv⟩ := hr.sq (.inl e) r1
      exact call_list_of pins s σ H _ us Q I rs ⟨a, vs, rfl, .inl hq, fun p hp => k _ _ (UpF.list hr hv hp h)⟩
    · rename_i e
      obtain ⟨a, vs, _, rfl, hq, hv⟩ := hr.sq (.inr e) r1
      exact call_list_of pins s σ H _ us Q I rs ⟨a, vs, rfl, .inl hq, fun p hp => k _ _ (UpF.list hr hv hp h)⟩
    · rename_i kvs e
      obtain ⟨a, ws, _, rfl, ea, hk, hv⟩ := hr.dic e r1
      exact call_list_dK (hc rfl) pins s σ H _ us Q I rs ⟨a, ws, rfl, ea, fun p hp => k _ _ (UpF.list hr (keys_rel hk) hp h)⟩
    · exact h.elim
  · obtain ⟨v, rfl, r1⟩ := rel1 hd; cases rel_int r1
    exact call_str_int pins s σ H _ us Q I rs ⟨_, rfl, h.1, k _ _ (.mk to_str hr h.2)⟩
  · obtain ⟨v, rfl, r1⟩ := rel1 hd
    obtain ⟨a, vs, o, rfl, hq, hv⟩ := rel_ls r1
    split at h
    · rename_i ns e1
      have ev := ints_rel e1 hv
      subst ev
      refine cr_sortedI pins s σ H _ us Q I rs ⟨a, ns, rfl, frz_sq hq, fun ns' p hp so hn => ?_⟩
      rw [isort_unique hp so]
      exact k _ _ (UpF.list hr (rel_ints _) hn h)
    · exact h.elim
  · obtain ⟨v, rfl, r1⟩ := rel1 hd
    have lst : ∀ {n : Nat} {ds : List D}, (A[n]? = some (O.lst ds) ∨ A[n]? = some (O.ro ds)) → RelD X.K μ H (.obj n) v → (match intsD ds with | some ns => nlD ((isort ns).map .int) A Q' | none => False) → wpAny (model X.prog X.w) X.A (call (biV .sorted) us) (EP X pins σ Q) X.xe s := fun {n ds} e r1 h => by
      obtain ⟨a, vs, _, rfl, hq, hv⟩ := hr.sq e r1
      split at h
      · rename_i ns e1
        have ev := ints_rel e1 hv
        subst ev
        refine cr_sortedI pins s σ H _ us Q I rs ⟨a, ns, rfl, hq, fun ns' p hp so hn => ?_⟩
        rw [isort_unique hp so]
        exact k _ _ (UpF.list hr (rel_ints _) hn h)
      · exact h.elim
    split at h
    · rename_i e; exact lst (.inl e) r1 h
    · rename_i e; exact lst (.inr e) r1 h
    · rename_i kvs e
      obtain ⟨a, ws, _, rfl, ea, hk, hv⟩ := hr.dic e r1
      split at h
      · rename_i ns e1
        refine call_sortedDI (hc rfl) pins s σ H _ us Q I rs ⟨a, ws, ns, rfl, .inl ea, by rw [hk]; exact keysI_eq e1, h.1, fun ns' p hp so hn => ?_⟩
        rw [isort_unique hp so]
        exact k _ _ (UpF.list hr (rel_ints _) hn h.2)
      · exact h.elim
    · exact h.elim
  · obtain ⟨v, rfl, r1⟩ := rel1 hd
    obtain ⟨a, vs, o, rfl, hq, hv⟩ := rel_ls r1
    split at h
    · rename_i ns e1
      have ev := ints_rel e1 hv
      subst ev
      exact cr_sum (hc rfl) pins s σ H _ us Q I rs ⟨a, ns, rfl, frz_sq hq, k _ _ (.mk to_int hr h)⟩
    · exact h.elim
  · obtain ⟨v, rfl, r1⟩ := rel1 hd
    obtain ⟨a, vs, o, rfl, hq, hv⟩ := rel_ls r1
    split at h
    · rename_i ns e1
      have ev := bls_rel e1 hv
      subst ev
      exact cr_all (hc rfl) pins s σ H _ us Q I rs ⟨a, ns, rfl, frz_sq hq, k _ _ (.mk to_bl hr h)⟩
    · exact h.elim
  · obtain ⟨v, rfl, r1⟩ := rel1 hd
    obtain ⟨a, vs, o, rfl, hq, hv⟩ := rel_ls r1
    split at h
    · rename_i ns e1
      have ev := bls_rel e1 hv
      subst ev
      exact cr_any (hc rfl) pins s σ H _ us Q I rs ⟨a, ns, rfl, frz_sq hq, k _ _ (.mk to_bl hr h)⟩
    · exact h.elim
  · obtain ⟨v, rfl, r1⟩ := rel1 hd
    split at h
    · rename_i e
      obtain ⟨a, vs, _, rfl, hq, hv⟩ := hr.sq (.inl e) r1
      split at h
      · rename_i ns e1
        have ev := ints_rel e1 hv
        subst ev
        exact cr_sum (hc rfl) pins s σ H _ us Q I rs ⟨a, ns, rfl, hq, k _ _ (.mk to_int hr h)⟩
      · exact h.elim
    · exact h.elim
  · obtain ⟨v, rfl, r1⟩ := rel1 hd
    split at h
    · rename_i e
      obtain ⟨a, vs, _, rfl, hq, hv⟩ := hr.sq (.inl e) r1
      split at h
      · rename_i ns e1
        have ev := bls_rel e1 hv
        subst ev
        exact cr_all (hc rfl) pins s σ H _ us Q I rs ⟨a, ns, rfl, hq, k _ _ (.mk to_bl hr h)⟩
      · exact h.elim
    · exact h.elim
  · obtain ⟨v, rfl, r1⟩ := rel1 hd
    split at h
    · rename_i e
      obtain ⟨a, vs, _, rfl, hq, hv⟩ := hr.sq (.inl e) r1
      split at h
      · rename_i ns e1
        have ev := bls_rel e1 hv
        subst ev
        exact cr_any (hc rfl) pins s σ H _ us Q I rs ⟨a, ns, rfl, hq, k _ _ (.mk to_bl hr h)⟩
      · exact h.elim
    · exact h.elim
  · obtain ⟨v, rfl, r1⟩ := rel1 hd
    obtain ⟨a, vs, o, rfl, hq, hv⟩ := rel_ls r1
    split at h
    · rename_i ns e1
      have ev := ints_rel e1 hv
      subst ev
      exact cr_max (hc rfl) pins s σ H _ us Q I rs ⟨a, ns, rfl, frz_sq hq, h.1, fun m h1 h2 => k _ _ (.mk to_int hr (h.2 m h1 h2))⟩
    · exact h.elim
  · obtain ⟨v, rfl, r1⟩ := rel1 hd
    obtain ⟨a, vs, o, rfl, hq, hv⟩ := rel_ls r1
    split at h
    · rename_i ns e1
      have ev := ints_rel e1 hv
      subst ev
      exact cr_min (hc rfl) pins s σ H _ us Q I rs ⟨a, ns, rfl, frz_sq hq, h.1, fun m h1 h2 => k _ _ (.mk to_int hr (h.2 m h1 h2))⟩
    · exact h.elim
  · obtain ⟨v, rfl, r1⟩ := rel1 hd
    split at h
    · rename_i e
      obtain ⟨a, vs, _, rfl, hq, hv⟩ := hr.sq (.inl e) r1
      split at h
      · rename_i ns e1
        have ev := ints_rel e1 hv
        subst ev
        exact cr_max (hc rfl) pins s σ H _ us Q I rs ⟨a, ns, rfl, hq, h.1, fun m h1 h2 => k _ _ (.mk to_int hr (h.2 m h1 h2))⟩
      · exact h.elim
    · exact h.elim
  · obtain ⟨v, rfl, r1⟩ := rel1 hd
    split at h
    · rename_i e
      obtain ⟨a, vs, _, rfl, hq, hv⟩ := hr.sq (.inl e) r1
      split at h
      · rename_i ns e1
        have ev := ints_rel e1 hv
        subst ev
        exact cr_min (hc rfl) pins s σ H _ us Q I rs ⟨a, ns, rfl, hq, h.1, fun m h1 h2 => k _ _ (.mk to_int hr (h.2 m h1 h2))⟩
      · exact h.elim
    · exact h.elim
  · obtain ⟨v, w, rfl, r1, r2⟩ := rel2 hd; cases rel_int r1; cases rel_int r2
    refine cr_range2 pins s σ H _ us Q I rs ⟨_, _, rfl, fun p hp => ?_⟩
    exact k _ _ (.inl ⟨μ, .rg _ _, A, stp_upd0 hp, to_rg upd_same, hr.tupd hp, h⟩)
  · exact h.elim
end
end Px
end TextPx6

section TextPx7
set_option autoImplicit false
set_option maxRecDepth 100000
set_option maxHeartbeats 2000000
/-! Px7: methods by values. -/
namespace Px
open PySem PySem.Spec PyProof.Rows L2
section
variable {X : Cx}
def mtT : MI → String
  | .append => "list" | .pop => "list" | .reverse => "list" | .extend => "list" | .index => "list" | .insert => "list" | _ => "str"
def mtId : MI → String
  | .append => "list.append" | .pop => "list.pop" | .reverse => "list.reverse" | .extend => "list.extend" | .index => "list.index" | .insert => "list.insert"
  | .join => "str.join" | .find => "str.find" | .upper => "str.upper" | .count => "str.count" | .split => "str.split" | .replace => "str.replace" | .isdigit => "str.isdigit" | .startswith => "str.startswith"
def mtName : MI → Str
  | .append => "append" | .pop => "pop" | .reverse => "reverse" | .extend => "extend" | .index => "index" | .insert => "insert"
  | .join => "join" | .find => "find" | .upper => "upper" | .count => "count" | .split => "split" | .replace => "replace" | .isdigit => "isdigit" | .startswith => "startswith"
theorem mt_plain (m : MI) : PlainAttrs (mtT m) := by
  cases m <;> first | exact PySem.F.plainAttrs_list | exact PySem.F.plainAttrs_str
theorem mt_slot (m : MI) : Slot (mtT m) (mtName m) (mtId m) := by
  cases m
  · exact PySem.F.slot_list_append
  · exact PySem.F.slot_list_pop
  · exact PySem.F.slot_list_reverse
  · exact PySem.F.slot_list_extend
  · exact PySem.F.slot_str_join
  · exact PySem.F.slot_str_find
  · exact PySem.F.slot_str_upper
  · exact PySem.F.slot_list_index
  · exact PySem.F.slot_str_count
  · exact PySem.F.slot_str_split
  · exact PySem.F.slot_list_insert
  · exact PySem.F.slot_str_replace
  · exact PySem.F.slot_str_isdigit
  · exact PySem.F.slot_str_startswith
theorem mt_type (m : MI) : typeOf (.builtin (mtId m)) = pure (.type "method_descriptor") := by
  cases m
  · exact PySem.F.type_list_append
  · exact PySem.F.type_list_pop
  · exact PySem.F.type_list_reverse
  · exact PySem.F.type_list_extend
  · exact PySem.F.type_str_join
  · exact PySem.F.type_str_find
  · exact PySem.F.type_str_upper
  · exact PySem.F.type_list_index
  · exact PySem.F.type_str_count
  · exact PySem.F.type_str_split
  · exact PySem.F.type_list_insert
  · exact PySem.F.type_str_replace
  · exact PySem.F.type_str_isdigit
  · exact PySem.F.type_str_startswith
theorem sd_recv {m : MI} {μ : List Addr} {H : Hp} {A : Ht} {d : D} {x : V} (hr : HR X.K μ A H) (hx : RelD X.K μ H d x) (h : recvD m d A) : tyV X.K (mtT m) x H := by
  unfold recvD at h
  have lst : ∀ {n : Nat} {ds : List D}, A[n]? = some (.lst ds) → RelD X.K μ H (.obj n) x → tyV X.K "list" x H := fun {n ds} e hx => by
    obtain ⟨a, vs, _, rfl, ea, hv⟩ := hr.lst e hx
    exact .inl ⟨rfl, _, .inl (.inl ea)⟩
  split at h
  all_goals first
    | exact h.elim
    | (cases rel_str hx; exact rfl)
    | (obtain ⟨a, vs, o, rfl, ea, hv⟩ := rel_ls hx; exact .inl ⟨rfl, _, .inl (.inr ⟨o, ea⟩)⟩)
    | (split at h
       · rename_i e; exact lst e hx
       · exact h.elim)
theorem drop_rel {K : PySem.W.Frag} {μ : List Addr} {H : Hp} {ds : List D} {vs : List V} (r : RelDs K μ H ds vs) : RelDs K μ H ds.dropLast vs.dropLast := by
  rw [List.dropLast_eq_take, List.dropLast_eq_take, ← r.length]
  exact r.take _
theorem HR.lis {K : PySem.W.Frag} {μ : List Addr} {H : Hp} {A : Ht} (hr : HR K μ A H) {d : D} {ds : List D} {v : V} (e : lisD A d = some ds) (r : RelD K μ H d v) : ∃ a vs, v = .ref a ∧ LsM H a vs ∧ RelDs K μ H ds vs := by
  unfold lisD at e
  split at e
  · cases e
    obtain ⟨a, vs, o, rfl, ha, hv⟩ := rel_ls r
    exact ⟨a, vs, rfl, .inr ⟨o, ha⟩, hv⟩
  · split at e
    · rename_i e2
      cases e
      obtain ⟨a, vs, _, rfl, ha, hv⟩ := hr.lst e2 r
      exact ⟨a, vs, rfl, .inl ha, hv⟩
    · cases e
  · cases e
def rExtF : V → List V → Hp → VK → Prop := fun x vs H Q => ∃ l b xs zs, x = .ref l ∧ vs = [.ref b] ∧ H l = some (.lst xs) ∧ LsM H b zs ∧ xs.length + zs.length ≤ sizeLine ∧ Q .non (upd H l (.lst (xs ++ zs)))
theorem mt_extendF : MtM X "list.extend" rExtF := by
  rintro pins st σ H x vs v us Q Iv rx rv ⟨l, b, xs, zs, rfl, rfl, hl, hb, sz, q⟩
  cases rx
  obtain ⟨u, rfl, ru⟩ := rv.one
  cases ru
  obtain ⟨_, ps, n, rp, lp, ep⟩ := Iv.lstM hl
  obtain ⟨qs, m, _, rq, lq, eq⟩ := lsM_ok Iv hb
  have sz2 : ps.toArray.size + qs.toArray.size ≤ sizeLine := by rw [List.size_toArray, List.size_toArray, ← lp, ← lq]; exact sz
  have door : ¬ ((!ps.toArray.isEmpty && Builtin.List.listTooLong (ps.toArray.size + qs.toArray.size)) = true) := by rw [notLongL sz2]; simp
  refine call_meets F.slot_list_extend ⟨_, ep, rfl⟩ F.entry_list_extend (F.args_list_extend_2 _ _) (AutoSeq1.list_extend_list_list_0 l ps.toArray n b qs.toArray m door ?_ (by omega)) ⟨ep, eq, ?_⟩
  · rw [List.size_toArray, ← lp]; omega
  · refine ⟨.non, _, Iv.lset (its' := ps ++ qs) hl ep (by simp) (rp.append rq) ?_, rfl, q⟩
    rw [List.length_append]
    exact sz
theorem sd_mt (m : MI) : MtR X (mtId m) (rDm X.K (mtD m)) := by
  rintro pins s σ H x xs v us Q I rx rs ⟨μ, A, dx, ds, Q', hr, hx, hd, h, k⟩
  unfold mtD at h
  have wr : ∀ {n : Nat} {a : Addr} {vs vs' : List V} {ds' : List D} {dr : D} {vr : V}, μ[n]? = some a → H a = some (.lst vs) → RelDs X.K μ H ds' vs' → RelD X.K μ H dr vr → Q' dr (A.set n (.lst ds')) → Q vr (upd H a (.lst vs')) := fun {n a vs vs' ds' dr vr} en ea r1 r2 q => by
    obtain ⟨s1, h1⟩ := hr.wr en ea r1
    exact k _ _ (.inl ⟨μ, dr, _, s1, r2.mono s1 _ _, h1, q⟩)
  split at h
  · obtain ⟨w, rfl, r1⟩ := rel1 hd
    split at h
    · rename_i e
      obtain ⟨a, vs, en, rfl, ea, hv⟩ := hr.lst e hx
      exact mt_append pins s σ H _ _ v us Q I rx rs ⟨a, vs, w, rfl, rfl, ea, by rw [← hv.length]; exact h.1, wr en ea (hv.append (.cons r1 .nil)) to_non h.2⟩
    · exact h.elim
  · cases rel0 hd
    split at h
    · rename_i ds e
      obtain ⟨a, vs, en, rfl, ea, hv⟩ := hr.lst e hx
      split at h
      · rename_i d ed
        obtain ⟨w, ew, rw'⟩ := hv.get ed
        exact mt_pop pins s σ H _ _ v us Q I rx rs ⟨a, vs, w, rfl, rfl, ea, by rw [← hv.length]; exact ew, wr en ea (drop_rel hv) rw' h⟩
      · exact h.elim
    · exact h.elim
  · cases rel0 hd
    split at h
    · rename_i ds e
      obtain ⟨a, vs, en, rfl, ea, hv⟩ := hr.lst e hx
      exact mt_reverse pins s σ H _ _ v us Q I rx rs ⟨a, vs, rfl, rfl, ea, wr en ea hv.reverse to_non h⟩
    · exact h.elim
  · obtain ⟨w, rfl, r1⟩ := rel1 hd
    split at h
    · rename_i e1 e2
      obtain ⟨a, vs, en, rfl, ea, hv⟩ := hr.lst e1 hx
      obtain ⟨b, ws, rfl, eb2, hw⟩ := hr.lis e2 r1
      exact mt_extendF pins s σ H _ _ v us Q I rx rs ⟨a, b, vs, ws, rfl, rfl, ea, eb2, by rw [← hv.length, ← hw.length]; exact h.1, wr en ea (hv.append hw) to_non h.2⟩
    · exact h.elim
  · cases rel_str hx
    obtain ⟨w, rfl, r1⟩ := rel1 hd
    rename_i d
    split at h
    · rename_i es e
      split at h
      · rename_i ys e2
        unfold seqD at e
        split at e
        · cases e
          obtain ⟨a, vs, rfl, hq, hv⟩ := rel_tup r1
          have ev := strs_rel e2 hv
          subst ev
          exact mt_join pins s σ H _ _ v us Q I rx rs ⟨_, a, ys, rfl, rfl, .inr hq, h.1, k _ _ (.mk to_str hr h.2)⟩
        · cases e
          obtain ⟨a, vs, o, rfl, hq, hv⟩ := rel_ls r1
          have ev := strs_rel e2 hv
          subst ev
          exact mt_join pins s σ H _ _ v us Q I rx rs ⟨_, a, ys, rfl, rfl, .inl (frz_sq hq), h.1, k _ _ (.mk to_str hr h.2)⟩
        · split at e
          · rename_i e3
            cases e
            obtain ⟨a, vs, _, rfl, hq, hv⟩ := hr.sq (.inl e3) r1
            have ev := strs_rel e2 hv
            subst ev
            exact mt_join pins s σ H _ _ v us Q I rx rs ⟨_, a, ys, rfl, rfl, .inl hq, h.1, k _ _ (.mk to_str hr h.2)⟩
          · rename_i e3
            cases e
            obtain ⟨a, vs, _, rfl, hq, hv⟩ := hr.sq (.inr e3) r1
            have ev := strs_rel e2 hv
            subst ev
            exact mt_join pins s σ H _ _ v us Q I rx rs ⟨_, a, ys, rfl, rfl, .inl hq, h.1, k _ _ (.mk to_str hr h.2)⟩
          · cases e
        · cases e
      · exact h.elim
    · exact h.elim
  · cases rel_str hx
    obtain ⟨w, rfl, r1⟩ := rel1 hd
    cases rel_str r1
    exact mt_find pins s σ H _ _ v us Q I rx rs ⟨_, _, rfl, rfl, k _ _ (.mk to_int hr h)⟩
  · cases rel_str hx
    obtain ⟨w, w2, rfl, r1, r2⟩ := rel2 hd
    cases rel_str r1; cases rel_int r2
    exact mt_find3 pins s σ H _ _ v us Q I rx rs ⟨_, _, _, rfl, rfl, k _ _ (.mk to_int hr h)⟩
  · cases rel_str hx
    cases rel0 hd
    exact mt_upper pins s σ H _ _ v us Q I rx rs ⟨_, rfl, rfl, h.1, k _ _ (.mk to_str hr h.2)⟩
  · cases rel_str hx
    cases rel0 hd
    exact mt_isdigit pins s σ H _ _ v us Q I rx rs ⟨_, rfl, rfl, trivial, k _ _ (.mk to_bl hr h)⟩
  · cases rel_str hx
    obtain ⟨w, rfl, r1⟩ := rel1 hd
    cases rel_str r1
    exact mt_startswith pins s σ H _ _ v us Q I rx rs ⟨_, _, rfl, rfl, k _ _ (.mk to_bl hr h)⟩
  · cases rel_str hx
    obtain ⟨w, rfl, r1⟩ := rel1 hd
    cases rel_str r1
    refine mt_split pins s σ H _ _ v us Q I rx rs ⟨_, _, rfl, rfl, h.1, h.2.1, fun p hp => ?_⟩
    exact k _ _ (UpF.list hr (rel_strs _) hp h.2.2)
  · obtain ⟨w, rfl, r1⟩ := rel1 hd
    cases rel_int r1
    split at h
    · rename_i ds e
      obtain ⟨a, vs, en, rfl, ea, hv⟩ := hr.lst e hx
      obtain ⟨h1, h2, h⟩ := h
      split at h
      · rename_i j ej
        split at h
        · rename_i d ed
          obtain ⟨w, ew, rw'⟩ := hv.get ed
          exact mt_popAt pins s σ H _ _ v us Q I rx rs ⟨a, vs, _, j, w, rfl, rfl, ea, h1, h2, by rw [← hv.length]; exact ej, ew, wr en ea (hv.eraseIdx j) rw' h⟩
        · exact h.elim
      · exact h.elim
    · exact h.elim
  · obtain ⟨w, rfl, r1⟩ := rel1 hd
    split at h
    · rename_i ds e
      obtain ⟨a, vs, rfl, ha, hv⟩ := hr.lis e hx
      obtain ⟨f1, f2, j, z, hz, hzy, hno, q⟩ := h
      have sq : SqL X.K H a vs := ha.elim (fun h => .inl (.inl h)) fun ⟨o, h⟩ => .inl (.inr ⟨o, h⟩)
      obtain ⟨zv, ez, rz⟩ := hv.get hz
      have fz : flatD z = true := List.all_eq_true.mp f2 z (List.mem_of_getElem? hz)
      refine mt_index pins s σ H _ _ v us Q I rx rs ⟨a, vs, w, j, zv, rfl, rfl, sq, flat_v r1 f1, flats_v hv f2, ez, ?_, fun m z' hm hz' => ?_, k _ _ (.mk to_int hr q)⟩
      · rw [← eqF_v rz r1 fz f1]; exact hzy
      · obtain ⟨d', ed, rd⟩ := hv.getV hz'
        rw [← eqF_v rd r1 (List.all_eq_true.mp f2 d' (List.mem_of_getElem? ed)) f1]
        exact hno m d' hm ed
    · exact h.elim
  · exact h.elim
end
end Px
end TextPx7

section TextPx8
set_option autoImplicit false
set_option maxRecDepth 100000
set_option maxHeartbeats 2000000
/-! Px8: what is walked: lists, tuples, texts; enumerate and zip of these in any mix. -/
namespace Px
open PySem PySem.Spec PyProof.Rows L2

/-- a source of a walk -/
inductive Sr where
  | lst (a : Addr) | tup (a : Addr) | txt (x : Str) (t : Tok)
def Sr.val : Sr → Value
  | .lst a => .ref a | .tup a => .ref a | .txt x t => .str x t
def signs (x : Str) : List V := x.cps.toList.map fun c => .str ⟨#[c]⟩
def Sr.Hd (K : PySem.W.Frag) : Sr → List V → Hp → Prop
  | .lst a, xs, H => SqL K H a xs | .tup a, xs, H => SqT K H a xs | .txt x _, xs, _ => xs = signs x
def Sr.It (it : Addr) (i : Nat) (h : Heap) : Sr → Prop
  | .lst a => h.IsListIter it a i | .tup a => h.IsTupleIter it a i | .txt x t => h.IsStrIter it (strIterType x) x t i
def Sr.adr : Sr → List Addr
  | .lst a => [a] | .tup a => [a] | .txt _ _ => []
def Sr.obj : Sr → Obj
  | .lst a => { cls := .type "list_iterator", data := .fields #[.ref a, .int 0 0] }
  | .tup a => { cls := .type "tuple_iterator", data := .fields #[.ref a, .int 0 0] }
  | .txt x t => { cls := .type (strIterType x), data := .fields #[.str x t, .int 0 0] }
theorem Sr.free (r : Sr) : r.obj.isFreed = false := by cases r <;> rfl
theorem Sr.it_obj {r : Sr} {it : Addr} {i : Nat} {h : Heap} (x : Sr.It it i h r) : ∃ o, h.get? it = some o ∧ (∃ c, o.cls = .type c ∧ c ≠ "list" ∧ c ≠ "tuple" ∧ c ≠ "enumerate" ∧ c ≠ "zip") ∧ ∀ v, o.data ≠ .cell v := by
  cases r with
  | lst a => obtain ⟨o, h1, h2, h3⟩ := x; exact ⟨o, h1, ⟨_, h2, by decide, by decide, by decide, by decide⟩, fun v z => by rw [h3] at z; cases z⟩
  | tup a => obtain ⟨o, h1, h2, h3⟩ := x; exact ⟨o, h1, ⟨_, h2, by decide, by decide, by decide, by decide⟩, fun v z => by rw [h3] at z; cases z⟩
  | txt y t =>
    obtain ⟨o, h1, h2, h3⟩ := x
    refine ⟨o, h1, ⟨_, h2, ?_⟩, fun v z => by rw [h3] at z; cases z⟩
    unfold strIterType
    split <;> exact ⟨by decide, by decide, by decide, by decide⟩
theorem Sr.it_at {r : Sr} {it : Addr} {i : Nat} {h h' : Heap} (x : Sr.It it i h r) (k : ∀ o, h.get? it = some o → h'.get? it = some o) : Sr.It it i h' r := by
  cases r with
  | lst a => obtain ⟨o, h1, h2⟩ := x; exact ⟨o, k _ h1, h2⟩
  | tup a => obtain ⟨o, h1, h2⟩ := x; exact ⟨o, k _ h1, h2⟩
  | txt y t => obtain ⟨o, h1, h2⟩ := x; exact ⟨o, k _ h1, h2⟩
theorem Sr.start {r : Sr} {it : Addr} {h : Heap} (x : h.get? it = some r.obj) : Sr.It it 0 h r := by
  cases r <;> exact ⟨_, x, rfl, rfl⟩
section
variable {X : Cx} {pins : List (Addr × Obj)} {σ : L2.St} {H : Hp} {s : Shared}
/-- how it draws: the source's own cell may stand in its footprint -/
theorem Sr.draws {r : Sr} {xs : List V} {it : Addr} {j : Nat} (I : Inv X pins σ H s) (hd : r.Hd X.K xs H) (hi : Sr.It it j s.heap r) : ∃ (P : Nat → Value → Prop) (St : Nat → Heap → Prop),
    (∀ A : Around, A.handled = none → Draws X.prog X.w A it (it :: r.adr) xs.length P St) ∧ (∀ i, Sr.It it i s.heap r → St i s.heap) ∧ (∀ i h, St i h → Sr.It it i h r) ∧ (∀ i u, P i u → ∃ x, xs[i]? = some x ∧ RelV x u) := by
  obtain ⟨oi, ei, ⟨ci, ec, n1, n2, n3, n4⟩, _⟩ := Sr.it_obj hi
  cases r with
  | lst a =>
    obtain ⟨its, rv, p, hz⟩ := I.list hd
    have hne : a ≠ it := fun z => by
      obtain ⟨o, _, e, c, _, _⟩ := p
      rw [z, ei] at e; cases e
      rw [ec] at c; exact n1 (Value.type.inj c)
    refine ⟨fun i v => its.toArray[i]? = some v, fun i h => h.IsListIter it a i ∧ h.IsList a its.toArray, fun A hh => ?_, fun i h => ⟨h, p.isList⟩, fun i h x => x.1, fun i u hu => ?_⟩
    · have := Draws.list (prog := X.prog) (w := X.w) hh it a hne its.toArray
      rw [List.size_toArray, ← rv.length] at this
      exact this
    · have hu' : its[i]? = some u := by simpa using hu
      have hil : i < xs.length := by rw [rv.length]; exact (List.getElem?_eq_some_iff.mp hu').1
      obtain ⟨u', e1, r1⟩ := rv.get (List.getElem?_eq_getElem hil)
      rw [hu'] at e1; cases e1
      exact ⟨_, List.getElem?_eq_getElem hil, r1⟩
  | tup a =>
    obtain ⟨its, rv, p, hz⟩ := I.tuple hd
    have hne : a ≠ it := fun z => by
      obtain ⟨o, e, c, _⟩ := p
      rw [z, ei] at e; cases e
      rw [ec] at c; exact n2 (Value.type.inj c)
    refine ⟨fun i v => its.toArray[i]? = some v, fun i h => h.IsTupleIter it a i ∧ h.IsTuple a its.toArray, fun A hh => ?_, fun i h => ⟨h, p⟩, fun i h x => x.1, fun i u hu => ?_⟩
    · have := Draws.tuple (prog := X.prog) (w := X.w) hh it a hne its.toArray
      rw [List.size_toArray, ← rv.length] at this
      exact this
    · have hu' : its[i]? = some u := by simpa using hu
      have hil : i < xs.length := by rw [rv.length]; exact (List.getElem?_eq_some_iff.mp hu').1
      obtain ⟨u', e1, r1⟩ := rv.get (List.getElem?_eq_getElem hil)
      rw [hu'] at e1; cases e1
      exact ⟨_, List.getElem?_eq_getElem hil, r1⟩
  | txt y t =>
    cases (show xs = signs y from hd)
    refine ⟨fun i v => ∃ c u, y.cps[i]? = some c ∧ v = .str ⟨#[c]⟩ u, fun i h => h.IsStrIter it (strIterType y) y t i, fun A hh => ?_, fun i h => h, fun i h x => x, fun i u hu => ?_⟩
    · have := Draws.text (prog := X.prog) (w := X.w) hh it y t
      unfold signs
      rw [List.length_map, Array.length_toList]
      exact this
    · obtain ⟨c, u', hc, rfl⟩ := hu
      exact ⟨.str ⟨#[c]⟩, by unfold signs; rw [List.getElem?_map, Array.getElem?_toList, hc]; rfl, ⟨u', rfl⟩⟩
theorem Sr.begins {r : Sr} {xs : List V} (I : Inv X pins σ H s) (hd : r.Hd X.K xs H) : ∃ Hh : Heap → Prop, Begins r.val r.obj Hh ∧ Hh s.heap := by
  cases r with
  | lst a => obtain ⟨its, rv, p, hz⟩ := I.list hd; exact ⟨_, begins_list a its.toArray, p.isList⟩
  | tup a => obtain ⟨its, rv, p, hz⟩ := I.tuple hd; exact ⟨_, begins_tuple a its.toArray, p⟩
  | txt y t => exact ⟨_, begins_text y t, trivial⟩
theorem Sr.hd_inj {r : Sr} {xs ys : List V} (I : Inv X pins σ H s) (h : r.Hd X.K xs H) (h' : r.Hd X.K ys H) : xs = ys := by
  cases r with
  | lst a => exact I.list_inj h h'
  | tup a => exact I.tuple_inj h h'
  | txt y t => exact (show xs = signs y from h).trans (show ys = signs y from h').symm
end
/-- an element after another -/
def ItE (K : PySem.W.Frag) (r : Sr) : It :=
  ⟨fun i H => ∃ (xs : List V) (x : V), r.Hd K xs H ∧ xs[i]? = some x, fun i H v H' => ∃ T x, v = .ref T ∧ H T = none ∧ H' = upd H T (.tup [.int (i : Nat), x]) ∧ ∀ xs, r.Hd K xs H → xs[i]? = some x,
    fun i H => ∃ xs : List V, r.Hd K xs H ∧ xs.length = i⟩
def ItZ (K : PySem.W.Frag) (r q : Sr) : It :=
  ⟨fun i H => ∃ (xs ys : List V) (x y : V), r.Hd K xs H ∧ q.Hd K ys H ∧ xs[i]? = some x ∧ ys[i]? = some y,
    fun i H v H' => ∃ T x y, v = .ref T ∧ H T = none ∧ H' = upd H T (.tup [x, y]) ∧ (∀ xs, r.Hd K xs H → xs[i]? = some x) ∧ ∀ ys, q.Hd K ys H → ys[i]? = some y,
    fun i H => ∃ xs ys : List V, r.Hd K xs H ∧ q.Hd K ys H ∧ min xs.length ys.length = i⟩
theorem is_two {a b : Value} {x y : V} (h1 : RelV x a) (h2 : RelV y b) : Vals [x, y] [a, b] := .cons h1 (.cons h2 .nil)
/-- from the library's walk over pairs -/
theorem turn_pairs {P : Program} {w : World} {K : PySem.W.Frag} {elts : List Expr} {kk : Nat} {tpos : Pos} {J : It} {fp : List Addr} {it : Addr} {tn : Nat → Heap → Prop} (mem : it ∈ fp)
    (obj : ∀ i h, tn i h → ∀ b ∈ fp, ∃ o, h.get? b = some o ∧ ∀ v, o.data ≠ .cell v)
    (keep : ∀ i h h', tn i h → (∀ b ∈ fp, ∀ o, h.get? b = some o → h'.get? b = some o) → tn i h')
    (self : ∀ (A : Around) (i : Nat) (s : Shared) (Q : Value → Shared → Prop) (E : Value → Shared → Prop), tn i s.heap → Q (.ref it) s → wpAny (model P w) A (pyIter (.ref it)) Q E s)
    (go : ∀ (X : Cx), X.prog = P → X.w = w → X.K = K → X.calm = true → ∀ (i : Nat) (pins : List (Addr × Obj)) (s : Shared) (σ : L2.St) (H : Hp), Inv X pins σ H s → tn i s.heap → (J.go i H ∨ J.stop i H) →
      ∃ (fp' wr : List Addr) (n : Nat) (Pt : Nat → Array Value → Prop) (St : Nat → Heap → Prop) (Mid : Nat → Addr → Heap → Prop), WalksT P w X.A it fp' wr n Pt St Mid ∧ St i s.heap ∧ (∀ b ∈ wr, b ∈ fp) ∧ (∀ j h, St j h → tn j h) ∧
        (J.go i H → i < n ∧ ∀ vals, Pt i vals → ∃ x y, Vals [x, y] vals.toList ∧ ∀ T, H T = none → J.yld i H (.ref T) (upd H T (.tup [x, y]))) ∧ (J.stop i H → i = n)) :
    Turn P w K (.Tuple elts kk tpos) J fp it tn where
  mem := mem
  obj := obj
  keep := keep
  self := self
  item := by
    intro X hP hw hK hc i pins s σ H E I hf st hg
    obtain ⟨fp', wr, n, Pt, St, Mid, W, hs, hwr, back, hgo, _⟩ := go X hP hw hK hc i pins s σ H I st (.inl hg)
    obtain ⟨hi, hv⟩ := hgo hg
    subst hP hw hK
    refine W.item i s _ _ hi hs fun T vals h' tk hp hT hIs hm hk => ?_
    refine ⟨_, rfl, W.go elts kk tpos i T { s with heap := h', toks := tk } _ _ hm fun h'' hs' hk' => ?_⟩
    obtain ⟨x, y, rv, hy⟩ := hv vals hp
    have nT : T ∉ wr := W.apart i T h' hm
    have hT2 : IsTup h'' T vals := hIs.at fun o e => hk' T o nT e
    have new : ObjOk X.prog X.w (upd H T (.tup [x, y])) h'' T (.tup [x, y]) := by
      refine ⟨by show 2 ≤ sizeLine; decide, vals.toList, rv, ?_⟩
      simpa using hT2
    have I1 : Inv X pins σ (upd H T (.tup [x, y])) { s with heap := h'', toks := tk } :=
      I.turnedNew (ch := wr) (fun b ob hb q => hk' b ob hb (hk b ob hb q)) (fun b hb => hf b (hwr b hb)) hT new
    refine ⟨.ref T, _, I1, rfl, hy T (I.hok.fresh hT), back _ _ hs', fun b hb => ?_⟩
    obtain ⟨o, eo, _⟩ := obj i s.heap st b hb
    have hb' : b ≠ T := fun z => absurd (Nat.lt_of_lt_of_le (Heap.lt_size eo) (z ▸ hT)) (Nat.lt_irrefl _)
    rw [upd_ne hb']
    exact (hf b hb).1
  done := by
    intro X hP hw hK hc i pins s σ H E I hf st hg
    obtain ⟨fp', wr, n, Pt, St, Mid, W, hs, hwr, back, _, hst⟩ := go X hP hw hK hc i pins s σ H I st (.inr hg)
    have e := hst hg
    subst hP hw hK
    rw [e] at hs
    exact W.done s _ _ hs fun h' tk hk => ⟨rfl, I.turnedL (ch := wr) hk fun b hb => hf b (hwr b hb)⟩
theorem turn_enumA {P : Program} {w : World} {K : PySem.W.Frag} {elts : List Expr} {kk : Nat} {tpos : Pos} (r : Sr) (e it : Addr) (hne : e ≠ it) (hea : e ∉ r.adr) :
    Turn P w K (.Tuple elts kk tpos) (ItE K r) [e, it] e (fun i h => (∃ old, IsEnum h e it ((i : Nat) : Int) old) ∧ Sr.It it i h r) := by
  refine turn_pairs (by simp) (fun i h st b hb => ?_) (fun i h h' st k => ?_) (fun A i s Q E st h => let ⟨⟨_, he⟩, _⟩ := st; wpAny_pyIter_enum he h) fun X hP hw hK hc i pins s σ H I st hg => ?_
  · obtain ⟨⟨old, he⟩, hi⟩ := st
    rcases (by simpa using hb : b = e ∨ b = it) with z | z
    · rw [z]; exact ⟨_, he, fun v q => nomatch q⟩
    · obtain ⟨o, ho, _, hd⟩ := Sr.it_obj hi
      rw [z]; exact ⟨o, ho, hd⟩
  · obtain ⟨⟨old, he⟩, hi⟩ := st
    exact ⟨⟨old, k e (by simp) _ he⟩, Sr.it_at hi fun o q => k it (by simp) o q⟩
  · obtain ⟨⟨old, he⟩, hi⟩ := st
    obtain ⟨xs, hd⟩ : ∃ xs, r.Hd K xs H := by
      rcases hg with ⟨xs, _, h, _⟩ | ⟨xs, h, _⟩ <;> exact ⟨xs, h⟩
    subst hP hw hK
    obtain ⟨Pp, St, D, s1, s2, hp⟩ := Sr.draws I hd hi
    have hef : e ∉ it :: r.adr := fun z => (List.mem_cons.mp z).elim hne hea
    have W := WalksT.enumerateD (prog := X.prog) (w := X.w) (A := X.A) (D X.A.in1 (I.ok.hd hc)) e hne hef List.mem_cons_self
    refine ⟨_, _, _, _, _, _, W, ⟨⟨old, he⟩, s1 i hi⟩, fun b hb => hb, fun j h ⟨he', hs'⟩ => ⟨he', s2 j h hs'⟩, fun hgo => ?_, fun hst => ?_⟩
    · obtain ⟨ys, y, hy, ey⟩ := hgo
      have exy := Sr.hd_inj I hd hy
      subst exy
      refine ⟨(List.getElem?_eq_some_iff.mp ey).1, fun vals ⟨t, u, hu, ev⟩ => ?_⟩
      obtain ⟨x, ex, rx⟩ := hp i u hu
      rw [ey] at ex; cases ex
      subst ev
      exact ⟨.int i, y, is_two ⟨t, rfl⟩ rx, fun T hT => ⟨T, y, rfl, hT, rfl, fun zs hz => by rw [← Sr.hd_inj I hd hz]; exact ey⟩⟩
    · obtain ⟨ys, hy, el⟩ := hst
      rw [Sr.hd_inj I hd hy, el]
theorem turn_zipA {P : Program} {w : World} {K : PySem.W.Frag} {elts : List Expr} {kk : Nat} {tpos : Pos} (r q : Sr) {N : Addr} (h1 : ∀ b ∈ r.adr, b < N) (h2 : ∀ b ∈ q.adr, b < N) :
    Turn P w K (.Tuple elts kk tpos) (ItZ K r q) [N + 4, N + 2, N + 3, N, N + 1] (N + 4) (fun i h => IsZip h (N + 4) (N + 2) (N + 3) .none ∧ IsTupOf2 h (N + 2) (.ref N) (.ref (N + 1)) ∧ (∃ a1 a2, IsTupOf2 h (N + 3) a1 a2) ∧ Sr.It N i h r ∧ Sr.It (N + 1) i h q) := by
  refine turn_pairs (by simp) (fun i h st b hb => ?_) (fun i h h' st k => ?_) (fun A i s Q E st h => wpAny_pyIter_zip st.1 h) fun X hP hw hK hc i pins s σ H I st hg => ?_
  · obtain ⟨g1, g2, ⟨a1, a2, g3⟩, g4, g5⟩ := st
    rcases (by simpa using hb : b = N + 4 ∨ b = N + 2 ∨ b = N + 3 ∨ b = N ∨ b = N + 1) with e | e | e | e | e
    · rw [e]; exact ⟨_, g1, fun v q => nomatch q⟩
    · rw [e]; exact ⟨_, g2, fun v q => nomatch q⟩
    · rw [e]; exact ⟨_, g3, fun v q => nomatch q⟩
    · obtain ⟨o, ho, _, hd⟩ := Sr.it_obj g4
      rw [e]; exact ⟨o, ho, hd⟩
    · obtain ⟨o, ho, _, hd⟩ := Sr.it_obj g5
      rw [e]; exact ⟨o, ho, hd⟩
  · obtain ⟨g1, g2, ⟨a1, a2, g3⟩, g4, g5⟩ := st
    exact ⟨k (N + 4) (by simp) _ g1, k (N + 2) (by simp) _ g2, ⟨a1, a2, k (N + 3) (by simp) _ g3⟩, Sr.it_at g4 fun o e => k N (by simp) o e, Sr.it_at g5 fun o e => k (N + 1) (by simp) o e⟩
  · obtain ⟨g1, g2, g3, g4, g5⟩ := st
    obtain ⟨xs, ys, hx, hy⟩ : ∃ xs ys, r.Hd K xs H ∧ q.Hd K ys H := by
      rcases hg with ⟨xs, ys, _, _, h, h', _⟩ | ⟨xs, ys, h, h', _⟩ <;> exact ⟨xs, ys, h, h'⟩
    subst hP hw hK
    obtain ⟨P1, St1, D1, s1, b1, p1⟩ := Sr.draws I hx g4
    obtain ⟨P2, St2, D2, s2, b2, p2⟩ := Sr.draws I hy g5
    have hh := I.ok.hd hc
    have W := WalksT.zipD2 (prog := X.prog) (w := X.w) (A := X.A) (zip_sep2 h1 h2) (D1 X.A.in1 hh) (D2 X.A.in1 hh)
    refine ⟨_, _, _, _, _, _, W, ⟨g1, g2, g3, s1 i g4, s2 i g5⟩, fun b hb => ?_, fun j h ⟨x1, x2, x3, x4, x5⟩ => ⟨x1, x2, x3, b1 j h x4, b2 j h x5⟩, fun hgo => ?_, fun hst => ?_⟩
    · rcases (by simpa using hb : b = N + 4 ∨ b = N + 3 ∨ b = N ∨ b = N + 1) with e | e | e | e <;> simp [e]
    · obtain ⟨xs', ys', x, y, hx', hy', ex, ey⟩ := hgo
      have e1 := Sr.hd_inj I hx hx'
      have e2 := Sr.hd_inj I hy hy'
      subst e1 e2
      have l1 := (List.getElem?_eq_some_iff.mp ex).1
      have l2 := (List.getElem?_eq_some_iff.mp ey).1
      refine ⟨by omega, fun vals ⟨u1, u2, hu1, hu2, ev⟩ => ?_⟩
      obtain ⟨x', ex', rx⟩ := p1 i u1 hu1
      obtain ⟨y', ey', ry⟩ := p2 i u2 hu2
      rw [ex] at ex'; cases ex'
      rw [ey] at ey'; cases ey'
      subst ev
      exact ⟨x, y, is_two rx ry, fun T hT => ⟨T, x, y, rfl, hT, rfl, fun zs hz => by rw [← Sr.hd_inj I hx hz]; exact ex, fun zs hz => by rw [← Sr.hd_inj I hy hz]; exact ey⟩⟩
    · obtain ⟨xs', ys', hx', hy', el⟩ := hst
      rw [Sr.hd_inj I hx hx', Sr.hd_inj I hy hy', el]

/-! ### what a walk yields, over data -/
structure WalkD (K : PySem.W.Frag) (J : It) (μ0 : List Addr) (H0 : Hp) (wk : Wk) : Prop where
  go : ∀ (i : Nat) (μ : List Addr) (A : Ht) (H : Hp), i < wk.items.length → Stp μ0 H0 μ H → HR K μ A H → wk.ok A → J.go i H
  stop : ∀ (μ : List Addr) (A : Ht) (H : Hp), Stp μ0 H0 μ H → HR K μ A H → wk.ok A → J.stop wk.items.length H
  yld : ∀ (i : Nat) (μ : List Addr) (A : Ht) (H : Hp) (x : V) (H' : Hp), i < wk.items.length → Stp μ0 H0 μ H → HR K μ A H → wk.ok A → J.yld i H x H' →
    ∃ d, wk.items[i]? = some d ∧ RelD K μ H' d x ∧ Stp μ H μ H' ∧ HR K μ A H'
/-- what stands at a source -/
def SrD (K : PySem.W.Frag) (r : Sr) (μ0 : List Addr) (H0 : Hp) (wk : Wk) : Prop :=
  ∀ (μ : List Addr) (A : Ht) (H : Hp), Stp μ0 H0 μ H → HR K μ A H → wk.ok A → ∃ xs, r.Hd K xs H ∧ RelDs K μ H wk.items xs
theorem signs_rel {K : PySem.W.Frag} {μ : List Addr} {H : Hp} (x : Str) : RelDs K μ H (x.cps.toList.map fun c => D.str ⟨#[c]⟩) (signs x) := by
  unfold signs
  induction x.cps.toList with
  | nil => exact .nil
  | cons c r ih => exact .cons to_str ih
theorem src_of {K : PySem.W.Frag} {μ : List Addr} {A : Ht} {H : Hp} {d : D} {v : V} {u : Value} {k : Wk → Prop} (hr : HR K μ A H) (hv : RelD K μ H d v) (ru : RelV v u) (h : wkD d A k) :
    ∃ r wk, r.val = u ∧ SrD K r μ H wk ∧ wk.ok A ∧ (∀ a ∈ r.adr, (∃ o, H a = some o) ∨ (K.lookup a).isSome = true) ∧ k wk := by
  have adrL : ∀ {a : Addr} {vs : List V}, (SqL K H a vs ∨ SqT K H a vs) → (∃ o, H a = some o) ∨ (K.lookup a).isSome = true := fun {a vs} h => by
    rcases h with ((h | ⟨o, h⟩) | ⟨o, _, _, h, _⟩) | ((h | ⟨o, h⟩) | ⟨o, _, _, h, _⟩)
    · exact .inl ⟨_, h⟩
    · exact .inl ⟨_, h⟩
    · exact .inr (by rw [h]; rfl)
    · exact .inl ⟨_, h⟩
    · exact .inl ⟨_, h⟩
    · exact .inr (by rw [h]; rfl)
  unfold wkD at h
  split at h
  · obtain ⟨a, vs, rfl, hq, hvs⟩ := rel_tup hv
    cases ru
    exact ⟨.tup a, _, rfl, fun μ' A' H' s _ _ => ⟨vs, s.sqT hq, hvs.mono s _ _⟩, trivial, fun b hb => by rw [(by simpa [Sr.adr] using hb : b = a)]; exact adrL (.inr hq), h⟩
  · obtain ⟨a, vs, rfl, hq, hvs⟩ := rel_rol hv
    cases ru
    exact ⟨.lst a, _, rfl, fun μ' A' H' s _ _ => ⟨vs, (hq.fix s.fix).sq, hvs.mono s _ _⟩, trivial, fun b hb => by rw [(by simpa [Sr.adr] using hb : b = a)]; exact adrL (.inl hq.sq), h⟩
  · obtain ⟨a, vs, o, rfl, hq, hvs⟩ := rel_ls hv
    cases ru
    exact ⟨.lst a, _, rfl, fun μ' A' H' s _ _ => ⟨vs, frz_sq (s.fix _ _ hq trivial), hvs.mono s _ _⟩, trivial, fun b hb => by rw [(by simpa [Sr.adr] using hb : b = a)]; exact adrL (.inl (frz_sq hq)), h⟩
  · cases rel_str hv
    obtain ⟨t, rfl⟩ := ru
    exact ⟨.txt _ t, _, rfl, fun μ' A' H' s _ _ => ⟨_, rfl, signs_rel _⟩, trivial, fun b hb => by simp [Sr.adr] at hb, h⟩
  · split at h
    · rename_i n ds e
      obtain ⟨a, vs, en, rfl, ea, hvs⟩ := hr.lst e hv
      cases ru
      refine ⟨.lst a, _, rfl, fun μ' A' H' s hr' e' => ?_, e, fun b hb => by rw [(by simpa [Sr.adr] using hb : b = a)]; exact .inl ⟨_, ea⟩, h⟩
      obtain ⟨b, ws, eb, _, eb2, hw⟩ := hr'.lst e' (to_obj (pre_get s.pre en))
      rw [pre_get s.pre en] at eb; cases eb
      exact ⟨ws, .inl (.inl eb2), hw⟩
    · rename_i n ds e
      obtain ⟨a, vs, en, rfl, ⟨o, ea⟩, hvs⟩ := hr.ro e hv
      cases ru
      refine ⟨.lst a, _, rfl, fun μ' A' H' s hr' _ => ?_, trivial, fun b hb => by rw [(by simpa [Sr.adr] using hb : b = a)]; exact .inl ⟨_, ea⟩, h⟩
      exact ⟨vs, .inl (.inr ⟨o, s.fix _ _ ea trivial⟩), hvs.mono s _ _⟩
    · exact h.elim
  · exact h.elim
theorem walk_enumD {K : PySem.W.Frag} {r : Sr} {μ0 : List Addr} {H0 : Hp} {wk : Wk} (S : SrD K r μ0 H0 wk) :
    WalkD K (ItE K r) μ0 H0 ⟨wk.items.zipIdx.map fun p => .tup [.int (p.2 : Int), p.1], wk.ok⟩ := by
  have ln : (wk.items.zipIdx.map fun p => D.tup [.int (p.2 : Int), p.1]).length = wk.items.length := by simp
  refine ⟨fun i μ A H hi s hr ok => ?_, fun μ A H s hr ok => ?_, fun i μ A H x H' hi s hr ok hy => ?_⟩
  · obtain ⟨xs, h, r1⟩ := S μ A H s hr ok
    rw [ln] at hi
    obtain ⟨v, ev, _⟩ := r1.get (List.getElem?_eq_getElem hi)
    exact ⟨xs, v, h, ev⟩
  · obtain ⟨xs, h, r1⟩ := S μ A H s hr ok
    exact ⟨xs, h, by rw [ln]; exact r1.length.symm⟩
  · obtain ⟨xs, h, r1⟩ := S μ A H s hr ok
    obtain ⟨T, v, rfl, hT, rfl, hx⟩ := hy
    obtain ⟨d, ed, rd⟩ := r1.getV (hx xs h)
    have s1 : Stp μ H μ (upd H T (.tup [.int (i : Nat), v])) := stp_upd0 hT
    refine ⟨.tup [.int (i : Int), d], ?_, to_tup (.inl (.inl upd_same)) (.cons to_int (.cons (rd.mono s1 _ _) .nil)), s1, hr.tupd hT⟩
    rw [List.getElem?_map, List.getElem?_zipIdx, ed]
    simp
theorem walk_zipD {K : PySem.W.Frag} {r q : Sr} {μ0 : List Addr} {H0 : Hp} {wk wk2 : Wk} (S : SrD K r μ0 H0 wk) (S2 : SrD K q μ0 H0 wk2) :
    WalkD K (ItZ K r q) μ0 H0 ⟨(wk.items.zip wk2.items).map fun p => .tup [p.1, p.2], fun A' => wk.ok A' ∧ wk2.ok A'⟩ := by
  have ln : ((wk.items.zip wk2.items).map fun p => D.tup [p.1, p.2]).length = min wk.items.length wk2.items.length := by simp
  refine ⟨fun i μ A H hi s hr ok => ?_, fun μ A H s hr ok => ?_, fun i μ A H x H' hi s hr ok hy => ?_⟩
  · obtain ⟨xs, h, r1⟩ := S μ A H s hr ok.1
    obtain ⟨ys, h2, r2⟩ := S2 μ A H s hr ok.2
    rw [ln] at hi
    obtain ⟨v, ev, _⟩ := r1.get (List.getElem?_eq_getElem (by omega : i < wk.items.length))
    obtain ⟨v2, ev2, _⟩ := r2.get (List.getElem?_eq_getElem (by omega : i < wk2.items.length))
    exact ⟨xs, ys, v, v2, h, h2, ev, ev2⟩
  · obtain ⟨xs, h, r1⟩ := S μ A H s hr ok.1
    obtain ⟨ys, h2, r2⟩ := S2 μ A H s hr ok.2
    exact ⟨xs, ys, h, h2, by rw [ln, r1.length, r2.length]⟩
  · obtain ⟨xs, h, r1⟩ := S μ A H s hr ok.1
    obtain ⟨ys, h2, r2⟩ := S2 μ A H s hr ok.2
    obtain ⟨T, v, v2, rfl, hT, rfl, hx, hx2⟩ := hy
    obtain ⟨d, ed, rd⟩ := r1.getV (hx xs h)
    obtain ⟨d2, ed2, rd2⟩ := r2.getV (hx2 ys h2)
    have s1 : Stp μ H μ (upd H T (.tup [v, v2])) := stp_upd0 hT
    refine ⟨.tup [d, d2], ?_, to_tup (.inl (.inl upd_same)) (.cons (rd.mono s1 _ _) (.cons (rd2.mono s1 _ _) .nil)), s1, hr.tupd hT⟩
    rw [List.getElem?_map, List.zip_eq_zipWith, List.getElem?_zipWith, ed, ed2]
    rfl
/-- an element after another, plainly -/
def ItS (K : PySem.W.Frag) (r : Sr) : It := match r with
  | .lst a => Itl K a | .tup a => Itt K a | .txt x _ => Its x
theorem walk_seqD {K : PySem.W.Frag} {r : Sr} {μ0 : List Addr} {H0 : Hp} {wk : Wk} (S : SrD K r μ0 H0 wk) : WalkD K (ItS K r) μ0 H0 wk := by
  cases r with
  | lst a =>
    refine ⟨fun i μ A H hi s hr ok => ?_, fun μ A H s hr ok => ?_, fun i μ A H x H' hi s hr ok hy => ?_⟩
    · obtain ⟨xs, h, r1⟩ := S μ A H s hr ok
      obtain ⟨v, ev, _⟩ := r1.get (List.getElem?_eq_getElem hi)
      exact ⟨xs, v, h, ev⟩
    · obtain ⟨xs, h, r1⟩ := S μ A H s hr ok
      exact ⟨xs, h, Nat.le_of_eq r1.length.symm⟩
    · obtain ⟨xs, h, r1⟩ := S μ A H s hr ok
      obtain ⟨rfl, hx⟩ := hy
      obtain ⟨d, ed, rd⟩ := r1.getV (hx xs h)
      exact ⟨d, ed, rd, .refl, hr⟩
  | tup a =>
    refine ⟨fun i μ A H hi s hr ok => ?_, fun μ A H s hr ok => ?_, fun i μ A H x H' hi s hr ok hy => ?_⟩
    · obtain ⟨xs, h, r1⟩ := S μ A H s hr ok
      obtain ⟨v, ev, _⟩ := r1.get (List.getElem?_eq_getElem hi)
      exact ⟨xs, v, h, ev⟩
    · obtain ⟨xs, h, r1⟩ := S μ A H s hr ok
      exact ⟨xs, h, Nat.le_of_eq r1.length.symm⟩
    · obtain ⟨xs, h, r1⟩ := S μ A H s hr ok
      obtain ⟨rfl, hx⟩ := hy
      obtain ⟨d, ed, rd⟩ := r1.getV (hx xs h)
      exact ⟨d, ed, rd, .refl, hr⟩
  | txt y t =>
    have wkt := walk_str (z := y)
    refine ⟨fun i μ A H hi s hr ok => ?_, fun μ A H s hr ok => ?_, fun i μ A H x H' hi s hr ok hy => ?_⟩
    · obtain ⟨xs, h, r1⟩ := S μ A H s hr ok
      cases (show xs = signs y from h)
      have l := r1.length
      unfold signs at l
      rw [List.length_map, Array.length_toList] at l
      exact wkt.goes i H (by omega) trivial
    · obtain ⟨xs, h, r1⟩ := S μ A H s hr ok
      cases (show xs = signs y from h)
      have l := r1.length
      unfold signs at l
      rw [List.length_map, Array.length_toList] at l
      rw [l]
      exact wkt.stops H trivial
    · obtain ⟨xs, h, r1⟩ := S μ A H s hr ok
      cases (show xs = signs y from h)
      have l := r1.length
      unfold signs at l
      rw [List.length_map, Array.length_toList] at l
      obtain ⟨rfl, c, hc, rfl⟩ := wkt.yields i H x H' (by omega) trivial hy
      obtain ⟨d, ed, rd⟩ := r1.getV (i := i) (v := .str ⟨#[c]⟩) (by unfold signs; rw [List.getElem?_map, Array.getElem?_toList, hc]; rfl)
      exact ⟨d, ed, rd, .refl, hr⟩
theorem walk_rngD {K : PySem.W.Frag} {μ0 : List Addr} {H0 : Hp} (lo : Int) (n : Nat) : WalkD K (Itr lo n) μ0 H0 ⟨rngD lo n, fun _ => True⟩ := by
  have ln : (rngD lo n).length = n := by simp [rngD]
  refine ⟨fun i μ A H hi s hr ok => ?_, fun μ A H s hr ok => ?_, fun i μ A H x H' hi s hr ok hy => ?_⟩
  · show i < n
    have hi' : i < (rngD lo n).length := hi
    omega
  · show n ≤ (rngD lo n).length
    omega
  · obtain ⟨rfl, rfl⟩ := hy
    have hi' : i < (rngD lo n).length := hi
    refine ⟨.int (lo + i), ?_, to_int, .refl, hr⟩
    show (rngD lo n)[i]? = _
    unfold rngD
    rw [List.getElem?_map, List.getElem?_range (by omega)]
    rfl
theorem walk_stepD {K : PySem.W.Frag} {μ0 : List Addr} {H0 : Hp} (lo c : Int) (n : Nat) : WalkD K (Itc lo c n) μ0 H0 ⟨stepD lo c n, fun _ => True⟩ := by
  have ln : (stepD lo c n).length = n := by simp [stepD]
  refine ⟨fun i μ A H hi s hr ok => ?_, fun μ A H s hr ok => ?_, fun i μ A H x H' hi s hr ok hy => ?_⟩
  · show i < n
    have hi' : i < (stepD lo c n).length := hi
    omega
  · show n ≤ (stepD lo c n).length
    omega
  · obtain ⟨rfl, rfl⟩ := hy
    have hi' : i < (stepD lo c n).length := hi
    refine ⟨.int (lo + (i : Nat) * c), ?_, to_int, .refl, hr⟩
    show (stepD lo c n)[i]? = _
    unfold stepD
    rw [List.getElem?_map, List.getElem?_range (by omega)]
    rfl
end Px
end TextPx8

section TextPx9
set_option autoImplicit false
set_option maxRecDepth 100000
set_option maxHeartbeats 2000000
/-! Px9: walks begun, loops, comprehensions. -/
namespace Px
open PySem PySem.Spec PyProof.Rows L2
abbrev WIt := Rho → Ht → (D → Ht → Prop) → (Wk → Ht → Prop) → Prop
section
variable (K : PySem.W.Frag) (T : Tab) (hx : HX) (W : WX)
def tDI (w : WIt) : TI := fun σ H R => ∃ μ ρ A E Q', Pk K T hx W μ ρ A E σ H ∧ w ρ A E Q' ∧ ∀ J H' μ' wk A', Stp μ H μ' H' → HR K μ' A' H' → WalkD K J μ' H' wk → Q' wk A' → R J H'
end
section
variable {X : Cx} {T : Tab} {hx : HX} {W : WX}
theorem PI.weaken {tg iter : Expr} {t t' : TI} (h : PI X tg iter t) (k : ∀ σ H R, t' σ H R → t σ H R) : PI X tg iter t' := ⟨fun pins s σ H R I q => h.run pins s σ H R I (k σ H R q)⟩
theorem wks_at {d : D} {A : Ht} {k : Wk → Prop} (h : wkS d A k) : (∃ i j, d = .rg i j ∧ (-(2 ^ 62) ≤ i ∧ i < 2 ^ 62 ∧ -(2 ^ 62) ≤ j ∧ j < 2 ^ 62) ∧ k ⟨rngD i (j - i).toNat, fun _ => True⟩) ∨ wkD d A k := by
  cases d with
  | rg i j => exact .inl ⟨i, j, rfl, h⟩
  | _ => exact .inr h
/-- a range that is at hand, walked -/
theorem rng_it {tg : Expr} {pins : List (Addr × Obj)} {σ : L2.St} {H : Hp} {s : Shared} {R : It → Hp → Prop} {E : Value → Shared → Prop} {lo hi : Int} {a : Addr} (I : Inv X pins σ H s) (ha : H a = some (.rng lo hi)) (h1 : -(2 ^ 62) ≤ lo) (h2 : lo < 2 ^ 62) (h3 : -(2 ^ 62) ≤ hi) (h4 : hi < 2 ^ 62)
    (q : R (Itr lo (hi - lo).toNat) H) : wpAny (model X.prog X.w) X.A (pyIter (.ref a)) (PIE X pins σ tg R) E s := by
  obtain ⟨t, u, v, ho⟩ := I.hok a _ ha
  refine wpAny_pyIter_range (a := lo) (b := hi) (c := 1) (t := t) (u := u) (v := v) ho (small_one h1 h2 h3 h4) ?_
  refine pi_one (tk := s.toks) I _ (turn_range _ lo (hi - lo).toNat) ?_ q
  have e1 : lo + ((0 : Nat) : Int) * 1 = lo := by simp
  have e2 : (((hi - lo).toNat : Nat) : Int) - ((0 : Nat) : Int) = Builtin.Range.rangeSize lo hi 1 := by rw [rangeSize_one]; split <;> omega
  show IsRangeIter _ _ (lo + ((0 : Nat) : Int) * 1) ((((hi - lo).toNat : Nat) : Int) - ((0 : Nat) : Int)) 1
  rw [e1, e2]
  exact Heap.get?_push_size _ rfl
/-- for x in e, e a list, a tuple, a text, a range -/
theorem pi_seqX {tg e : Expr} {we : WE} (he : PE X e (tDE X.K T hx W we)) : PI X tg e (tDI X.K T hx W fun ρ A E Q => we ρ A E fun d A1 => wkS d A1 fun w => Q w A1) := by
  refine ⟨fun pins s σ H R I h => ?_⟩
  obtain ⟨μ, ρ, A, E, Q', p, h, fin⟩ := h
  refine thn (he.run pins s σ H _ I (tDE.go (R := fun v H1 => ∃ μ1 A1 d, Stp μ H μ1 H1 ∧ HR X.K μ1 A1 H1 ∧ RelD X.K μ1 H1 d v ∧ wkS d A1 fun w => Q' w A1) p h fun v H1 μ1 d A1 s1 r p1 q => ⟨μ1, A1, d, s1, p1.h, r, q⟩)) fun u s1 ⟨v, H1, I1, ru, μ1, A1, d, st1, hr, rd, q⟩ => ?_
  rcases wks_at q with ⟨i, j, rfl, ⟨q1, q2, q3, q4⟩, q⟩ | q
  · obtain ⟨a, rfl, ha⟩ := rel_rg rd
    obtain rfl : u = Value.ref a := ru
    exact rng_it I1 ha q1 q2 q3 q4 (fin _ _ μ1 _ A1 st1 hr (walk_rngD i (j - i).toNat) q)
  obtain ⟨r, wk, ev, S, ok, _, q⟩ := src_of hr rd ru q
  have wd := walk_seqD S
  have hR : ∀ H', H' = H1 → R (ItS X.K r) H' := fun H' e => by rw [e]; exact fin _ _ μ1 wk A1 st1 hr wd q
  obtain ⟨xs, hd, _⟩ := S μ1 A1 H1 .refl hr ok
  subst ev
  have fresh : ∀ b ∈ [s1.heap.objs.size], FpOk X pins H1 b := fun b hb => by
    have e : b = s1.heap.objs.size := by simpa using hb
    subst e
    exact I1.fpOk (Nat.le_refl _) (I1.hok.fresh (Nat.le_refl _))
  cases r with
  | lst a =>
    obtain ⟨its, rv, p', hz⟩ := I1.list hd
    exact wpAny_pyIter_list p'.isList ⟨s1.heap.objs.size, [s1.heap.objs.size], _, _, H1, rfl, I1.kept (t' := s1.toks) fun b o e => Heap.get?_push_of_some _ e, turn_list a _, ⟨_, Heap.get?_push_size _ rfl, rfl, rfl⟩, fresh, hR _ rfl⟩
  | tup a =>
    obtain ⟨its, rv, p', hz⟩ := I1.tuple hd
    exact wpAny_pyIter_tuple (show s1.heap.IsTuple a its.toArray from p') ⟨s1.heap.objs.size, [s1.heap.objs.size], _, _, H1, rfl, I1.kept (t' := s1.toks) fun b o e => Heap.get?_push_of_some _ e, turn_tuple a _, ⟨_, Heap.get?_push_size _ rfl, rfl, rfl⟩, fresh, hR _ rfl⟩
  | txt x t =>
    cases ha : x.cps.all (· < 128)
    · exact wpAny_pyIter_wide ha (pi_one (tk := s1.toks) I1 _ (turn_str _ x t "str_iterator" (.inr rfl)) ⟨_, Heap.get?_push_size _ rfl, rfl, rfl⟩ (hR _ rfl))
    · exact wpAny_pyIter_ascii ha (pi_one (tk := s1.toks) I1 _ (turn_str _ x t "str_ascii_iterator" (.inl rfl)) ⟨_, Heap.get?_push_size _ rfl, rfl, rfl⟩ (hR _ rfl))
/-- the cells of a source are old -/
theorem adr_lt {pins : List (Addr × Obj)} {σ : L2.St} {H : Hp} {s : Shared} (I : Inv X pins σ H s) {a : Addr} (h : (∃ o, H a = some o) ∨ (X.K.lookup a).isSome = true) : a < s.heap.objs.size := by
  rcases h with ⟨o, h⟩ | h
  · exact I.hok.lt h
  · obtain ⟨o, e⟩ := Option.isSome_iff_exists.mp h
    exact Heap.lt_size (I.kIn a o e)
end
set_option maxHeartbeats 1000000 in
theorem meets_enumerate_new1 {v : Value} {o : Obj} {H : Heap → Prop} (B : Begins v o H) :
    Meets (Builtin.«enumerate.__new__» ⟨[.type "enumerate", v], []⟩) (fun _ R s => H s.heap ∧
      R (.ok (.ret (.ref (s.heap.push o).objs.size))) { s with heap := (s.heap.push o).push { cls := .type "enumerate", data := .fields #[.none, .bool false, .ref s.heap.objs.size, rawInt 0, .none, .none] } }) :=
  .of_wp fun prog w A R s h => by
    obtain ⟨hp, g, d, tk, os⟩ := s; obtain ⟨h1, h⟩ := h
    have hsub := sub_enumerate
    have q1 : ∀ {A' : Around} {E : Value → Shared → Prop} {Q : Value → Shared → Prop}, Q (.ref hp.objs.size) ⟨hp.push o, g, d, tk, os⟩ → wpAny (model prog w) A' (pyIter v) Q E ⟨hp, g, d, tk, os⟩ :=
      fun q => B.iter prog w _ _ ⟨hp, g, d, tk, os⟩ _ h1 q
    wp_walk using q1
    first
      | exact ⟨_, rfl, h⟩
      | (refine wpAny_stack_any fun st => wpAny_pure ?_
         split
         · rename_i c _ _ _ _ _
           cases (c == Value.type "enumerate")
           · wp_walk using q1
             exact ⟨_, rfl, h⟩
           · wp_walk using q1
             exact ⟨_, rfl, h⟩
         · wp_walk using q1
           exact ⟨_, rfl, h⟩)
section
variable {X : Cx} {T : Tab} {hx : HX} {W : WX}
/-- enumerate(v) of anything that begins -/
theorem call_enumerate_any {prog : Program} {w : World} {A : Around} {E : Value → Shared → Prop} {s : Shared} {v : Value} {o : Obj} {Hh : Heap → Prop} {Q : Value → Shared → Prop} (B : Begins v o Hh) (h1 : Hh s.heap)
    (h : ∀ h', IsEnum h' (s.heap.objs.size + 1) s.heap.objs.size 0 .none → h'.get? s.heap.objs.size = some o → h'.objs.size = s.heap.objs.size + 2 → (∀ b o, s.heap.get? b = some o → h'.get? b = some o) → Q (.ref (s.heap.objs.size + 1)) { s with heap := h' }) :
    wpAny (model prog w) A (call (.type "enumerate") [v]) Q E s := by
  refine callType_new F.called_enumerate (by decide) (F.typeCall_enumerate_1 _) (F.newCall_enumerate_1 _) (fun obj => F.args_object_init_2 obj _) F.entry_enumerate_new
    (meets_enumerate_new1 B) ⟨h1, ?_⟩
  have hz : (s.heap.push o).objs.size = s.heap.objs.size + 1 := Heap.size_push ..
  show _ ∧ _
  rw [hz]
  have he : IsEnum ((s.heap.push o).push { cls := .type "enumerate", data := .fields #[.none, .bool false, .ref s.heap.objs.size, rawInt 0, .none, .none] }) (s.heap.objs.size + 1) s.heap.objs.size 0 .none := by
    have := Heap.get?_push_size (s.heap.push o) (o := { cls := .type "enumerate", data := .fields #[.none, .bool false, .ref s.heap.objs.size, rawInt 0, .none, .none] }) rfl
    rw [hz] at this; exact this
  exact ⟨⟨_, he, rfl⟩, h _ he (Heap.get?_push_of_some _ (Heap.get?_push_size _ B.free)) (by rw [Heap.size_push, hz]) fun b o x => Heap.get?_push_of_some _ (Heap.get?_push_of_some _ x)⟩
/-- for i, x in enumerate(e) -/
theorem pi_enumX {e : Expr} {we : WE} {p pos tpos : Pos} {elts : List Expr} {kk : Nat} (hg : Gl X "enumerate") (hm : X.mg "enumerate" = none) (he : PE X e (tDE X.K T hx W we)) (hs : starEach [e] X.env = (false, eval e X.env) :: starEach [] X.env) :
    PI X (.Tuple elts kk tpos) (.Call (.Name "enumerate" p) [e] [] pos) (tDI X.K T hx W fun ρ A E Q => we ρ A E fun d A1 => wkD d A1 fun w => Q ⟨w.items.zipIdx.map fun p => .tup [.int (p.2 : Int), p.1], w.ok⟩ A1) := by
  refine ⟨fun pins s σ H R I h => ?_⟩
  obtain ⟨μ, ρ, A, E, Q', p, h, fin⟩ := h
  have hA := (pa_cons he pa_nil hs).run pos pins s σ H (fun vs H1 => ∃ v, vs = [v] ∧ ∃ μ1 A1 d, Stp μ H μ1 H1 ∧ HR X.K μ1 A1 H1 ∧ RelD X.K μ1 H1 d v ∧ wkD d A1 fun w => Q' ⟨w.items.zipIdx.map fun p => .tup [.int (p.2 : Int), p.1], w.ok⟩ A1) I
    (tDE.go p h fun v H1 μ1 d A1 s1 r p1 q => ⟨v, rfl, μ1, A1, d, s1, p1.h, r, q⟩)
  refine Call_ (ld_blt I hg hm boot_enumerate (PyProof.Rows.callWith_type1 (thn hA fun us s1 ⟨vs, H1, I1, r1, v, ev, μ1, A1, d, st1, hr, rd, q⟩ => ?_) hs rfl))
  subst ev
  obtain ⟨u, rfl, ru⟩ := Vals.one r1
  obtain ⟨r, wk, eu, S, ok, hadr, q⟩ := src_of hr rd ru q
  subst eu
  obtain ⟨xs, hd, _⟩ := S μ1 A1 H1 .refl hr ok
  obtain ⟨Hh, B, hB⟩ := Sr.begins I1 hd
  refine call_enumerate_any B hB fun h' he' hit hsz hk => wpAny_pyIter_enum he' ?_
  have I2 : Inv X pins σ H1 { s1 with heap := h' } := I1.kept (t' := s1.toks) hk
  have hne : s1.heap.objs.size + 1 ≠ s1.heap.objs.size := Nat.succ_ne_self _
  have hea : s1.heap.objs.size + 1 ∉ r.adr := fun z => by
    exact absurd (adr_lt I1 (hadr _ z)) (Nat.not_lt.mpr (Nat.le_add_right _ _))
  refine ⟨s1.heap.objs.size + 1, [s1.heap.objs.size + 1, s1.heap.objs.size], _, _, H1, rfl, I2, turn_enumA r _ _ hne hea, ⟨⟨.none, he'⟩, Sr.start hit⟩, fun b hb => ?_, fin _ _ μ1 _ A1 st1 hr (walk_enumD S) q⟩
  have hle : s1.heap.objs.size ≤ b := by
    rcases (by simpa using hb : b = s1.heap.objs.size + 1 ∨ b = s1.heap.objs.size) with z | z
    · rw [z]; exact Nat.le_add_right _ _
    · rw [z]; exact Nat.le_refl _
  exact I1.fpOk hle (I1.hok.fresh hle)
/-- for x, y in zip(a, b) -/
theorem pi_zipX {a b : Expr} {wa wb : WE} {p pos tpos : Pos} {elts : List Expr} {kk : Nat} (hg : Gl X "zip") (hm : X.mg "zip" = none) (ha : PE X a (tDE X.K T hx W wa)) (hb : PE X b (tDE X.K T hx W wb))
    (hs : starEach [a, b] X.env = (false, eval a X.env) :: starEach [b] X.env) (hs2 : starEach [b] X.env = (false, eval b X.env) :: starEach [] X.env) :
    PI X (.Tuple elts kk tpos) (.Call (.Name "zip" p) [a, b] [] pos) (tDI X.K T hx W fun ρ A E Q => wa ρ A E fun d A1 => wb ρ A1 E fun e A2 => wkD d A2 fun w => wkD e A2 fun v =>
      Q ⟨(w.items.zip v.items).map fun p => .tup [p.1, p.2], fun A' => w.ok A' ∧ v.ok A'⟩ A2) := by
  refine ⟨fun pins s σ H R I h => ?_⟩
  obtain ⟨μ, ρ, A, E, Q', p, h, fin⟩ := h
  have hA := (pa_cons ha (pa_cons hb pa_nil hs2) hs).run pos pins s σ H (fun vs H1 => ∃ v u, vs = [v, u] ∧ ∃ μ1 A1 d e, Stp μ H μ1 H1 ∧ HR X.K μ1 A1 H1 ∧ RelD X.K μ1 H1 d v ∧ RelD X.K μ1 H1 e u ∧ wkD d A1 fun w => wkD e A1 fun v => Q' ⟨(w.items.zip v.items).map fun p => .tup [p.1, p.2], fun A' => w.ok A' ∧ v.ok A'⟩ A1) I
    (tDE.go p h fun v H1 μ1 d A1 s1 r p1 q => tDE.go p1 q fun u H2 μ2 e A2 s2 r2 p2 q2 => ⟨v, u, rfl, μ2, A2, d, e, s1.trans s2, p2.h, r.mono s2 _ _, r2, q2⟩)
  refine Call_ (ld_blt I hg hm (show bootBuiltins "zip" = some (.type "zip") from by decide +kernel) (PyProof.Rows.callWith_type1 (thn hA fun us s1 ⟨vs, H1, I1, r1, v, u, ev, μ1, A1, d, e, st1, hr, rd, re, q⟩ => ?_) (by rw [hs]) (by rw [hs2]; rfl)))
  subst ev
  obtain ⟨v1, v2, rfl, rv1, rv2⟩ := Vals.two r1
  obtain ⟨r, wk, e1, S, ok, adr1, q⟩ := src_of hr rd rv1 q
  obtain ⟨r', wk2, e2, S2, ok2, adr2, q⟩ := src_of hr re rv2 q
  subst e1 e2
  obtain ⟨xs, hd, _⟩ := S μ1 A1 H1 .refl hr ok
  obtain ⟨ys, hd2, _⟩ := S2 μ1 A1 H1 .refl hr ok2
  obtain ⟨Hh, B, hB⟩ := Sr.begins I1 hd
  obtain ⟨Hh2, B2, hB2⟩ := Sr.begins I1 hd2
  refine zip_begins2 B B2 hB hB2 fun h' hz hT hO g1 g2 hsz hk => wpAny_pyIter_zip hz ?_
  have I2 : Inv X pins σ H1 { s1 with heap := h' } := I1.kept (t' := s1.toks) hk
  refine ⟨s1.heap.objs.size + 4, _, _, _, H1, rfl, I2, turn_zipA (N := s1.heap.objs.size) r r' (fun b hb => adr_lt I1 (adr1 b hb)) (fun b hb => adr_lt I1 (adr2 b hb)), ⟨hz, hT, ⟨_, _, hO⟩, Sr.start g1, Sr.start g2⟩, fun b hb => ?_, fin _ _ μ1 _ A1 st1 hr (walk_zipD S S2) q⟩
  have hle : s1.heap.objs.size ≤ b := by
    rcases (by simpa using hb : b = s1.heap.objs.size + 4 ∨ b = s1.heap.objs.size + 2 ∨ b = s1.heap.objs.size + 3 ∨ b = s1.heap.objs.size ∨ b = s1.heap.objs.size + 1) with z | z | z | z | z <;> (rw [z]; first | exact Nat.le_add_right _ _ | exact Nat.le_refl _)
  exact I1.fpOk hle (I1.hok.fresh hle)
theorem pi_rng1X {tg a : Expr} {wa : WE} {p pos : Pos} (hg : Gl X "range") (hm : X.mg "range" = none) (ha : PE X a (tDE X.K T hx W wa)) (hs : starEach [a] X.env = (false, eval a X.env) :: starEach [] X.env) :
    PI X tg (.Call (.Name "range" p) [a] [] pos) (tDI X.K T hx W fun ρ A E Q => wa ρ A E fun d A1 => match d with
      | .int j => -(2 ^ 62) ≤ j ∧ j < 2 ^ 62 ∧ Q ⟨rngD 0 j.toNat, fun _ => True⟩ A1
      | _ => False) := by
  refine PI.weaken (pi_range1 hg hm (pa_cons ha pa_nil hs) hs) fun σ H R h => ?_
  obtain ⟨μ, ρ, A, E, Q', p, h, fin⟩ := h
  refine tDE.go p h fun v H1 μ1 d A1 s1 r p1 q => ?_
  split at q
  · cases rel_int r
    exact ⟨_, rfl, q.1, q.2.1, fin _ _ μ1 _ A1 s1 p1.h (walk_rngD _ _) q.2.2⟩
  · exact q.elim
theorem pi_rng2X {tg a b : Expr} {wa wb : WE} {p pos : Pos} (hg : Gl X "range") (hm : X.mg "range" = none) (ha : PE X a (tDE X.K T hx W wa)) (hb : PE X b (tDE X.K T hx W wb))
    (hs : starEach [a, b] X.env = (false, eval a X.env) :: starEach [b] X.env) (hs2 : starEach [b] X.env = (false, eval b X.env) :: starEach [] X.env) :
    PI X tg (.Call (.Name "range" p) [a, b] [] pos) (tDI X.K T hx W fun ρ A E Q => wa ρ A E fun d A1 => wb ρ A1 E fun e A2 => match d, e with
      | .int i, .int j => (-(2 ^ 62) ≤ i ∧ i < 2 ^ 62 ∧ -(2 ^ 62) ≤ j ∧ j < 2 ^ 62) ∧ Q ⟨rngD i (j - i).toNat, fun _ => True⟩ A2
      | _, _ => False) := by
  refine PI.weaken (pi_range2 hg hm (pa_cons ha (pa_cons hb pa_nil hs2) hs) (by rw [hs, hs2]; rfl) (by rw [hs2]; rfl)) fun σ H R h => ?_
  obtain ⟨μ, ρ, A, E, Q', p, h, fin⟩ := h
  refine tDE.go p h fun v H1 μ1 d A1 s1 r p1 q => tDE.go p1 q fun u H2 μ2 e A2 s2 r2 p2 q2 => ?_
  split at q2
  · cases rel_int r; cases rel_int r2
    exact ⟨_, _, rfl, q2.1, fin _ _ μ2 _ A2 (s1.trans s2) p2.h (walk_rngD _ _) q2.2⟩
  · exact q2.elim

theorem pi_rng3X {tg a b c : Expr} {wa wb wc : WE} {p pos : Pos} (hg : Gl X "range") (hm : X.mg "range" = none) (ha : PE X a (tDE X.K T hx W wa)) (hb : PE X b (tDE X.K T hx W wb)) (hcc : PE X c (tDE X.K T hx W wc))
    (hs : starEach [a, b, c] X.env = (false, eval a X.env) :: starEach [b, c] X.env) (hs2 : starEach [b, c] X.env = (false, eval b X.env) :: starEach [c] X.env) (hs3 : starEach [c] X.env = (false, eval c X.env) :: starEach [] X.env) (hpl : (backTo pos (starEach [b, c] X.env)).any (·.1) = false) :
    PI X tg (.Call (.Name "range" p) [a, b, c] [] pos) (tDI X.K T hx W fun ρ A E Q => wa ρ A E fun d A1 => wb ρ A1 E fun e A2 => wc ρ A2 E fun f A3 => match d, e, f with
      | .int i, .int j, .int k => ∃ n, RgC i j k n ∧ Q ⟨stepD i k n, fun _ => True⟩ A3
      | _, _, _ => False) := by
  refine PI.weaken (pi_range3 hg hm (pa_cons ha (pa_cons hb (pa_cons hcc pa_nil hs3) hs2) hs) hs hpl) fun σ H R h => ?_
  obtain ⟨μ, ρ, A, E, Q', p, h, fin⟩ := h
  refine tDE.go p h fun v H1 μ1 d A1 s1 r p1 q => tDE.go p1 q fun u H2 μ2 e A2 s2 r2 p2 q2 => tDE.go p2 q2 fun w H3 μ3 f A3 s3 r3 p3 q3 => ?_
  split at q3
  · cases rel_int r; cases rel_int r2; cases rel_int r3
    obtain ⟨n, hn, q3⟩ := q3
    exact ⟨_, _, _, n, rfl, hn, fin _ _ μ3 _ A3 ((s1.trans s2).trans s3) p3.h (walk_stepD _ _ _) q3⟩
  · exact q3.elim

theorem rv_wk {d : D} {A : Ht} {k : Wk → Prop} (h : rvD d A k) : wkD d A (fun w => k ⟨w.items.reverse, w.ok⟩) ∧ ∀ s, d ≠ .str s := by
  unfold rvD at h
  split at h
  · exact ⟨h, fun s z => by cases z⟩
  · exact ⟨h, fun s z => by cases z⟩
  · exact ⟨h, fun s z => by cases z⟩
  · refine ⟨?_, fun s z => by cases z⟩
    unfold wkD
    dsimp only
    split at h
    · exact h
    · exact h
    · exact h.elim
  · exact h.elim
theorem walk_revD {K : PySem.W.Frag} {a : Addr} {μ0 : List Addr} {H0 : Hp} {wk : Wk} (S : SrD K (.lst a) μ0 H0 wk) : WalkD K (L2.Itv K a wk.items.length) μ0 H0 ⟨wk.items.reverse, wk.ok⟩ := by
  refine ⟨fun i μ A H hi s hr ok => ?_, fun μ A H s hr ok => ?_, fun i μ A H x H' hi s hr ok hy => ?_⟩
  · obtain ⟨xs, h, r1⟩ := S μ A H s hr ok
    have hi' : i < wk.items.length := by simpa using hi
    obtain ⟨v, ev, _⟩ := r1.get (List.getElem?_eq_getElem (show wk.items.length - 1 - i < wk.items.length by omega))
    exact ⟨hi', xs, v, h, ev⟩
  · show wk.items.length ≤ wk.items.reverse.length
    simp
  · obtain ⟨xs, h, r1⟩ := S μ A H s hr ok
    have hi' : i < wk.items.length := by simpa using hi
    obtain ⟨rfl, hx⟩ := hy
    obtain ⟨d, ed, rd⟩ := r1.getV (hx xs h)
    exact ⟨d, by show wk.items.reverse[i]? = some d; rw [List.getElem?_reverse hi']; exact ed, rd, .refl, hr⟩
theorem walk_revT {K : PySem.W.Frag} {a : Addr} {μ0 : List Addr} {H0 : Hp} {wk : Wk} (S : SrD K (.tup a) μ0 H0 wk) : WalkD K (RT.ItvT K a wk.items.length) μ0 H0 ⟨wk.items.reverse, wk.ok⟩ := by
  refine ⟨fun i μ A H hi s hr ok => ?_, fun μ A H s hr ok => ?_, fun i μ A H x H' hi s hr ok hy => ?_⟩
  · obtain ⟨xs, h, r1⟩ := S μ A H s hr ok
    have hi' : i < wk.items.length := by simpa using hi
    obtain ⟨v, ev, _⟩ := r1.get (List.getElem?_eq_getElem (show wk.items.length - 1 - i < wk.items.length by omega))
    exact ⟨hi', xs, v, h, ev⟩
  · show wk.items.length ≤ wk.items.reverse.length
    simp
  · obtain ⟨xs, h, r1⟩ := S μ A H s hr ok
    have hi' : i < wk.items.length := by simpa using hi
    obtain ⟨rfl, hx⟩ := hy
    obtain ⟨d, ed, rd⟩ := r1.getV (hx xs h)
    exact ⟨d, by show wk.items.reverse[i]? = some d; rw [List.getElem?_reverse hi']; exact ed, rd, .refl, hr⟩
theorem rel_ref {K : PySem.W.Frag} {μ : List Addr} {H : Hp} {d : D} {v : V} {A : Ht} {k : Wk → Prop} (r : RelD K μ H d v) (h : wkD d A k) (hs : ∀ s, d ≠ .str s) : ∃ a, v = .ref a := by
  cases d with
  | tup ds => obtain ⟨a, vs, rfl, _⟩ := rel_tup r; exact ⟨a, rfl⟩
  | rol ds => obtain ⟨a, vs, rfl, _⟩ := rel_rol r; exact ⟨a, rfl⟩
  | ls ds => obtain ⟨a, vs, o, rfl, _⟩ := rel_ls r; exact ⟨a, rfl⟩
  | obj n => obtain ⟨a, _, rfl⟩ := rel_obj r; exact ⟨a, rfl⟩
  | str s => exact absurd rfl (hs s)
  | _ => exact h.elim
theorem pi_revX {tg e : Expr} {we : WE} {p pos : Pos} (hg : Gl X "reversed") (hm : X.mg "reversed" = none) (he : PE X e (tDE X.K T hx W we)) (hs : starEach [e] X.env = (false, eval e X.env) :: starEach [] X.env) :
    PI X tg (.Call (.Name "reversed" p) [e] [] pos) (tDI X.K T hx W fun ρ A E Q => we ρ A E fun d A1 => rvD d A1 fun w => Q w A1) := by
  refine PI.weaken (RT.pi_revA hg hm he hs) fun σ H R h => ?_
  obtain ⟨μ, ρ, A, E, Q', p, h, fin⟩ := h
  refine tDE.go p h fun v H1 μ1 d A1 s1 r p1 q => ?_
  obtain ⟨q, nst⟩ := rv_wk q
  obtain ⟨a, rfl⟩ := rel_ref r q nst
  obtain ⟨sr, wk, ev, S, ok, _, q⟩ := src_of (u := .ref a) p1.h r rfl q
  cases sr with
  | lst b =>
    cases ev
    obtain ⟨xs, hd, rl⟩ := S μ1 A1 H1 .refl p1.h ok
    refine ⟨a, xs, rfl, .inl ⟨hd, ?_⟩⟩
    rw [← rl.length]
    exact fin _ _ μ1 _ A1 s1 p1.h (walk_revD S) q
  | tup b =>
    cases ev
    obtain ⟨xs, hd, rl⟩ := S μ1 A1 H1 .refl p1.h ok
    refine ⟨a, xs, rfl, .inr ⟨hd, ?_⟩⟩
    rw [← rl.length]
    exact fin _ _ μ1 _ A1 s1 p1.h (walk_revT S) q
  | txt y t => cases ev
/-! ### targets -/
mutual
def tgSlots : Tg → List Nat
  | .name i => [i] | .tup gs => tgsSlots gs
def tgsSlots : Tgs → List Nat
  | .nil => [] | .cons g gs => tgSlots g ++ tgsSlots gs
end
/-- only the slots of l differ -/
def Only (l : List Nat) (σ σ' : L2.St) : Prop := σ'.length = σ.length ∧ ∀ i, i ∉ l → σ'[i]? = σ[i]?
def gD (K : PySem.W.Frag) (hx : HX) (g : Tg) : TG := fun v σ H Q => ∃ μ ρ d ρ', RelS K hx μ H ρ σ ∧ RelD K μ H d v ∧ bindT g d ρ = some ρ' ∧ ∀ σ', RelS K hx μ H ρ' σ' → Only (tgSlots g) σ σ' → Q σ' H
def gDs (K : PySem.W.Frag) (hx : HX) (gs : Tgs) : TGs := fun vs σ H Q => ∃ μ ρ ds ρ', RelS K hx μ H ρ σ ∧ RelDs K μ H ds vs ∧ bindTs gs ds ρ = some ρ' ∧ ∀ σ', RelS K hx μ H ρ' σ' → Only (tgsSlots gs) σ σ' → Q σ' H
theorem PG.weaken {tg : Expr} {t t' : TG} (h : PG X tg t) (k : ∀ v σ H Q, t' v σ H Q → t v σ H Q) : PG X tg t' := ⟨fun pins s σ H v u Q I r q => h.run pins s σ H v u Q I r (k v σ H Q q)⟩
theorem PGs.weaken {tg : List Expr} {t t' : TGs} (h : PGs X tg t) (k : ∀ v σ H Q, t' v σ H Q → t v σ H Q) : PGs X tg t' := ⟨fun pins s σ H v u Q I r q => h.run pins s σ H v u Q I r (k v σ H Q q)⟩
theorem pg_nameX {i : Nat} {x : Str} {pos : Pos} (hN : X.N.Nodup) (hi : X.N[i]? = some x) (hl : Loc X.env.scope x) (hf : X.fn x = true ∨ X.env.scope.names.lookup x = some .local) : PG X (.Name x pos) (gD X.K hx (.name i)) :=
  PG.weaken (pg_name hN hi hl hf) fun v σ H Q ⟨μ, ρ, d, ρ', rs, rd, e, k⟩ => by
    simp only [bindT, Option.some.injEq] at e
    subst e
    exact k _ (rs.set i rd) ⟨by simp, fun j hj => by rw [List.getElem?_set_ne (fun z => hj (by simp [tgSlots, z]))]⟩
theorem pgs_nilX : PGs X [] (gDs X.K hx .nil) :=
  PGs.weaken pgs_nil fun vs σ H Q ⟨μ, ρ, ds, ρ', rs, rd, e, k⟩ => by
    cases ds with
    | nil =>
      simp only [bindTs, Option.some.injEq] at e
      subst e
      exact ⟨RelDs.nil_iff.mp rd, k _ rs ⟨rfl, fun _ _ => rfl⟩⟩
    | cons d r => simp [bindTs] at e
theorem pgs_consX {e : Expr} {es : List Expr} {g : Tg} {gs : Tgs} (h1 : PG X e (gD X.K hx g)) (h2 : PGs X es (gDs X.K hx gs)) (hs : (assignEach (e :: es) X.env).map (·.2) = assign e X.env :: (assignEach es X.env).map (·.2)) : PGs X (e :: es) (gDs X.K hx (.cons g gs)) :=
  PGs.weaken (pgs_cons h1 h2 hs) fun vs σ H Q ⟨μ, ρ, ds, ρ', rs, rd, e, k⟩ => by
    cases ds with
    | nil => simp [bindTs] at e
    | cons d r =>
      obtain ⟨v, t, rfl, r1, r2⟩ := RelDs.cons_iff.mp rd
      simp only [bindTs, Option.bind_eq_some_iff] at e
      obtain ⟨ρ1, e1, e2⟩ := e
      exact ⟨v, t, rfl, μ, ρ, d, ρ1, rs, r1, e1, fun σ1 rs1 o1 => ⟨μ, ρ1, r, ρ', rs1, r2, e2, fun σ2 rs2 o2 => k σ2 rs2 ⟨o2.1.trans o1.1, fun i hi => (o2.2 i fun z => hi (by simp [tgsSlots, z])).trans (o1.2 i fun z => hi (by simp [tgsSlots, z]))⟩⟩⟩
def tgsLen : Tgs → Nat
  | .nil => 0
  | .cons _ r => tgsLen r + 1
theorem bindTs_len : ∀ {gs : Tgs} {ds : List D} {ρ ρ' : Rho}, bindTs gs ds ρ = some ρ' → ds.length = tgsLen gs
  | .nil, [], _, _, _ => rfl
  | .nil, d :: r, _, _, e => by simp [bindTs] at e
  | .cons g gs, [], _, _, e => by simp [bindTs] at e
  | .cons g gs, d :: r, ρ, ρ', e => by
    simp only [bindTs, Option.bind_eq_some_iff] at e
    obtain ⟨ρ1, e1, e2⟩ := e
    rw [List.length_cons, bindTs_len e2]; rfl
/-- a row of names = a tuple or a list of that length -/
def gTupL (K : PySem.W.Frag) (n : Nat) (t : TGs) : TG := fun v σ H Q => ∃ a xs, v = .ref a ∧ (SqT K H a xs ∨ SqL K H a xs) ∧ xs.length = n ∧ t xs σ H Q
section
variable {prog : Program} {w : World} {A : Around} {E : Value → Shared → Prop} {s : Shared}
theorem draw_lst {it l : Addr} {items : Array Value} (hne : l ≠ it) : ∀ (n i : Nat) (s : Shared) (Q : List Value → Shared → Prop), s.heap.IsListIter it l i → s.heap.IsList l items → i + n ≤ items.size →
    (∀ h', h'.IsListIter it l (i + n) → Heap.SameBut it s.heap h' → Q ((items.toList.drop i).take n) { s with heap := h' }) → wpAny (model prog w) A (draw (.ref it) n) Q E s
  | 0, i, s, Q, hit, _, _, hQ => by
    show wpAny _ _ (pure []) Q E s
    exact wpAny_pure (by simpa using hQ s.heap hit (Heap.SameBut.refl ..))
  | n + 1, i, s, Q, hit, hl, hle, hQ => by
    have hlt : i < items.size := by omega
    show wpAny _ _ (pyNext (.ref it) >>= _) Q E s
    refine wpAny_bind (wpAny_pyNext_list_item hit hl (x := items[i]) (by simp [hlt]) fun h₁ hit₁ hs₁ => ?_)
    refine wpAny_bind (wpAny_holding (draw_lst hne n (i + 1) _ _ hit₁ (hl.extBut hs₁.extBut hne) (by omega) fun h₂ hit₂ hs₂ => wpAny_pure ?_))
    have hd : items.toList.drop i = items[i] :: items.toList.drop (i + 1) := by simp [List.drop_eq_getElem_cons, hlt]
    have := hQ h₂ (by rw [show i + (n + 1) = i + 1 + n by omega]; exact hit₂) (hs₁.trans hs₂)
    rw [hd, List.take_succ_cons] at this
    exact this
theorem unpack_lst {t : Addr} {items : Array Value} {Q : List Value → Shared → Prop} (ht : s.heap.IsList t items)
    (hend : ∀ (h₁ : Heap) (Q2 : Option Value → Shared → Prop), Heap.ExtBut s.heap.objs.size s.heap h₁ → h₁.IsListIter s.heap.objs.size t items.size → h₁.IsList t items → (∀ h₂, Heap.ExtBut s.heap.objs.size h₁ h₂ → Q2 none { s with heap := h₂ }) → wpAny (model prog w) A (pyNext (.ref s.heap.objs.size)) Q2 E { s with heap := h₁ })
    (hQ : ∀ h', Heap.ExtBut s.heap.objs.size s.heap h' → Q items.toList { s with heap := h' }) : wpAny (model prog w) A (unpackItems (.ref t) items.size none) Q E s := by
  have hlt : t ≠ s.heap.objs.size := by obtain ⟨o, ho, _⟩ := ht; exact Nat.ne_of_lt (Heap.lt_size ho)
  unfold unpackItems
  refine wpAny_bind ?_
  · unfold notIterableAtAll
    refine wpAny_bind (wpAny_specialOf ht.typeIs slot_list_iter.lookup ?_)
    refine wpAny_pure ?_
    simp only [Bool.false_eq_true, if_false]
    refine wpAny_bind (wpAny_holding (wpAny_pyIter_list ht ?_))
    refine wpAny_bind (wpAny_holding (draw_lst hlt items.size 0 _ _ ⟨_, Heap.get?_push_size _ rfl, rfl, rfl⟩ (ht.push _) (by omega) fun h₁ hit₁ hs₁ => ?_))
    have hall : List.take items.size (List.drop 0 items.toList) = items.toList := by
      rw [List.drop_zero]; exact List.take_of_length_le (by simp)
    rw [hall]
    rw [if_neg (by simp)]
    have ht₁ : h₁.IsList t items := (ht.push _).extBut hs₁.extBut hlt
    have x₁ : Heap.ExtBut s.heap.objs.size s.heap h₁ := fun b o hb e => hs₁.extBut b o hb (Heap.get?_push_of_some _ e)
    rw [Nat.zero_add] at hit₁
    refine wpAny_bind (wpAny_holding (hend h₁ _ x₁ hit₁ ht₁ fun h₂ he₂ => ?_))
    simp only [Option.isSome_none, Bool.false_eq_true, if_false]
    exact wpAny_pure (hQ h₂ fun b o hb e => he₂ b o hb (x₁ b o hb e))
theorem assign_lst {env : Env} {elts : List Expr} {k : Nat} {pos : Pos} {t : Addr} {items : Array Value} {Q : Unit → Shared → Prop} (ht : s.heap.IsList t items) (hn : (assignEach elts env).length = items.size) (hstar : (assignEach elts env).findIdx? (·.1) = none)
    (hend : ∀ (h₁ : Heap) (Q2 : Option Value → Shared → Prop), Heap.ExtBut s.heap.objs.size s.heap h₁ → h₁.IsListIter s.heap.objs.size t items.size → h₁.IsList t items → (∀ h₂, Heap.ExtBut s.heap.objs.size h₁ h₂ → Q2 none { s with heap := h₂ }) → wpAny (model prog w) A (pyNext (.ref s.heap.objs.size)) Q2 E { s with heap := h₁ })
    (h : ∀ h', Heap.ExtBut s.heap.objs.size s.heap h' → wpAny (model prog w) A (assignInOrder ((assignEach elts env).map (·.2)) items.toList) Q E { s with heap := h' }) : wpAny (model prog w) A (assign (.Tuple elts k pos) env (.ref t)) Q E s := by
  rw [assign_Tuple]; refine wpAny_bind (wpAny_standAt ?_); unfold unpack; rw [hn, hstar]; exact wpAny_bind (wpAny_holding (unpack_lst ht hend h))
end
theorem pg_tupL {es : List Expr} {k : Nat} {t : TGs} {n : Nat} {pos : Pos} (hc : X.calm = true) (h : PGs X es t) (hn : (assignEach es X.env).length = n) (hst : (assignEach es X.env).findIdx? (·.1) = none) : PG X (.Tuple es k pos) (gTupL X.K n t) := by
  refine ⟨fun pins s σ H v u Q I r hw => ?_⟩
  obtain ⟨a, xs, e1, hq, hl, hw⟩ := hw
  rcases hq with hq | hq
  · exact (pg_tup hc h hn hst).run pins s σ H v u Q I r ⟨a, xs, e1, hq, hl, hw⟩
  · subst e1
    cases r
    obtain ⟨its, rv, p, hz⟩ := I.list hq
    refine assign_lst p.isList (by simp [hn, ← hl, rv.length]) hst (fun h₁ Q2 x hit hl2 hQ => wpAny_pyNext_list_end (s := { s with heap := h₁ }) (I.ok.hd hc) hit hl2 (by simp) hQ) fun h' hx => ?_
    have I1 : Inv X pins σ H { s with heap := h' } := I.kept (t' := s.toks) fun b o e => hx b o (Nat.ne_of_lt (Heap.lt_size e)) e
    exact h.run pins _ σ H xs _ Q I1 (by simpa using rv) hw
theorem pg_tupX {es : List Expr} {k : Nat} {pos : Pos} {gs : Tgs} (hc : X.calm = true) (h : PGs X es (gDs X.K hx gs)) (hn : (assignEach es X.env).length = tgsLen gs) (hst : (assignEach es X.env).findIdx? (·.1) = none) : PG X (.Tuple es k pos) (gD X.K hx (.tup gs)) :=
  PG.weaken (pg_tupL hc h hn hst) fun v σ H Q ⟨μ, ρ, d, ρ', rs, rd, e, kk⟩ => by
    cases d with
    | tup ds =>
      obtain ⟨a, vs, rfl, hq, hv⟩ := rel_tup rd
      simp only [bindT] at e
      exact ⟨a, vs, rfl, .inl hq, by rw [← hv.length]; exact bindTs_len e, μ, ρ, ds, ρ', rs, hv, e, kk⟩
    | ls ds =>
      obtain ⟨a, vs, o, rfl, hq, hv⟩ := rel_ls rd
      simp only [bindT] at e
      exact ⟨a, vs, rfl, .inr (frz_sq hq), by rw [← hv.length]; exact bindTs_len e, μ, ρ, ds, ρ', rs, hv, e, kk⟩
    | _ => simp [bindT] at e

/-! ### comprehensions -/
theorem wipe_rel {K : PySem.W.Frag} {μ : List Addr} {H : Hp} {ρ : Rho} {σ : L2.St} (r : RelS K hx μ H ρ σ) : ∀ ws : List Nat, RelS K hx μ H (wipeD ρ ws) (wipe σ ws)
  | [] => r
  | v :: vs => (wipe_rel r vs).forget v
theorem wipe_out' {σ : L2.St} {i : Nat} : ∀ {vs : List Nat}, i ∉ vs → (wipe σ vs)[i]? = σ[i]?
  | [], _ => rfl
  | v :: vs, h => by
    unfold wipe
    rw [List.getElem?_set_ne (fun z => h (by simp [z]))]
    exact wipe_out' fun z => h (by simp [z])
theorem wipe_in {σ : L2.St} {i : Nat} : ∀ {vs : List Nat}, i ∈ vs → i < σ.length → (wipe σ vs)[i]? = some none
  | [], h, _ => by simp at h
  | v :: vs, h, hl => by
    unfold wipe
    by_cases e : v = i
    · subst e
      rw [List.getElem?_set_self (by rw [wipe_length]; exact hl)]
    · rw [List.getElem?_set_ne e]
      exact wipe_in ((List.mem_cons.mp h).resolve_left fun z => e z.symm) hl
theorem wipe_only {σ σ2 : L2.St} {vs l : List Nat} (o : Only l (wipe σ vs) σ2) (hl : ∀ i ∈ l, i ∈ vs) : wipe σ2 vs = wipe σ vs := by
  have ln : σ2.length = σ.length := o.1.trans (wipe_length σ vs)
  apply List.ext_getElem?
  intro i
  by_cases hi : i ∈ vs
  · by_cases hs : i < σ.length
    · rw [wipe_in hi (by omega), wipe_in hi hs]
    · rw [List.getElem?_eq_none (by rw [wipe_length]; omega), List.getElem?_eq_none (by rw [wipe_length]; omega)]
  · rw [wipe_out' hi, o.2 i (fun z => hi (hl i z)), wipe_out' hi]
def W0 : WX := fun _ _ _ _ => False
theorem UpX.no {K : PySem.W.Frag} {μ : List Addr} {H H' : Hp} {c : Value} {dd : Option Addr} (u : UpX K T μ H (fun _ _ => False) c dd H') : False := by
  obtain ⟨_, _, _, _, _, _, _, _, _, _, _, _, _, _, _, _, h⟩ := u
  exact h
theorem stp_aside {μ μ' : List Addr} {H H' : Hp} {p : Addr} {ho : HO} (s : Stp μ H μ' H') (hp : H p = none) : Stp μ H μ' (upd H' p ho) :=
  ⟨s.pre, fun a o e f => by rw [upd_ne (ne_of_none e hp)]; exact s.fix a o e f, s.new, fun a o e n => by rw [upd_ne (ne_of_none e hp)]; exact s.frame a o e n⟩
theorem fix_aside {H : Hp} {p : Addr} {old ho : HO} (e : H p = some old) (hf : ¬ Fix old) : ∀ a o, H a = some o → Fix o → upd H p ho a = some o := fun b u eb f => by
  by_cases z : b = p
  · subst z; rw [e] at eb; cases eb; exact absurd f hf
  · rw [upd_ne z]; exact eb
theorem Stp.apart {μ μ' : List Addr} {H H' : Hp} (s : Stp μ H μ' H') {p : Addr} {o : HO} (n : p ∉ μ) (e : H p = some o) : p ∉ μ' ∧ H' p = some o := by
  refine ⟨fun m => ?_, s.frame p o e n⟩
  rcases s.new p m with h | h
  · exact n h
  · rw [e] at h; cases h
theorem tLc_of {K : PySem.W.Frag} {wi : WIt} {g : Tg} {wt : WTt} {we : WE} {ws : List Nat} {σ : L2.St} {H : Hp} {Q Q2 : VK} (hsl : ∀ i ∈ tgSlots g, i ∈ ws) (hQ : ∀ v H', FzQ Q v H' → Q2 v H')
    (h : tDE K T hx W (fun ρ A E Q => wi ρ A E fun w A1 => compD w.ok
      (fun d A2 k => match bindT g d (wipeD ρ ws) with
        | some ρ2 => wt ρ2 A2 (fun _ _ => False) fun c A3 => if c = true then we ρ2 A3 (fun _ _ => False) fun y A4 => k (some y) A4 else k none A3
        | none => False)
      (fun acc A2 => nlD acc A2 Q) w.items [] A1) σ H Q) : tLc (tDI K T hx W wi) (gD K hx g) (tDT K T hx W0 wt) (tDE K T hx W0 we) ws σ H Q2 := by
  obtain ⟨μ0, ρ, A0, E, Q', p, h, fin⟩ := h
  refine ⟨μ0, ρ, A0, E, _, p, h, fun J H1 μ1 wk A1 s1 hr1 wd q L hL => ?_⟩
  refine ⟨fun i m H' => m = wk.items.length - i ∧ i ≤ wk.items.length ∧ ∃ (μ : List Addr) (A : Ht) (acc : List D) (vs : List V), Stp μ1 H1 μ H' ∧ HR K μ A H' ∧ L ∉ μ ∧ H' L = some (.lst vs) ∧ RelDs K μ H' acc vs ∧ compD wk.ok
      (fun d A2 k => match bindT g d (wipeD ρ ws) with
        | some ρ2 => wt ρ2 A2 (fun _ _ => False) fun c A3 => if c = true then we ρ2 A3 (fun _ _ => False) fun y A4 => k (some y) A4 else k none A3
        | none => False)
      (fun acc A2 => nlD acc A2 Q') (wk.items.drop i) acc A,
    ⟨wk.items.length, by simp, Nat.zero_le _, μ1, A1, [], [], stp_upd0 hL, hr1.tupd hL, hr1.notIn hL, upd_same, .nil, by simpa using q⟩, ?_⟩
  rintro i m H2 ⟨rfl, hi, μ, A, acc, vs, s, hr, nD, eD, ra, c⟩
  by_cases hlt : i < wk.items.length
  · rw [List.drop_eq_getElem_cons hlt] at c
    obtain ⟨ok, c⟩ := c
    refine .inr ⟨wd.go i μ A H2 hlt s hr ok, fun H' => ∃ (μ : List Addr) (A : Ht) (acc : List D) (vs : List V), Stp μ1 H1 μ H' ∧ HR K μ A H' ∧ L ∉ μ ∧ H' L = some (.lst vs) ∧ RelDs K μ H' acc vs ∧ compD wk.ok
      (fun d A2 k => match bindT g d (wipeD ρ ws) with
        | some ρ2 => wt ρ2 A2 (fun _ _ => False) fun c A3 => if c = true then we ρ2 A3 (fun _ _ => False) fun y A4 => k (some y) A4 else k none A3
        | none => False)
      (fun acc A2 => nlD acc A2 Q') (wk.items.drop (i + 1)) acc A, fun H' n => ⟨wk.items.length - (i + 1), by omega, rfl, hlt, n⟩, fun x H3 y => ?_⟩
    obtain ⟨d, ed, rd, s3, hr3⟩ := wd.yld i μ A H2 x H3 hlt s hr ok y
    rw [List.getElem?_eq_getElem hlt] at ed
    cases ed
    dsimp only at c
    split at c
    · rename_i ρ2 e
      refine ⟨μ, wipeD ρ ws, _, ρ2, wipe_rel (p.s.mono (s1.trans (s.trans s3))) ws, rd, e, fun σ2 rs2 o2 => ⟨wipe_only o2 hsl, ?_⟩⟩
      have pk : Pk K T hx W0 μ ρ2 A (fun _ _ => False) σ2 H3 := ⟨rs2, hr3, fun _ _ _ u => u.no.elim⟩
      obtain ⟨nD3, eD3⟩ := s3.apart nD eD
      refine tDT.go pk c fun b H4 μ4 A4 s4 p4 c4 => ?_
      obtain ⟨nD4, eD4⟩ := s4.apart nD3 eD3
      cases b with
      | true =>
        simp only [if_true] at c4 ⊢
        refine tDE.go p4 c4 fun yv H5 μ5 dy A5 s5 ry p5 c5 => ?_
        obtain ⟨nD5, eD5⟩ := s5.apart nD4 eD4
        have ra5 : RelDs K μ5 H5 acc vs := ((ra.mono s3 _ _).mono s4 _ _).mono s5 _ _
        refine ⟨vs, eD5, by rw [← ra5.length]; exact c5.1, μ5, A5, acc ++ [dy], vs ++ [yv], stp_aside (s.trans (s3.trans (s4.trans s5))) hL, p5.h.aside nD5 eD5 (fun z => z), nD5, upd_same, ?_, c5.2⟩
        exact (ra5.append (.cons ry .nil)).mono' (List.prefix_refl _) (fix_aside eD5 (fun z => z))
      | false =>
        simp only [Bool.false_eq_true, if_false] at c4 ⊢
        exact ⟨μ4, A4, acc, vs, s.trans (s3.trans s4), p4.h, nD4, eD4, (ra.mono s3 _ _).mono s4 _ _, c4⟩
    · exact c.elim
  · have e : i = wk.items.length := by omega
    subst e
    rw [List.drop_length] at c
    obtain ⟨ok, c⟩ := c
    refine .inl ⟨wd.stop μ A H2 s hr ok, ?_⟩
    have sF : Stp μ1 H1 (μ ++ [L]) H2 := ⟨s.pre.trans (List.prefix_append _ _), s.fix, fun a ha => by
      rcases List.mem_append.mp ha with z | z
      · exact s.new a z
      · rw [(by simpa using z : a = L)]; exact .inr hL, s.frame⟩
    refine hQ _ _ ?_
    rcases c with c | c
    · refine .inr ⟨L, vs, rfl, eD, fun od => ?_⟩
      exact fin (.ref L) (upd H2 L (.frz od (.lst vs))) μ (.ls acc) A (s1.trans (stp_aside s hL)) (to_ls upd_same (ra.mono' (List.prefix_refl _) (fix_aside eD (fun z => z)))) (hr.aside nD eD (fun z => z)) c
    · refine .inl (fin (.ref L) H2 (μ ++ [L]) (.obj A.length) (A ++ [.lst acc]) (s1.trans sF) (to_obj (by rw [← hr.len, List.getElem?_concat_length])) (hr.adopt nD ?_) c)
      rw [eD]
      exact ⟨vs, rfl, ra⟩
theorem pe_lcX {elt tg iter : Expr} {ifs : List Expr} {scope : Scope} {own : List (Str × Nat)} {pos : Pos} {wi : WIt} {g : Tg} {wt : WTt} {we : WE} (hc : X.calm = true) (hN : X.N.Nodup) (hi : PI X tg iter (tDI X.K T hx W wi)) (ok : BlkOk X.N X.env.scope scope own)
    (hg : ∀ (s : Shared) (H : Hp) (C : Addr) (cl : List (Str × Addr)) (fp : List Addr), PG (X.blk s H scope (compEnvC scope cl C X.env) fp) tg (gD X.K hx g)) (ht : ∀ (s : Shared) (H : Hp) (C : Addr) (cl : List (Str × Addr)) (fp : List Addr), PTs (X.blk s H scope (compEnvC scope cl C X.env) fp) ifs (tDT X.K T hx W0 wt))
    (he : ∀ (s : Shared) (H : Hp) (C : Addr) (cl : List (Str × Addr)) (fp : List Addr), PE (X.blk s H scope (compEnvC scope cl C X.env) fp) elt (tDE X.K T hx W0 we)) (hs : ∀ x, foldedSetIterable iter X.env x = pure x) (hsl : ∀ i ∈ tgSlots g, i ∈ own.map (·.2)) :
    PE X (.ListComp elt [⟨tg, iter, ifs, 0⟩] scope pos) (tDE X.K T hx W fun ρ A E Q => wi ρ A E fun w A1 => compD w.ok
      (fun d A2 k => match bindT g d (wipeD ρ (own.map (·.2))) with
        | some ρ2 => wt ρ2 A2 (fun _ _ => False) fun c A3 => if c = true then we ρ2 A3 (fun _ _ => False) fun y A4 => k (some y) A4 else k none A3
        | none => False)
      (fun acc A2 => nlD acc A2 Q) w.items [] A1) := by
  refine PE.weaken (pe_freeze (pe_lc hc hN hi ok hg ht he hs)) fun σ H Q h => ?_
  exact tLc_of hsl (fun v H' q => q) h
end
end Px
end TextPx9

section TextPxH
set_option autoImplicit false
set_option maxRecDepth 100000
set_option maxHeartbeats 2000000
/-! PxH: walks over pairs and unpacking while an exception is handled. -/
namespace Px
open PySem PySem.Spec PyProof.Rows L2 HotX
section
variable {prog : Program} {w : World} {A : Around} {E : Value → Shared → Prop} {s : Shared}
abbrev Grows (h h' : Heap) : Prop := ∀ b o, h.get? b = some o → h'.get? b = some o
abbrev IsStop (h : Heap) (e : Addr) : Prop := ∃ o, h.get? e = some o ∧ o.cls = .type "StopIteration"
/-- a new StopIteration, raised while x1 is handled -/
theorem stop_hot {α : Type} {x1 : Addr} {Q : α → Shared → Prop} (hot : HotAt A x1 s.heap) (hE : ∀ h' e, Grows s.heap h' → IsStop h' e → E (.ref e) { s with heap := h' }) :
    wpAny (model prog w) A ((newExc (.type "StopIteration") [] : Sem Value) >>= fun v => (raiseNew v : Sem α)) Q E s := by
  obtain ⟨hh, o1, vs1, h1, d1, c1⟩ := hot
  refine wpAny_bind ?_; simp only [newExc, newTuple]; refine wpAny_bind (wpAny_newObj_type ?_ (by size_fits))
  refine wpAny_bind (m := firstArgMember _ _) (wpAny_of_eq (a := Value.none) (by first | rfl | (simp only [firstArgMember]; rfl)) ?_); refine wpAny_newObj_type ?_ (by size_fits)
  refine raiseNew_hot (x1 := x1) ⟨hh, o1, vs1, Heap.get?_push_of_some _ (Heap.get?_push_of_some _ h1), d1, c1⟩ (Nat.ne_of_lt (Heap.lt_size (Heap.get?_push_of_some _ h1))) (Heap.get?_push_size _ rfl) rfl (by first | (simp; done) | (simp; omega) | (simp only [Array.size_append]; simp; omega)) ?_
  refine hE _ _ (fun b o e => ?_) ⟨_, Heap.get?_update_self _ (Heap.get?_push_size _ rfl) rfl, rfl⟩
  rw [Heap.get?_update_other _ _ (Nat.ne_of_gt (Heap.lt_size (Heap.get?_push_of_some _ e)))]; exact Heap.get?_push_of_some _ (Heap.get?_push_of_some _ e)
theorem hgrow {x1 : Addr} {h h' : Heap} (hot : HotAt A x1 h) (k : ∀ o, h.get? x1 = some o → h'.get? x1 = some o) : HotAt A x1 h' := by
  obtain ⟨hh, o1, vs1, h1, d1, c1⟩ := hot
  exact ⟨hh, o1, vs1, k _ h1, d1, c1⟩
theorem tup_endH {it t x1 : Addr} {i : Nat} {items : Array Value} {Q : Value → Shared → Prop} (hot : HotAt A x1 s.heap) (hne : x1 ≠ it) (hit : s.heap.IsTupleIter it t i) (ht : s.heap.IsTuple t items) (hx : items[i]? = none)
    (hE : ∀ h' e, Heap.ExtBut it s.heap h' → IsStop h' e → E (.ref e) { s with heap := h' }) : wpAny (model prog w) A (Builtin.SmallTypes.nextOf (.ref it)) Q E s := by
  obtain ⟨o, ho, hc, hd⟩ := id hit; obtain ⟨ol, hol, _, nl, hdl⟩ := ht
  unfold Builtin.SmallTypes.nextOf; refine wpAny_bind (wpAny_callSpecial?_slot (name := Str.ofString "__next__") hit.typeIs F.slot_tuple_iterator_next (wpAny_call_entry F.slot_tuple_iterator_next hit.typeIs F.entry_tuple_iterator_next ?_ (F.args_tuple_iterator_next_1 _)))
  show wpAny _ _ (field (.ref it) 0 >>= _) _ _ s; refine wpAny_bind (wpAny_field ho hd (x := .ref t) rfl ?_)
  show wpAny _ _ (if (Value.ref t == Value.none) = true then _ else _) _ _ s; rw [if_neg (show ¬ ((Value.ref t == Value.none) = true) from Bool.false_ne_true)]
  show wpAny _ _ (field (.ref it) 1 >>= _) _ _ s; refine wpAny_bind (wpAny_field ho hd (x := .int i 0) rfl ?_)
  show wpAny _ _ (seqItems? (.ref t) >>= _) _ _ s; refine wpAny_bind (wpAny_seqItems hol hdl ?_); simp only [Int.toNat_natCast, hx]
  refine wpAny_bind (wpAny_rule (wpAny_bind (wpAny_setField ho hd (by simp) ?_)))
  refine stop_hot (x1 := x1) (hgrow hot fun o e => by rw [Heap.get?_update_other _ _ (Ne.symm hne)]; exact e) fun h' e k he => hE h' e (fun b o hb e => k b o (by rw [Heap.get?_update_other _ _ (Ne.symm hb)]; exact e)) he
theorem lst_endH {it l x1 : Addr} {i : Nat} {items : Array Value} {Q : Value → Shared → Prop} (hot : HotAt A x1 s.heap) (hne : x1 ≠ it) (hit : s.heap.IsListIter it l i) (ht : s.heap.IsList l items) (hx : items[i]? = none)
    (hE : ∀ h' e, Heap.ExtBut it s.heap h' → IsStop h' e → E (.ref e) { s with heap := h' }) : wpAny (model prog w) A (Builtin.SmallTypes.nextOf (.ref it)) Q E s := by
  obtain ⟨o, ho, hc, hd⟩ := id hit; obtain ⟨ol, hol, _, nl, hdl⟩ := ht
  unfold Builtin.SmallTypes.nextOf; refine wpAny_bind (wpAny_callSpecial?_slot (name := Str.ofString "__next__") hit.typeIs slot_listiter_next (wpAny_call_entry slot_listiter_next hit.typeIs entry_listiter_next ?_ (args_listiter_next _)))
  show wpAny _ _ (field (.ref it) 0 >>= _) _ _ s; refine wpAny_bind (wpAny_field ho hd (x := .ref l) rfl ?_)
  show wpAny _ _ (if (Value.ref l == Value.none) = true then _ else _) _ _ s; rw [if_neg (show ¬ ((Value.ref l == Value.none) = true) from Bool.false_ne_true)]
  show wpAny _ _ (field (.ref it) 1 >>= _) _ _ s; refine wpAny_bind (wpAny_field ho hd (x := .int i 0) rfl ?_)
  show wpAny _ _ (seqItems? (.ref l) >>= _) _ _ s; refine wpAny_bind (wpAny_seqItems hol hdl ?_); simp only [Int.toNat_natCast, hx]
  refine wpAny_bind (wpAny_rule (wpAny_bind (wpAny_setField ho hd (by simp) ?_)))
  refine stop_hot (x1 := x1) (hgrow hot fun o e => by rw [Heap.get?_update_other _ _ (Ne.symm hne)]; exact e) fun h' e k he => hE h' e (fun b o hb e => k b o (by rw [Heap.get?_update_other _ _ (Ne.symm hb)]; exact e)) he
theorem wide_endH {it x1 : Addr} {x : Str} {t : Tok} {i : Nat} {Q : Value → Shared → Prop} (hot : HotAt A x1 s.heap) (hne : x1 ≠ it) (hit : s.heap.IsStrIter it "str_iterator" x t i) (hx : x.cps[i]? = none)
    (hE : ∀ h' e, Heap.ExtBut it s.heap h' → IsStop h' e → E (.ref e) { s with heap := h' }) : wpAny (model prog w) A (Builtin.SmallTypes.nextOf (.ref it)) Q E s := by
  obtain ⟨o, ho, hc, hd⟩ := id hit; unfold Builtin.SmallTypes.nextOf
  refine wpAny_bind (wpAny_callSpecial?_slot (name := Str.ofString "__next__") hit.typeIs F.slot_str_iterator_next (wpAny_call_entry F.slot_str_iterator_next hit.typeIs F.entry_str_iterator_next ?_ (F.args_str_iterator_next_1 _)))
  show wpAny _ _ (field (.ref it) 0 >>= _) _ _ s; refine wpAny_bind (wpAny_field ho hd (x := .str x t) rfl ?_)
  show wpAny _ _ (field (.ref it) 1 >>= _) _ _ s; refine wpAny_bind (wpAny_field ho hd (x := .int i 0) rfl ?_); simp only [Int.toNat_natCast, hx]
  refine wpAny_bind (wpAny_rule (wpAny_bind (wpAny_setField ho hd (by simp) (wpAny_bind (wpAny_letGo ?_)))))
  refine stop_hot (x1 := x1) (hgrow hot fun o e => by rw [Heap.get?_update_other _ _ (Ne.symm hne)]; exact e) fun h' e k he => hE h' e (fun b o hb e => k b o (by rw [Heap.get?_update_other _ _ (Ne.symm hb)]; exact e)) he
theorem ascii_endH {it x1 : Addr} {x : Str} {t : Tok} {i : Nat} {Q : Value → Shared → Prop} (hot : HotAt A x1 s.heap) (hne : x1 ≠ it) (hit : s.heap.IsStrIter it "str_ascii_iterator" x t i) (hx : x.cps[i]? = none)
    (hE : ∀ h' e, Heap.ExtBut it s.heap h' → IsStop h' e → E (.ref e) { s with heap := h' }) : wpAny (model prog w) A (Builtin.SmallTypes.nextOf (.ref it)) Q E s := by
  obtain ⟨o, ho, hc, hd⟩ := id hit; unfold Builtin.SmallTypes.nextOf
  refine wpAny_bind (wpAny_callSpecial?_slot (name := Str.ofString "__next__") hit.typeIs F.slot_str_ascii_iterator_next (wpAny_call_entry F.slot_str_ascii_iterator_next hit.typeIs F.entry_str_ascii_iterator_next ?_ (F.args_str_ascii_iterator_next_1 _)))
  show wpAny _ _ (field (.ref it) 0 >>= _) _ _ s; refine wpAny_bind (wpAny_field ho hd (x := .str x t) rfl ?_)
  show wpAny _ _ (field (.ref it) 1 >>= _) _ _ s; refine wpAny_bind (wpAny_field ho hd (x := .int i 0) rfl ?_); simp only [Int.toNat_natCast, hx]
  refine wpAny_bind (wpAny_rule (wpAny_bind (wpAny_setField ho hd (by simp) (wpAny_bind (wpAny_letGo ?_)))))
  refine stop_hot (x1 := x1) (hgrow hot fun o e => by rw [Heap.get?_update_other _ _ (Ne.symm hne)]; exact e) fun h' e k he => hE h' e (fun b o hb e => k b o (by rw [Heap.get?_update_other _ _ (Ne.symm hb)]; exact e)) he
/-- the same for next itself, a tuple's iterator at its end -/
theorem tup_nextH {it t x1 : Addr} {i : Nat} {items : Array Value} {Q : Option Value → Shared → Prop} (hot : HotAt A x1 s.heap) (hne : x1 ≠ it) (hit : IsTupIter s.heap it t i) (ht : IsTup s.heap t items) (hx : items[i]? = none)
    (hQ : ∀ h', Heap.ExtBut it s.heap h' → Q none { s with heap := h' }) : wpAny (model prog w) A (pyNext (.ref it)) Q E s := by
  obtain ⟨o, ho, hc, hd⟩ := id hit; obtain ⟨ol, hol, _, nl, hdl⟩ := ht
  unfold pyNext; refine wpAny_bind (wpAny_attempt (wpAny_callSpecial?_slot (name := Str.ofString "__next__") hit.typeIs slot_tupleiter_next (wpAny_call_entry slot_tupleiter_next hit.typeIs entry_tupleiter_next ?_ (args_tupleiter_next _))))
  show wpAny _ _ (field (.ref it) 0 >>= _) _ _ s; refine wpAny_bind (wpAny_field ho hd (x := .ref t) rfl ?_)
  show wpAny _ _ (if (Value.ref t == Value.none) = true then _ else _) _ _ s; rw [if_neg (show ¬ ((Value.ref t == Value.none) = true) from Bool.false_ne_true)]
  show wpAny _ _ (field (.ref it) 1 >>= _) _ _ s; refine wpAny_bind (wpAny_field ho hd (x := .int i 0) rfl ?_)
  show wpAny _ _ (seqItems? (.ref t) >>= _) _ _ s; refine wpAny_bind (wpAny_seqItems hol hdl ?_); simp only [Int.toNat_natCast, hx]
  refine wpAny_bind (wpAny_rule (wpAny_bind (wpAny_setField ho hd (by simp) ?_)))
  refine stop_hot (x1 := x1) (hgrow hot fun o e => by rw [Heap.get?_update_other _ _ (Ne.symm hne)]; exact e) fun h' e k ⟨oe, he, hce⟩ => ?_
  refine wpAny_bind (wpAny_isInstance (T := "StopIteration") (b := true) ⟨oe, he, hce⟩ isSubtype_stop (wpAny_pure (hQ h' fun b o hb e => k b o (by rw [Heap.get?_update_other _ _ (Ne.symm hb)]; exact e))))
theorem lst_nextH {it t x1 : Addr} {i : Nat} {items : Array Value} {Q : Option Value → Shared → Prop} (hot : HotAt A x1 s.heap) (hne : x1 ≠ it) (hit : s.heap.IsListIter it t i) (ht : s.heap.IsList t items) (hx : items[i]? = none)
    (hQ : ∀ h', Heap.ExtBut it s.heap h' → Q none { s with heap := h' }) : wpAny (model prog w) A (pyNext (.ref it)) Q E s := by
  obtain ⟨o, ho, hc, hd⟩ := id hit; obtain ⟨ol, hol, _, nl, hdl⟩ := ht
  unfold pyNext; refine wpAny_bind (wpAny_attempt (wpAny_callSpecial?_slot (name := Str.ofString "__next__") hit.typeIs slot_listiter_next (wpAny_call_entry slot_listiter_next hit.typeIs entry_listiter_next ?_ (args_listiter_next _))))
  show wpAny _ _ (field (.ref it) 0 >>= _) _ _ s; refine wpAny_bind (wpAny_field ho hd (x := .ref t) rfl ?_)
  show wpAny _ _ (if (Value.ref t == Value.none) = true then _ else _) _ _ s; rw [if_neg (show ¬ ((Value.ref t == Value.none) = true) from Bool.false_ne_true)]
  show wpAny _ _ (field (.ref it) 1 >>= _) _ _ s; refine wpAny_bind (wpAny_field ho hd (x := .int i 0) rfl ?_)
  show wpAny _ _ (seqItems? (.ref t) >>= _) _ _ s; refine wpAny_bind (wpAny_seqItems hol hdl ?_); simp only [Int.toNat_natCast, hx]
  refine wpAny_bind (wpAny_rule (wpAny_bind (wpAny_setField ho hd (by simp) ?_)))
  refine stop_hot (x1 := x1) (hgrow hot fun o e => by rw [Heap.get?_update_other _ _ (Ne.symm hne)]; exact e) fun h' e k ⟨oe, he, hce⟩ => ?_
  refine wpAny_bind (wpAny_isInstance (T := "StopIteration") (b := true) ⟨oe, he, hce⟩ isSubtype_stop (wpAny_pure (hQ h' fun b o hb e => k b o (by rw [Heap.get?_update_other _ _ (Ne.symm hb)]; exact e))))
theorem unpack_tupH {t x1 : Addr} {items : Array Value} {Q : List Value → Shared → Prop} (hot : HotAt A x1 s.heap) (ht : IsTup s.heap t items)
    (hQ : ∀ h', Heap.ExtBut s.heap.objs.size s.heap h' → Q items.toList { s with heap := h' }) : wpAny (model prog w) A (unpackItems (.ref t) items.size none) Q E s := by
  have hlt : t ≠ s.heap.objs.size := by obtain ⟨o, ho, _⟩ := ht; exact Nat.ne_of_lt (Heap.lt_size ho)
  have hx1 : x1 ≠ s.heap.objs.size := by obtain ⟨_, o, _, ho, _⟩ := hot; exact Nat.ne_of_lt (Heap.lt_size ho)
  unfold unpackItems; refine wpAny_bind ?_
  · unfold notIterableAtAll; refine wpAny_bind (wpAny_specialOf ht.typeIs slot_tuple_iter.lookup ?_); refine wpAny_pure ?_; simp only [Bool.false_eq_true, if_false]
    refine wpAny_bind (wpAny_holding (iter_tuple ht ?_)); refine wpAny_bind (wpAny_holding (draw_tuple hlt items.size 0 _ _ ⟨_, Heap.get?_push_size _ rfl, rfl, rfl⟩ (ht.push _) (by omega) fun h₁ hit₁ hs₁ => ?_))
    have hall : (items.toList.drop 0).take items.size = items.toList := by rw [List.drop_zero]; exact List.take_of_length_le (by simp)
    rw [hall]; rw [if_neg (by simp)]
    have ht₁ : IsTup h₁ t items := (ht.push _).extBut hs₁.extBut hlt
    have hot₁ : HotAt A x1 h₁ := hgrow hot fun o e => hs₁.extBut _ _ hx1 (Heap.get?_push_of_some _ e)
    refine wpAny_bind (wpAny_holding (tup_nextH hot₁ hx1 hit₁ ht₁ (by simp) fun h₂ he₂ => ?_)); simp only [Option.isSome_none, Bool.false_eq_true, if_false]
    refine wpAny_pure (hQ h₂ fun b o hb e => he₂ b o hb (hs₁.extBut b o hb (Heap.get?_push_of_some _ e)))
theorem assign_tupH {env : Env} {elts : List Expr} {k : Nat} {pos : Pos} {t x1 : Addr} {items : Array Value} {Q : Unit → Shared → Prop} (hot : HotAt A x1 s.heap) (ht : IsTup s.heap t items)
    (hn : (assignEach elts env).length = items.size) (hstar : (assignEach elts env).findIdx? (·.1) = none)
    (h : ∀ h', Heap.ExtBut s.heap.objs.size s.heap h' → wpAny (model prog w) A (assignInOrder ((assignEach elts env).map (·.2)) items.toList) Q E { s with heap := h' }) : wpAny (model prog w) A (assign (.Tuple elts k pos) env (.ref t)) Q E s := by
  rw [assign_Tuple]; refine wpAny_bind (wpAny_standAt ?_); unfold unpack; rw [hn, hstar]; exact wpAny_bind (wpAny_holding (unpack_tupH hot ht h))
end
/-! ### how sources draw, while x1 is handled -/
section
variable {prog : Program} {w : World} {A : Around} {x1 : Addr}
theorem drawsH_tup (it t : Addr) (hne : t ≠ it) (hx1 : x1 ≠ it) (items : Array Value) :
    Draws prog w A it [it, t, x1] items.size (fun i v => items[i]? = some v) (fun i h => h.IsTupleIter it t i ∧ h.IsTuple t items ∧ HotAt A x1 h) where
  live := fun _ _ st => let ⟨o, ho, _⟩ := st.1; ⟨o, ho⟩
  frame := fun _ _ _ st hk => ⟨st.1.at fun o e => hk it (by simp) o e, st.2.1.at fun o e => hk t (by simp) o e, hgrow st.2.2 fun o e => hk x1 (by simp) o e⟩
  item := fun i s Q E hi st hQ => wpAny_nextOf_tuple_item st.1 st.2.1 (x := items[i]) (by simp [hi]) fun h' hit' hs' => hQ _ h' s.toks (by simp [hi]) ⟨hit', st.2.1.extBut hs'.extBut hne, hgrow st.2.2 fun o e => hs'.extBut _ _ hx1 e⟩ hs'
  done := fun s Q E st hE => tup_endH st.2.2 hx1 st.1 st.2.1 (by simp) hE
theorem drawsH_lst (it l : Addr) (hne : l ≠ it) (hx1 : x1 ≠ it) (items : Array Value) :
    Draws prog w A it [it, l, x1] items.size (fun i v => items[i]? = some v) (fun i h => h.IsListIter it l i ∧ h.IsList l items ∧ HotAt A x1 h) where
  live := fun _ _ st => let ⟨o, ho, _⟩ := st.1; ⟨o, ho⟩
  frame := fun _ _ _ st hk => ⟨st.1.at fun o e => hk it (by simp) o e, st.2.1.at fun o e => hk l (by simp) o e, hgrow st.2.2 fun o e => hk x1 (by simp) o e⟩
  item := fun i s Q E hi st hQ => wpAny_nextOf_list_item st.1 st.2.1 (x := items[i]) (by simp [hi]) fun h' hit' hs' => hQ _ h' s.toks (by simp [hi]) ⟨hit', st.2.1.extBut hs'.extBut hne, hgrow st.2.2 fun o e => hs'.extBut _ _ hx1 e⟩ hs'
  done := fun s Q E st hE => lst_endH st.2.2 hx1 st.1 st.2.1 (by simp) hE
theorem drawsH_txt (it : Addr) (x : Str) (t : Tok) (hx1 : x1 ≠ it) :
    Draws prog w A it [it, x1] x.cps.size (fun i v => ∃ c u, x.cps[i]? = some c ∧ v = .str ⟨#[c]⟩ u) (fun i h => h.IsStrIter it (strIterType x) x t i ∧ HotAt A x1 h) := by
  cases ha : x.cps.all (· < 128)
  · simp only [strIterType, ha, Bool.false_eq_true, if_false]
    exact ⟨fun _ _ st => let ⟨o, ho, _⟩ := st.1; ⟨o, ho⟩, fun _ _ _ st hk => ⟨let ⟨o, ho, r⟩ := st.1; ⟨o, hk it (by simp) o ho, r⟩, hgrow st.2 fun o e => hk x1 (by simp) o e⟩,
      fun i s Q E hi st hQ => wpAny_nextOf_wide_item st.1 (c := x.cps[i]) (by simp [hi]) fun h' hit' hs' => hQ _ h' (s.toks + 1) ⟨_, _, by simp [hi], rfl⟩ ⟨hit', hgrow st.2 fun o e => hs'.extBut _ _ hx1 e⟩ hs',
      fun s Q E st hE => wide_endH st.2 hx1 st.1 (by simp) hE⟩
  · simp only [strIterType, ha, if_true]
    exact ⟨fun _ _ st => let ⟨o, ho, _⟩ := st.1; ⟨o, ho⟩, fun _ _ _ st hk => ⟨let ⟨o, ho, r⟩ := st.1; ⟨o, hk it (by simp) o ho, r⟩, hgrow st.2 fun o e => hk x1 (by simp) o e⟩,
      fun i s Q E hi st hQ => wpAny_nextOf_ascii_item st.1 (c := x.cps[i]) (by simp [hi]) fun h' hit' hs' => hQ _ h' (s.toks + 1) ⟨_, _, by simp [hi], rfl⟩ ⟨hit', hgrow st.2 fun o e => hs'.extBut _ _ hx1 e⟩ hs',
      fun s Q E st hE => ascii_endH st.2 hx1 st.1 (by simp) hE⟩
end
section
variable {X : Cx} {pins : List (Addr × Obj)} {σ : L2.St} {H : Hp} {s : Shared}
theorem Sr.drawsH {r : Sr} {xs : List V} {it x1 : Addr} {j : Nat} {A : Around} (I : Inv X pins σ H s) (hd : r.Hd X.K xs H) (hi : Sr.It it j s.heap r) (hot : HotAt A x1 s.heap) (hx1 : x1 ≠ it) : ∃ (P : Nat → Value → Prop) (St : Nat → Heap → Prop),
    Draws X.prog X.w A it (it :: (r.adr ++ [x1])) xs.length P St ∧ (∀ i, Sr.It it i s.heap r → St i s.heap) ∧ (∀ i h, St i h → Sr.It it i h r) ∧ (∀ i u, P i u → ∃ x, xs[i]? = some x ∧ RelV x u) := by
  obtain ⟨oi, ei, ⟨ci, ec, n1, n2, n3, n4⟩, _⟩ := Sr.it_obj hi
  cases r with
  | lst a =>
    obtain ⟨its, rv, p, hz⟩ := I.list hd
    have hne : a ≠ it := fun z => by
      obtain ⟨o, _, e, c, _, _⟩ := p
      rw [z, ei] at e; cases e
      rw [ec] at c; exact n1 (Value.type.inj c)
    refine ⟨fun i v => its.toArray[i]? = some v, fun i h => h.IsListIter it a i ∧ h.IsList a its.toArray ∧ HotAt A x1 h, ?_, fun i h => ⟨h, p.isList, hot⟩, fun i h x => x.1, fun i u hu => ?_⟩
    · have := drawsH_lst (prog := X.prog) (w := X.w) (A := A) it a hne hx1 its.toArray
      rw [List.size_toArray, ← rv.length] at this
      exact this
    · have hu' : its[i]? = some u := by simpa using hu
      have hil : i < xs.length := by rw [rv.length]; exact (List.getElem?_eq_some_iff.mp hu').1
      obtain ⟨u', e1, r1⟩ := rv.get (List.getElem?_eq_getElem hil)
      rw [hu'] at e1; cases e1
      exact ⟨_, List.getElem?_eq_getElem hil, r1⟩
  | tup a =>
    obtain ⟨its, rv, p, hz⟩ := I.tuple hd
    have hne : a ≠ it := fun z => by
      obtain ⟨o, e, c, _⟩ := p
      rw [z, ei] at e; cases e
      rw [ec] at c; exact n2 (Value.type.inj c)
    refine ⟨fun i v => its.toArray[i]? = some v, fun i h => h.IsTupleIter it a i ∧ h.IsTuple a its.toArray ∧ HotAt A x1 h, ?_, fun i h => ⟨h, p, hot⟩, fun i h x => x.1, fun i u hu => ?_⟩
    · have := drawsH_tup (prog := X.prog) (w := X.w) (A := A) it a hne hx1 its.toArray
      rw [List.size_toArray, ← rv.length] at this
      exact this
    · have hu' : its[i]? = some u := by simpa using hu
      have hil : i < xs.length := by rw [rv.length]; exact (List.getElem?_eq_some_iff.mp hu').1
      obtain ⟨u', e1, r1⟩ := rv.get (List.getElem?_eq_getElem hil)
      rw [hu'] at e1; cases e1
      exact ⟨_, List.getElem?_eq_getElem hil, r1⟩
  | txt y t =>
    cases (show xs = signs y from hd)
    refine ⟨fun i v => ∃ c u, y.cps[i]? = some c ∧ v = .str ⟨#[c]⟩ u, fun i h => h.IsStrIter it (strIterType y) y t i ∧ HotAt A x1 h, ?_, fun i h => ⟨h, hot⟩, fun i h x => x.1, fun i u hu => ?_⟩
    · have := drawsH_txt (prog := X.prog) (w := X.w) (A := A) it y t hx1
      unfold signs
      rw [List.length_map, Array.length_toList]
      exact this
    · obtain ⟨c, u', hc, rfl⟩ := hu
      exact ⟨.str ⟨#[c]⟩, by unfold signs; rw [List.getElem?_map, Array.getElem?_toList, hc]; rfl, ⟨u', rfl⟩⟩
end
/-- from the library's walk over pairs -/
theorem turn_pairsH {P : Program} {w : World} {K : PySem.W.Frag} {elts : List Expr} {kk : Nat} {tpos : Pos} {J : It} {fp : List Addr} {it : Addr} {tn : Nat → Heap → Prop} (mem : it ∈ fp)
    (obj : ∀ i h, tn i h → ∀ b ∈ fp, ∃ o, h.get? b = some o ∧ ∀ v, o.data ≠ .cell v)
    (keep : ∀ i h h', tn i h → (∀ b ∈ fp, ∀ o, h.get? b = some o → h'.get? b = some o) → tn i h')
    (self : ∀ (A : Around) (i : Nat) (s : Shared) (Q : Value → Shared → Prop) (E : Value → Shared → Prop), tn i s.heap → Q (.ref it) s → wpAny (model P w) A (pyIter (.ref it)) Q E s)
    (go : ∀ (X : Cx), X.prog = P → X.w = w → X.K = K → ∀ (x1 : Addr) (i : Nat) (pins : List (Addr × Obj)) (s : Shared) (σ : L2.St) (H : Hp), HotAt X.A x1 s.heap → (∀ b ∈ fp, x1 ≠ b) → Inv X pins σ H s → tn i s.heap → (J.go i H ∨ J.stop i H) →
      ∃ (fp' wr : List Addr) (n : Nat) (Pt : Nat → Array Value → Prop) (St : Nat → Heap → Prop) (Mid : Nat → Addr → Heap → Prop), WalksT P w X.A it fp' wr n Pt St Mid ∧ St i s.heap ∧ (∀ b ∈ wr, b ∈ fp) ∧ (∀ j h, St j h → tn j h) ∧
        (J.go i H → i < n ∧ ∀ vals, Pt i vals → ∃ x y, Vals [x, y] vals.toList ∧ ∀ T, H T = none → J.yld i H (.ref T) (upd H T (.tup [x, y]))) ∧ (J.stop i H → i = n)) :
    L2H.TurnH P w K (.Tuple elts kk tpos) J fp it tn := by
  have hotOf : ∀ (X : Cx), L2H.HotC X → ∀ (pins : List (Addr × Obj)) (s : Shared) (σ : L2.St) (H : Hp), Inv X pins σ H s → (∀ b ∈ fp, FpOk X pins H b) → ∃ x1, HotAt X.A x1 s.heap ∧ ∀ b ∈ fp, x1 ≠ b := by
    rintro X ⟨p, ⟨hh, v1, e1, c1⟩, hp⟩ pins s σ H I hf
    exact ⟨p.1, ⟨hh, p.2, v1, (I.pin p (List.mem_append_left _ hp)).1, e1, c1⟩, fun b hb => (hf b hb).2.2.2.2.2 p (List.mem_append_left _ hp)⟩
  refine ⟨mem, obj, keep, ?_, ?_, self⟩
  · intro X hP hw hK hc i pins s σ H E I hf st hg
    obtain ⟨x1, hot, hx1⟩ := hotOf X hc pins s σ H I hf
    obtain ⟨fp', wr, n, Pt, St, Mid, W, hs, hwr, back, hgo, _⟩ := go X hP hw hK x1 i pins s σ H hot hx1 I st (.inl hg)
    obtain ⟨hi, hv⟩ := hgo hg
    subst hP hw hK
    refine W.item i s _ _ hi hs fun T vals h' tk hp hT hIs hm hk => ?_
    refine ⟨_, rfl, W.go elts kk tpos i T { s with heap := h', toks := tk } _ _ hm fun h'' hs' hk' => ?_⟩
    obtain ⟨x, y, rv, hy⟩ := hv vals hp
    have nT : T ∉ wr := W.apart i T h' hm
    have hT2 : IsTup h'' T vals := hIs.at fun o e => hk' T o nT e
    have new : ObjOk X.prog X.w (upd H T (.tup [x, y])) h'' T (.tup [x, y]) := by
      refine ⟨by show 2 ≤ sizeLine; decide, vals.toList, rv, ?_⟩
      simpa using hT2
    have I1 : Inv X pins σ (upd H T (.tup [x, y])) { s with heap := h'', toks := tk } :=
      I.turnedNew (ch := wr) (fun b ob hb q => hk' b ob hb (hk b ob hb q)) (fun b hb => hf b (hwr b hb)) hT new
    refine ⟨.ref T, _, I1, rfl, hy T (I.hok.fresh hT), back _ _ hs', fun b hb => ?_⟩
    obtain ⟨o, eo, _⟩ := obj i s.heap st b hb
    have hb' : b ≠ T := fun z => absurd (Nat.lt_of_lt_of_le (Heap.lt_size eo) (z ▸ hT)) (Nat.lt_irrefl _)
    rw [upd_ne hb']
    exact (hf b hb).1
  · intro X hP hw hK hc i pins s σ H E I hf st hg
    obtain ⟨x1, hot, hx1⟩ := hotOf X hc pins s σ H I hf
    obtain ⟨fp', wr, n, Pt, St, Mid, W, hs, hwr, back, _, hst⟩ := go X hP hw hK x1 i pins s σ H hot hx1 I st (.inr hg)
    have e := hst hg
    subst hP hw hK
    rw [e] at hs
    exact W.done s _ _ hs fun h' tk hk => ⟨rfl, I.turnedL (ch := wr) hk fun b hb => hf b (hwr b hb)⟩
theorem zip_sepH {N x1 : Addr} {l1 l2 : List Addr} (h1 : ∀ b ∈ l1, b < N) (h2 : ∀ b ∈ l2, b < N) (hx : ∀ b ∈ [N + 4, N + 2, N + 3, N, N + 1], x1 ≠ b) : ZipSep2 (N + 4) (N + 2) (N + 3) N (N + 1) (N :: (l1 ++ [x1])) ((N + 1) :: (l2 ++ [x1])) := by
  have a1 := hx (N + 4) (by simp)
  have a2 := hx (N + 3) (by simp)
  have a3 := hx N (by simp)
  have a4 := hx (N + 1) (by simp)
  have m1 : ∀ c : Addr, N ≤ c → c ≠ N → x1 ≠ c → c ∉ N :: (l1 ++ [x1]) := fun c hc hn hx h => by
    rcases List.mem_cons.mp h with e | h
    · exact hn e
    · rcases List.mem_append.mp h with h | h
      · exact absurd (h1 c h) (Nat.not_lt.mpr hc)
      · exact hx (List.mem_singleton.mp h).symm
  have m2 : ∀ c : Addr, N ≤ c → c ≠ N + 1 → x1 ≠ c → c ∉ (N + 1) :: (l2 ++ [x1]) := fun c hc hn hx h => by
    rcases List.mem_cons.mp h with e | h
    · exact hn e
    · rcases List.mem_append.mp h with h | h
      · exact absurd (h2 c h) (Nat.not_lt.mpr hc)
      · exact hx (List.mem_singleton.mp h).symm
  have ne : ∀ a b : Nat, a ≠ b → N + a ≠ N + b := fun a b h z => h (Nat.add_left_cancel z)
  refine ⟨ne 2 4 (by decide), ne 3 4 (by decide), ne 2 3 (by decide), ne 2 0 (by decide), by simp, m1 _ (Nat.le_add_right _ _) (ne 4 0 (by decide)) a1, m1 _ (Nat.le_add_right _ _) (ne 3 0 (by decide)) a2, ne 2 1 (by decide), by simp,
    m2 _ (Nat.le_add_right _ _) (ne 4 1 (by decide)) a1, m2 _ (Nat.le_add_right _ _) (ne 3 1 (by decide)) a2, m2 _ (Nat.le_refl _) (ne 0 1 (by decide)) a3, m1 _ (Nat.le_add_right _ _) (ne 1 0 (by decide)) a4⟩
theorem turn_zipH {P : Program} {w : World} {K : PySem.W.Frag} {elts : List Expr} {kk : Nat} {tpos : Pos} (r q : Sr) {N : Addr} (h1 : ∀ b ∈ r.adr, b < N) (h2 : ∀ b ∈ q.adr, b < N) :
    L2H.TurnH P w K (.Tuple elts kk tpos) (ItZ K r q) [N + 4, N + 2, N + 3, N, N + 1] (N + 4) (fun i h => IsZip h (N + 4) (N + 2) (N + 3) .none ∧ IsTupOf2 h (N + 2) (.ref N) (.ref (N + 1)) ∧ (∃ a1 a2, IsTupOf2 h (N + 3) a1 a2) ∧ Sr.It N i h r ∧ Sr.It (N + 1) i h q) := by
  refine turn_pairsH (by simp) (fun i h st b hb => ?_) (fun i h h' st k => ?_) (fun A i s Q E st h => wpAny_pyIter_zip st.1 h) fun X hP hw hK x1 i pins s σ H hot hx1 I st hg => ?_
  · obtain ⟨g1, g2, ⟨a1, a2, g3⟩, g4, g5⟩ := st
    rcases (by simpa using hb : b = N + 4 ∨ b = N + 2 ∨ b = N + 3 ∨ b = N ∨ b = N + 1) with e | e | e | e | e
    · rw [e]; exact ⟨_, g1, fun v q => nomatch q⟩
    · rw [e]; exact ⟨_, g2, fun v q => nomatch q⟩
    · rw [e]; exact ⟨_, g3, fun v q => nomatch q⟩
    · obtain ⟨o, ho, _, hd⟩ := Sr.it_obj g4
      rw [e]; exact ⟨o, ho, hd⟩
    · obtain ⟨o, ho, _, hd⟩ := Sr.it_obj g5
      rw [e]; exact ⟨o, ho, hd⟩
  · obtain ⟨g1, g2, ⟨a1, a2, g3⟩, g4, g5⟩ := st
    exact ⟨k (N + 4) (by simp) _ g1, k (N + 2) (by simp) _ g2, ⟨a1, a2, k (N + 3) (by simp) _ g3⟩, Sr.it_at g4 fun o e => k N (by simp) o e, Sr.it_at g5 fun o e => k (N + 1) (by simp) o e⟩
  · obtain ⟨g1, g2, g3, g4, g5⟩ := st
    obtain ⟨xs, ys, hx, hy⟩ : ∃ xs ys, r.Hd K xs H ∧ q.Hd K ys H := by
      rcases hg with ⟨xs, ys, _, _, h, h', _⟩ | ⟨xs, ys, h, h', _⟩ <;> exact ⟨xs, ys, h, h'⟩
    subst hP hw hK
    obtain ⟨P1, St1, D1, s1, b1, p1⟩ := Sr.drawsH (A := X.A.in1) I hx g4 hot (hx1 N (by simp))
    obtain ⟨P2, St2, D2, s2, b2, p2⟩ := Sr.drawsH (A := X.A.in1) I hy g5 hot (hx1 (N + 1) (by simp))
    have W := WalksT.zipD2 (prog := X.prog) (w := X.w) (A := X.A) (zip_sepH h1 h2 hx1) D1 D2
    refine ⟨_, _, _, _, _, _, W, ⟨g1, g2, g3, s1 i g4, s2 i g5⟩, fun b hb => ?_, fun j h ⟨x1, x2, x3, x4, x5⟩ => ⟨x1, x2, x3, b1 j h x4, b2 j h x5⟩, fun hgo => ?_, fun hst => ?_⟩
    · rcases (by simpa using hb : b = N + 4 ∨ b = N + 3 ∨ b = N ∨ b = N + 1) with e | e | e | e <;> simp [e]
    · obtain ⟨xs', ys', x, y, hx', hy', ex, ey⟩ := hgo
      have e1 := Sr.hd_inj I hx hx'
      have e2 := Sr.hd_inj I hy hy'
      subst e1 e2
      have l1 := (List.getElem?_eq_some_iff.mp ex).1
      have l2 := (List.getElem?_eq_some_iff.mp ey).1
      refine ⟨by omega, fun vals ⟨u1, u2, hu1, hu2, ev⟩ => ?_⟩
      obtain ⟨x', ex', rx⟩ := p1 i u1 hu1
      obtain ⟨y', ey', ry⟩ := p2 i u2 hu2
      rw [ex] at ex'; cases ex'
      rw [ey] at ey'; cases ey'
      subst ev
      exact ⟨x, y, is_two rx ry, fun T hT => ⟨T, x, y, rfl, hT, rfl, fun zs hz => by rw [← Sr.hd_inj I hx hz]; exact ex, fun zs hz => by rw [← Sr.hd_inj I hy hz]; exact ey⟩⟩
    · obtain ⟨xs', ys', hx', hy', el⟩ := hst
      rw [Sr.hd_inj I hx hx', Sr.hd_inj I hy hy', el]
section
variable {X : Cx} {T : Tab} {hx : HX} {W : WX}
/-- for x, y in zip(a, b), where an exception is handled -/
theorem pi_zipH {a b : Expr} {wa wb : WE} {p pos tpos : Pos} {elts : List Expr} {kk : Nat} (hg : Gl X "zip") (hm : X.mg "zip" = none) (ha : PE X a (tDE X.K T hx W wa)) (hb : PE X b (tDE X.K T hx W wb))
    (hs : starEach [a, b] X.env = (false, eval a X.env) :: starEach [b] X.env) (hs2 : starEach [b] X.env = (false, eval b X.env) :: starEach [] X.env) :
    L2H.PIH X (.Tuple elts kk tpos) (.Call (.Name "zip" p) [a, b] [] pos) (tDI X.K T hx W fun ρ A E Q => wa ρ A E fun d A1 => wb ρ A1 E fun e A2 => wkD d A2 fun w => wkD e A2 fun v =>
      Q ⟨(w.items.zip v.items).map fun p => .tup [p.1, p.2], fun A' => w.ok A' ∧ v.ok A'⟩ A2) := by
  refine ⟨fun pins s σ H R I h => ?_⟩
  obtain ⟨μ, ρ, A, E, Q', p, h, fin⟩ := h
  have hA := (pa_cons ha (pa_cons hb pa_nil hs2) hs).run pos pins s σ H (fun vs H1 => ∃ v u, vs = [v, u] ∧ ∃ μ1 A1 d e, Stp μ H μ1 H1 ∧ HR X.K μ1 A1 H1 ∧ RelD X.K μ1 H1 d v ∧ RelD X.K μ1 H1 e u ∧ wkD d A1 fun w => wkD e A1 fun v => Q' ⟨(w.items.zip v.items).map fun p => .tup [p.1, p.2], fun A' => w.ok A' ∧ v.ok A'⟩ A1) I
    (tDE.go p h fun v H1 μ1 d A1 s1 r p1 q => tDE.go p1 q fun u H2 μ2 e A2 s2 r2 p2 q2 => ⟨v, u, rfl, μ2, A2, d, e, s1.trans s2, p2.h, r.mono s2 _ _, r2, q2⟩)
  refine Call_ (ld_blt I hg hm (show bootBuiltins "zip" = some (.type "zip") from by decide +kernel) (PyProof.Rows.callWith_type1 (thn hA fun us s1 ⟨vs, H1, I1, r1, v, u, ev, μ1, A1, d, e, st1, hr, rd, re, q⟩ => ?_) (by rw [hs]) (by rw [hs2]; rfl)))
  subst ev
  obtain ⟨v1, v2, rfl, rv1, rv2⟩ := Vals.two r1
  obtain ⟨r, wk, e1, S, ok, adr1, q⟩ := src_of hr rd rv1 q
  obtain ⟨r', wk2, e2, S2, ok2, adr2, q⟩ := src_of hr re rv2 q
  subst e1 e2
  obtain ⟨xs, hd, _⟩ := S μ1 A1 H1 .refl hr ok
  obtain ⟨ys, hd2, _⟩ := S2 μ1 A1 H1 .refl hr ok2
  obtain ⟨Hh, B, hB⟩ := Sr.begins I1 hd
  obtain ⟨Hh2, B2, hB2⟩ := Sr.begins I1 hd2
  refine zip_begins2 B B2 hB hB2 fun h' hz hT hO g1 g2 hsz hk => wpAny_pyIter_zip hz ?_
  have I2 : Inv X pins σ H1 { s1 with heap := h' } := I1.kept (t' := s1.toks) hk
  refine ⟨s1.heap.objs.size + 4, _, _, _, H1, rfl, I2, turn_zipH (N := s1.heap.objs.size) r r' (fun b hb => adr_lt I1 (adr1 b hb)) (fun b hb => adr_lt I1 (adr2 b hb)), ⟨hz, hT, ⟨_, _, hO⟩, Sr.start g1, Sr.start g2⟩, fun b hb => ?_, fin _ _ μ1 _ A1 st1 hr (walk_zipD S S2) q⟩
  have hle : s1.heap.objs.size ≤ b := by
    rcases (by simpa using hb : b = s1.heap.objs.size + 4 ∨ b = s1.heap.objs.size + 2 ∨ b = s1.heap.objs.size + 3 ∨ b = s1.heap.objs.size ∨ b = s1.heap.objs.size + 1) with z | z | z | z | z <;> (rw [z]; first | exact Nat.le_add_right _ _ | exact Nat.le_refl _)
  exact I1.fpOk hle (I1.hok.fresh hle)
theorem pg_tupH {es : List Expr} {k : Nat} {t : TGs} {n : Nat} {pos : Pos} (hc : L2H.HotC X) (h : PGs X es t) (hn : (assignEach es X.env).length = n) (hst : (assignEach es X.env).findIdx? (·.1) = none) : PG X (.Tuple es k pos) (gTup X.K n t) := by
  refine ⟨fun pins s σ H v u Q I r hw => ?_⟩
  obtain ⟨a, xs, e1, hq, hl, hw⟩ := hw; subst e1; cases r
  obtain ⟨its, rv, ht, hz⟩ := I.tuple hq; obtain ⟨x1, hot⟩ := hc.at I
  refine assign_tupH hot ht (by simp [hn, ← hl, rv.length]) hst fun h' hx => ?_
  have I1 : Inv X pins σ H { s with heap := h' } := I.kept (t' := s.toks) fun b o e => hx b o (Nat.ne_of_lt (Heap.lt_size e)) e
  have rv' : Vals xs its.toArray.toList := by simpa using rv
  exact h.run pins _ σ H xs _ Q I1 rv' hw
theorem pg_tupLH {es : List Expr} {k : Nat} {t : TGs} {n : Nat} {pos : Pos} (hc : L2H.HotC X) (h : PGs X es t) (hn : (assignEach es X.env).length = n) (hst : (assignEach es X.env).findIdx? (·.1) = none) : PG X (.Tuple es k pos) (gTupL X.K n t) := by
  refine ⟨fun pins s σ H v u Q I r hw => ?_⟩
  obtain ⟨a, xs, e1, hq, hl, hw⟩ := hw
  rcases hq with hq | hq
  · exact (pg_tupH hc h hn hst).run pins s σ H v u Q I r ⟨a, xs, e1, hq, hl, hw⟩
  · subst e1
    cases r
    obtain ⟨its, rv, p, hz⟩ := I.list hq; obtain ⟨x1, hot⟩ := hc.at I
    have hx1 : x1 ≠ s.heap.objs.size := by obtain ⟨_, o, _, ho, _⟩ := hot; exact Nat.ne_of_lt (Heap.lt_size ho)
    refine assign_lst p.isList (by simp [hn, ← hl, rv.length]) hst (fun h₁ Q2 x hit hl2 hQ => lst_nextH (s := { s with heap := h₁ }) (hgrow hot fun o e => x _ _ hx1 e) hx1 hit hl2 (by simp) hQ) fun h' hx => ?_
    have I1 : Inv X pins σ H { s with heap := h' } := I.kept (t' := s.toks) fun b o e => hx b o (Nat.ne_of_lt (Heap.lt_size e)) e
    exact h.run pins _ σ H xs _ Q I1 (by simpa using rv) hw
theorem pg_tupXH {es : List Expr} {k : Nat} {pos : Pos} {gs : Tgs} (hc : L2H.HotC X) (h : PGs X es (gDs X.K hx gs)) (hn : (assignEach es X.env).length = tgsLen gs) (hst : (assignEach es X.env).findIdx? (·.1) = none) : PG X (.Tuple es k pos) (gD X.K hx (.tup gs)) :=
  PG.weaken (pg_tupLH hc h hn hst) fun v σ H Q ⟨μ, ρ, d, ρ', rs, rd, e, kk⟩ => by
    cases d with
    | tup ds =>
      obtain ⟨a, vs, rfl, hq, hv⟩ := rel_tup rd
      simp only [bindT] at e
      exact ⟨a, vs, rfl, .inl hq, by rw [← hv.length]; exact bindTs_len e, μ, ρ, ds, ρ', rs, hv, e, kk⟩
    | ls ds =>
      obtain ⟨a, vs, o, rfl, hq, hv⟩ := rel_ls rd
      simp only [bindT] at e
      exact ⟨a, vs, rfl, .inr (frz_sq hq), by rw [← hv.length]; exact bindTs_len e, μ, ρ, ds, ρ', rs, hv, e, kk⟩
    | _ => simp [bindT] at e
end
end Px
end TextPxH

section TextPxL
set_option autoImplicit false
set_option maxRecDepth 100000
set_option maxHeartbeats 4000000
/-! PxL: a list comprehension while an error is handled: its block keeps the pins of the def around. -/
namespace Px
open PySem PySem.Spec PyProof.Rows L2
abbrev blkH (X : Cx) (s : Shared) (H : Hp) (scope : Scope) (ce : Env) (fp : List Addr) : Cx := (X.blk s H scope ce fp).tr X.pn (fun _ _ => False)
section
variable {X : Cx} {pins : List (Addr × Obj)} {σ : L2.St} {H : Hp} {s : Shared}
theorem hot_blk (hc : L2H.HotC X) (s : Shared) (H : Hp) (scope : Scope) (ce : Env) (fp : List Addr) : L2H.HotC (blkH X s H scope ce fp) := hc
/-- the block's start, with the pins -/
theorem startH {scope : Scope} {own : List (Str × Nat)} {fp : List Addr} {ce : Env} {s4 : Shared} (I : Inv X pins σ H s) (B : Inv (X.blk s H scope ce fp) [] (wipe σ (own.map (·.2))) H s4) (cL : ce.locals = s.heap.objs.size) (k : ∀ b o, s.heap.get? b = some o → s4.heap.get? b = some o) :
    Inv (blkH X s H scope ce fp) [] (wipe σ (own.map (·.2))) H s4 := by
  refine ⟨B.ok.toTry _ _, B.os, B.bare, B.base, B.loc, B.cell, B.free, B.freeC, fun p hp => ?_, B.hok, B.len⟩
  have hp : p ∈ X.pn := by rw [List.append_nil] at hp; exact hp
  obtain ⟨p1, p2, p3, p4, p5⟩ := I.pin p (List.mem_append_left _ hp)
  refine ⟨k _ _ p1, p2, fun z => ?_, fun z => ?_, p5⟩
  · have : p.1 < s.heap.objs.size := Heap.lt_size p1
    have z : p.1 = ce.locals := z
    exact absurd (z.trans cL) (Nat.ne_of_lt this)
  · have z : p.1 ∈ frs X.stack := z
    rcases I.ok.stk with e | ⟨e, e2⟩
    · rw [e] at z; exact p4 z
    · rw [e] at z
      unfold frs at z
      rw [List.filterMap_cons, e2] at z
      rcases List.mem_cons.mp z with z | z
      · exact p3 z
      · exact p4 z
theorem pe_lcH {elt tg iter : Expr} {ifs : List Expr} {scope : Scope} {own : List (Str × Nat)} {pos : Pos} {wi : TI} {g : TG} {tt : TT} {te : TE} (hc : L2H.HotC X) (hN : X.N.Nodup) (hi : L2H.PIH X tg iter wi) (ok : BlkOk X.N X.env.scope scope own)
    (hg : ∀ (s : Shared) (H : Hp) (C : Addr) (cl : List (Str × Addr)) (fp : List Addr), PG (blkH X s H scope (compEnvC scope cl C X.env) fp) tg g)
    (ht : ∀ (s : Shared) (H : Hp) (C : Addr) (cl : List (Str × Addr)) (fp : List Addr), PTs (blkH X s H scope (compEnvC scope cl C X.env) fp) ifs tt)
    (he : ∀ (s : Shared) (H : Hp) (C : Addr) (cl : List (Str × Addr)) (fp : List Addr), PE (blkH X s H scope (compEnvC scope cl C X.env) fp) elt te)
    (hs : ∀ x, foldedSetIterable iter X.env x = pure x) : PE X (.ListComp elt [⟨tg, iter, ifs, 0⟩] scope pos) (tLc wi g tt te (own.map (·.2))) := by
  refine ⟨fun pins s σ H Q I h => ?_⟩
  rw [eval_ListComp]
  have fr : ∀ y ∈ scope.names, y.2 = .free → ∃ c, X.env.cells.lookup y.1 = some c := fun y hy e => by
    rcases ok.free y hy e with z | z
    · exact I.ok.has _ (.inl z)
    · exact I.ok.has _ (.inr z)
  refine wpAny_comprehension_free rfl hs (closure_ok fr) ok.kind (fun y hy e => by rw [ok.uniq y hy, e]) (thn (hi.run pins s σ H _ I h) fun _ _ hx => thn hx fun _ s2 h2 => ?_)
  obtain ⟨it, fp, tn, J, H2, rfl, I2, T, st2, f2, q⟩ := h2
  refine wpAny_newObj_type (newEnv_comp ?_) (by show 0 ≤ sizeLine; decide)
  obtain ⟨D, hD⟩ : ∃ D, s2.heap.objs.size = D := ⟨_, rfl⟩
  have hDn : H2 D = none := I2.hok.fresh (Nat.le_of_eq hD)
  obtain ⟨V, ⟨m0, w0⟩, turn⟩ := q D hDn
  rw [hD]
  obtain ⟨s3, hs3⟩ : ∃ s3 : Shared, { s2 with heap := s2.heap.push { cls := .type "list", data := .seq ([] : List Value).toArray } } = s3 := ⟨_, rfl⟩
  have h3 : s3.heap = s2.heap.push { cls := .type "list", data := .seq ([] : List Value).toArray } := by rw [← hs3]
  have I3 : Inv X pins σ (upd H2 D (.lst [])) s3 := by
    have at0 : (s2.heap.push { cls := .type "list", data := .seq ([] : List Value).toArray }).get? D = some { cls := .type "list", data := .seq ([] : List Value).toArray } := by rw [← hD]; exact Heap.get?_push_size _ rfl
    rw [← hs3]
    exact I2.laid (t' := s2.toks) (fun b o e => Heap.get?_push_of_some _ e) (Nat.le_of_eq hD) ⟨Nat.zero_le _, [], 0, .nil, at0⟩
  have lt2 : ∀ b ∈ fp, b < s2.heap.objs.size := fun b hb => let ⟨_, e, _⟩ := T.obj _ _ st2 b hb; Heap.lt_size e
  have f3 : ∀ b ∈ fp, FpOk X pins (upd H2 D (.lst [])) b ∧ b < s3.heap.objs.size := fun b hb => by
    have l := lt2 b hb
    refine ⟨⟨by rw [upd_ne (by rw [← hD]; exact Nat.ne_of_lt l)]; exact (f2 b hb).1, (f2 b hb).2⟩, by rw [h3, Heap.size_push]; exact Nat.lt_succ_of_lt l⟩
  have st3 : tn 0 s3.heap := T.keep _ _ _ st2 fun b _ o e => by rw [h3]; exact Heap.get?_push_of_some _ e
  have B0 := block_start I3 ok hN f3
  rw [hs3]
  obtain ⟨cl, hcl⟩ : ∃ cl, cellsFrom (s3.heap.objs.size + 1) scope.names (cloFrom X.env.cells scope.names []) = cl := ⟨_, rfl⟩
  obtain ⟨H3, hH3⟩ : ∃ H3, upd H2 D (.lst []) = H3 := ⟨_, rfl⟩
  rw [hcl] at B0
  rw [hH3] at I3 B0 w0 f3
  have pg := hg s3 H3 s3.heap.objs.size cl fp
  have pt := ht s3 H3 s3.heap.objs.size cl fp
  have pe := he s3 H3 s3.heap.objs.size cl fp
  rw [hcl]
  obtain ⟨ce, hce⟩ : ∃ ce, compEnvC scope cl s3.heap.objs.size X.env = ce := ⟨_, rfl⟩
  have cL : ce.locals = s3.heap.objs.size := by rw [← hce]; rfl
  rw [hce] at B0 pg pt pe
  obtain ⟨s4, hs4⟩ : ∃ s4 : Shared, { s3 with heap := pushCells (s3.heap.push { cls := .type "dict", data := .dict #[] }) scope.names } = s4 := ⟨_, rfl⟩
  rw [hs4] at B0
  have up4 : ∀ b o, s3.heap.get? b = some o → s4.heap.get? b = some o := fun b o e => by rw [← hs4]; exact pushCells_keeps _ _ _ _ (Heap.get?_push_of_some _ e)
  have B1 := startH I3 B0 cL up4
  have st4 : tn 0 s4.heap := T.keep _ _ _ st3 fun b _ o e => up4 b o e
  have nf : ∀ b ∈ fp, H3 b = none := fun b hb => (f3 b hb).1.1
  have hB := hot_blk hc s3 H3 scope ce fp
  have ft : ∀ {σ' : L2.St} {H' : Hp} {s' : Shared}, Inv (blkH X s3 H3 scope ce fp) [] σ' H' s' → (∀ b ∈ fp, H' b = none) → ∀ b ∈ fp, FpOk (blkH X s3 H3 scope ce fp) [] H' b := fun J hn b hb =>
    ⟨hn b hb, (J.ok.exf b hb).1, J.ok.exfs b hb, .inl hb, fun x c e => (J.ok.exf b hb).2 x c e, fun p hp => (f3 b hb).1.2.2.2.2.2 p (List.mem_append_left _ (by rw [List.append_nil] at hp; exact hp))⟩
  show codeAny _ _ (.compStart _ 0 (.ref it) (.ref D) (compEnvC scope cl s3.heap.objs.size X.env)) _ { s3 with heap := pushCells (s3.heap.push { cls := .type "dict", data := .dict #[] }) scope.names }
  rw [hce, hs4]
  have main : codeAny (model X.prog X.w) X.A (.compLoop (.ListComp elt [⟨tg, iter, ifs, 0⟩] scope pos) 0 (.ref it) (.ref D) ce) (compPost (model X.prog X.w) X.A X.xe none (EP X pins σ Q) (.ref D) s3.heap.objs.size) s4 := by
    refine compLoop_any (fun n s' => ∃ i H', Inv (blkH X s3 H3 scope ce fp) [] (wipe σ (own.map (·.2))) H' s' ∧ tn i s'.heap ∧ (∀ b ∈ fp, H' b = none) ∧ V i n H') ?_ m0 ⟨0, H3, B1, st4, nf, w0⟩
    rintro n s5 ⟨i, H5, I5, st5, n5, w5⟩
    rcases turn i n H5 w5 with ⟨stop, qq⟩ | ⟨go, Nx, hNx, step⟩
    · refine thnF (T.done (blkH X s3 H3 scope ce fp) rfl rfl rfl hB i [] s5 _ H5 (fun _ _ => False) I5 (ft I5 n5) st5 stop) fun r s6 ⟨hr, I6⟩ => ?_
      subst hr
      have I7 : Inv X pins σ H5 s6 := I3.call' (ch := fp) I6.os I6.base I6.hok I6.bare fun b hb => let z := (f3 b hb).1.2; ⟨z.2.2.1, z.1, z.2.2.2.1, z.2.2.2.2⟩
      have nC : H5 s3.heap.objs.size = none := by have z : H5 ce.locals = none := I6.free; rw [cL] at z; exact z
      obtain ⟨m, hn, _⟩ := I6.loc
      have hn : s6.heap.Ns ce.locals m := hn
      rw [cL] at hn
      refine ⟨m, hn, fun h'' sb => ?_⟩
      obtain ⟨g0, g1, g2, g3, g4, g5⟩ := I3.fpOk (H' := H5) (Nat.le_refl _) nC
      exact ⟨.ref D, H5, I7.turned (t' := s6.toks) (fun b o hb e => (sb.2 b hb).trans e) g0 g1 g3 g4 g5, rfl, qq⟩
    · refine thnF (T.item (blkH X s3 H3 scope ce fp) rfl rfl rfl hB i [] s5 _ H5 (fun _ _ => False) I5 (ft I5 n5) st5 go) fun r s6 ⟨u, hr, h6⟩ => ?_
      subst hr
      refine thnF h6 fun _ s7 ⟨x, H7, I7, r7, y7, st7, n7⟩ => ?_
      refine thnF (pg.run _ s7 _ H7 x u _ (I7.pinned (ft I7 n7) (T.obj _ _ st7)) r7 (step x H7 y7)) fun _ s8 ⟨σ8, H8, I8, hw8, q8⟩ => ?_
      refine thnF (pt.run _ s8 σ8 H8 _ I8 q8) fun b s9 ⟨H9, I9, q9⟩ => ?_
      have back : ∀ {s' : Shared} {H' : Hp}, Inv (blkH X s3 H3 scope ce fp) ([] ++ pinsAt fp s7.heap) σ8 H' s' → Nx H' → ∃ m, m < n ∧ ∃ i H', Inv (blkH X s3 H3 scope ce fp) [] (wipe σ (own.map (·.2))) H' s' ∧ tn i s'.heap ∧ (∀ b ∈ fp, H' b = none) ∧ V i m H' := fun {s' H'} J nx => by
        obtain ⟨m', hm, w'⟩ := hNx H' nx
        have pinned : ∀ b ∈ fp, ∀ o, s7.heap.get? b = some o → s'.heap.get? b = some o ∧ H' b = none := fun b hb o e =>
          let z := J.pin (b, o) (List.mem_append_right _ (List.mem_append_right _ (mem_pinsAt hb e))); ⟨z.1, z.2.1⟩
        refine ⟨m', hm, i + 1, H', (J.unpinned (pins := [])).weak (by rw [← hw8, wipe_length]) (fun j v e => by rw [← hw8] at e; exact (wipe_some e).1), T.keep _ _ _ st7 fun b hb o e => (pinned b hb o e).1, fun b hb => ?_, w'⟩
        obtain ⟨o, e, _⟩ := T.obj _ _ st7 b hb
        exact (pinned b hb o e).2
      cases b with
      | false => simp only [Bool.false_eq_true, if_false] at q9 ⊢; exact back I9 q9
      | true =>
        simp only [if_true] at q9 ⊢
        refine thnF (pe.run _ s9 σ8 H9 _ I9 q9) fun z s10 ⟨yv, H10, I10, r10, acc, e10, z10, nx⟩ => ?_
        exact app_ok (X := blkH X s3 H3 scope ce fp) I10 e10 z10 r10 fun s11 I11 => back I11 nx
  exact codeAny_compStart_list main (T.self X.A 0 _ _ _ st4 main)
variable {T : Tab} {hx : HX} {W : WX}
theorem pi_rng1XH {tg a : Expr} {wa : WE} {p pos : Pos} (hg : Gl X "range") (hm : X.mg "range" = none) (ha : PE X a (tDE X.K T hx W wa)) (hs : starEach [a] X.env = [(false, eval a X.env)]) :
    L2H.PIH X tg (.Call (.Name "range" p) [a] [] pos) (tDI X.K T hx W fun ρ A E Q => wa ρ A E fun d A1 => match d with
      | .int j => -(2 ^ 62) ≤ j ∧ j < 2 ^ 62 ∧ Q ⟨rngD 0 j.toNat, fun _ => True⟩ A1
      | _ => False) := by
  refine ⟨fun pins s σ H R I ⟨μ, ρ, A, E, Q', pk, h, fin⟩ => (L2H.pi_range1H hg hm (pa_cons ha pa_nil hs) hs).run pins s σ H R I ?_⟩
  refine tDE.go pk h fun v H1 μ1 d A1 s1 r1 p1 q1 => ?_
  split at q1
  · cases rel_int r1
    exact ⟨_, rfl, q1.1, q1.2.1, fin _ H1 μ1 _ A1 s1 p1.h (walk_rngD 0 _) q1.2.2⟩
  · exact q1.elim
theorem pe_lcXH {elt tg iter : Expr} {ifs : List Expr} {scope : Scope} {own : List (Str × Nat)} {pos : Pos} {wi : WIt} {g : Tg} {wt : WTt} {we : WE} (hc : L2H.HotC X) (hN : X.N.Nodup) (hi : L2H.PIH X tg iter (tDI X.K T hx W wi)) (ok : BlkOk X.N X.env.scope scope own)
    (hg : ∀ (s : Shared) (H : Hp) (C : Addr) (cl : List (Str × Addr)) (fp : List Addr), PG (blkH X s H scope (compEnvC scope cl C X.env) fp) tg (gD X.K hx g))
    (ht : ∀ (s : Shared) (H : Hp) (C : Addr) (cl : List (Str × Addr)) (fp : List Addr), PTs (blkH X s H scope (compEnvC scope cl C X.env) fp) ifs (tDT X.K T hx W0 wt))
    (he : ∀ (s : Shared) (H : Hp) (C : Addr) (cl : List (Str × Addr)) (fp : List Addr), PE (blkH X s H scope (compEnvC scope cl C X.env) fp) elt (tDE X.K T hx W0 we)) (hs : ∀ x, foldedSetIterable iter X.env x = pure x) (hsl : ∀ i ∈ tgSlots g, i ∈ own.map (·.2)) :
    PE X (.ListComp elt [⟨tg, iter, ifs, 0⟩] scope pos) (tDE X.K T hx W fun ρ A E Q => wi ρ A E fun w A1 => compD w.ok
      (fun d A2 k => match bindT g d (wipeD ρ (own.map (·.2))) with
        | some ρ2 => wt ρ2 A2 (fun _ _ => False) fun c A3 => if c = true then we ρ2 A3 (fun _ _ => False) fun y A4 => k (some y) A4 else k none A3
        | none => False)
      (fun acc A2 => nlD acc A2 Q) w.items [] A1) :=
  PE.weaken (pe_freeze (pe_lcH hc hN hi ok hg ht he hs)) fun σ H Q h => tLc_of hsl (fun v H' q => q) h
end
end Px
end TextPxL

section TextPx10
set_option autoImplicit false
set_option maxRecDepth 100000
set_option maxHeartbeats 2000000
/-! Px10: from the model's syntax to ours; expressions are sound. -/
namespace Px
open PySem PySem.Spec PyProof.Rows L2

structure CC where
  N : List Str
  sc : Scope
  blk : Option Scope
  fns : List (Str × Nat)
  cts : List Str
  exs : List Str
  hot : Bool
  exv : Option Str
  rss : List (Str × Nat) := []
  hfns : List (Str × Nat) := []
  hds : List Str := []
  flds : List Str := []
  kwp : List ((Str × Nat × List Str) × List Nat) := []
  gd : Bool := false
  /-- loops may stand here though an exception is handled -/
  hfor : Bool := false
def CC.kind (c : CC) (x : Str) : Option NameKind := c.sc.names.lookup x
def CC.vis (c : CC) (x : Str) : Bool := match c.kind x with | some .local => true | some .cell => true | some .free => true | _ => false
def CC.gl (c : CC) (x : Str) : Bool := match c.kind x with | some .globalImplicit => true | _ => false
def CC.slot (c : CC) (x : Str) : Option Nat := match c.N.findIdx? (fun y => decide (y = x)) with
  | some i => if c.N[i]? = some x then some i else none
  | none => none
/-- a name that may be stored, and its slot -/
def CC.sto (c : CC) (x : Str) : Option Nat := match c.kind x, c.blk with
  | some .local, _ => c.slot x
  | some .cell, none => c.slot x
  | some .cell, some s => if s.names.lookup x = some .cell then c.slot x else none
  | _, _ => none
def okName (x : Str) : Bool := !(x == ("__debug__" : Str)) && !(x == ("__classdict__" : Str)) && !decide (x = ("__name__" : Str))
def CC.fnOf (c : CC) (x : Str) : Option Nat := c.fns.lookup x
def biOf (x : Str) : Option BI :=
  if x = "len" then some .len else if x = "int" then some .int else if x = "abs" then some .abs else if x = "min" then some .min else if x = "max" then some .max
  else if x = "tuple" then some .tuple else if x = "list" then some .list else if x = "str" then some .str else if x = "sorted" then some .sorted else if x = "sum" then some .sum
  else if x = "all" then some .all else if x = "any" then some .any else if x = "range" then some .range else none
def tyOf (x : Str) : Option TI' :=
  if x = "int" then some .int else if x = "bool" then some .bool else if x = "str" then some .str else if x = "tuple" then some .tuple else if x = "list" then some .list else if x = "dict" then some .dict else none
def miOf (x : Str) : Option MI :=
  if x = "append" then some .append else if x = "pop" then some .pop else if x = "reverse" then some .reverse else if x = "extend" then some .extend else if x = "join" then some .join
  else if x = "find" then some .find else if x = "index" then some .index else if x = "upper" then some .upper else if x = "split" then some .split else if x = "isdigit" then some .isdigit else if x = "startswith" then some .startswith else none
def plainBase : Expr → Bool
  | .Call (.Name _ _) [] [] _ => false
  | _ => true
def noStar : Expr → Bool
  | .Starred .. => false
  | _ => true
def noSlice : Expr → Bool
  | .Slice .. => false
  | _ => true
section
variable (f : Expr → Option Ie)
def cList : List Expr → Option Ies
  | [] => some .nil
  | e :: es => match noStar e, f e, cList es with | true, some a, some b => some (.cons a b) | _, _, _ => none
def cOpt : Option Expr → Option Ieo
  | none => some .no
  | some e => (f e).map .so
def cBools (op : BoolOp) : List Expr → Option Ie
  | [] => none
  | [e] => f e
  | e :: es => match f e, cBools op es with | some a, some b => some (match op with | .And => .andv a b | .Or => .orv a b) | _, _ => none
end
def kwNames : List Keyword → Option (List Str)
  | [] => some []
  | ⟨some x, _, _⟩ :: r => (kwNames r).map (x :: ·)
  | _ => none
def kwVals : List Keyword → List Expr
  | [] => []
  | ⟨_, e, _⟩ :: r => e :: kwVals r
mutual
def cTg (c : CC) : Nat → Expr → Option Tg
  | 0, _ => none
  | n + 1, .Name x _ => (c.sto x).map .name
  | n + 1, .Tuple es _ _ => (cTgs c n es).map .tup
  | _, _ => none
def cTgs (c : CC) : Nat → List Expr → Option Tgs
  | _, [] => some .nil
  | 0, _ => none
  | n + 1, e :: es => match noStar e, cTg c n e, cTgs c n es with | true, some g, some gs => some (.cons g gs) | _, _, _ => none
end
def CC.inner (c : CC) (scope : Scope) : CC := { c with sc := relS scope c.sc, blk := some scope, exv := none }
def ownOf (c : CC) (ws : List Nat) : List (Str × Nat) := ws.map fun i => ((c.N[i]?).getD ⟨#[]⟩, i)
def rprArgs (f : Str) : List Expr → Option Expr
  | [e] => if f = "repr" then some e else none
  | _ => none
theorem rpr_at {f : Str} {es : List Expr} {e : Expr} (h : rprArgs f es = some e) : es = [e] ∧ f = "repr" := by
  unfold rprArgs at h
  split at h
  · split at h
    · rename_i hf
      cases h
      exact ⟨rfl, hf⟩
    · cases h
  · cases h
/-- range(a), as it is walked -/
def rng1Of : Expr → Option Expr
  | .Call (.Name f _) [a] [] _ => if f = "range" then some a else none
  | _ => none
theorem rng1_at {e a : Expr} (h : rng1Of e = some a) : ∃ p pos, e = .Call (.Name "range" p) [a] [] pos := by
  unfold rng1Of at h
  split at h
  · split at h
    · rename_i hf
      subst hf
      cases h
      exact ⟨_, _, rfl⟩
    · cases h
  · cases h
/-- sorted(set(e)) -/
def setArgs (f : Str) : List Expr → Option Expr
  | [.Call (.Name g _) [e] [] _] => if f = "sorted" ∧ g = "set" then some e else none
  | _ => none
theorem set_at {f : Str} {es : List Expr} {e : Expr} (h : setArgs f es = some e) : ∃ p2 pos2, es = [.Call (.Name "set" p2) [e] [] pos2] ∧ f = "sorted" := by
  unfold setArgs at h
  split at h
  · split at h
    · rename_i hc
      obtain ⟨h1, h2⟩ := hc
      subst h2
      cases h
      exact ⟨_, _, rfl, h1⟩
    · cases h
  · cases h
def lrgArgs (f : Str) : List Expr → Option (List Expr)
  | [.Call (.Name g _) rs [] _] => if (f = "list" ∨ f = "tuple") ∧ g = "range" then some rs else none
  | _ => none
theorem lrg_at {f : Str} {es rs : List Expr} (h : lrgArgs f es = some rs) : ∃ p2 pos2, es = [.Call (.Name "range" p2) rs [] pos2] ∧ ((decide (f = "tuple") = false ∧ f = "list") ∨ (decide (f = "tuple") = true ∧ f = "tuple")) := by
  unfold lrgArgs at h
  split at h
  · split at h
    · rename_i hc
      obtain ⟨h1, h2⟩ := hc
      subst h2
      cases h
      refine ⟨_, _, rfl, ?_⟩
      rcases h1 with rfl | rfl
      · exact .inl ⟨rfl, rfl⟩
      · exact .inr ⟨rfl, rfl⟩
    · cases h
  · cases h
def nmArgs : List Expr → Option (List Str)
  | [] => some []
  | .Name x _ :: r => (nmArgs r).map (x :: ·)
  | _ => none
def isxArgs (f : Str) : List Expr → Option (Str × List Str)
  | [.Name e _, .Tuple ts _ _] => if f = "isinstance" then (nmArgs ts).map fun l => (e, l) else none
  | _ => none
theorem isx_at {f e : Str} {es : List Expr} {ts : List Str} (h : isxArgs f es = some (e, ts)) : ∃ p1 xs kk tpos, es = [.Name e p1, .Tuple xs kk tpos] ∧ f = "isinstance" ∧ nmArgs xs = some ts := by
  unfold isxArgs at h
  split at h
  · split at h
    · rename_i hc
      subst hc
      simp only [Option.map_eq_some_iff] at h
      obtain ⟨l, h1, h2⟩ := h
      cases h2
      exact ⟨_, _, _, _, rfl, rfl, h1⟩
    · cases h
  · cases h
/-- the keys of a display: numbers and texts that are written -/
def cKeys : List (Option Expr) → Option Ies
  | [] => some .nil
  | some (.Constant (.int i) _ _) :: r => (cKeys r).map (.cons (.cst (.int i)))
  | some (.Constant (.str s) _ _) :: r => (cKeys r).map (.cons (.cst (.str s)))
  | _ :: _ => none
mutual
def cE (c : CC) : Nat → Expr → Option Ie
  | 0, _ => none
  | n + 1, .Name x _ => if okName x then (if c.vis x then (c.slot x).map .var else if c.gl x && c.cts.contains x then some (.glob x) else none) else none
  | n + 1, .Constant k _ _ => match k with
    | .none => some (.cst .non) | .bool b => some (.cst (.bl b)) | .int i => some (.cst (.int i)) | .str s => some (.cst (.str s)) | _ => none
  | n + 1, .BinOp a op b _ => match cE c n a, cE c n b with | some x, some y => some (.bin op x y) | _, _ => none
  | n + 1, .UnaryOp .USub a _ => (cE c n a).map .neg
  | n + 1, .UnaryOp .Not a _ => (cE c n a).map .notv
  | n + 1, .BoolOp op (a :: b :: es) _ => cBools (cE c n) op (a :: b :: es)
  | n + 1, .Compare a [op] [b] _ => if behindInMarks op b then none else match cE c n a, cE c n b with | some x, some y => some (.cmp op x y) | _, _ => none
  | n + 1, .Compare a [op, op'] [b, d] _ => if lastMarks [op, op'] [b, d] then none else match cE c n a, cE c n b, cE c n d with | some x, some y, some z => some (.chain op op' x y z) | _, _, _ => none
  | n + 1, .IfExp t a b _ => match cE c n t, cE c n a, cE c n b with | some x, some y, some z => some (.ite x y z) | _, _, _ => none
  | _ + 1, .Dict [] [] _ => some (.dic .nil .nil)
  | n + 1, .Dict (k :: ks) vs _ => if (k :: ks).length = vs.length ∧ (k :: ks).length ≤ 15 then (match cKeys (k :: ks), cList (cE c n) vs with | some kk, some y => some (.dic kk y) | _, _ => none) else none
  | n + 1, .Tuple es _ _ => (cList (cE c n) es).map .tup
  | n + 1, .List es _ => (cList (cE c n) es).map .lst
  | n + 1, .Subscript a (.Slice lo hi none _) _ => match cE c n a, cOpt (cE c n) lo, cOpt (cE c n) hi with | some x, some y, some z => some (.sl x y z) | _, _, _ => none
  | n + 1, .Subscript a b _ => match noSlice b, cE c n a, cE c n b with | true, some x, some y => some (.ix x y) | _, _, _ => none
  | n + 1, .Call (.Name f _) es [] _ => if okName f && c.gl f then
      (match c.fnOf f with
      | some k => if es.length = k then (cList (cE c n) es).map (.call f) else none
      | none => match lrgArgs f es with
       | some rs => if c.gl "range" && (c.fnOf "range").isNone && !c.hot then (match rs with
          | [a] => if noStar a then (cE c n a).map (.lrg1 (decide (f = "tuple"))) else none
          | [a, b] => if noStar a && noStar b then (match cE c n a, cE c n b with | some x, some y => some (.lrg2 (decide (f = "tuple")) x y) | _, _ => none) else none
          | _ => none) else none
       | none => match rprArgs f es with
       | some e => if c.gd && noStar e && !c.hot then (cE c n e).map .rpr else none
       | none => match setArgs f es with
       | some e => if c.gl "set" && (c.fnOf "set").isNone && noStar e && !c.hot then (cE c n e).map .sset else none
       | none => match isxArgs f es with
       | some (e, ts) => if decide (c.exv = some e) && c.vis e && okName e && decide (ts.length ≤ 64) && ts.all (fun t => c.exs.contains t && c.gl t && okName t) then (c.slot e).map (.isxs · ts) else none
       | none => match es with
        | [a, .Name t _] => if f = "isinstance" then (match tyOf t with
            | some ty => if c.gl t && okName t && noStar a then (cE c n a).map (.isi · ty) else none
            | none => match a with
              | .Name e _ => if decide (c.exv = some e) && c.vis e && c.exs.contains t && c.gl t && okName t && okName e then (c.slot e).map (.isx · t) else none
              | _ => none)
            else (match biOf f with | some b => if c.hot && needCalm b then none else (cList (cE c n) es).map (.bi b) | none => none)
        | e :: r => (match biOf f with | some b => if c.hot && needCalm b then none else (cList (cE c n) (e :: r)).map (.bi b) | none => none)
        | [] => none)
      else none
  | n + 1, .Call (.Name f _) es (k :: ks) pos => if okName f && c.gl f && !c.hot then
      (match kwNames (k :: ks), c.fnOf f with
      | some ns, some kk => (match c.kwp.lookup (f, es.length, ns), cList (cE c n) es, cList (cE c n) (kwVals (k :: ks)) with
        | some pm, some xs, some ys => if decide (pm.length = kk) && pm.all (fun i => decide (i < es.length + (k :: ks).length)) then some (.callk f pm xs ys) else none
        | _, _, _ => none)
      | _, _ => none) else none
  | n + 1, .Call (.Attribute o m apos) es [] pos => match miOf m, cE c n o, cList (cE c n) es with
      | some mi, some x, some ys => if apos.endLine == pos.line && decide (es.length < 20) && plainBase o then some (.mt mi x ys) else none
      | _, _, _ => none
  | n + 1, .Attribute (.Name e _) f _ => if decide (c.exv = some e) && c.vis e && c.flds.contains f && okName e then (c.slot e).map (.fld · f) else none
  | n + 1, .ListComp elt [⟨tg, iter, ifs, 0⟩] scope _ => if c.hot then
      (match rng1Of iter with
      | some a => if c.gl "range" && noStar a then
          (match cTg (c.inner scope) n tg, cE c n a, cE (c.inner scope) n elt with
          | some g, some x, some el => if blkC c.N c.sc scope (ownOf c (tgSlots g)) then
              (match ifs with
              | [] => some (.lc g (.rng1 x) .no el (tgSlots g))
              | [t] => (cE (c.inner scope) n t).map fun t => .lc g (.rng1 x) (.so t) el (tgSlots g)
              | _ => none) else none
          | _, _, _ => none) else none
      | none => none) else
      (match cTg (c.inner scope) n tg, cI c n tg iter, cE (c.inner scope) n elt with
      | some g, some it, some el => if blkC c.N c.sc scope (ownOf c (tgSlots g)) then
          (match ifs with
          | [] => some (.lc g it .no el (tgSlots g))
          | [t] => (cE (c.inner scope) n t).map fun t => .lc g it (.so t) el (tgSlots g)
          | _ => none) else none
      | _, _, _ => none)
  | _, _ => none
def cI (c : CC) : Nat → Expr → Expr → Option Ii
  | 0, _, _ => none
  | n + 1, tg, .Call (.Name f p) es [] pos => if okName f && c.gl f && (c.fnOf f).isNone then
      (match es with
      | [a] => if noStar a then (if f = "range" then (cE c n a).map .rng1 else if f = "enumerate" then (match tg with | .Tuple .. => (cE c n a).map .enum | _ => none)
          else if f = "reversed" then (cE c n a).map .rev
          else (cE c n (.Call (.Name f p) [a] [] pos)).map .seq) else none
      | [a, b] => if noStar a && noStar b then (match cE c n a, cE c n b with
          | some x, some y => if f = "range" then some (.rng2 x y) else if f = "zip" then (match tg with | .Tuple .. => some (.zip x y) | _ => none) else none
          | _, _ => none) else none
      | [a, b, d] => if noStar a && noStar b && noStar d && decide (f = "range") then (match cE c n a, cE c n b, cE c n d with
          | some x, some y, some z => some (.rng3 x y z)
          | _, _, _ => none) else none
      | _ => none)
      else (cE c n (.Call (.Name f p) es [] pos)).map .seq
  | n + 1, _, e => match e with | .Set .. => none | e => (cE c n e).map .seq
end

/-! ### what the compiler leans on -/
def blNames : List Str := ["len", "int", "abs", "min", "max", "tuple", "list", "str", "sorted", "sum", "all", "any", "bool", "dict", "isinstance", "range", "enumerate", "zip", "reversed", "set", "repr"]
/-- a contract, one level down -/
def spD (K : PySem.W.Frag) (T : Tab) (con : Con) (k : Nat) : Sp := fun vs H Q E => vs.length = k ∧ ∃ μ A ds E' Q', HR K μ A H ∧ RelDs K μ H ds vs ∧ con ds A E' Q' ∧ (∀ v H', Up K μ H Q' v H' → Q v H') ∧ ∀ c dd H', UpX K T μ H E' c dd H' → E c dd H'
/-- a def that keeps its contract, callable here -/
structure FnC (P : Program) (w : World) (K : PySem.W.Frag) (mg : Str → Option Value) (base : Heap) (A : Around) (T : Tab) (con : Con) (f : Str) (k : Nat) : Prop where
  ex : ∃ (fa : Addr) (fd : FuncData) (ps : List Str) (lv : Nat), FnOk P w K mg base (L2N.CX P w) lv fa fd ps (spD K T con k) ∧ Room lv A ∧ mg f = some (.ref fa) ∧ PySem.W.keepIn K (.ref fa) = true ∧ Binds K fd ps [] ∧ ps.length = k
structure FnHt (P : Program) (w : World) (K : PySem.W.Frag) (mg : Str → Option Value) (base : Heap) (A : Around) (T : Tab) (con : Con) (f : Str) (k : Nat) : Prop where
  ex : ∃ (fa : Addr) (fd : FuncData) (ps : List Str) (lv : Nat), L2H.FnH P w K mg base (L2N.CX P w) lv fa fd ps (spD K T con k) ∧ L2H.RoomH lv A ∧ mg f = some (.ref fa) ∧ PySem.W.keepIn K (.ref fa) = true ∧ Binds K fd ps [] ∧ ps.length = k
/-- a def that keeps its contract, called with keywords -/
structure FnK (P : Program) (w : World) (K : PySem.W.Frag) (mg : Str → Option Value) (base : Heap) (A : Around) (T : Tab) (con : Con) (f : Str) (m : Nat) (ns : List Str) (pm : List Nat) : Prop where
  ex : ∃ (fa : Addr) (fd : FuncData) (ps : List Str) (lv : Nat), FnOk P w K mg base (L2N.CX P w) lv fa fd ps (spD K T con pm.length) ∧ Room lv A ∧ mg f = some (.ref fa) ∧ PySem.W.keepIn K (.ref fa) = true ∧ ps.length = pm.length ∧
    ∀ (s : Shared) (us ws : List Value), K.In s.heap → us.length = m → ws.length = ns.length → BindsTo s fd ⟨us, ns.zip ws⟩ (ps.zip (permD pm (us ++ ws)))
structure Snd (c : CC) (X : Cx) (G : Env') (T : Tab) (hx : HX) (W : WX) : Prop where
  N : X.N = c.N
  nd : c.N.Nodup
  sc : X.env.scope = c.sc
  calm : c.hot = false → X.calm = true
  fnv : ∀ x, c.blk = none ∨ (∃ s, c.blk = some s ∧ s.names.lookup x = some .cell) → X.fn x = true
  hu : X.A.units + 64 < cLine
  gd : c.gd = true → c.hot = false → X.A.guards = some []
  bl : ∀ x ∈ blNames, X.mg x = none
  cts : ∀ x, c.cts.contains x = true → ∃ d u v, G.ct x = some d ∧ X.mg x = some u ∧ RelV v u ∧ ∀ μ H, RelD X.K μ H d v
  tk : L2N.Takes X W
  fns : c.hot = false → ∀ f k, c.fnOf f = some k → FnC X.prog X.w X.K X.mg X.base X.A T (G.con f) f k
  kws : c.hot = false → ∀ f m ns pm, c.kwp.lookup (f, m, ns) = some pm → FnK X.prog X.w X.K X.mg X.base X.A T (G.con f) f m ns pm
  hfns : c.hot = true → L2H.HotC X ∧ ∀ f k, c.fnOf f = some k → FnHt X.prog X.w X.K X.mg X.base X.A T (G.con f) f k
  fld : ∀ e i f p pos, c.exv = some e → c.slot e = some i → c.vis e = true → c.flds.contains f = true → okName e = true → PE X (.Attribute (.Name e p) f pos) (tDE X.K T hx W (wE G (.fld i f)))
  isxs : ∀ e i ts xs kk p p1 tpos pos, c.exv = some e → c.slot e = some i → c.vis e = true → okName e = true → ts.length ≤ 64 → nmArgs xs = some ts → (∀ t ∈ ts, c.exs.contains t = true ∧ c.gl t = true ∧ okName t = true) → c.gl "isinstance" = true → PE X (.Call (.Name "isinstance" p) [.Name e p1, .Tuple xs kk tpos] [] pos) (tDE X.K T hx W (wE G (.isxs i ts)))
  isx : ∀ e i t p p1 p2 pos, c.exv = some e → c.slot e = some i → c.vis e = true → c.exs.contains t = true → c.gl t = true → okName t = true → okName e = true → c.gl "isinstance" = true → PE X (.Call (.Name "isinstance" p) [.Name e p1, .Name t p2] [] pos) (tDE X.K T hx W (wE G (.isx i t)))
section
variable {c : CC} {X : Cx} {G : Env'} {T : Tab} {hx : HX} {W : WX}
theorem CC.slot_at {x : Str} {i : Nat} (h : c.slot x = some i) : c.N[i]? = some x := by
  unfold CC.slot at h
  split at h
  · split at h
    · cases h; assumption
    · cases h
  · cases h
theorem CC.vis_at {x : Str} (h : c.vis x = true) : Vis c.sc x := by
  unfold CC.vis CC.kind at h
  split at h
  · exact .inl (by assumption)
  · exact .inr (.inl (by assumption))
  · exact .inr (.inr (by assumption))
  · cases h
theorem CC.gl_at {x : Str} (h : c.gl x = true) : c.sc.names.lookup x = some .globalImplicit := by
  unfold CC.gl CC.kind at h
  split at h
  · assumption
  · cases h
theorem Snd.gl (s : Snd c X G T hx W) {x : Str} (h : c.gl x = true) : Gl X x := by
  show X.env.scope.names.lookup x = _
  rw [s.sc]; exact CC.gl_at h
theorem okName_at {x : Str} (h : okName x = true) : (x == ("__debug__" : Str)) = false ∧ (x == ("__classdict__" : Str)) = false ∧ x ≠ "__name__" := by
  unfold okName at h
  simp only [Bool.and_eq_true, Bool.not_eq_true', decide_eq_false_iff_not] at h
  exact ⟨h.1.1, h.1.2, h.2⟩
theorem CC.sto_at (s : Snd c X G T hx W) {x : Str} {i : Nat} (h : c.sto x = some i) : X.N[i]? = some x ∧ Loc X.env.scope x ∧ (X.fn x = true ∨ X.env.scope.names.lookup x = some .local) := by
  unfold CC.sto at h
  rw [s.N, s.sc]
  split at h
  · rename_i e
    exact ⟨CC.slot_at h, .inl e, .inr e⟩
  · rename_i e b
    exact ⟨CC.slot_at h, .inr e, .inl (s.fnv x (.inl b))⟩
  · rename_i sc e b
    split at h
    · rename_i e2
      exact ⟨CC.slot_at h, .inr e, .inl (s.fnv x (.inr ⟨sc, b, e2⟩))⟩
    · cases h
  · cases h
theorem star_cons {e : Expr} {es : List Expr} {env : Env} (h : noStar e = true) : starEach (e :: es) env = (false, eval e env) :: starEach es env := by
  cases e <;> first | rfl | cases h
theorem assign_cons {e : Expr} {es : List Expr} {env : Env} (h : noStar e = true) : assignEach (e :: es) env = (false, assign e env) :: assignEach es env := by
  cases e <;> first | rfl | cases h
theorem no_star : ∀ {es : List Expr} {env : Env} {pos : Pos}, (∀ e ∈ es, noStar e = true) → (backTo pos (starEach es env)).any (·.1) = false
  | [], _, _, _ => rfl
  | e :: es, env, pos, h => by
    rw [star_cons (h e (by simp))]
    show (false || (backTo pos (starEach es env)).any (·.1)) = false
    rw [no_star fun e' he => h e' (by simp [he])]
    rfl
theorem star_len : ∀ {es : List Expr} {env : Env}, (∀ e ∈ es, noStar e = true) → (starEach es env).length = es.length
  | [], _, _ => rfl
  | e :: es, env, h => by
    rw [star_cons (h e (by simp)), List.length_cons, List.length_cons, star_len fun e' he => h e' (by simp [he])]
theorem cList_stars {f : Expr → Option Ie} : ∀ {es : List Expr} {ys : Ies}, cList f es = some ys → ∀ e ∈ es, noStar e = true
  | [], _, _, _, he => by simp at he
  | e :: es, ys, h, e', he => by
    unfold cList at h
    split at h
    · rename_i a b h1 h2 h3
      rcases List.mem_cons.mp he with rfl | he
      · exact h1
      · exact cList_stars h3 e' he
    · cases h
/-- argument lists -/
theorem sd_list {f : Expr → Option Ie} (hf : ∀ e ir, f e = some ir → PE X e (tDE X.K T hx W (wE G ir))) : ∀ {es : List Expr} {ys : Ies}, cList f es = some ys → PA X es (tDA X.K T hx W es.length (wEs G ys))
  | [], ys, h => by
    unfold cList at h; cases h
    refine PA.weaken pa_nil fun σ H Q ⟨μ, ρ, A, E, Q', p, h, fin⟩ => fin [] H μ [] A rfl .refl .nil p.h h
  | e :: es, ys, h => by
    unfold cList at h
    split at h
    · rename_i a b h1 h2 h3
      cases h
      refine PA.weaken (pa_cons (hf e a h2) (sd_list hf h3) (star_cons h1)) fun σ H Q ⟨μ, ρ, A, E, Q', p, h, fin⟩ => ?_
      refine tDE.go p h fun v H1 μ1 d A1 s1 r1 p1 q1 => tDA.go p1 q1 fun vs H2 μ2 ds A2 l2 s2 r2 p2 q2 => ?_
      exact fin (v :: vs) H2 μ2 (d :: ds) A2 (by simp [l2]) (s1.trans s2) (.cons (r1.mono s2 _ _) r2) p2.h q2
    · cases h
/-- an own def is called -/
theorem sd_call (s : Snd c X G T hx W) {f : Str} {k : Nat} {p pos : Pos} {es : List Expr} {ys : Ies} (hf : c.fnOf f = some k) (hg : c.gl f = true) (ho : okName f = true) (hst : ∀ e ∈ es, noStar e = true) (hy : es = [] → ys = .nil) (ha : PA X es (tDA X.K T hx W es.length (wEs G ys))) :
    PE X (.Call (.Name f p) es [] pos) (fun σ H Q => tDA X.K T hx W es.length (wEs G ys) σ H fun vs H1 => spD X.K T (G.con f) k vs H1 Q (L2.WE W σ)) := by
  obtain ⟨hdb, _, _⟩ := okName_at ho
  have nil : ∀ {σ : L2.St} {H : Hp} {R : List V → Hp → Prop}, es = [] → tDA X.K T hx W es.length (wEs G ys) σ H R → R [] H := by
    rintro σ H R e ⟨μ, ρ, A, E, Q', p, h, fin⟩
    rw [hy e] at h
    subst e
    exact fin [] H μ [] A rfl .refl .nil p.h h
  cases hh : c.hot with
  | false =>
    obtain ⟨fa, fd, ps, lv, F, hr, hm, hk, hb, hl⟩ := (s.fns hh f k hf).ex
    cases es with
    | nil =>
      refine ⟨fun pins s' σ H Q I h => ?_⟩
      refine wpAny_Call_Name_kw (ld_glob I (s.gl hg) hm ?_ hdb)
      exact PySem.W.callWith_K0 I.kIn hk (run_fnS (us := []) F hr hb (L2N.passAt s.tk σ) I .nil (nil rfl h))
    | cons e es => exact pe_callS F hr (s.gl hg) hm hk hb (fun σ => L2N.passAt s.tk σ) ha hdb (star_cons (hst e (by simp))) (no_star fun e' he => hst e' (by simp [he]))
  | true =>
    obtain ⟨hc, hfn⟩ := s.hfns hh
    obtain ⟨fa, fd, ps, lv, F, hr, hm, hk, hb, hl⟩ := (hfn f k hf).ex
    cases es with
    | nil =>
      refine ⟨fun pins s' σ H Q I h => ?_⟩
      refine wpAny_Call_Name_kw (ld_glob I (s.gl hg) hm ?_ hdb)
      exact PySem.W.callWith_K0 I.kIn hk (L2H.run_fnH (us := []) F hr hc hb (L2N.passAt s.tk σ) I .nil (nil rfl h))
    | cons e es => exact L2H.pe_callH F hr hc (s.gl hg) hm hk hb (fun σ => L2N.passAt s.tk σ) ha hdb (star_cons (hst e (by simp))) (no_star fun e' he => hst e' (by simp [he]))
/-- the same with the whole pack at hand -/
theorem sd_callD (s : Snd c X G T hx W) {f : Str} {k : Nat} {p pos : Pos} {es : List Expr} {ys : Ies} (hf : c.fnOf f = some k) (hg : c.gl f = true) (ho : okName f = true) (hst : ∀ e ∈ es, noStar e = true) (hy : es = [] → ys = .nil) (hl : es.length = k)
    (ha : PA X es (tDA X.K T hx W es.length (wEs G ys))) : PE X (.Call (.Name f p) es [] pos) (tDE X.K T hx W fun ρ A E Q => wEs G ys ρ A E fun ds A1 => G.con f ds A1 E Q) := by
  refine PE.weaken (sd_call s hf hg ho hst hy ha) fun σ H Q ⟨μ, ρ, A, E, Q', p, h, fin⟩ => ?_
  refine tDA.go p h fun vs H1 μ1 ds A1 l1 s1 r1 p1 q1 => ?_
  refine ⟨by rw [← r1.length, l1, hl], μ1, A1, ds, E, Q', p1.h, r1, q1, fun v H2 u => ?_, fun c dd H2 u => p1.x c dd H2 u⟩
  obtain ⟨μ2, d, A2, s2, r2, h2, q2⟩ := u
  exact fin v H2 μ2 d A2 (s1.trans s2) r2 h2 q2
end
end Px
end TextPx10

section TextPx10m
set_option autoImplicit false
set_option maxRecDepth 100000
set_option maxHeartbeats 4000000
namespace Px
open PySem PySem.Spec PyProof.Rows L2
theorem eqD_mono {x y : D} {A : Ht} {k k' : Bool → Prop} (m : ∀ b, k b → k' b) (h : eqD x y A k) : eqD x y A k' := by
  unfold eqD at h ⊢
  split at h
  · exact m _ h
  · exact m _ h
  · cases e1 : toP 3 A x with
    | none => rw [e1] at h; exact h.elim
    | some p =>
      cases e2 : toP 3 A y with
      | none => rw [e1, e2] at h; exact h.elim
      | some q =>
        rw [e1, e2] at h
        exact ⟨h.1, h.2.1, m _ h.2.2⟩
theorem inF_mono {x y : D} {A : Ht} {k k' : Bool → Prop} (m : ∀ b, k b → k' b) (h : inF x y A k) : inF x y A k' := by
  unfold inF at h ⊢
  split at h
  · split at h
    · exact m _ h
    · exact h.elim
  · exact ⟨h.1, h.2.1, m _ h.2.2⟩
  · exact ⟨h.1, h.2.1, m _ h.2.2⟩
  · split at h
    · exact ⟨h.1, h.2.1, m _ h.2.2⟩
    · exact ⟨h.1, h.2.1, m _ h.2.2⟩
    · split at h
      · exact m _ h
      · exact h.elim
    · exact h.elim
  · exact h.elim
theorem inD_mono {x y : D} {A : Ht} {k k' : Bool → Prop} (m : ∀ b, k b → k' b) (h : inD x y A k) : inD x y A k' := by
  unfold inD at h ⊢
  split at h
  · unfold inP at h ⊢
    split at h
    · exact ⟨h.1, h.2.1, h.2.2.1, m _ h.2.2.2⟩
    · exact ⟨h.1, h.2.1, h.2.2.1, m _ h.2.2.2⟩
    · exact h.elim
  · exact inF_mono m h
theorem isD_mono {x y : D} {k k' : Bool → Prop} (m : ∀ b, k b → k' b) (h : isD x y k) : isD x y k' := by
  unfold isD at h ⊢
  split at h
  · exact m _ h
  · exact m _ h
  · exact h.elim
theorem cmpD_mono {op : CmpOp} {x y : D} {A : Ht} (k k' : Bool → Prop) (m : ∀ b, k b → k' b) (h : cmpD op x y A k) : cmpD op x y A k' := by
  cases op <;> simp only [cmpD] at h ⊢
  · exact eqD_mono m h
  · exact eqD_mono (fun b => m _) h
  all_goals first
    | exact isD_mono m h
    | exact isD_mono (fun b => m _) h
    | exact inD_mono m h
    | exact inD_mono (fun b => m _) h
    | (split at h
       · exact m _ h
       · exact m _ h
       · exact h.elim)
end Px
end TextPx10m

section TextPx11
set_option autoImplicit false
set_option maxRecDepth 100000
set_option maxHeartbeats 4000000
/-! Px11: expressions are sound. -/
namespace Px
open PySem PySem.Spec PyProof.Rows L2
section
variable {c : CC} {X : Cx} {G : Env'} {T : Tab} {hx : HX} {W : WX}
theorem pt_gen {e : Expr} {we : WE} (he : PE X e (tDE X.K T hx W we)) (hform : ∀ whole, isTrue e X.env whole = (do let v ← whole; standAt e.pos; holding [v] (truthy v))) :
    PT X e (tDT X.K T hx W fun ρ A E Q => we ρ A E fun d A' => truD d A' fun c => Q c A') := by
  refine PT.weaken (pt_truth he hform) fun σ H Q ⟨μ, ρ, A, E, Q', p, h, fin⟩ => ?_
  refine tDE.go p h fun v H1 μ1 d A1 s1 r1 p1 q1 => ?_
  obtain ⟨b, tv, q⟩ := sd_tru p1.h r1 q1
  exact ⟨b, tv, fin b H1 μ1 A1 s1 p1.h q⟩
theorem pt_no {e : Expr} : PT X e (tDT X.K T hx W fun _ _ _ _ => False) := ⟨fun pins s σ H Q I ⟨_, _, _, _, _, _, h, _⟩ => h.elim⟩
theorem sd_var (s : Snd c X G T hx W) {x : Str} {i : Nat} {pos : Pos} (hv : c.vis x = true) (hi : c.slot x = some i) (ho : okName x = true) : PE X (.Name x pos) (tDE X.K T hx W (wE G (.var i))) := by
  obtain ⟨h1, h2, _⟩ := okName_at ho
  refine PE.weaken (pe_var (i := i) (by rw [s.N]; exact CC.slot_at hi) (by rw [s.sc]; exact CC.vis_at hv) h1 h2) fun σ H Q ⟨μ, ρ, A, E, Q', p, h, fin⟩ => ?_
  change varD ρ i _ at h
  unfold varD at h
  split at h
  · rename_i d e
    obtain ⟨v, ev, r⟩ := p.s.val i d e
    refine ⟨v, ev, ?_⟩
    replace h := varK_at h
    cases d with
    | exn _ _ _ => exact h.1.elim
    | _ => exact fin v H μ _ A .refl r p.h h.2
  · exact h.elim
theorem sd_cst {e : Expr} {d : D} {v : V} (he : PE X e (tC v)) (r : ∀ μ H, RelD X.K μ H d v) : PE X e (tDE X.K T hx W (wE G (.cst d))) :=
  PE.weaken he fun σ H Q ⟨μ, ρ, A, E, Q', p, h, fin⟩ => fin v H μ d A .refl (r μ H) p.h h
theorem sd_bin2 {op : Operator} {a b : Expr} {x y : Ie} {pos : Pos} (ha : PE X a (tDE X.K T hx W (wE G x))) (hb : PE X b (tDE X.K T hx W (wE G y))) : PE X (.BinOp a op b pos) (tDE X.K T hx W (wE G (.bin op x y))) := by
  refine PE.weaken (pe_freeze (pe_op (sd_bin op) ha hb)) fun σ H Q ⟨μ, ρ, A, E, Q', p, h, fin⟩ => ?_
  refine tDE.go p h fun v H1 μ1 d A1 s1 r1 p1 q1 => tDE.go p1 q1 fun u H2 μ2 e A2 s2 r2 p2 q2 => ?_
  refine ⟨μ2, A2, d, e, Q', p2.h, r1.mono s2 _ _, r2, q2, fun v H3 u => u.go fun v H3 ⟨μ3, d3, A3, s3, r3, h3, q3⟩ => fin v H3 μ3 d3 A3 ((s1.trans s2).trans s3) r3 h3 q3⟩
theorem sd_neg {a : Expr} {x : Ie} {pos : Pos} (ha : PE X a (tDE X.K T hx W (wE G x))) : PE X (.UnaryOp .USub a pos) (tDE X.K T hx W (wE G (.neg x))) := by
  refine PE.weaken (pe_un un_neg ha) fun σ H Q ⟨μ, ρ, A, E, Q', p, h, fin⟩ => ?_
  refine tDE.go p h fun v H1 μ1 d A1 s1 r1 p1 q1 => ?_
  split at q1
  · cases rel_int r1
    exact ⟨_, rfl, fin _ H1 μ1 _ A1 s1 to_int p1.h q1⟩
  · exact q1.elim
theorem sd_not {a : Expr} {x : Ie} {pos : Pos} (ha : PE X a (tDE X.K T hx W (wE G x))) : PE X (.UnaryOp .Not a pos) (tDE X.K T hx W (wE G (.notv x))) := by
  refine PE.weaken (pe_not ha) fun σ H Q ⟨μ, ρ, A, E, Q', p, h, fin⟩ => ?_
  refine tDE.go p h fun v H1 μ1 d A1 s1 r1 p1 q1 => ?_
  split at q1
  · cases rel_bl r1
    exact ⟨_, rfl, fin _ H1 μ1 _ A1 s1 to_bl p1.h q1⟩
  · exact q1.elim
theorem sd_notT {a : Expr} {x : Ie} {pos : Pos} (ha : PT X a (tDT X.K T hx W (wT G x))) : PT X (.UnaryOp .Not a pos) (tDT X.K T hx W (wT G (.notv x))) := by
  refine PT.weaken (pt_not ha) fun σ H Q ⟨μ, ρ, A, E, Q', p, h, fin⟩ => ?_
  exact tDT.go p h fun b H1 μ1 A1 s1 p1 q1 => fin _ H1 μ1 A1 s1 p1.h q1
theorem sd_cmp2 (s : Snd c X G T hx W) {op : CmpOp} {a b : Expr} {x y : Ie} {pos : Pos} (ha : PE X a (tDE X.K T hx W (wE G x))) (hb : PE X b (tDE X.K T hx W (wE G y))) (hm : behindInMarks op b = false) :
    PE X (.Compare a [op] [b] pos) (tDE X.K T hx W (wE G (.cmp op x y))) ∧ PT X (.Compare a [op] [b] pos) (tDT X.K T hx W (wT G (.cmp op x y))) := by
  refine ⟨PE.weaken (pe_cmpR (sd_cmp s.hu op) ha hb hm) fun σ H Q ⟨μ, ρ, A, E, Q', p, h, fin⟩ => ?_, PT.weaken (pt_cmpR (sd_cmp s.hu op) ha hb hm) fun σ H Q ⟨μ, ρ, A, E, Q', p, h, fin⟩ => ?_⟩
  · refine tDE.go p h fun v H1 μ1 d A1 s1 r1 p1 q1 => tDE.go p1 q1 fun u H2 μ2 e A2 s2 r2 p2 q2 => ?_
    exact ⟨μ2, A2, d, e, Q', p2.h, r1.mono s2 _ _, r2, q2, fun v H3 ⟨μ3, d3, A3, s3, r3, h3, q3⟩ => fin v H3 μ3 d3 A3 ((s1.trans s2).trans s3) r3 h3 q3⟩
  · refine tDE.go p h fun v H1 μ1 d A1 s1 r1 p1 q1 => tDE.go p1 q1 fun u H2 μ2 e A2 s2 r2 p2 q2 => ?_
    refine ⟨μ2, A2, d, e, fun d A' => ∃ c, d = .bl c ∧ Q' c A', p2.h, r1.mono s2 _ _, r2, ?_, fun v H3 ⟨μ3, d3, A3, s3, r3, h3, k, ek, q3⟩ => ?_⟩
    · have conv : ∀ (k : Bool → Prop) (k' : Bool → Prop), (∀ b, k b → k' b) → cmpD op d e A2 k → cmpD op d e A2 k' := cmpD_mono
      exact conv _ _ (fun b hb => ⟨b, rfl, hb⟩) q2
    · subst ek
      cases rel_bl r3
      exact ⟨k, rfl, fin k H3 μ3 A3 ((s1.trans s2).trans s3) h3 q3⟩
theorem sd_chain (s : Snd c X G T hx W) {o1 o2 : CmpOp} {a b d : Expr} {x y z : Ie} {pos : Pos} (ha : PE X a (tDE X.K T hx W (wE G x))) (hb : PE X b (tDE X.K T hx W (wE G y))) (hd : PE X d (tDE X.K T hx W (wE G z))) (hm : lastMarks [o1, o2] [b, d] = false) :
    PE X (.Compare a [o1, o2] [b, d] pos) (tDE X.K T hx W (wE G (.chain o1 o2 x y z))) ∧ PT X (.Compare a [o1, o2] [b, d] pos) (tDT X.K T hx W (wT G (.chain o1 o2 x y z))) := by
  refine ⟨PE.weaken (pe_chain (sd_cmp s.hu o1) (sd_cmp s.hu o2) ha hb hd hm) fun σ H Q ⟨μ, ρ, A, E, Q', p, h, fin⟩ => ?_, PT.weaken (pt_chain (sd_cmp s.hu o1) (sd_cmp s.hu o2) ha hb hd hm) fun σ H Q ⟨μ, ρ, A, E, Q', p, h, fin⟩ => ?_⟩
  · refine tDE.go p h fun v H1 μ1 d1 A1 s1 r1 p1 q1 => tDE.go p1 q1 fun u H2 μ2 d2 A2 s2 r2 p2 q2 => ?_
    refine ⟨μ2, A2, d1, d2, fun e A' => ∃ k, e = .bl k ∧ A' = A2 ∧ (if k = true then wE G z ρ A2 E fun z A3 => cmpD o2 d2 z A3 fun k' => Q' (.bl k') A3 else Q' (.bl false) A2), p2.h, r1.mono s2 _ _, r2, cmpD_mono _ _ (fun b hb => ⟨b, rfl, rfl, hb⟩) q2, fun v H3 ⟨μ3, d3, A3, s3, r3, h3, k, ek, eA, q3⟩ => ?_⟩
    subst ek eA
    cases rel_bl r3
    have p3 := p2.step s3 h3
    refine ⟨k, rfl, ?_⟩
    cases k with
    | true =>
      simp only [if_true] at q3 ⊢
      refine tDE.go p3 q3 fun w H4 μ4 d4 A4 s4 r4 p4 q4 => ?_
      exact ⟨μ4, A4, d2, d4, Q', p4.h, (r2.mono s3 _ _).mono s4 _ _, r4, q4, fun v H5 ⟨μ5, d5, A5, s5, r5, h5, q5⟩ => fin v H5 μ5 d5 A5 ((((s1.trans s2).trans s3).trans s4).trans s5) r5 h5 q5⟩
    | false =>
      simp only [Bool.false_eq_true, if_false] at q3 ⊢
      exact fin _ H3 μ3 _ _ ((s1.trans s2).trans s3) to_bl h3 q3
  · refine tDE.go p h fun v H1 μ1 d1 A1 s1 r1 p1 q1 => tDE.go p1 q1 fun u H2 μ2 d2 A2 s2 r2 p2 q2 => ?_
    refine ⟨μ2, A2, d1, d2, fun e A' => ∃ k, e = .bl k ∧ A' = A2 ∧ (if k = true then wE G z ρ A2 E fun z A3 => cmpD o2 d2 z A3 fun k' => Q' k' A3 else Q' false A2), p2.h, r1.mono s2 _ _, r2, cmpD_mono _ _ (fun b hb => ⟨b, rfl, rfl, hb⟩) q2, fun v H3 ⟨μ3, d3, A3, s3, r3, h3, k, ek, eA, q3⟩ => ?_⟩
    subst ek eA
    cases rel_bl r3
    have p3 := p2.step s3 h3
    refine ⟨k, rfl, ?_⟩
    cases k with
    | true =>
      simp only [if_true] at q3 ⊢
      refine tDE.go p3 q3 fun w H4 μ4 d4 A4 s4 r4 p4 q4 => ?_
      refine ⟨μ4, A4, d2, d4, fun e A' => ∃ k, e = .bl k ∧ Q' k A', p4.h, (r2.mono s3 _ _).mono s4 _ _, r4, cmpD_mono _ _ (fun b hb => ⟨b, rfl, hb⟩) q4, fun v H5 ⟨μ5, d5, A5, s5, r5, h5, k, ek, q5⟩ => ?_⟩
      subst ek
      cases rel_bl r5
      exact ⟨k, rfl, fin k H5 μ5 A5 ((((s1.trans s2).trans s3).trans s4).trans s5) h5 q5⟩
    | false =>
      simp only [Bool.false_eq_true, if_false] at q3 ⊢
      exact ⟨false, rfl, fin _ H3 μ3 _ ((s1.trans s2).trans s3) h3 q3⟩
theorem sd_ite {t a b : Expr} {x y z : Ie} {pos : Pos} (ht : PT X t (tDT X.K T hx W (wT G x))) (ha : PE X a (tDE X.K T hx W (wE G y))) (hb : PE X b (tDE X.K T hx W (wE G z))) : PE X (.IfExp t a b pos) (tDE X.K T hx W (wE G (.ite x y z))) := by
  refine PE.weaken (pe_ifExp ht ha hb) fun σ H Q ⟨μ, ρ, A, E, Q', p, h, fin⟩ => ?_
  refine tDT.go p h fun k H1 μ1 A1 s1 p1 q1 => ?_
  cases k with
  | true => exact tDE.go p1 (by simpa using q1) fun v H2 μ2 d A2 s2 r2 p2 q2 => fin v H2 μ2 d A2 (s1.trans s2) r2 p2.h q2
  | false => exact tDE.go p1 (by simpa using q1) fun v H2 μ2 d A2 s2 r2 p2 q2 => fin v H2 μ2 d A2 (s1.trans s2) r2 p2.h q2
theorem sd_iteT {t a b : Expr} {x y z : Ie} {pos : Pos} (ht : PT X t (tDT X.K T hx W (wT G x))) (ha : PT X a (tDT X.K T hx W (wT G y))) (hb : PT X b (tDT X.K T hx W (wT G z))) : PT X (.IfExp t a b pos) (tDT X.K T hx W (wT G (.ite x y z))) := by
  refine ⟨fun pins s σ H Q I ⟨μ, ρ, A, E, Q', p, h, fin⟩ => ?_⟩
  show wpAny _ _ (do if ← isTrue t X.env (eval t X.env) then isTrue a X.env (eval a X.env) else isTrue b X.env (eval b X.env)) _ _ _
  refine wpAny_bind (thn (ht.run pins s σ H (fun k H1 => if k = true then tDT X.K T hx W (wT G y) σ H1 Q else tDT X.K T hx W (wT G z) σ H1 Q) I (tDT.go p h fun k H1 μ1 A1 s1 p1 q1 => ?_)) fun k s1 ⟨H1, I1, q1⟩ => ?_)
  · cases k with
    | true => exact tDT.go p1 (by simpa using q1) fun v H2 μ2 A2 s2 p2 q2 => fin v H2 μ2 A2 (s1.trans s2) p2.h q2
    | false => exact tDT.go p1 (by simpa using q1) fun v H2 μ2 A2 s2 p2 q2 => fin v H2 μ2 A2 (s1.trans s2) p2.h q2
  · cases k with
    | true => exact ha.run pins s1 σ H1 Q I1 (by simpa using q1)
    | false => exact hb.run pins s1 σ H1 Q I1 (by simpa using q1)
theorem sd_bools {f : Expr → Option Ie} (hf : ∀ e ir, f e = some ir → PE X e (tDE X.K T hx W (wE G ir)) ∧ PT X e (tDT X.K T hx W (wT G ir))) {pos : Pos} : ∀ (op : BoolOp) {es : List Expr} {ir : Ie}, cBools f op es = some ir → PE X (.BoolOp op es pos) (tDE X.K T hx W (wE G ir)) ∧ PW X (.BoolOp op es pos) (tDT X.K T hx W (wT G ir))
  | _, [], _, h => by simp [cBools] at h
  | .And, [e], ir, h => by
    obtain ⟨h1, h2⟩ := hf e ir (by simpa [cBools] using h)
    exact ⟨pe_one h1, pw_and1 h2⟩
  | .Or, [e], ir, h => by
    obtain ⟨h1, h2⟩ := hf e ir (by simpa [cBools] using h)
    exact ⟨pe_one h1, pw_or1 h2⟩
  | op, e :: e2 :: es, ir, h => by
    unfold cBools at h
    split at h
    · rename_i a b ha hb
      obtain ⟨h1, h2⟩ := hf e a ha
      obtain ⟨h3, h4⟩ := sd_bools hf (pos := pos) op hb
      cases op with
      | And =>
        cases h
        refine ⟨PE.weaken (pe_and h1 h3) fun σ H Q ⟨μ, ρ, A, E, Q', p, h, fin⟩ => ?_, ⟨fun wh pins s σ H Q I ⟨μ, ρ, A, E, Q', p, h, fin⟩ => (pw_and h2 h4).run wh pins s σ H Q I (tDT.go p h fun k H1 μ1 A1 s1 p1 q1 => ?_)⟩⟩
        · refine tDE.go p h fun v H1 μ1 d A1 s1 r1 p1 q1 => ?_
          split at q1
          · cases rel_bl r1
            rename_i k
            refine ⟨k, rfl, ?_⟩
            cases k with
            | true => exact tDE.go p1 (by simpa using q1) fun v H2 μ2 d A2 s2 r2 p2 q2 => fin v H2 μ2 d A2 (s1.trans s2) r2 p2.h q2
            | false => exact fin _ H1 μ1 _ A1 s1 to_bl p1.h (by simpa using q1)
          · exact q1.elim
        · cases k with
          | true => exact tDT.go p1 (by simpa using q1) fun v H2 μ2 A2 s2 p2 q2 => fin v H2 μ2 A2 (s1.trans s2) p2.h q2
          | false => exact fin _ H1 μ1 A1 s1 p1.h (by simpa using q1)
      | Or =>
        cases h
        refine ⟨PE.weaken (pe_or h1 h3) fun σ H Q ⟨μ, ρ, A, E, Q', p, h, fin⟩ => ?_, ⟨fun wh pins s σ H Q I ⟨μ, ρ, A, E, Q', p, h, fin⟩ => (pw_or h2 h4).run wh pins s σ H Q I (tDT.go p h fun k H1 μ1 A1 s1 p1 q1 => ?_)⟩⟩
        · refine tDE.go p h fun v H1 μ1 d A1 s1 r1 p1 q1 => ?_
          split at q1
          · cases rel_bl r1
            rename_i k
            refine ⟨k, rfl, ?_⟩
            cases k with
            | true => exact fin _ H1 μ1 _ A1 s1 to_bl p1.h (by simpa using q1)
            | false => exact tDE.go p1 (by simpa using q1) fun v H2 μ2 d A2 s2 r2 p2 q2 => fin v H2 μ2 d A2 (s1.trans s2) r2 p2.h q2
          · exact q1.elim
        · cases k with
          | true => exact fin _ H1 μ1 A1 s1 p1.h (by simpa using q1)
          | false => exact tDT.go p1 (by simpa using q1) fun v H2 μ2 A2 s2 p2 q2 => fin v H2 μ2 A2 (s1.trans s2) p2.h q2
    · cases h
theorem sd_tup {es : List Expr} {ys : Ies} {k : Nat} {pos : Pos} (ha : PA X es (tDA X.K T hx W es.length (wEs G ys))) : PE X (.Tuple es k pos) (tDE X.K T hx W (wE G (.tup ys))) := by
  refine PE.weaken (pe_tup ha) fun σ H Q ⟨μ, ρ, A, E, Q', p, h, fin⟩ => ?_
  refine tDA.go p h fun vs H1 μ1 ds A1 l1 s1 r1 p1 q1 => ⟨by rw [← r1.length]; exact q1.1, fun a ha => ?_⟩
  obtain ⟨μ2, d, A2, s2, r2, h2, q2⟩ := Up.tuple p1.h r1 ha q1.2
  exact fin _ _ μ2 d A2 (s1.trans s2) r2 h2 q2
theorem sd_lst {es : List Expr} {ys : Ies} {pos : Pos} (ha : PA X es (tDA X.K T hx W es.length (wEs G ys))) : PE X (.List es pos) (tDE X.K T hx W (wE G (.lst ys))) := by
  refine PE.weaken (pe_freeze (pe_lst ha)) fun σ H Q ⟨μ, ρ, A, E, Q', p, h, fin⟩ => ?_
  refine tDA.go p h fun vs H1 μ1 ds A1 l1 s1 r1 p1 q1 => ⟨by rw [← r1.length]; exact q1.1, fun a ha => ?_⟩
  exact (UpF.list p1.h r1 ha q1.2).go fun v H2 ⟨μ2, d, A2, s2, r2, h2, q2⟩ => fin v H2 μ2 d A2 (s1.trans s2) r2 h2 q2
theorem sd_ixE (s : Snd c X G T hx W) {a b : Expr} {x y : Ie} {pos : Pos} (ha : PE X a (tDE X.K T hx W (wE G x))) (hb : PE X b (tDE X.K T hx W (wE G y))) (hs : noSlice b = true) : PE X (.Subscript a b pos) (tDE X.K T hx W (wE G (.ix x y))) := by
  have hp : PlainIx b := fun o i => by cases b <;> first | rfl | cases hs
  refine PE.weaken (pe_ix (sd_ix s.hu) ha hb hp) fun σ H Q ⟨μ, ρ, A, E, Q', p, h, fin⟩ => ?_
  refine tDE.go p h fun v H1 μ1 d A1 s1 r1 p1 q1 => tDE.go p1 q1 fun u H2 μ2 e A2 s2 r2 p2 q2 => ?_
  exact ⟨μ2, A2, d, e, Q', p2.h, r1.mono s2 _ _, r2, q2, fun v H3 ⟨μ3, d3, A3, s3, r3, h3, q3⟩ => fin v H3 μ3 d3 A3 ((s1.trans s2).trans s3) r3 h3 q3⟩
abbrev TO' := L2.St → Hp → (Option Int → Hp → Prop) → Prop
def tDO (K : PySem.W.Frag) (T : Tab) (hx : HX) (W : WX) (w : Rho → Ht → (D → Ht → Prop) → (Option Int → Ht → Prop) → Prop) : TO' := fun σ H Q => ∃ μ ρ A E Q', Pk K T hx W μ ρ A E σ H ∧ w ρ A E Q' ∧ ∀ i H' μ' A', Stp μ H μ' H' → HR K μ' A' H' → Q' i A' → Q i H'
theorem tDO.go {K : PySem.W.Frag} {w : Rho → Ht → (D → Ht → Prop) → (Option Int → Ht → Prop) → Prop} {μ : List Addr} {ρ : Rho} {A : Ht} {E : D → Ht → Prop} {σ : L2.St} {H : Hp} {Q' : Option Int → Ht → Prop} {R : Option Int → Hp → Prop} (p : Pk K T hx W μ ρ A E σ H) (h : w ρ A E Q')
    (k : ∀ b H' μ' A', Stp μ H μ' H' → Pk K T hx W μ' ρ A' E σ H' → Q' b A' → R b H') : tDO K T hx W w σ H R :=
  ⟨μ, ρ, A, E, Q', p, h, fun b H' μ' A' s hr q => k b H' μ' A' s (p.step s hr) q⟩
theorem sd_opt {f : Expr → Option Ie} (hf : ∀ e ir, f e = some ir → PE X e (tDE X.K T hx W (wE G ir))) : ∀ {e : Option Expr} {y : Ieo}, cOpt f e = some y → PO X e (tDO X.K T hx W (wEo G y))
  | none, y, h => by
    simp only [cOpt, Option.some.injEq] at h
    subst h
    exact ⟨fun pins s σ H Q I ⟨μ, ρ, A, E, Q', p, h, fin⟩ => po_none.run pins s σ H Q I (fin none H μ A .refl p.h h)⟩
  | some e, y, h => by
    simp only [cOpt, Option.map_eq_some_iff] at h
    obtain ⟨x, hx', rfl⟩ := h
    refine ⟨fun pins s σ H Q I ⟨μ, ρ, A, E, Q', p, h, fin⟩ => (po_some (hf e x hx')).run pins s σ H Q I (tDE.go p h fun v H1 μ1 d A1 s1 r1 p1 q1 => ?_)⟩
    split at q1
    · cases rel_int r1
      exact ⟨_, rfl, fin _ H1 μ1 A1 s1 p1.h q1⟩
    · exact q1.elim
theorem sd_slE {a : Expr} {lo hi : Option Expr} {x : Ie} {y z : Ieo} {p2 pos : Pos} (ha : PE X a (tDE X.K T hx W (wE G x))) (hl : PO X lo (tDO X.K T hx W (wEo G y))) (hh : PO X hi (tDO X.K T hx W (wEo G z))) : PE X (.Subscript a (.Slice lo hi none p2) pos) (tDE X.K T hx W (wE G (.sl x y z))) := by
  refine PE.weaken (pe_freeze (pe_slice sd_sl ha hl hh)) fun σ H Q ⟨μ, ρ, A, E, Q', p, h, fin⟩ => ?_
  refine tDE.go p h fun v H1 μ1 d A1 s1 r1 p1 q1 => tDO.go p1 q1 fun u H2 μ2 A2 s2 p2 q2 => tDO.go p2 q2 fun w H3 μ3 A3 s3 p3 q3 => ?_
  exact ⟨μ3, A3, d, Q', p3.h, (r1.mono s2 _ _).mono s3 _ _, q3, fun v H4 u => u.go fun v H4 ⟨μ4, d4, A4, s4, r4, h4, q4⟩ => fin v H4 μ4 d4 A4 (((s1.trans s2).trans s3).trans s4) r4 h4 q4⟩
theorem bi_name {x : Str} {b : BI} (h : biOf x = some b) : x ∈ blNames ∧ bootBuiltins x = some (biV b) := by
  unfold biOf at h
  by_cases hr : x = "range"
  · subst hr
    have : b = .range := by
      have e : (some BI.range : Option BI) = some b := h
      injection e with e; exact e.symm
    subst this
    exact ⟨by decide, by decide +kernel⟩
  rw [if_neg hr] at h
  repeat (split at h; · rename_i e; subst e; cases h; exact ⟨by decide, by decide +kernel⟩)
  cases h
theorem sd_biE (s : Snd c X G T hx W) {x : Str} {b : BI} {p pos : Pos} {e : Expr} {es : List Expr} {ys : Ies} (hb : biOf x = some b) (hg : c.gl x = true) (ho : okName x = true) (hc : needCalm b = true → X.calm = true) (hst : ∀ e' ∈ e :: es, noStar e' = true)
    (ha : PA X (e :: es) (tDA X.K T hx W (e :: es).length (wEs G ys))) : PE X (.Call (.Name x p) (e :: es) [] pos) (tDE X.K T hx W (wE G (.bi b ys))) := by
  obtain ⟨hdb, _, hnn⟩ := okName_at ho
  obtain ⟨hm, hv⟩ := bi_name hb
  have he := star_cons (es := es) (env := X.env) (hst e (by simp))
  have hpl := no_star (es := es) (env := X.env) (pos := pos) fun e' he => hst e' (by simp [he])
  have fin : PE X (.Call (.Name x p) (e :: es) [] pos) (tCB (rDn X.K (biD b)) (tDA X.K T hx W (e :: es).length (wEs G ys))) := by
    have hcall := sd_bi (X := X) b hc
    cases b
    all_goals first
      | exact pe_callB hcall (s.gl hg) (s.bl x hm) hv ha hnn hdb he hpl
      | exact pe_callTy hcall (s.gl hg) (s.bl x hm) hv ha hnn hdb he hpl
  refine PE.weaken (pe_freeze fin) fun σ H Q ⟨μ, ρ, A, E, Q', p, h, fin⟩ => ?_
  refine tDA.go p h fun vs H1 μ1 ds A1 l1 s1 r1 p1 q1 => ?_
  exact ⟨μ1, A1, ds, Q', p1.h, r1, q1, fun v H3 u => u.go fun v H3 ⟨μ3, d3, A3, s3, r3, h3, q3⟩ => fin v H3 μ3 d3 A3 (s1.trans s3) r3 h3 q3⟩
theorem ty_name {x : Str} {t : TI'} (h : tyOf x = some t) : x ∈ blNames ∧ bootBuiltins x = some (.type (tyN t)) := by
  unfold tyOf at h
  repeat (split at h; · rename_i e; subst e; cases h; exact ⟨by decide, by decide +kernel⟩)
  cases h
theorem sd_isiE (s : Snd c X G T hx W) {x : Str} {t : TI'} {p p2 pos : Pos} {a : Expr} {y : Ie} (ht : tyOf x = some t) (hg : c.gl x = true) (ho : okName x = true) (hi : c.gl "isinstance" = true) (hst : noStar a = true) (ha : PE X a (tDE X.K T hx W (wE G y))) :
    PE X (.Call (.Name "isinstance" p) [a, .Name x p2] [] pos) (tDE X.K T hx W (wE G (.isi y t))) := by
  obtain ⟨hdb, _, hnn⟩ := okName_at ho
  obtain ⟨hm, hv⟩ := ty_name ht
  have hty : PE X (.Name x p2) (tC (.ty (tyN t))) := pe_bltn (s.gl hg) (s.bl x hm) hv rfl hnn hdb
  refine PE.weaken (pe_callB call_isi (s.gl hi) (s.bl _ (by decide)) (by decide +kernel) (pa_cons ha (pa_cons hty pa_nil rfl) (star_cons hst)) (by decide) (by decide) (star_cons hst) rfl) fun σ H Q ⟨μ, ρ, A, E, Q', p, h, fin⟩ => ?_
  refine tDE.go p h fun v H1 μ1 d A1 s1 r1 p1 q1 => ?_
  unfold optD at q1
  split at q1
  · rename_i b e
    obtain ⟨ty, k1, k2⟩ := sd_isi p1.h r1 e
    exact ⟨v, .ty (tyN t), ty, .type (tyN t), b, rfl, .ty _, k1, k2, fin _ H1 μ1 _ A1 s1 to_bl p1.h q1⟩
  · exact q1.elim
theorem ab_plain {o : Expr} {attr : Str} {env : Env} {whole : Sem Value} (h : plainBase o = true) : attributeBase o attr env whole = whole := by
  unfold attributeBase
  split
  · cases h
  · rfl
theorem few_of : ∀ {es : List Expr} {env : Env} {pos : Pos}, (∀ e ∈ es, noStar e = true) → (backTo pos (starEach es env)).all (fun x => !x.1) = true
  | [], _, _, _ => rfl
  | e :: es, env, pos, h => by
    rw [star_cons (h e (by simp))]
    show (true && (backTo pos (starEach es env)).all (fun x => !x.1)) = true
    rw [few_of fun e' he => h e' (by simp [he])]
    rfl
theorem mi_name {x : Str} {m : MI} (h : miOf x = some m) : x = mtName m := by
  unfold miOf at h
  repeat (split at h; · rename_i e; subst e; cases h; rfl)
  cases h
theorem sd_mtE {m : MI} {x : Str} {o : Expr} {y : Ie} {es : List Expr} {ys : Ies} {apos pos : Pos} (hm : miOf x = some m) (ho : PE X o (tDE X.K T hx W (wE G y))) (hst : ∀ e ∈ es, noStar e = true) (hy : es = [] → ys = .nil) (ha : PA X es (tDA X.K T hx W es.length (wEs G ys))) (hl : (apos.endLine == pos.line) = true)
    (hn : es.length < 20) (hb : plainBase o = true) : PE X (.Call (.Attribute o x apos) es [] pos) (tDE X.K T hx W (wE G (.mt m y ys))) := by
  have ex := mi_name hm
  subst ex
  cases es with
  | nil =>
    have e := hy rfl
    subst e
    refine PE.weaken (pe_freeze (pe_bm0 (mt_plain m) (mt_slot m) (mt_type m) (sd_mt m) ho (ab_plain hb) hl)) fun σ H Q ⟨μ, ρ, A, E, Q', p, h, fin⟩ => ?_
    refine tDE.go p h fun v H1 μ1 d A1 s1 r1 p1 q1 => ⟨sd_recv p1.h r1 q1.1, ?_⟩
    exact ⟨μ1, A1, d, [], Q', p1.h, r1, .nil, q1.2, fun v H3 u => u.go fun v H3 ⟨μ3, d3, A3, s3, r3, h3, q3⟩ => fin v H3 μ3 d3 A3 (s1.trans s3) r3 h3 q3⟩
  | cons e es =>
    have he := star_cons (es := es) (env := X.env) (hst e (by simp))
    have hpl := no_star (es := es) (env := X.env) (pos := pos) fun e' he => hst e' (by simp [he])
    have hfew : ((backTo pos (starEach (e :: es) X.env)).all (fun x => !x.1) && (backToKw pos (keywordEach [] X.env)).all (fun x => x.1.isSome) && decide ((e :: es).length + ([] : List Keyword).length + (if ([] : List Keyword).isEmpty then 0 else 1) < 30)) = true := by
      rw [few_of hst]
      simp only [Bool.true_and, Bool.and_eq_true]
      refine ⟨rfl, decide_eq_true ?_⟩
      simp only [List.length_nil, List.isEmpty_nil, if_true]
      omega
    refine PE.weaken (pe_freeze (pe_bm (mt_plain m) (mt_slot m) (mt_type m) (sd_mt m) ho ha (ab_plain hb) hfew hl he hpl)) fun σ H Q ⟨μ, ρ, A, E, Q', p, h, fin⟩ => ?_
    refine tDE.go p h fun v H1 μ1 d A1 s1 r1 p1 q1 => ⟨sd_recv p1.h r1 q1.1, ?_⟩
    refine tDA.go p1 q1.2 fun vs H2 μ2 ds A2 l2 s2 r2 p2 q2 => ?_
    exact ⟨μ2, A2, d, ds, Q', p2.h, r1.mono s2 _ _, r2, q2, fun v H3 u => u.go fun v H3 ⟨μ3, d3, A3, s3, r3, h3, q3⟩ => fin v H3 μ3 d3 A3 ((s1.trans s2).trans s3) r3 h3 q3⟩
end
end Px
end TextPx11

section TextPx11k
set_option autoImplicit false
set_option maxRecDepth 100000
set_option maxHeartbeats 4000000
/-! Px11k: a call with keywords. -/
namespace Px
open PySem PySem.Spec PyProof.Rows L2
section
variable {c : CC} {X : Cx} {G : Env'} {T : Tab} {hx : HX} {W : WX}
theorem perm_cons {α : Type} {i : Nat} {pm : List Nat} {l : List α} : permD (i :: pm) l = match l[i]? with | some x => x :: permD pm l | none => permD pm l := by
  unfold permD
  rw [List.filterMap_cons]
  cases l[i]? <;> rfl
theorem vals_perm : ∀ (pm : List Nat) {vs : List V} {us : List Value}, Vals vs us → Vals (permD pm vs) (permD pm us)
  | [], _, _, _ => .nil
  | i :: pm, vs, us, r => by
    rw [perm_cons, perm_cons]
    have ih := vals_perm pm r
    cases e : vs[i]? with
    | none =>
      have e2 : us[i]? = none := by
        rw [List.getElem?_eq_none_iff] at e ⊢
        rw [← r.length]; exact e
      rw [e2]; exact ih
    | some v =>
      obtain ⟨u, eu, ru⟩ := r.get e
      rw [eu]; exact .cons ru ih
theorem vals_append : ∀ {vs zs : List V} {us ws : List Value}, Vals vs us → Vals zs ws → Vals (vs ++ zs) (us ++ ws)
  | [], _, _, _, .nil, r => r
  | _ :: _, _, _, _, .cons h t, r => .cons h (vals_append t r)
theorem rel_perm {K : PySem.W.Frag} {μ : List Addr} {H : Hp} : ∀ (pm : List Nat) {ds : List D} {vs : List V}, RelDs K μ H ds vs → RelDs K μ H (permD pm ds) (permD pm vs)
  | [], _, _, _ => .nil
  | i :: pm, ds, vs, r => by
    rw [perm_cons, perm_cons]
    have ih := rel_perm pm r
    cases e : ds[i]? with
    | none =>
      have e2 : vs[i]? = none := by
        rw [List.getElem?_eq_none_iff] at e ⊢
        rw [← r.length]; exact e
      rw [e2]; exact ih
    | some v =>
      obtain ⟨u, eu, ru⟩ := r.get e
      rw [eu]; exact .cons ru ih
theorem kw_facts {env : Env} {pos : Pos} : ∀ {kws : List Keyword} {ns : List Str}, kwNames kws = some ns → (backToKw pos (keywordEach kws env)).all (·.1.isSome) = true ∧ (backToKw pos (keywordEach kws env)).filterMap (·.1) = ns ∧ (backToKw pos (keywordEach kws env)).any (·.1.isNone) = false ∧ ns.length = kws.length
  | [], ns, h => by
    simp only [kwNames, Option.some.injEq] at h; subst h
    exact ⟨rfl, rfl, rfl, rfl⟩
  | ⟨some x, e, p⟩ :: r, ns, h => by
    simp only [kwNames, Option.map_eq_some_iff] at h
    obtain ⟨ns, h1, rfl⟩ := h
    obtain ⟨a, b, d, l⟩ := kw_facts (env := env) (pos := pos) h1
    refine ⟨?_, ?_, ?_, by simp [l]⟩
    · show (true && (backToKw pos (keywordEach r env)).all (·.1.isSome)) = true
      rw [a]; rfl
    · show x :: (backToKw pos (keywordEach r env)).filterMap (·.1) = _
      rw [b]
    · show (false || (backToKw pos (keywordEach r env)).any (·.1.isNone)) = false
      rw [d]; rfl
  | ⟨none, e, p⟩ :: r, ns, h => by simp [kwNames] at h
theorem PK.weaken {kws : List Keyword} {t t' : TA} (h : PK X kws t) (k : ∀ σ H Q, t' σ H Q → t σ H Q) : PK X kws t' := ⟨fun pos pins s σ H Q I q => h.run pos pins s σ H Q I (k σ H Q q)⟩
theorem sd_kws {f : Expr → Option Ie} (hf : ∀ e ir, f e = some ir → PE X e (tDE X.K T hx W (wE G ir))) : ∀ {kws : List Keyword} {ys : Ies}, cList f (kwVals kws) = some ys → PK X kws (tDA X.K T hx W kws.length (wEs G ys))
  | [], ys, h => by
    simp only [kwVals, cList, Option.some.injEq] at h; subst h
    refine PK.weaken pk_nil fun σ H Q ⟨μ, ρ, A, E, Q', p, h, fin⟩ => fin [] H μ [] A rfl .refl .nil p.h h
  | ⟨nm, e, p⟩ :: es, ys, h => by
    simp only [kwVals, cList] at h
    split at h
    · rename_i a b h1 h2 h3
      cases h
      refine PK.weaken (pk_cons (hf e a h2) (sd_kws hf h3)) fun σ H Q ⟨μ, ρ, A, E, Q', p, h, fin⟩ => ?_
      refine tDE.go p h fun v H1 μ1 d A1 s1 r1 p1 q1 => tDA.go p1 q1 fun vs H2 μ2 ds A2 l2 s2 r2 p2 q2 => ?_
      exact fin (v :: vs) H2 μ2 (d :: ds) A2 (by simp [l2]) (s1.trans s2) (.cons (r1.mono s2 _ _) r2) p2.h q2
    · cases h
theorem evl_nil {P : Program} {w : World} {A : Around} {Ex : Value → Shared → Prop} {pos : Pos} {env : Env} : True := trivial
theorem perm_len {α : Type} {pm : List Nat} {l : List α} (h : ∀ i ∈ pm, i < l.length) : (permD pm l).length = pm.length := by
  induction pm with
  | nil => rfl
  | cons i r ih =>
    rw [perm_cons, List.getElem?_eq_getElem (h i (by simp))]
    simp only [List.length_cons]
    rw [ih fun j hj => h j (by simp [hj])]
/-- f(.., k = v, ..) -/
theorem sd_callk {f : Str} {ns : List Str} {pm : List Nat} {p pos : Pos} {es : List Expr} {kw : Keyword} {kws : List Keyword} {xs ys : Ies} (tk : L2N.Takes X W) (F : FnK X.prog X.w X.K X.mg X.base X.A T (G.con f) f es.length ns pm) (hg : Gl X f) (ho : okName f = true) (hns : kwNames (kw :: kws) = some ns)
    (hst : ∀ e ∈ es, noStar e = true) (hy : es = [] → xs = .nil) (ha : PA X es (tDA X.K T hx W es.length (wEs G xs))) (hk : PK X (kw :: kws) (tDA X.K T hx W (kw :: kws).length (wEs G ys))) (hpm : ∀ i ∈ pm, i < es.length + (kw :: kws).length) :
    PE X (.Call (.Name f p) es (kw :: kws) pos) (tDE X.K T hx W (wE G (.callk f pm xs ys))) := by
  obtain ⟨fa, fd, ps, lv, F, hr, hm, hkp, hpl, hb⟩ := F.ex
  obtain ⟨hdb, _, _⟩ := okName_at ho
  obtain ⟨k1, k2, k3, k4⟩ := kw_facts (env := X.env) (pos := pos) hns
  have run : ∀ (pins : List (Addr × Obj)) (s : Shared) (σ : L2.St) (H : Hp) (Q : VK) (us ws : List Value) (vs zs : List V), Inv X pins σ H s → Vals vs us → Vals zs ws → us.length = es.length → ws.length = ns.length → spD X.K T (G.con f) pm.length (permD pm (vs ++ zs)) H Q (L2.WE W σ) →
      wpAny (model X.prog X.w) X.A (call (.ref fa) us (ns.zip ws)) (EP X pins σ Q) X.xe s := fun pins s σ H Q us ws vs zs I r rz l1 l2 h => by
    refine wpAny_call (codeAny_mono (F.run X.A X.stack s H ⟨us, ns.zip ws⟩ (permD pm (us ++ ws)) (permD pm (vs ++ zs)) Q (L2.WE W σ) hr I.env0 (hb s us ws I.kIn l1 l2) (vals_perm pm (vals_append r rz)) h) fun r s' hq => ?_)
    cases r with
    | error e => exact L2N.passAt tk σ pins H s e s' I hq
    | ok fl =>
      cases fl with
      | ret u => exact I.after hq
      | next => exact False.elim hq
      | brk => exact False.elim hq
      | cont => exact False.elim hq
  have key : ∀ (σ : L2.St) (H : Hp) (Q : VK), tDE X.K T hx W (wE G (.callk f pm xs ys)) σ H Q → tDA X.K T hx W es.length (wEs G xs) σ H fun vs H1 => tDA X.K T hx W (kw :: kws).length (wEs G ys) σ H1 fun zs H2 => vs.length = es.length ∧ zs.length = (kw :: kws).length ∧ spD X.K T (G.con f) pm.length (permD pm (vs ++ zs)) H2 Q (L2.WE W σ) := by
    rintro σ H Q ⟨μ, ρ, A, E, Q', p, h, fin⟩
    refine tDA.go p h fun vs H1 μ1 ds A1 l1 s1 r1 p1 q1 => tDA.go p1 q1 fun zs H2 μ2 bs A2 l2 s2 r2 p2 q2 => ⟨by rw [← r1.length, l1], by rw [← r2.length, l2], ?_⟩
    have r3 := rel_perm pm ((r1.mono s2 _ _).append r2)
    refine ⟨?_, μ2, A2, _, E, Q', p2.h, r3, q2, fun v H3 u => ?_, fun c dd H3 u => p2.x c dd H3 u⟩
    · refine perm_len fun i hi => ?_
      rw [List.length_append, ← r1.length, l1, ← r2.length, l2]
      exact hpm i hi
    · obtain ⟨μ3, d, A3, s3, r3, h3, q3⟩ := u
      exact fin v H3 μ3 d A3 ((s1.trans s2).trans s3) r3 h3 q3
  cases es with
  | nil =>
    have e := hy rfl
    subst e
    refine ⟨fun pins s σ H Q I h => ?_⟩
    refine wpAny_Call_Name_kw (ld_glob I hg hm ?_ hdb)
    have h2 := key σ H Q h
    have h3 : tDA X.K T hx W (kw :: kws).length (wEs G ys) σ H fun zs H2 => zs.length = (kw :: kws).length ∧ spD X.K T (G.con f) pm.length (permD pm ([] ++ zs)) H2 Q (L2.WE W σ) := by
      obtain ⟨μ, ρ, A, E, Q', p, h, fin⟩ := h2
      have q := fin [] H μ [] A rfl .refl .nil p.h h
      obtain ⟨μ, ρ, A, E, Q', p, h, fin⟩ := q
      exact ⟨μ, ρ, A, E, Q', p, h, fun vs H' μ' ds A' l s r hr q => (fin vs H' μ' ds A' l s r hr q).2⟩
    refine PySem.W.callWith_KW0 (h₀ := X.base) I.ok.mod.kin hkp k1 (thn (hk.run pos pins s σ H _ I h3) fun ws s2 ⟨zs, H2, I2, rz, lz, q2⟩ => ⟨I2.kIn, ?_⟩) (by show (false || _) = false; rw [k3]; rfl)
    rw [k2]
    exact run pins s2 σ H2 Q [] ws [] zs I2 .nil rz rfl (by rw [← rz.length, lz, k4]) q2
  | cons e es =>
    refine ⟨fun pins s σ H Q I h => ?_⟩
    refine wpAny_Call_Name_kw (ld_glob I hg hm ?_ hdb)
    refine PySem.W.callWith_KW (h₀ := X.base) I.ok.mod.kin hkp k1 (thn (ha.run pos pins s σ H _ I (key σ H Q h)) fun us s1 ⟨vs, H1, I1, r, q1⟩ => thn (hk.run pos pins s1 σ H1 _ I1 q1) fun ws s2 ⟨zs, H2, I2, rz, l1, l2, q2⟩ => ⟨I2.kIn, ?_⟩) (by rw [k3, Bool.or_false, star_cons (hst e (by simp))]; show (false || (backTo pos (starEach es X.env)).any (·.1)) = false; rw [no_star (pos := pos) fun e' he => hst e' (by simp [he])]; rfl) (star_cons (hst e (by simp)))
    rw [k2]
    exact run pins s2 σ H2 Q us ws vs zs I2 r rz (by rw [← r.length, l1]) (by rw [← rz.length, l2, k4]) q2
end
end Px
end TextPx11k

section TextPx11r
set_option autoImplicit false
set_option maxRecDepth 100000
set_option maxHeartbeats 4000000
/-! Px11r: list(range(..)), tuple(range(..)). -/
namespace Px
open PySem PySem.Spec PyProof.Rows L2
variable {c : CC} {X : Cx} {G : Env'} {T : Tab} {hx : HX} {W : WX}
theorem rg_rel {K : PySem.W.Frag} {μ : List Addr} {H : Hp} {i : Int} : ∀ {l : List Nat}, RelDs K μ H (l.map fun (k : Nat) => D.int (i + (k : Int))) (l.map fun k => V.int (i + (k : Nat)))
  | [] => .nil
  | _ :: _ => .cons to_int rg_rel
theorem lrg_end {t : Bool} {i j : Int} {Q' : D → Ht → Prop} {Q : VK} {μ0 μ : List Addr} {ρ : Rho} {A : Ht} {E : D → Ht → Prop} {σ : L2.St} {H0 H : Hp} (s : Stp μ0 H0 μ H) (p : Pk X.K T hx W μ ρ A E σ H) (q : lrgD t i j A Q') (fin : ∀ v H' μ' d A', Stp μ0 H0 μ' H' → RelD X.K μ' H' d v → HR X.K μ' A' H' → Q' d A' → Q v H') :
    RgOk i j ∧ (t = true → ∀ p, H p = none → FzQ Q (.ref p) (upd H p (.tup (rgV i j)))) ∧ (t = false → ∀ p, H p = none → FzQ Q (.ref p) (upd H p (.lst (rgV i j)))) := by
  obtain ⟨⟨b1, b2, b3, b4, b5⟩, q⟩ := q
  have up : ∀ v H3, UpF X.K μ H Q' v H3 → FzQ Q v H3 := fun v H3 u => u.go fun v H3 ⟨μ3, d3, A3, s3, r3, h3, q3⟩ => fin v H3 μ3 d3 A3 (s.trans s3) r3 h3 q3
  refine ⟨⟨b1, b2, b3, b4, by omega⟩, fun e p2 hp => ?_, fun e p2 hp => ?_⟩
  · subst e
    exact up _ _ (UpF.tuple p.h rg_rel hp q)
  · subst e
    exact up _ _ (UpF.list p.h rg_rel hp q)
theorem sd_lrg1 (s : Snd c X G T hx W) (hh : c.hot = false) {t : Bool} {f : Str} {a : Expr} {ia : Ie} {p p2 pos pos2 : Pos} (hf : (t = false ∧ f = "list") ∨ (t = true ∧ f = "tuple")) (hg : c.gl f = true) (hr : c.gl "range" = true) (hst : noStar a = true) (ha : PE X a (tDE X.K T hx W (wE G ia))) :
    PE X (.Call (.Name f p) [.Call (.Name "range" p2) [a] [] pos2] [] pos) (tDE X.K T hx W (wE G (.lrg1 t ia))) := by
  have hp := prg_1 (p := p2) (pos := pos2) (s.gl hr) (s.bl "range" (by decide)) ha (star_cons hst)
  rcases hf with ⟨rfl, rfl⟩ | ⟨rfl, rfl⟩
  · refine PE.weaken (pe_freeze (pe_listRg (s.calm hh) (s.gl hg) (s.bl "list" (by decide)) hp)) fun σ H Q ⟨μ, ρ, A, E, Q', pk, h, fin⟩ => ?_
    refine tDE.go pk h fun v H1 μ1 d A1 s1 r1 p1 q1 => ?_
    split at q1
    · cases rel_int r1
      obtain ⟨a1, _, a3⟩ := lrg_end s1 p1 q1 fin
      exact ⟨_, rfl, a1, a3 rfl⟩
    · exact q1.elim
  · refine PE.weaken (pe_freeze (pe_tupRg (s.calm hh) (s.gl hg) (s.bl "tuple" (by decide)) hp)) fun σ H Q ⟨μ, ρ, A, E, Q', pk, h, fin⟩ => ?_
    refine tDE.go pk h fun v H1 μ1 d A1 s1 r1 p1 q1 => ?_
    split at q1
    · cases rel_int r1
      obtain ⟨a1, a2, _⟩ := lrg_end s1 p1 q1 fin
      exact ⟨_, rfl, a1, a2 rfl⟩
    · exact q1.elim
theorem sd_lrg2 (s : Snd c X G T hx W) (hh : c.hot = false) {t : Bool} {f : Str} {a b : Expr} {ia ib : Ie} {p p2 pos pos2 : Pos} (hf : (t = false ∧ f = "list") ∨ (t = true ∧ f = "tuple")) (hg : c.gl f = true) (hr : c.gl "range" = true) (hst : noStar a = true) (hsb : noStar b = true) (ha : PE X a (tDE X.K T hx W (wE G ia))) (hb : PE X b (tDE X.K T hx W (wE G ib))) :
    PE X (.Call (.Name f p) [.Call (.Name "range" p2) [a, b] [] pos2] [] pos) (tDE X.K T hx W (wE G (.lrg2 t ia ib))) := by
  have hp := prg_2 (p := p2) (pos := pos2) (s.gl hr) (s.bl "range" (by decide)) ha hb (star_cons hst) (star_cons hsb) (no_star fun e' he => by rw [List.mem_singleton.mp he]; exact hsb)
  rcases hf with ⟨rfl, rfl⟩ | ⟨rfl, rfl⟩
  · refine PE.weaken (pe_freeze (pe_listRg (s.calm hh) (s.gl hg) (s.bl "list" (by decide)) hp)) fun σ H Q ⟨μ, ρ, A, E, Q', pk, h, fin⟩ => ?_
    refine tDE.go pk h fun v H1 μ1 d A1 s1 r1 p1 q1 => ?_
    refine tDE.go p1 q1 fun u H2 μ2 e A2 s2 r2 p2 q2 => ?_
    split at q2
    · cases rel_int r1; cases rel_int r2
      obtain ⟨a1, _, a3⟩ := lrg_end (s1.trans s2) p2 q2 fin
      exact ⟨_, _, rfl, rfl, a1, a3 rfl⟩
    · exact q2.elim
  · refine PE.weaken (pe_freeze (pe_tupRg (s.calm hh) (s.gl hg) (s.bl "tuple" (by decide)) hp)) fun σ H Q ⟨μ, ρ, A, E, Q', pk, h, fin⟩ => ?_
    refine tDE.go pk h fun v H1 μ1 d A1 s1 r1 p1 q1 => ?_
    refine tDE.go p1 q1 fun u H2 μ2 e A2 s2 r2 p2 q2 => ?_
    split at q2
    · cases rel_int r1; cases rel_int r2
      obtain ⟨a1, a2, _⟩ := lrg_end (s1.trans s2) p2 q2 fin
      exact ⟨_, _, rfl, rfl, a1, a2 rfl⟩
    · exact q2.elim
theorem sd_dic0 {pos : Pos} : PE X (.Dict [] [] pos) (tDE X.K T hx W (wE G (.dic .nil .nil))) :=
  PE.weaken pe_dnewK fun σ H Q ⟨μ, ρ, A, E, Q', p, h, fin⟩ a ha =>
    fin _ _ (μ ++ [a]) (.obj A.length) (A ++ [.dic []]) (stp_upd ha _) (to_obj (by rw [← p.h.len, List.getElem?_concat_length])) (p.h.push (o := .dic []) ha ⟨[], rfl, rfl, .nil⟩) (show Q' (.obj A.length) (A ++ [.dic []]) from h)
/-! {k: v, ..} -/
theorem mergeK_app : ∀ (more acc : List (Key × V)), (acc.map (·.1) ++ more.map (·.1)).Nodup → mergeK acc more = acc ++ more
  | [], acc, _ => by show acc = acc ++ []; rw [List.append_nil]
  | (k, v) :: r, acc, h => by
    have hk : (acc.any fun kv => decide (kv.1 = k)) = false := by
      rw [List.any_eq_false]
      intro kv hm e
      have e := of_decide_eq_true e
      rw [List.nodup_append] at h
      exact h.2.2 kv.1 (List.mem_map.mpr ⟨kv, hm, rfl⟩) k (by simp) e
    show mergeK (L2.putK acc k v) r = _
    have e : L2.putK acc k v = acc ++ [(k, v)] := by unfold L2.putK; rw [hk]; rfl
    rw [e, mergeK_app r (acc ++ [(k, v)]) (by simpa using h)]
    simp
def iesLen : Ies → Nat
  | .nil => 0
  | .cons _ r => iesLen r + 1
def trsOf (X : Cx) (G : Env') (T : Tab) (hx : HX) (W : WX) : List Key → Ies → List (TE × TE)
  | k :: r, .cons y ys => (tC (kV k), tDE X.K T hx W (wE G y)) :: trsOf X G T hx W r ys
  | _, _ => []
theorem tPairs_go : ∀ {kl : List Key} {ys : Ies} {μ : List Addr} {ρ : Rho} {A : Ht} {E : D → Ht → Prop} {σ : L2.St} {H : Hp} {Q' : List D → Ht → Prop} {R : List (V × V) → Hp → Prop}, Pk X.K T hx W μ ρ A E σ H → wEs G ys ρ A E Q' → kl.length = (trsOf X G T hx W kl ys).length → (trsOf X G T hx W kl ys).length = iesLen ys →
    (∀ xs H' μ' ds A', xs.length = kl.length → Stp μ H μ' H' → RelDs X.K μ' H' ds xs → Pk X.K T hx W μ' ρ A' E σ H' → Q' ds A' → R ((kl.zip xs).map fun kv => (kV kv.1, kv.2)) H') → tPairs (trsOf X G T hx W kl ys) σ H R
  | [], ys, μ, ρ, A, E, σ, H, Q', R, p, h, _, hl, k => by
    cases ys with
    | nil => exact k [] H μ [] A rfl .refl .nil p h
    | cons y ys => simp [trsOf, iesLen] at hl
  | key :: kl, .nil, μ, ρ, A, E, σ, H, Q', R, p, h, h1, hl, k => by simp [trsOf] at h1
  | key :: kl, .cons y ys, μ, ρ, A, E, σ, H, Q', R, p, h, h1, hl, k => by
    show tDE X.K T hx W (wE G y) σ H fun x H2 => tPairs (trsOf X G T hx W kl ys) σ H2 fun ps H3 => R ((kV key, x) :: ps) H3
    refine tDE.go p h fun v H1 μ1 d A1 s1 r1 p1 q1 => ?_
    refine tPairs_go p1 q1 (by simpa [trsOf] using h1) (by simpa [trsOf, iesLen] using hl) fun xs H' μ' ds A' lx s2 r2 p2 q2 => ?_
    exact k (v :: xs) H' μ' (d :: ds) A' (by simp [lx]) (s1.trans s2) (.cons (r1.mono s2 _ _) r2) p2 q2
theorem pps_of {f : Expr → Option Ie} (hf : ∀ e ir, f e = some ir → PE X e (tDE X.K T hx W (wE G ir))) {pos : Pos} : ∀ {ks : List (Option Expr)} {es : List Expr} {kk ys : Ies}, ks.length = es.length → cKeys ks = some kk → cList f es = some ys →
    ∃ kl, keysC kk = some kl ∧ PPs X pos ks es (trsOf X G T hx W kl ys) ∧ kl.length = (trsOf X G T hx W kl ys).length ∧ (trsOf X G T hx W kl ys).length = iesLen ys ∧ ks.all (·.isSome) = true
  | [], es, kk, ys, hl, h1, h2 => by
    simp only [cKeys, Option.some.injEq] at h1
    subst h1
    have : es = [] := List.length_eq_zero_iff.mp hl.symm
    subst this
    simp only [cList, Option.some.injEq] at h2
    subst h2
    exact ⟨[], rfl, pps_nil, rfl, rfl, rfl⟩
  | k :: ks, [], kk, ys, hl, h1, h2 => by simp at hl
  | k :: ks, e :: es, kk, ys, hl, h1, h2 => by
    simp only [cList] at h2
    split at h2
    · rename_i y ys' _ he hes
      cases h2
      unfold cKeys at h1
      split at h1
      · rename_i e1; cases e1
      · rename_i i p1 p2 r e1
        cases e1
        simp only [Option.map_eq_some_iff] at h1
        obtain ⟨kk', hk, rfl⟩ := h1
        obtain ⟨kl, a1, a2, a3, a4, a5⟩ := pps_of hf (pos := pos) (by simpa using hl) hk hes
        exact ⟨.inl i :: kl, by simp [keysC, a1], pps_cons pe_int (hf e y he) a2, by simp [trsOf, a3], by simp [trsOf, iesLen, a4], by simpa using a5⟩
      · rename_i z p1 p2 r e1
        cases e1
        simp only [Option.map_eq_some_iff] at h1
        obtain ⟨kk', hk, rfl⟩ := h1
        obtain ⟨kl, a1, a2, a3, a4, a5⟩ := pps_of hf (pos := pos) (by simpa using hl) hk hes
        exact ⟨.inr z :: kl, by simp [keysC, a1], pps_cons pe_str (hf e y he) a2, by simp [trsOf, a3], by simp [trsOf, iesLen, a4], by simpa using a5⟩
      · cases h1
    · cases h2
theorem zip_fst {α β : Type} : ∀ {l : List α} {r : List β}, l.length = r.length → (l.zip r).map (·.1) = l
  | [], _, _ => rfl
  | _ :: _, [], h => by simp at h
  | a :: l, b :: r, h => by simp [zip_fst (l := l) (r := r) (by simpa using h)]
theorem zip_snd {α β : Type} : ∀ {l : List α} {r : List β}, l.length = r.length → (l.zip r).map (·.2) = r
  | [], [], _ => rfl
  | [], _ :: _, h => by simp at h
  | _ :: _, [], h => by simp at h
  | a :: l, b :: r, h => by simp [zip_snd (l := l) (r := r) (by simpa using h)]
theorem sd_dicN {f : Expr → Option Ie} (hf : ∀ e ir, f e = some ir → PE X e (tDE X.K T hx W (wE G ir))) {k : Option Expr} {ks : List (Option Expr)} {es : List Expr} {kk ys : Ies} {pos : Pos} (hl : (k :: ks).length = es.length) (h15 : (k :: ks).length ≤ 15) (h1 : cKeys (k :: ks) = some kk) (h2 : cList f es = some ys) : PE X (.Dict (k :: ks) es pos) (tDE X.K T hx W (wE G (.dic kk ys))) := by
  obtain ⟨kl, a1, a2, a3, a4, a5⟩ := pps_of hf (pos := pos) hl h1 h2
  have hk0 : ∃ y r, kk = .cons y r := by
    cases kk with
    | cons y r => exact ⟨y, r, rfl⟩
    | nil =>
      simp only [keysC, Option.some.injEq] at a1
      subst a1
      cases es with
      | nil => simp at hl
      | cons e es =>
        simp only [cList] at h2
        split at h2
        · cases h2; simp [trsOf, iesLen] at a4
        · cases h2
  refine PE.weaken (pe_disp a2 a5 hl (by simp) h15) fun σ H Q ⟨μ, ρ, A, E, Q', p, h, fin⟩ a ha => ?_
  obtain ⟨y, r, ek⟩ := hk0
  subst ek
  have h : wEs G ys ρ (A ++ [.dic []]) E fun ds A1 => match keysC (.cons y r) with
      | some kl => kl.Nodup ∧ kl.length = ds.length ∧ kl.length ≤ 15 ∧ A1[A.length]? = some (.dic []) ∧ Q' (.obj A.length) (A1.set A.length (.dic (kl.zip ds)))
      | none => False := h
  rw [a1] at h
  dsimp only at h
  have s0 : Stp μ H (μ ++ [a]) (upd H a (.dK [])) := stp_upd ha _
  have p1 : Pk X.K T hx W (μ ++ [a]) ρ (A ++ [.dic []]) E σ (upd H a (.dK [])) := p.step s0 (p.h.push (o := .dic []) ha ⟨[], rfl, rfl, .nil⟩)
  refine tPairs_go p1 h a3 a4 fun xs H' μ' ds A' lx s1 r1 p2 q => ?_
  obtain ⟨q1, q2, q3, q4, q5⟩ := q
  have en : μ'[A.length]? = some a := by
    have e0 : (μ ++ [a])[A.length]? = some a := by rw [← p.h.len, List.getElem?_concat_length]
    obtain ⟨t, ht⟩ := s1.pre
    rw [← ht, List.getElem?_append_left (List.getElem?_eq_some_iff.mp e0).1]
    exact e0
  obtain ⟨a', ws, en', ea, eh, ek, _⟩ := p2.h.dic q4 (to_obj (H := H') (K := X.K) en)
  rw [en] at en'
  cases en'
  have ws0 : ws = [] := by simpa using ek
  subst ws0
  have hlx : kl.length = xs.length := lx.symm
  refine ⟨eh, kl.zip xs, rfl, by rw [List.length_zip]; omega, ?_⟩
  rw [mergeK_app _ [] (by rw [zip_fst hlx]; simpa using q1), List.nil_append]
  have s2 : Stp μ' H' μ' (upd H' a (.dK (kl.zip xs))) := stp_write en eh (fun z => z)
  refine fin (.ref a) _ μ' (.obj A.length) _ ((s0.trans s1).trans s2) (to_obj en) (p2.h.write (o := .dic (kl.zip ds)) en eh (fun z => z) ⟨_, rfl, by rw [zip_fst hlx, zip_fst q2], ?_⟩) q5
  rw [zip_snd hlx, zip_snd q2]
  exact r1.mono s2 _ _
def rSetI (K : PySem.W.Frag) (w : World) : List V → Hp → VK → Prop := fun vs H Q => ∃ (p : Addr) (ns : List Int), vs = [.ref p] ∧ SqT K H p (ns.map V.int) ∧ ns.length ≤ 1000 ∧
  ∀ (q : Addr) (c : Nat), c ≤ ns.length → H q = none → Q (.ref q) (upd H q (SetO w q (fun j => decide (j ∈ ns)) c))
theorem cr_setI (hc : X.calm = true) : CallR X (.type "set") (rSetI X.K X.w) := by
  intro pins s σ H xs us Q I rv h
  obtain ⟨p0, ns, rfl, hq, hl, q⟩ := h
  rw [Vals.ref1 rv]
  obtain ⟨its, rv2, pt, hz⟩ := I.tuple hq
  have hi : IntsAre its.toArray.toList ns := ints_of_vals rv2
  refine call_set_tupI ns (I.ok.hd hc) (show s.heap.IsTuple p0 its.toArray from pt) hi (by unfold scanBound; omega) fun h' tk c R1 hcn k => ?_
  exact ⟨.ref _, upd H s.heap.objs.size (SetO X.w s.heap.objs.size (fun j => decide (j ∈ ns)) c), I.laid (t' := tk) k (Nat.le_refl _) (setO_new R1), rfl, q _ c hcn (I.hok.fresh (Nat.le_refl _))⟩
theorem sd_sset (s : Snd c X G T hx W) (hh : c.hot = false) {e : Expr} {ia : Ie} {p p2 pos pos2 : Pos} (hg : c.gl "sorted" = true) (hs : c.gl "set" = true) (hst : noStar e = true) (ha : PE X e (tDE X.K T hx W (wE G ia))) :
    PE X (.Call (.Name "sorted" p) [.Call (.Name "set" p2) [e] [] pos2] [] pos) (tDE X.K T hx W (wE G (.sset ia))) := by
  have h1 : PE X (.Call (.Name "set" p2) [e] [] pos2) _ := pe_callTy (cr_setI (s.calm hh)) (s.gl hs) (s.bl "set" (by decide)) (by decide +kernel) (pa_cons ha pa_nil (star_cons hst)) (by decide) (by decide) (star_cons hst) rfl
  have h2 : PE X (.Call (.Name "sorted" p) [.Call (.Name "set" p2) [e] [] pos2] [] pos) _ := pe_callB (cr_sortedSet (s.calm hh)) (s.gl hg) (s.bl "sorted" (by decide)) (by decide +kernel) (pa_cons h1 pa_nil rfl) (by decide) (by decide) rfl rfl
  refine PE.weaken (pe_freeze h2) fun σ H Q ⟨μ, ρ, A, E, Q', pk, h, fin⟩ => ?_
  refine tDE.go pk h fun v H1 μ1 d A1 s1 r1 p1 q1 => ?_
  unfold ssetD at q1
  split at q1
  · split at q1
    · rename_i ns e1
      obtain ⟨a, vs, rfl, hq, hv⟩ := rel_tup r1
      have ev := ints_rel e1 hv
      subst ev
      refine ⟨a, ns, rfl, hq, by have := q1.1; omega, fun q c hc hqn => ?_⟩
      refine ⟨q, _, c, rfl, upd_same, by have := q1.1; omega, fun ms p3 hpw hmem hl hp => ?_⟩
      have u := UpF.list (p1.h.tupd hqn) (rel_ints ms) hp (q1.2 ms hpw fun k => by rw [hmem k]; simp)
      exact u.go fun v H4 ⟨μ4, d4, A4, s4, r4, h4, q4⟩ => fin v H4 μ4 d4 A4 ((s1.trans (stp_upd0 hqn)).trans s4) r4 h4 q4
    · exact q1.elim
  · exact q1.elim
/-- repr of a tuple of data -/
def rRepr (K : PySem.W.Frag) : List V → Hp → VK → Prop := fun xs H Q => ∃ (a : Addr) (d : PyData), xs = [.ref a] ∧ Dp K H (.ref a) d ∧ d.showable = true ∧ d.hasDict = false ∧ d.depth ≤ 60 ∧ d.shown.length ≤ sizeLine ∧ Q (.str d.shown) H
theorem cr_repr (gd : X.A.guards = some []) (hu : X.A.units + 64 < cLine) : CallR X (.builtin "repr") (rRepr X.K) := by
  intro pins s σ H xs us Q I rv h
  obtain ⟨a, d, rfl, hd, h1, h2, h3, h4, q⟩ := h
  rw [Vals.ref1 rv]
  obtain ⟨as, rd⟩ := Dp.reads I d (.ref a) (.ref a) hd rfl
  refine repr_of_reads' rd h1 (fun z => by rw [h2] at z; cases z) gd (by omega) (fun _ _ e => e) (fun h' u tk hk => ?_) h4
  exact ⟨.str d.shown, H, I.kept (t' := tk) hk, ⟨u, rfl⟩, q⟩
theorem sd_rpr (s : Snd c X G T hx W) (hh : c.hot = false) (hgd : c.gd = true) {a : Expr} {ia : Ie} {p pos : Pos} (hg : c.gl "repr" = true) (hst : noStar a = true) (ha : PE X a (tDE X.K T hx W (wE G ia))) :
    PE X (.Call (.Name "repr" p) [a] [] pos) (tDE X.K T hx W (wE G (.rpr ia))) := by
  have fin : PE X (.Call (.Name "repr" p) [a] [] pos) _ := pe_callB (cr_repr (s.gd hgd hh) s.hu) (s.gl hg) (s.bl "repr" (by decide)) (by decide +kernel) (pa_cons ha pa_nil (star_cons hst)) (by decide) (by decide) (star_cons hst) rfl
  refine PE.weaken fin fun σ H Q ⟨μ, ρ, A, E, Q', p, h, fin⟩ => ?_
  refine tDE.go p h fun v H1 μ1 d A1 s1 r1 p1 q1 => ?_
  cases d with
  | tup ds =>
    unfold rprD at q1
    dsimp only at q1
    split at q1
    · rename_i pd e
      obtain ⟨h1, h2, h3, h4, q⟩ := q1
      have dp := dp_toP p1.h 3 _ _ _ e r1
      obtain ⟨b, vs, rfl, _⟩ := rel_tup r1
      exact ⟨b, pd, rfl, dp, h1, h2, h3, h4, fin _ _ _ _ _ s1 to_str p1.h q⟩
    · exact q1.elim
  | _ => exact q1.elim
end Px
end TextPx11r

section TextPx12
set_option autoImplicit false
set_option maxRecDepth 100000
set_option maxHeartbeats 8000000
/-! Px12: every compiled expression is sound. -/
namespace Px
open PySem PySem.Spec PyProof.Rows L2
section
variable {G : Env'} {T : Tab} {hx : HX}
theorem assign_len : ∀ {es : List Expr} {env : Env}, (∀ e ∈ es, noStar e = true) → (assignEach es env).length = es.length ∧ (assignEach es env).findIdx? (·.1) = none
  | [], _, _ => ⟨rfl, rfl⟩
  | e :: es, env, h => by
    obtain ⟨h1, h2⟩ := assign_len (es := es) (env := env) fun e' he => h e' (by simp [he])
    rw [assign_cons (h e (by simp))]
    refine ⟨by simp [h1], ?_⟩
    rw [List.findIdx?_cons]
    simp [h2]
theorem sd_tgs (n : Nat) : ∀ {c : CC} {X : Cx} {W : WX}, Snd c X G T hx W → (∀ e g, cTg c n e = some g → PG X e (gD X.K hx g)) ∧ (∀ es gs, cTgs c n es = some gs → PGs X es (gDs X.K hx gs) ∧ (∀ e ∈ es, noStar e = true) ∧ es.length = tgsLen gs) := by
  induction n with
  | zero =>
    intro c X W s
    refine ⟨fun e g h => by simp [cTg] at h, fun es gs h => ?_⟩
    cases es with
    | nil => simp only [cTgs, Option.some.injEq] at h; subst h; exact ⟨pgs_nilX, by simp, rfl⟩
    | cons e es => simp [cTgs] at h
  | succ n ih =>
    intro c X W s
    obtain ⟨i1, i2⟩ := ih s
    refine ⟨fun e g h => ?_, fun es gs h => ?_⟩
    · unfold cTg at h
      split at h
      · cases h
      · rename_i m x pos e1
        cases e1
        simp only [Option.map_eq_some_iff] at h
        obtain ⟨i, hi, rfl⟩ := h
        obtain ⟨k1, k2, k3⟩ := CC.sto_at s hi
        exact pg_nameX (by rw [s.N]; exact s.nd) k1 k2 k3
      · rename_i m es k pos e1
        cases e1
        simp only [Option.map_eq_some_iff] at h
        obtain ⟨gs, hg, rfl⟩ := h
        obtain ⟨k1, k2, k3⟩ := i2 es gs hg
        obtain ⟨l1, l2⟩ := assign_len (env := X.env) k2
        cases hh : c.hot with
        | false => exact pg_tupX (s.calm hh) k1 (by rw [l1, k3]) l2
        | true => exact pg_tupXH (s.hfns hh).1 k1 (by rw [l1, k3]) l2
      · cases h
    · cases es with
      | nil => simp only [cTgs, Option.some.injEq] at h; subst h; exact ⟨pgs_nilX, by simp, rfl⟩
      | cons e es =>
        simp only [cTgs] at h
        split at h
        · rename_i g gs h1 h2 h3
          cases h
          obtain ⟨k1, k2, k3⟩ := i2 es gs h3
          refine ⟨pgs_consX (i1 e g h2) k1 (by rw [assign_cons h1]; rfl), ?_, by simp [k3, tgsLen]⟩
          intro e' he
          rcases List.mem_cons.mp he with rfl | he
          · exact h1
          · exact k2 e' he
        · cases h
theorem takes_noneN {X : Cx} : L2N.Takes X W0 := fun _ _ ⟨_, _, _, _, _, _, _, _, _, _, _, _, _, _, _, _, w⟩ => w.elim
theorem snd_inner {c : CC} {X : Cx} {W : WX} (s : Snd c X G T hx W) (hh : c.hot = false) (scope : Scope) (s0 : Shared) (H : Hp) (C : Addr) (cl : List (Str × Addr)) (fp : List Addr) : Snd (c.inner scope) (X.blk s0 H scope (compEnvC scope cl C X.env) fp) G T hx W0 where
  N := s.N
  nd := s.nd
  sc := by show relS scope X.env.scope = relS scope c.sc; rw [s.sc]
  calm := s.calm
  fnv := fun x h => by
    rcases h with h | ⟨t, h1, h2⟩
    · cases h
    · cases h1
      show (scope.names.lookup x == some .cell) = true
      rw [h2]; rfl
  hu := s.hu
  gd := fun h1 h2 => s.gd h1 h2
  bl := s.bl
  cts := s.cts
  tk := takes_noneN
  fns := s.fns
  kws := s.kws
  hfns := fun h => by rw [show (c.inner scope).hot = c.hot from rfl, hh] at h; cases h
  fld := fun e i f p pos h => by cases h
  isx := fun e i t p p1 p2 pos h => by cases h
  isxs := fun e i ts xs kk p p1 tpos pos h => by cases h
theorem snd_innerH {c : CC} {X : Cx} {W : WX} (s : Snd c X G T hx W) (hh : c.hot = true) (scope : Scope) (s0 : Shared) (H : Hp) (C : Addr) (cl : List (Str × Addr)) (fp : List Addr) : Snd (c.inner scope) (blkH X s0 H scope (compEnvC scope cl C X.env) fp) G T hx W0 where
  N := s.N
  nd := s.nd
  sc := by show relS scope X.env.scope = relS scope c.sc; rw [s.sc]
  calm := fun h => by rw [show (c.inner scope).hot = c.hot from rfl, hh] at h; cases h
  fnv := fun x h => by
    rcases h with h | ⟨t, h1, h2⟩
    · cases h
    · cases h1
      show (scope.names.lookup x == some .cell) = true
      rw [h2]; rfl
  hu := s.hu
  gd := fun h1 h2 => s.gd h1 h2
  bl := s.bl
  cts := s.cts
  tk := takes_noneN
  fns := s.fns
  kws := s.kws
  hfns := fun h => ⟨hot_blk (s.hfns h).1 _ _ _ _ _, (s.hfns h).2⟩
  fld := fun e i f p pos h => by cases h
  isx := fun e i t p p1 p2 pos h => by cases h
  isxs := fun e i ts xs kk p p1 tpos pos h => by cases h
def ptPlain : Expr → Bool
  | .UnaryOp .Not _ _ => false | .BoolOp .. => false | .IfExp .. => false | .Compare .. => false | _ => true
theorem pt_plain {e : Expr} (h : ptPlain e = true) (env : Env) (whole : Sem Value) : isTrue e env whole = (do let v ← whole; standAt e.pos; holding [v] (truthy v)) := by
  cases e with
  | UnaryOp op x p => cases op <;> first | rfl | cases h
  | BoolOp => cases h
  | IfExp => cases h
  | Compare => cases h
  | _ => rfl
def notSet : Expr → Bool
  | .Set .. => false | _ => true
theorem fold_pure {e : Expr} (h : notSet e = true) (env : Env) (x : Value) : foldedSetIterable e env x = pure x := by
  cases e <;> first | rfl | cases h
theorem of_gen {c : CC} {X : Cx} {W : WX} {e : Expr} {ir : Ie} (he : PE X e (tDE X.K T hx W (wE G ir))) (hp : ptPlain e = true) (hw : ∀ ρ A E Q, wT G ir ρ A E Q → wE G ir ρ A E fun d A' => truD d A' fun c => Q c A') :
    PE X e (tDE X.K T hx W (wE G ir)) ∧ PT X e (tDT X.K T hx W (wT G ir)) :=
  ⟨he, PT.weaken (pt_gen he (fun w => pt_plain hp _ w)) fun σ H Q ⟨μ, ρ, A, E, Q', p, h, fin⟩ => ⟨μ, ρ, A, E, Q', p, hw _ _ _ _ h, fin⟩⟩
theorem of_no {c : CC} {X : Cx} {W : WX} {e : Expr} {ir : Ie} (he : PE X e (tDE X.K T hx W (wE G ir))) (hw : ∀ ρ A E Q, ¬ wT G ir ρ A E Q) :
    PE X e (tDE X.K T hx W (wE G ir)) ∧ PT X e (tDT X.K T hx W (wT G ir)) :=
  ⟨he, ⟨fun pins s σ H Q I ⟨_, _, _, _, _, _, h, _⟩ => (hw _ _ _ _ h).elim⟩⟩
def Okx (c : CC) (X : Cx) (G : Env') (T : Tab) (hx : HX) (W : WX) (e : Expr) (ir : Ie) : Prop := PE X e (tDE X.K T hx W (wE G ir)) ∧ PT X e (tDT X.K T hx W (wT G ir))
theorem sd_globE {c : CC} {X : Cx} {W : WX} (s : Snd c X G T hx W) {x : Str} {pos : Pos} (hg : c.gl x = true) (hc : c.cts.contains x = true) (ho : okName x = true) : PE X (.Name x pos) (tDE X.K T hx W (wE G (.glob x))) := by
  obtain ⟨h1, h2, h3⟩ := okName_at ho
  obtain ⟨d, u, v, e1, e2, e3, e4⟩ := s.cts x hc
  refine PE.weaken (pe_glob (s.gl hg) e2 e3 h1) fun σ H Q ⟨μ, ρ, A, E, Q', p, h, fin⟩ => ?_
  change (match G.ct x with | some d => Q' d A | none => False) at h
  rw [e1] at h
  exact fin v H μ d A .refl (e4 μ H) p.h h
theorem cList_nil {f : Expr → Option Ie} {es : List Expr} {ys : Ies} (h : cList f es = some ys) : es = [] → ys = .nil := by
  rintro rfl
  simpa [cList] using h.symm
theorem sd_all (n : Nat) : ∀ {c : CC} {X : Cx} {W : WX}, Snd c X G T hx W → (∀ e ir, cE c n e = some ir → PE X e (tDE X.K T hx W (wE G ir)) ∧ PT X e (tDT X.K T hx W (wT G ir))) ∧
    (∀ tg e ii, cI c n tg e = some ii → PI X tg e (tDI X.K T hx W (wI G ii)) ∧ ∀ env x, foldedSetIterable e env x = pure x) := by
  induction n with
  | zero =>
    intro c X W s
    exact ⟨fun e ir h => by simp [cE] at h, fun tg e ii h => by simp [cI] at h⟩
  | succ n ih =>
    intro c X W s
    obtain ⟨iE, iI⟩ := ih s
    have iL : ∀ {es ys}, cList (cE c n) es = some ys → PA X es (tDA X.K T hx W es.length (wEs G ys)) := fun h => sd_list (fun e ir h => (iE e ir h).1) h
    refine ⟨fun e ir h => ?_, fun tg e ii h => ?_⟩
    · cases e with
      | Name x pos =>
        simp only [cE] at h
        split at h
        · rename_i ho
          split at h
          · rename_i hv
            simp only [Option.map_eq_some_iff] at h
            obtain ⟨i, hi, rfl⟩ := h
            exact of_gen (c := c) (sd_var s hv hi ho) rfl fun ρ A E Q h => h
          · split at h
            · rename_i hc
              cases h
              simp only [Bool.and_eq_true] at hc
              exact of_no (c := c) (sd_globE s hc.1 hc.2 ho) fun ρ A E Q h => h
            · cases h
        · cases h
      | Constant k p1 p2 =>
        simp only [cE] at h
        split at h <;> first | cases h; done | skip
        all_goals cases h
        · exact of_gen (c := c) (sd_cst pe_non (fun μ H => by simp [RelD])) rfl fun ρ A E Q h => h
        · exact of_gen (c := c) (sd_cst pe_bl (fun μ H => by simp [RelD])) rfl fun ρ A E Q h => h
        · exact of_gen (c := c) (sd_cst pe_int (fun μ H => by simp [RelD])) rfl fun ρ A E Q h => h
        · exact of_gen (c := c) (sd_cst pe_str (fun μ H => by simp [RelD])) rfl fun ρ A E Q h => h
      | BinOp a op b pos =>
        simp only [cE] at h
        split at h
        · rename_i x y h1 h2
          cases h
          exact of_gen (c := c) (sd_bin2 (iE a x h1).1 (iE b y h2).1) rfl fun ρ A E Q h => h
        · cases h
      | UnaryOp op a pos =>
        cases op with
        | USub =>
          simp only [cE, Option.map_eq_some_iff] at h
          obtain ⟨x, h1, rfl⟩ := h
          exact of_no (c := c) (sd_neg (iE a x h1).1) fun ρ A E Q h => h
        | Not =>
          simp only [cE, Option.map_eq_some_iff] at h
          obtain ⟨x, h1, rfl⟩ := h
          exact ⟨sd_not (iE a x h1).1, sd_notT (iE a x h1).2⟩
        | _ => simp [cE] at h
      | BoolOp op es pos =>
        match es, h with
        | a :: b :: es, h =>
          simp only [cE] at h
          obtain ⟨k1, k2⟩ := sd_bools (pos := pos) iE op h
          exact ⟨k1, k2.pt⟩
        | [], h => simp [cE] at h
        | [a], h => simp [cE] at h
      | Compare a ops bs pos =>
        match ops, bs, h with
        | [op], [b], h =>
          simp only [cE] at h
          split at h
          · cases h
          · rename_i hm
            split at h
            · rename_i x y h1 h2
              cases h
              exact sd_cmp2 s (iE a x h1).1 (iE b y h2).1 (by simpa using hm)
            · cases h
        | [op, op'], [b, d], h =>
          simp only [cE] at h
          split at h
          · cases h
          · rename_i hm
            split at h
            · rename_i x y z h1 h2 h3
              cases h
              exact sd_chain s (iE a x h1).1 (iE b y h2).1 (iE d z h3).1 (by simpa using hm)
            · cases h
        | [], _, h => simp [cE] at h
        | [_], [], h => simp [cE] at h
        | [_], _ :: _ :: _, h => simp [cE] at h
        | [_, _], [], h => simp [cE] at h
        | [_, _], [_], h => simp [cE] at h
        | [_, _], _ :: _ :: _ :: _, h => simp [cE] at h
        | _ :: _ :: _ :: _, _, h => simp [cE] at h
      | IfExp t a b pos =>
        simp only [cE] at h
        split at h
        · rename_i x y z h1 h2 h3
          cases h
          exact ⟨sd_ite (iE t x h1).2 (iE a y h2).1 (iE b z h3).1, sd_iteT (iE t x h1).2 (iE a y h2).2 (iE b z h3).2⟩
        · cases h
      | Dict ks vs pos =>
        match ks, vs, h with
        | [], [], h =>
          simp only [cE, Option.some.injEq] at h
          subst h
          exact of_no (c := c) sd_dic0 fun ρ A E Q h => h
        | k :: ks, vs, h =>
          simp only [cE] at h
          split at h
          · rename_i hl
            split at h
            · rename_i kk y h1 h2
              cases h
              exact of_no (c := c) (sd_dicN (fun e ir h => (iE e ir h).1) hl.1 hl.2 h1 h2) fun ρ A E Q h => h
            · cases h
          · cases h
        | [], _ :: _, h => simp [cE] at h
      | Tuple es k pos =>
        simp only [cE, Option.map_eq_some_iff] at h
        obtain ⟨ys, h1, rfl⟩ := h
        exact of_no (c := c) (sd_tup (iL h1)) fun ρ A E Q h => h
      | List es pos =>
        simp only [cE, Option.map_eq_some_iff] at h
        obtain ⟨ys, h1, rfl⟩ := h
        exact of_no (c := c) (sd_lst (iL h1)) fun ρ A E Q h => h
      | Subscript a b pos =>
        have gen : ∀ (hb : noSlice b = true), cE c (n + 1) (.Subscript a b pos) = (match noSlice b, cE c n a, cE c n b with | true, some x, some y => some (.ix x y) | _, _, _ => none) := by
          intro hb
          cases b <;> first | rfl | cases hb
        by_cases hb : noSlice b = true
        · rw [gen hb] at h
          split at h
          · rename_i x y h1 h2 h3
            cases h
            exact of_gen (c := c) (sd_ixE s (iE a x h2).1 (iE b y h3).1 hb) rfl fun ρ A E Q h => h
          · cases h
        · cases b with
          | Slice lo hi st p2 =>
            cases st with
            | none =>
              simp only [cE] at h
              split at h
              · rename_i x y z h1 h2 h3
                cases h
                exact of_no (c := c) (sd_slE (iE a x h1).1 (sd_opt (fun e ir h => (iE e ir h).1) h2) (sd_opt (fun e ir h => (iE e ir h).1) h3)) fun ρ A E Q h => h
              · cases h
            | some st => simp [cE, noSlice] at h
          | _ => exact absurd rfl hb
      | Attribute o f pos =>
        cases o with
        | Name e p =>
          simp only [cE] at h
          split at h
          · rename_i he
            simp only [Bool.and_eq_true, decide_eq_true_eq] at he
            simp only [Option.map_eq_some_iff] at h
            obtain ⟨i, h1, rfl⟩ := h
            exact of_no (c := c) (s.fld e i f p pos he.1.1.1 h1 he.1.1.2 he.1.2 he.2) fun ρ A E Q h => h
          · cases h
        | _ => simp [cE] at h
      | ListComp elt gens scope pos =>
        match gens, h with
        | [⟨tg, iter, ifs, asy⟩], h =>
          have has : asy = 0 := by
            refine Classical.byContradiction fun has => ?_
            unfold cE at h
            split at h
            all_goals first | (rename_i e1; cases e1; done) | (rename_i e1; cases e1; exact absurd rfl has) | (rename_i e1 _; cases e1; exact absurd rfl has) | cases h
          subst has
          simp only [cE] at h
          split at h
          · rename_i hh
            obtain ⟨hC, _⟩ := s.hfns hh
            split at h
            · rename_i a hr
              obtain ⟨rp, rpos, rfl⟩ := rng1_at hr
              split at h
              · rename_i hgs
                simp only [Bool.and_eq_true] at hgs
                split at h
                · rename_i g x el h1 h2 h3
                  split at h
                  · rename_i hb
                    have ok := blkOk_by hb
                    have hw : (ownOf c (tgSlots g)).map (·.2) = tgSlots g := by unfold ownOf; rw [List.map_map]; exact List.map_id' _
                    have go : ∀ (t : Ieo), (∀ (s0 : Shared) (H : Hp) (C : Addr) (cl : List (Str × Addr)) (fp : List Addr), PTs (blkH X s0 H scope (compEnvC scope cl C X.env) fp) ifs (tDT X.K T hx W0 (wTo G t))) →
                        PE X (.ListComp elt [⟨tg, _, ifs, 0⟩] scope pos) (tDE X.K T hx W (wE G (.lc g (.rng1 x) t el (tgSlots g)))) := fun t ht => by
                      have r := pe_lcXH (X := X) (pos := pos) (W := W) (T := T) (hx := hx) (wt := wTo G t) (g := g) (own := ownOf c (tgSlots g)) hC (by rw [s.N]; exact s.nd) (pi_rng1XH (p := rp) (pos := rpos) (s.gl hgs.1) (s.bl _ (by decide)) (iE a x h2).1 (star_cons hgs.2)) (by rw [s.N, s.sc]; exact ok)
                        (fun s0 H C cl fp => (sd_tgs n (snd_innerH s hh scope s0 H C cl fp)).1 tg g h1) ht
                        (fun s0 H C cl fp => ((ih (snd_innerH s hh scope s0 H C cl fp)).1 elt el h3).1) (fun _ => rfl) (by rw [hw]; exact fun i h => h)
                      rw [hw] at r
                      exact r
                    split at h
                    · cases h
                      exact of_no (c := c) (go .no fun s0 H C cl fp => ⟨fun pins s1 σ H Q I ⟨μ, ρ, A, E, Q', p, h, fin⟩ => pts_nil.run pins s1 σ H Q I (fin true H μ A .refl p.h h)⟩) fun ρ A E Q h => h
                    · rename_i t
                      simp only [Option.map_eq_some_iff] at h
                      obtain ⟨t', h4, rfl⟩ := h
                      exact of_no (c := c) (go (.so t') fun s0 H C cl fp => pts_one ((ih (snd_innerH s hh scope s0 H C cl fp)).1 t t' h4).2) fun ρ A E Q h => h
                    · cases h
                  · cases h
                · cases h
              · cases h
            · cases h
          · rename_i hh
            have hh : c.hot = false := by simpa using hh
            split at h
            · rename_i g it el h1 h2 h3
              split at h
              · rename_i hb
                have ok := blkOk_by hb
                have hw : (ownOf c (tgSlots g)).map (·.2) = tgSlots g := by unfold ownOf; rw [List.map_map]; exact List.map_id' _
                have go : ∀ (t : Ieo), (∀ (s0 : Shared) (H : Hp) (C : Addr) (cl : List (Str × Addr)) (fp : List Addr), PTs (X.blk s0 H scope (compEnvC scope cl C X.env) fp) ifs (tDT X.K T hx W0 (wTo G t))) →
                    PE X (.ListComp elt [⟨tg, iter, ifs, 0⟩] scope pos) (tDE X.K T hx W (wE G (.lc g it t el (tgSlots g)))) := fun t ht => by
                  have r := pe_lcX (X := X) (pos := pos) (W := W) (T := T) (hx := hx) (wt := wTo G t) (g := g) (own := ownOf c (tgSlots g)) (s.calm hh) (by rw [s.N]; exact s.nd) (iI tg iter it h2).1 (by rw [s.N, s.sc]; exact ok)
                    (fun s0 H C cl fp => (sd_tgs n (snd_inner s hh scope s0 H C cl fp)).1 tg g h1) ht
                    (fun s0 H C cl fp => ((ih (snd_inner s hh scope s0 H C cl fp)).1 elt el h3).1) (fun x => (iI tg iter it h2).2 _ x) (by rw [hw]; exact fun i h => h)
                  rw [hw] at r
                  exact r
                split at h
                · cases h
                  exact of_no (c := c) (go .no fun s0 H C cl fp => ⟨fun pins s1 σ H Q I ⟨μ, ρ, A, E, Q', p, h, fin⟩ => pts_nil.run pins s1 σ H Q I (fin true H μ A .refl p.h h)⟩) fun ρ A E Q h => h
                · rename_i t
                  simp only [Option.map_eq_some_iff] at h
                  obtain ⟨t', h4, rfl⟩ := h
                  exact of_no (c := c) (go (.so t') fun s0 H C cl fp => pts_one ((ih (snd_inner s hh scope s0 H C cl fp)).1 t t' h4).2) fun ρ A E Q h => h
                · cases h
              · cases h
            · cases h
        | [], h => simp [cE] at h
        | _ :: _ :: _, h => simp [cE] at h
      | Call fn es ks pos =>
        cases ks with
        | cons k ks =>
          cases fn with
          | Name f p =>
            simp only [cE] at h
            split at h
            · rename_i hg
              simp only [Bool.and_eq_true, Bool.not_eq_true'] at hg
              split at h
              · rename_i ns kk hns hfn
                split at h
                · rename_i pm xs ys h1 h2 h3
                  split at h
                  · rename_i hp
                    cases h
                    simp only [Bool.and_eq_true, List.all_eq_true, decide_eq_true_eq] at hp
                    exact of_gen (c := c) (sd_callk s.tk (s.kws hg.2 f _ ns pm h1) (s.gl hg.1.2) hg.1.1 hns (cList_stars h2) (cList_nil h2) (iL h2) (sd_kws (fun e ir h => (iE e ir h).1) h3) hp.2) rfl fun ρ A E Q h => h
                  · cases h
                · cases h
              · cases h
            · cases h
          | _ => cases h
        | nil =>
          cases fn with
          | Attribute o m apos =>
            simp only [cE] at h
            split at h
            · rename_i mi x ys h1 h2 h3
              split at h
              · rename_i hb
                cases h
                simp only [Bool.and_eq_true, decide_eq_true_eq] at hb
                exact of_gen (c := c) (sd_mtE h1 (iE o x h2).1 (cList_stars h3) (cList_nil h3) (iL h3) hb.1.1 hb.1.2 hb.2) rfl fun ρ A E Q h => h
              · cases h
            · cases h
          | Name f p =>
            simp only [cE] at h
            split at h
            · rename_i hg
              simp only [Bool.and_eq_true] at hg
              split at h
              · rename_i k hk
                split at h
                · rename_i hl
                  simp only [Option.map_eq_some_iff] at h
                  obtain ⟨ys, h1, rfl⟩ := h
                  exact of_gen (c := c) (sd_callD s hk hg.2 hg.1 (cList_stars h1) (cList_nil h1) hl (iL h1)) rfl fun ρ A E Q h => h
                · cases h
              · have bi : ∀ {e r}, (match biOf f with | some b => if c.hot && needCalm b then none else (cList (cE c n) (e :: r)).map (.bi b) | none => none) = some ir →
                    PE X (.Call (.Name f p) (e :: r) [] pos) (tDE X.K T hx W (wE G ir)) ∧ PT X (.Call (.Name f p) (e :: r) [] pos) (tDT X.K T hx W (wT G ir)) := fun {e r} h => by
                  split at h
                  · rename_i b hb
                    split at h
                    · cases h
                    · rename_i hc
                      simp only [Option.map_eq_some_iff] at h
                      obtain ⟨ys, h1, rfl⟩ := h
                      refine of_gen (c := c) (sd_biE s hb hg.2 hg.1 (fun nc => s.calm ?_) (cList_stars h1) (iL h1)) rfl fun ρ A E Q h => h
                      rw [nc] at hc
                      simpa using hc
                  · cases h
                split at h
                · rename_i rs hrs
                  obtain ⟨p2, pos2, rfl, hft⟩ := lrg_at hrs
                  split at h
                  · rename_i hcc
                    simp only [Bool.and_eq_true, Bool.not_eq_true'] at hcc
                    split at h
                    · split at h
                      · rename_i hst
                        simp only [Option.map_eq_some_iff] at h
                        obtain ⟨x, h1, rfl⟩ := h
                        exact of_no (c := c) (sd_lrg1 s hcc.2 hft hg.2 hcc.1.1 hst (iE _ x h1).1) fun ρ A E Q h => h
                      · cases h
                    · split at h
                      · rename_i hst
                        simp only [Bool.and_eq_true] at hst
                        split at h
                        · rename_i x y h1 h2
                          cases h
                          exact of_no (c := c) (sd_lrg2 s hcc.2 hft hg.2 hcc.1.1 hst.1 hst.2 (iE _ x h1).1 (iE _ y h2).1) fun ρ A E Q h => h
                        · cases h
                      · cases h
                    · cases h
                  · cases h
                split at h
                · rename_i e hre
                  obtain ⟨rfl, rfl⟩ := rpr_at hre
                  split at h
                  · rename_i hcc
                    simp only [Bool.and_eq_true, Bool.not_eq_true'] at hcc
                    simp only [Option.map_eq_some_iff] at h
                    obtain ⟨x, h1, rfl⟩ := h
                    exact of_no (c := c) (sd_rpr s hcc.2 hcc.1.1 hg.2 hcc.1.2 (iE _ x h1).1) fun ρ A E Q h => h
                  · cases h
                split at h
                · rename_i e hse
                  obtain ⟨p2, pos2, rfl, rfl⟩ := set_at hse
                  split at h
                  · rename_i hcc
                    simp only [Bool.and_eq_true, Bool.not_eq_true'] at hcc
                    simp only [Option.map_eq_some_iff] at h
                    obtain ⟨x, h1, rfl⟩ := h
                    exact of_no (c := c) (sd_sset s hcc.2 hg.2 hcc.1.1.1 hcc.1.2 (iE _ x h1).1) fun ρ A E Q h => h
                  · cases h
                split at h
                · rename_i e ts hts
                  obtain ⟨p1, xs, kk, tpos, rfl, rfl, hnm⟩ := isx_at hts
                  split at h
                  · rename_i hcc
                    simp only [Bool.and_eq_true, decide_eq_true_eq, List.all_eq_true] at hcc
                    simp only [Option.map_eq_some_iff] at h
                    obtain ⟨i, h1, rfl⟩ := h
                    exact of_gen (c := c) (s.isxs e i ts xs kk p p1 tpos pos hcc.1.1.1.1 h1 hcc.1.1.1.2 hcc.1.1.2 hcc.1.2 hnm (fun t ht => ⟨(hcc.2 t ht).1.1, (hcc.2 t ht).1.2, (hcc.2 t ht).2⟩) hg.2) rfl fun ρ A E Q h => h
                  · cases h
                split at h
                · rename_i a t p2 _ _ _ _
                  split at h
                  · rename_i hi
                    subst hi
                    split at h
                    · rename_i ty ht
                      split at h
                      · rename_i hgt
                        simp only [Bool.and_eq_true] at hgt
                        simp only [Option.map_eq_some_iff] at h
                        obtain ⟨y, h1, rfl⟩ := h
                        exact of_gen (c := c) (sd_isiE s ht hgt.1.1 hgt.1.2 hg.2 hgt.2 (iE a y h1).1) rfl fun ρ A E Q h => h
                      · cases h
                    · split at h
                      · rename_i e p1 _ _ _ _
                        split at h
                        · rename_i hc
                          simp only [Bool.and_eq_true, decide_eq_true_eq] at hc
                          simp only [Option.map_eq_some_iff] at h
                          obtain ⟨i, h1, rfl⟩ := h
                          exact of_gen (c := c) (s.isx e i t p p1 p2 pos hc.1.1.1.1.1 h1 hc.1.1.1.1.2 hc.1.1.1.2 hc.1.1.2 hc.1.2 hc.2 hg.2) rfl fun ρ A E Q h => h
                        · cases h
                      · cases h
                  · exact bi h
                · exact bi h
                · cases h
            · cases h
          | _ => simp [cE] at h
      | _ => simp [cE] at h
    · have seq : ∀ {x}, cE c n e = some x → notSet e = true → PI X tg e (tDI X.K T hx W (wI G (.seq x))) ∧ ∀ env x, foldedSetIterable e env x = pure x := fun {x} h hs =>
        ⟨pi_seqX (iE e x h).1, fold_pure hs⟩
      have seq' : (cE c n e).map Ii.seq = some ii → notSet e = true → PI X tg e (tDI X.K T hx W (wI G ii)) ∧ ∀ env x, foldedSetIterable e env x = pure x := fun h hs => by
        simp only [Option.map_eq_some_iff] at h
        obtain ⟨x, h1, rfl⟩ := h
        exact seq h1 hs
      clear seq
      cases e with
      | Set => cases h
      | Call fn es ks pos =>
        cases ks with
        | cons k ks => exact seq' (by cases fn <;> exact h) rfl
        | nil =>
          cases fn with
          | Name f p =>
            simp only [cI] at h
            split at h
            · rename_i hg
              simp only [Bool.and_eq_true] at hg
              revert h seq'
              match es with
              | [a] =>
                intro seq' h
                dsimp only at h
                split at h
                · rename_i ha
                  split at h
                  · rename_i hf
                    subst hf
                    simp only [Option.map_eq_some_iff] at h
                    obtain ⟨x, h1, rfl⟩ := h
                    exact ⟨pi_rng1X (s.gl hg.1.2) (s.bl _ (by decide)) (iE a x h1).1 (star_cons ha), fold_pure rfl⟩
                  · split at h
                    · rename_i hf
                      subst hf
                      split at h
                      · simp only [Option.map_eq_some_iff] at h
                        obtain ⟨x, h1, rfl⟩ := h
                        exact ⟨pi_enumX (s.gl hg.1.2) (s.bl _ (by decide)) (iE a x h1).1 (star_cons ha), fold_pure rfl⟩
                      · cases h
                    · split at h
                      · rename_i hf
                        subst hf
                        simp only [Option.map_eq_some_iff] at h
                        obtain ⟨x, h1, rfl⟩ := h
                        exact ⟨pi_revX (s.gl hg.1.2) (s.bl _ (by decide)) (iE a x h1).1 (star_cons ha), fold_pure rfl⟩
                      · exact seq' h rfl
                · cases h
              | [a, b] =>
                intro seq' h
                dsimp only at h
                split at h
                · rename_i ha
                  simp only [Bool.and_eq_true] at ha
                  split at h
                  · rename_i x y h1 h2
                    split at h
                    · rename_i hf
                      subst hf
                      cases h
                      exact ⟨pi_rng2X (s.gl hg.1.2) (s.bl _ (by decide)) (iE a x h1).1 (iE b y h2).1 (star_cons ha.1) (star_cons ha.2), fold_pure rfl⟩
                    · split at h
                      · rename_i hf
                        subst hf
                        split at h
                        · cases h
                          exact ⟨pi_zipX (s.gl hg.1.2) (s.bl _ (by decide)) (iE a x h1).1 (iE b y h2).1 (star_cons ha.1) (star_cons ha.2), fold_pure rfl⟩
                        · cases h
                      · cases h
                  · cases h
                · cases h
              | [] => intro seq' h; cases h
              | [a, b, d] =>
                intro seq' h
                replace h : (if (noStar a && noStar b && noStar d && decide (f = "range")) = true then (match cE c n a, cE c n b, cE c n d with | some x, some y, some z => some (Ii.rng3 x y z) | _, _, _ => none) else none) = some ii := h
                split at h
                · rename_i ha
                  simp only [Bool.and_eq_true, decide_eq_true_eq] at ha
                  obtain ⟨⟨⟨ha, hb⟩, hd⟩, hf⟩ := ha
                  subst hf
                  split at h
                  · rename_i x y z h1 h2 h3
                    cases h
                    exact ⟨pi_rng3X (s.gl hg.1.2) (s.bl _ (by decide)) (iE a x h1).1 (iE b y h2).1 (iE d z h3).1 (star_cons ha) (star_cons hb) (star_cons hd) (by rw [no_star]; intro e' he; rcases List.mem_cons.mp he with rfl | he; exact hb; rw [List.mem_singleton.mp he]; exact hd), fold_pure rfl⟩
                  · cases h
                · cases h
              | _ :: _ :: _ :: _ :: _ => intro seq' h; cases h
            · exact seq' h rfl
          | _ => exact seq' h rfl
      | _ => exact seq' h rfl
end
end Px
end TextPx12

section TextPx13
set_option autoImplicit false
set_option maxRecDepth 100000
set_option maxHeartbeats 8000000
/-! Px13: statements are sound (loops, stores; raise and try by their own rules). -/
namespace Px
open PySem PySem.Spec PyProof.Rows L2
/-- what is wanted at the ends, carried over -/
structure Fit (K : PySem.W.Frag) (T : Tab) (hx : HX) (W : WX) (N : Dn) (D : Ends) (μ : List Addr) (H : Hp) : Prop where
  nx : ∀ μ' ρ' A' σ' H', Stp μ H μ' H' → RelS K hx μ' H' ρ' σ' → HR K μ' A' H' → N.nx ρ' A' → D.nx σ' H'
  rt : ∀ v H', Up K μ H N.rt v H' → D.rt v H'
  bk : ∀ μ' ρ' A' σ' H', Stp μ H μ' H' → RelS K hx μ' H' ρ' σ' → HR K μ' A' H' → N.bk ρ' A' → D.bk σ' H'
  ct : ∀ μ' ρ' A' σ' H', Stp μ H μ' H' → RelS K hx μ' H' ρ' σ' → HR K μ' A' H' → N.ct ρ' A' → D.ct σ' H'
  xe : ∀ μ' ρ' σ' H' c dd H'', Stp μ H μ' H' → RelS K hx μ' H' ρ' σ' → UpX K T μ' H' (N.xe ρ') c dd H'' → W c dd σ' H''
abbrev WS := Dn → Rho → Ht → Prop
def tDS (K : PySem.W.Frag) (T : Tab) (hx : HX) (W : WX) (w : WS) : TS := fun D σ H => ∃ μ ρ A N, RelS K hx μ H ρ σ ∧ HR K μ A H ∧ Fit K T hx W N D μ H ∧ w N ρ A
section
variable {K : PySem.W.Frag} {T : Tab} {hx : HX} {W : WX} {N : Dn} {D : Ends} {μ μ' : List Addr} {H H' : Hp}
theorem Fit.step (f : Fit K T hx W N D μ H) (s : Stp μ H μ' H') : Fit K T hx W N D μ' H' where
  nx := fun μ2 ρ2 A2 σ2 H2 s2 => f.nx μ2 ρ2 A2 σ2 H2 (s.trans s2)
  rt := fun v H2 u => f.rt v H2 (u.step s)
  bk := fun μ2 ρ2 A2 σ2 H2 s2 => f.bk μ2 ρ2 A2 σ2 H2 (s.trans s2)
  ct := fun μ2 ρ2 A2 σ2 H2 s2 => f.ct μ2 ρ2 A2 σ2 H2 (s.trans s2)
  xe := fun μ2 ρ2 σ2 H2 c dd H3 s2 => f.xe μ2 ρ2 σ2 H2 c dd H3 (s.trans s2)
theorem Fit.pk {ρ : Rho} {A : Ht} {σ : L2.St} (f : Fit K T hx W N D μ H) (s : RelS K hx μ H ρ σ) (h : HR K μ A H) : Pk K T hx W μ ρ A (N.xe ρ) σ H := ⟨s, h, fun c dd H2 u => f.xe μ ρ σ H c dd H2 .refl s u⟩
end
theorem PS.weaken {X : Cx} {st : Stmt} {t t' : TS} (h : PS X st t) (k : ∀ D σ H, t' D σ H → t D σ H) : PS X st t' := ⟨fun pins s σ H D I q => h.run pins s σ H D I (k D σ H q)⟩
theorem PSs.weaken {X : Cx} {st : List Stmt} {t t' : TS} (h : PSs X st t) (k : ∀ D σ H, t' D σ H → t D σ H) : PSs X st t' := ⟨fun pins s σ H D I q => h.run pins s σ H D I (k D σ H q)⟩
section
variable {X : Cx} {G : Env'} {T : Tab} {hx : HX} {W : WX} {pos : Pos}
def noComp : Expr → Bool
  | .ListComp .. => false | .SetComp .. => false | .DictComp .. => false | _ => true
def noTup : Expr → Bool
  | .Tuple .. => false | _ => true
theorem sw_no {e : Expr} (h : noComp e = true) (t : Option Expr) (l : Nat) (env : Env) : swapsWith e t l env = pure false := by
  cases e <;> first | rfl | cases h
theorem sws_no {e : Expr} (h : noComp e = true) (t : Expr) (l : Nat) (env : Env) : swapsWithSole [t] e l env = pure false := sw_no h _ _ _
theorem stores_no {e : Expr} (h : noTup e = true) (t : Expr) (env : Env) : swappedStores [t] e env = pure none := by
  unfold swappedStores
  cases e <;> first | cases h; done | (cases t <;> rfl)
theorem ss_nil : PSs X [] (tDS X.K T hx W (wSs G .nil)) := PSs.weaken pss_nil fun D σ H ⟨μ, ρ, A, N, rs, hr, f, q⟩ => f.nx μ ρ A σ H .refl rs hr q
theorem ss_cons {st : Stmt} {rest : List Stmt} {i : Is} {is : Iss} (h1 : PS X st (tDS X.K T hx W (wS G i))) (h2 : PSs X rest (tDS X.K T hx W (wSs G is))) : PSs X (st :: rest) (tDS X.K T hx W (wSs G (.cons i is))) :=
  PSs.weaken (pss_cons h1 h2) fun D σ H ⟨μ, ρ, A, N, rs, hr, f, q⟩ => ⟨μ, ρ, A, { N with nx := fun ρ' A' => wSs G is N ρ' A' }, rs, hr, ⟨fun μ' ρ' A' σ' H' s r h q => ⟨μ', ρ', A', N, r, h, f.step s, q⟩, f.rt, f.bk, f.ct, f.xe⟩, q⟩
theorem ss_set {i : Nat} {x : Str} {e : Expr} {ir : Ie} {p : Pos} (hN : X.N.Nodup) (hi : X.N[i]? = some x) (hx' : Loc X.env.scope x) (hf : X.fn x = true ∨ X.env.scope.names.lookup x = some .local) (he : PE X e (tDE X.K T hx W (wE G ir)))
    (hs : swapsWith e (some (.Name x p)) pos.line X.env = pure false) : PS X (.Assign [.Name x p] e pos) (tDS X.K T hx W (wS G (.set i ir))) :=
  PS.weaken (ps_set hN hi hx' he hs hf) fun D σ H ⟨μ, ρ, A, N, rs, hr, f, q⟩ => tDE.go (f.pk rs hr) q fun v H1 μ1 d A1 s1 r1 p1 q1 => f.nx μ1 _ A1 _ H1 s1 (p1.s.set i r1) p1.h q1
theorem ss_asg {tg e : Expr} {g : Tg} {ir : Ie} (he : PE X e (tDE X.K T hx W (wE G ir))) (hg : PG X tg (gD X.K hx g)) (h1 : noComp e = true) (h2 : noTup e = true) (h3 : noStar tg = true) : PS X (.Assign [tg] e pos) (tDS X.K T hx W (wS G (.asg g ir))) :=
  PS.weaken (ps_asg he hg (sws_no h1 _ _ _) (stores_no h2 _ _) (by rw [assign_cons h3]; rfl)) fun D σ H ⟨μ, ρ, A, N, rs, hr, f, q⟩ => tDE.go (f.pk rs hr) q fun v H1 μ1 d A1 s1 r1 p1 q1 => by
    unfold tgD at q1
    split at q1
    · rename_i ρ' e
      exact ⟨μ1, ρ, d, ρ', p1.s, r1, e, fun σ' rs' _ => f.nx μ1 ρ' A1 σ' H1 s1 rs' p1.h q1⟩
    · exact q1.elim
theorem ss_ex {e : Expr} {ir : Ie} (he : PE X e (tDE X.K T hx W (wE G ir))) (h1 : noComp e = true) : PS X (.Expr e pos) (tDS X.K T hx W (wS G (.ex ir))) :=
  PS.weaken (ps_expr he (sw_no h1 _ _ _)) fun D σ H ⟨μ, ρ, A, N, rs, hr, f, q⟩ => tDE.go (f.pk rs hr) q fun v H1 μ1 d A1 s1 r1 p1 q1 => f.nx μ1 _ A1 _ H1 s1 p1.s p1.h q1
theorem ss_ret {e : Expr} {ir : Ie} (he : PE X e (tDE X.K T hx W (wE G ir))) : PS X (.Return (some e) pos) (tDS X.K T hx W (wS G (.ret ir))) :=
  PS.weaken (ps_ret he) fun D σ H ⟨μ, ρ, A, N, rs, hr, f, q⟩ => tDE.go (f.pk rs hr) q fun v H1 μ1 d A1 s1 r1 p1 q1 => f.rt v H1 ⟨μ1, d, A1, s1, r1, p1.h, q1⟩
theorem ss_retN : PS X (.Return none pos) (tDS X.K T hx W (wS G .retN)) :=
  PS.weaken ps_retN fun D σ H ⟨μ, ρ, A, N, rs, hr, f, q⟩ => f.rt .non H ⟨μ, .non, A, .refl, to_non, hr, q⟩
theorem ss_pass : PS X (.Pass pos) (tDS X.K T hx W (wS G .pss)) := PS.weaken ps_pass fun D σ H ⟨μ, ρ, A, N, rs, hr, f, q⟩ => f.nx μ ρ A σ H .refl rs hr q
theorem ss_doc {x : Str} {j : Nat} {p : Pos} : PS X (.Expr (.Constant (.str x) j p) pos) (tDS X.K T hx W (wS G .pss)) := PS.weaken ps_doc fun D σ H ⟨μ, ρ, A, N, rs, hr, f, q⟩ => f.nx μ ρ A σ H .refl rs hr q
theorem ss_brk : PS X (.Break pos) (tDS X.K T hx W (wS G .brk)) := PS.weaken ps_break fun D σ H ⟨μ, ρ, A, N, rs, hr, f, q⟩ => f.bk μ ρ A σ H .refl rs hr q
theorem ss_cnt : PS X (.Continue pos) (tDS X.K T hx W (wS G .cnt)) := PS.weaken ps_continue fun D σ H ⟨μ, ρ, A, N, rs, hr, f, q⟩ => f.ct μ ρ A σ H .refl rs hr q
theorem ss_if {t : Expr} {a b : List Stmt} {it : Ie} {ia ib : Iss} (ht : PT X t (tDT X.K T hx W (wT G it))) (ha : PSs X a (tDS X.K T hx W (wSs G ia))) (hb : PSs X b (tDS X.K T hx W (wSs G ib))) : PS X (.If t a b pos) (tDS X.K T hx W (wS G (.ife it ia ib))) :=
  PS.weaken (ps_if ht ha hb) fun D σ H ⟨μ, ρ, A, N, rs, hr, f, q⟩ => tDT.go (f.pk rs hr) q fun c H1 μ1 A1 s1 p1 q1 => by
    cases c with
    | true => exact ⟨μ1, ρ, A1, N, p1.s, p1.h, f.step s1, by simpa using q1⟩
    | false => exact ⟨μ1, ρ, A1, N, p1.s, p1.h, f.step s1, by simpa using q1⟩
theorem ss_while {t : Expr} {b : List Stmt} {it : Ie} {ib : Iss} (hp : PassesOwn (model X.prog X.w) X.A X.env X.xe) (ht : PT X t (tDT X.K T hx W (wT G it))) (hb : PSs X b (tDS X.K T hx W (wSs G ib))) : PS X (.While t b [] pos) (tDS X.K T hx W (wS G (.whl it ib))) := by
  refine PS.weaken (ps_while hp ht hb) fun D σ H ⟨μ, ρ, A, N, rs, hr, f, q⟩ => ?_
  obtain ⟨J, ⟨m, j⟩, turn⟩ := q
  refine ⟨fun m σ' H' => ∃ μ' ρ' A', Stp μ H μ' H' ∧ RelS X.K hx μ' H' ρ' σ' ∧ HR X.K μ' A' H' ∧ J m ρ' A', ⟨m, μ, ρ, A, .refl, rs, hr, j⟩, ?_⟩
  rintro m σ1 H1 ⟨μ1, ρ1, A1, s1, rs1, hr1, j1⟩
  refine tDT.go ((f.step s1).pk rs1 hr1) (turn m ρ1 A1 j1) fun c H2 μ2 A2 s2 p2 q2 => ?_
  cases c with
  | true =>
    simp only [if_true] at q2 ⊢
    refine ⟨fun σ' H' => ∃ m', m' < m ∧ ∃ μ' ρ' A', Stp μ H μ' H' ∧ RelS X.K hx μ' H' ρ' σ' ∧ HR X.K μ' A' H' ∧ J m' ρ' A', fun σ' H' h => h, μ2, ρ1, A2, _, p2.s, p2.h, ?_, q2⟩
    have f2 := f.step (s1.trans s2)
    exact ⟨fun μ' ρ' A' σ' H' s r h ⟨m', lt, j⟩ => ⟨m', lt, μ', ρ', A', (s1.trans s2).trans s, r, h, j⟩, f2.rt, fun μ' ρ' A' σ' H' s r h q => f2.nx μ' ρ' A' σ' H' s r h q, fun μ' ρ' A' σ' H' s r h ⟨m', lt, j⟩ => ⟨m', lt, μ', ρ', A', (s1.trans s2).trans s, r, h, j⟩, f2.xe⟩
  | false =>
    simp only [Bool.false_eq_true, if_false] at q2 ⊢
    exact f.nx μ2 ρ1 A2 σ1 H2 (s1.trans s2) p2.s p2.h q2
theorem ss_forT {tg iter : Expr} {b : List Stmt} {g : Tg} {ii : Ii} {ib : Iss} (hps : PS X (.For tg iter b [] pos) (tFor (tDI X.K T hx W (wI G ii)) (gD X.K hx g) (tDS X.K T hx W (wSs G ib)))) :
    PS X (.For tg iter b [] pos) (tDS X.K T hx W (wS G (.fr g ii ib))) := by
  refine PS.weaken hps fun D σ H ⟨μ, ρ, A, N, rs, hr, f, q⟩ => ?_
  refine ⟨μ, ρ, A, _, _, f.pk rs hr, q, fun J H1 μ1 wk A1 s1 hr1 wd q1 => ?_⟩
  refine ⟨fun i m σ' H' => m = wk.items.length - i ∧ i ≤ wk.items.length ∧ ∃ μ' ρ' A', Stp μ1 H1 μ' H' ∧ RelS X.K hx μ' H' ρ' σ' ∧ HR X.K μ' A' H' ∧ loopD wk.ok (fun d ρ A k => tgD g d ρ fun ρ' => wSs G ib (N.lop k) ρ' A) N.nx (wk.items.drop i) ρ' A',
    ⟨wk.items.length, by simp, Nat.zero_le _, μ1, ρ, A1, .refl, rs.mono s1, hr1, by simpa using q1⟩, ?_⟩
  rintro i m σ2 H2 ⟨rfl, hle, μ2, ρ2, A2, s2, rs2, hr2, l⟩
  by_cases hlt : i < wk.items.length
  · rw [List.drop_eq_getElem_cons hlt] at l
    obtain ⟨ok, l⟩ := l
    refine .inr ⟨wd.go i μ2 A2 H2 hlt s2 hr2 ok, fun σ' H' => ∃ μ' ρ' A', Stp μ1 H1 μ' H' ∧ RelS X.K hx μ' H' ρ' σ' ∧ HR X.K μ' A' H' ∧ loopD wk.ok (fun d ρ A k => tgD g d ρ fun ρ' => wSs G ib (N.lop k) ρ' A) N.nx (wk.items.drop (i + 1)) ρ' A',
      fun σ' H' n => ⟨wk.items.length - (i + 1), by omega, rfl, hlt, n⟩, fun x H3 y => ?_⟩
    obtain ⟨d, ed, rd, s3, hr3⟩ := wd.yld i μ2 A2 H2 x H3 hlt s2 hr2 ok y
    rw [List.getElem?_eq_getElem hlt] at ed
    cases ed
    unfold tgD at l
    split at l
    · rename_i ρ3 e
      refine ⟨μ2, ρ2, _, ρ3, rs2.mono s3, rd, e, fun σ3 rs3 _ => ⟨μ2, ρ3, A2, _, rs3, hr3, ?_, l⟩⟩
      have f3 := f.step (s1.trans (s2.trans s3))
      have s23 := s2.trans s3
      exact ⟨fun μ' ρ' A' σ' H' s r h q => ⟨μ', ρ', A', s23.trans s, r, h, q⟩, f3.rt, fun μ' ρ' A' σ' H' s r h q => f3.nx μ' ρ' A' σ' H' s r h q, fun μ' ρ' A' σ' H' s r h q => ⟨μ', ρ', A', s23.trans s, r, h, q⟩, f3.xe⟩
    · exact l.elim
  · have e : i = wk.items.length := by omega
    subst e
    rw [List.drop_length] at l
    obtain ⟨ok, l⟩ := l
    exact .inl ⟨wd.stop μ2 A2 H2 s2 hr2 ok, f.nx μ2 ρ2 A2 σ2 H2 (s1.trans s2) rs2 hr2 l⟩
theorem ss_for {tg iter : Expr} {b : List Stmt} {g : Tg} {ii : Ii} {ib : Iss} (hp : PassesOwn (model X.prog X.w) X.A X.env X.xe) (hc : X.calm = true) (hi : PI X tg iter (tDI X.K T hx W (wI G ii))) (hs : ∀ x, foldedSetIterable iter X.env x = pure x) (hg : PG X tg (gD X.K hx g)) (hb : PSs X b (tDS X.K T hx W (wSs G ib))) :
    PS X (.For tg iter b [] pos) (tDS X.K T hx W (wS G (.fr g ii ib))) := ss_forT (ps_for hp hc hi hg hb hs)
theorem ss_forH {tg iter : Expr} {b : List Stmt} {g : Tg} {ii : Ii} {ib : Iss} (hp : PassesOwn (model X.prog X.w) X.A X.env X.xe) (hc : L2H.HotC X) (hi : L2H.PIH X tg iter (tDI X.K T hx W (wI G ii))) (hs : ∀ x, foldedSetIterable iter X.env x = pure x) (hg : PG X tg (gD X.K hx g)) (hb : PSs X b (tDS X.K T hx W (wSs G ib))) :
    PS X (.For tg iter b [] pos) (tDS X.K T hx W (wS G (.fr g ii ib))) := ss_forT (L2H.ps_forH hp hc hi hg hb hs)
/-- a tuple's parts to names that are not all local: one after the other -/
def swapNone (kd : Str → Option NameKind) (ts : List Expr) : Bool := ts.any fun | .Name x _ => !(kd x == some .local) | _ => true
theorem sw_tupT {ts : List Expr} {k : Nat} {p : Pos} (e : Expr) (l : Nat) (env : Env) : swapsWith e (some (.Tuple ts k p)) l env = pure false := by
  unfold swapsWith
  cases e <;> rfl
theorem sw_subT {o i : Expr} {p : Pos} (e : Expr) (l : Nat) (env : Env) : swapsWith e (some (.Subscript o i p)) l env = pure false := by
  unfold swapsWith
  cases e <;> rfl
theorem sws_tup {ts : List Expr} {k : Nat} {p : Pos} (e : Expr) (l : Nat) (env : Env) : swapsWithSole [.Tuple ts k p] e l env = pure false := sw_tupT (ts := ts) (k := k) (p := p) e l env
theorem sws_sub {o i : Expr} {p : Pos} (e : Expr) (l : Nat) (env : Env) : swapsWithSole [.Subscript o i p] e l env = pure false := sw_subT (o := o) (i := i) (p := p) e l env
theorem filterMap_lt {α β : Type} {f : α → Option β} : ∀ {l : List α}, (∃ x ∈ l, f x = none) → (l.filterMap f).length < l.length
  | [], ⟨x, hx, _⟩ => by cases hx
  | a :: r, ⟨x, hx, e⟩ => by
    have := List.length_filterMap_le f r
    rw [List.filterMap_cons]
    cases h : f a with
    | none => simp only [List.length_cons]; omega
    | some b =>
      have hr : ∃ x ∈ r, f x = none := by
        rcases List.mem_cons.mp hx with rfl | hx
        · rw [e] at h; cases h
        · exact ⟨x, hx, e⟩
      have := filterMap_lt hr
      simp only [List.length_cons]; omega
theorem stores_none {ts vs : List Expr} {k k2 : Nat} {p p2 : Pos} {env : Env} (h : swapNone (fun x => env.kindOf x) ts = true) : swappedStores [.Tuple ts k p] (.Tuple vs k2 p2) env = pure none := by
  unfold swapNone at h
  rw [List.any_eq_true] at h
  obtain ⟨x, hx, e⟩ := h
  have key : ∀ line : Nat, (ts.filterMap fun | .Name id pos => if env.kindOf id == some .local && pos.line == line then some id else none | _ => none).length ≠ ts.length := fun line => by
    refine Nat.ne_of_lt (filterMap_lt ⟨x, hx, ?_⟩)
    cases x <;> first | rfl | (simp only [Bool.not_eq_true'] at e; simp only [e, Bool.false_and]; rfl)
  unfold swappedStores
  dsimp only
  split
  · rfl
  · split
    · rfl
    · rw [if_pos]
      have := key ((ts.head?.map (·.pos.line)).getD 0)
      simp only [bne_iff_ne, ne_eq, Bool.or_eq_true, decide_eq_true_eq]
      exact .inl this
theorem ss_asgP {ts vs : List Expr} {k k2 : Nat} {p p2 : Pos} {g : Tg} {ir : Ie} (he : PE X (.Tuple vs k2 p2) (tDE X.K T hx W (wE G ir))) (hg : PG X (.Tuple ts k p) (gD X.K hx g)) (h : swapNone (fun x => X.env.kindOf x) ts = true) : PS X (.Assign [.Tuple ts k p] (.Tuple vs k2 p2) pos) (tDS X.K T hx W (wS G (.asg g ir))) :=
  PS.weaken (ps_asg he hg (sws_tup _ _ _) (stores_none h) rfl) fun D σ H ⟨μ, ρ, A, N, rs, hr, f, q⟩ => tDE.go (f.pk rs hr) q fun v H1 μ1 d A1 s1 r1 p1 q1 => by
    unfold tgD at q1
    split at q1
    · rename_i ρ' e
      exact ⟨μ1, ρ, d, ρ', p1.s, r1, e, fun σ' rs' _ => f.nx μ1 ρ' A1 σ' H1 s1 rs' p1.h q1⟩
    · exact q1.elim
theorem ss_aug {i : Nat} {x : Str} {e : Expr} {ir : Ie} {op : Operator} {p : Pos} (hop : op = .Add ∨ op = .Sub) (hN : X.N.Nodup) (hi : X.N[i]? = some x) (hx' : Loc X.env.scope x) (hf : X.fn x = true ∨ X.env.scope.names.lookup x = some .local) (he : PE X e (tDE X.K T hx W (wE G ir))) :
    PS X (.AugAssign (.Name x p) op e pos) (tDS X.K T hx W (wS G (.aug i op ir))) := by
  have go : ∀ (h : Int → Int → Int), (∀ a b A Q, binD op (.int a) (.int b) A Q → Q (.int (h a b)) A) → PIp X op (ipI h) → PS X (.AugAssign (.Name x p) op e pos) (tDS X.K T hx W (wS G (.aug i op ir))) := fun h hb hip => by
    refine PS.weaken (ps_aug hN hi hx' he hip hf) fun D σ H ⟨μ, ρ, A, N, rs, hr, f, q⟩ => ?_
    change varD ρ i _ at q
    unfold varD at q
    split at q
    · rename_i d e1
      obtain ⟨v, ev, r⟩ := rs.val i d e1
      refine ⟨v, ev, ?_⟩
      replace q := varK_at q
      cases d with
      | exn _ _ _ => exact q.1.elim
      | int a =>
        refine tDE.go (f.pk rs hr) q.2 fun u H1 μ1 d A1 s1 r1 p1 q1 => ?_
        cases d with
        | int b =>
          have r' : RelD X.K μ H (.int a) v := r
          cases rel_int r'
          cases rel_int r1
          exact ⟨a, b, rfl, rfl, f.nx μ1 _ A1 _ H1 s1 (p1.s.set i to_int) p1.h (hb _ _ _ _ q1.2)⟩
        | _ => exact q1.1.elim
      | _ =>
        refine tDE.go (f.pk rs hr) q.2 fun u H1 μ1 d A1 s1 r1 p1 q1 => ?_
        exact (by cases d <;> exact q1.1.elim)
    · exact q.elim
  rcases hop with rfl | rfl
  · exact go _ (fun a b A Q h => h) ip_add
  · exact go _ (fun a b A Q h => h) ip_sub
theorem sub_plain {o i : Expr} {p : Pos} {env : Env} (h : noSlice i = true) (v : Value) : assign (.Subscript o i p) env v = (do
      let ov ← holding [v] (eval o env)
      let iv ← holding [v, ov] (eval i env)
      standAt p
      holding [v, ov, iv] (setItem ov iv v)
      release [v, ov, iv] []) := by
  cases i <;> first | rfl | cases h
def rSetD (K : PySem.W.Frag) : TSet := fun o i v H Q => ∃ μ A do' di dv k, HR K μ A H ∧ RelD K μ H do' o ∧ RelD K μ H di i ∧ RelD K μ H dv v ∧ setD do' di dv A k ∧ ∀ H' A', Stp μ H μ H' → HR K μ A' H' → k A' → Q H'
theorem pset_D (hu : X.A.units + 64 < cLine) : PSet X (rSetD X.K) := by
  rintro pins s σ H o i v ov iv u Q I ro ri rv ⟨μ, A, do', di, dv, k, hr, h1, h2, h3, h, fin⟩
  exact thn (sd_set hu I ro ri rv hr h1 h2 h3 h) fun _ s2 ⟨H', A', I2, s, hr2, q⟩ => ⟨H', I2, fin H' A' s hr2 q⟩
theorem ss_asgS {o i e : Expr} {io ii ir : Ie} {p : Pos} (hu : X.A.units + 64 < cLine) (he : PE X e (tDE X.K T hx W (wE G ir))) (ho : PE X o (tDE X.K T hx W (wE G io))) (hi : PE X i (tDE X.K T hx W (wE G ii))) (h2 : noSlice i = true) :
    PS X (.Assign [.Subscript o i p] e pos) (tDS X.K T hx W (wS G (.asgS io ii ir))) := by
  refine PS.weaken (ps_asg he (pg_sub ho hi (pset_D hu) (sub_plain h2)) (sws_sub _ _ _) (by unfold swappedStores; rfl) rfl) fun D σ H ⟨μ, ρ, A, N, rs, hr, f, q⟩ => ?_
  refine tDE.go (f.pk rs hr) q fun v H1 μ1 d A1 s1 r1 p1 q1 => tDE.go p1 q1 fun x H2 μ2 dx A2 s2 r2 p2 q2 => tDE.go p2 q2 fun y H3 μ3 dy A3 s3 r3 p3 q3 => ?_
  exact ⟨μ3, A3, dx, dy, d, _, p3.h, r2.mono s3 _ _, r3, (r1.mono s2 _ _).mono s3 _ _, q3, fun H' A' s h q => f.nx μ3 ρ A' σ H' (((s1.trans s2).trans s3).trans s) (p3.s.mono s) h q⟩
theorem sw_par {x y : Str} {px py pt pt2 : Pos} {kt k2 : Nat} {a b : Expr} {env : Env} (hk : env.scope.kind = .function) (hx : env.scope.names.lookup x = some .local) (hy : env.scope.names.lookup y = some .local) (hl : (py.line == px.line) = true) (hne : x ≠ y) (ha : noStar a = true) (hb : noStar b = true)
    (h1 : [a, b].all (foldedForSure 8) = false) (h2 : [a, b].all (constantsAlone 8) = false) : swappedStores [.Tuple [.Name x px, .Name y py] kt pt] (.Tuple [a, b] k2 pt2) env = pure (some [x, y]) := by
  have kx : env.kindOf x = some .local := hx
  have ky : env.kindOf y = some .local := hy
  have hb2 : env.blockKind = .function := by unfold Env.blockKind; rw [hk]; rfl
  have sa : ∀ e : Expr, noStar e = true → (match e with | .Starred .. => true | _ => false) = false := fun e he => by cases e <;> first | rfl | cases he
  have hne2 : (y == x) = false := by simpa using Ne.symm hne
  have hl' : py.line = px.line := by simpa using hl
  unfold swappedStores
  simp only [hb2, h1, h2, List.length_cons, List.length_nil]
  simp only [List.head?_cons, Option.map_some, Option.getD_some, Expr.pos]
  rw [if_neg (by decide), if_neg ?_, if_neg ?_]
  · simp [List.filterMap_cons, kx, ky, hl', List.eraseDups_cons, hne2]
  · simp [List.filterMap_cons, kx, ky, hl', List.eraseDups_cons, hne2]
  · simp only [List.any_cons, List.any_nil, Bool.or_false, Bool.or_eq_true]
    rintro (h | h)
    · cases a <;> first | (cases h; done) | (cases ha; done)
    · cases b <;> first | (cases h; done) | (cases hb; done)
theorem ss_par {i j : Nat} {x y : Str} {a b : Expr} {ia ib : Ie} {px py pt pt2 : Pos} {kt k2 : Nat} (hc : X.calm = true) (hN : X.N.Nodup) (hi : X.N[i]? = some x) (hj : X.N[j]? = some y) (hij : i ≠ j) (hx' : X.env.scope.names.lookup x = some .local) (hy' : X.env.scope.names.lookup y = some .local)
    (ha : PE X a (tDE X.K T hx W (wE G ia))) (hb : PE X b (tDE X.K T hx W (wE G ib))) (sa : noStar a = true) (sb : noStar b = true) (hw : swappedStores [.Tuple [.Name x px, .Name y py] kt pt] (.Tuple [a, b] k2 pt2) X.env = pure (some [x, y])) :
    PS X (.Assign [.Tuple [.Name x px, .Name y py] kt pt] (.Tuple [a, b] k2 pt2) pos) (tDS X.K T hx W (wS G (.par i j ia ib))) :=
  PS.weaken (ps_par hc hN hi hj hij hx' hy' (pa_cons ha (pa_cons hb pa_nil (star_cons sb)) (star_cons sa)) hw rfl) fun D σ H ⟨μ, ρ, A, N, rs, hr, f, q⟩ => by
    refine tDE.go (f.pk rs hr) q fun v H1 μ1 d A1 s1 r1 p1 q1 => tDE.go p1 q1 fun w H2 μ2 e A2 s2 r2 p2 q2 => ?_
    exact ⟨v, w, rfl, f.nx μ2 _ A2 _ H2 (s1.trans s2) ((p2.s.set i (r1.mono s2 _ _)).set j r2) p2.h q2⟩
end
end Px
end TextPx13

section TextPx14
set_option autoImplicit false
set_option maxRecDepth 100000
set_option maxHeartbeats 4000000
/-! Px14: try with several clauses, each with or without a name; making an error of an own class; a caught error's class and fields. -/
namespace Px
open PySem PySem.Spec PyProof.Rows L2
def endsOff (i : Option Nat) (D : Ends) : Ends := match i with
  | none => D
  | some i => { nx := fun σ' H' => D.nx (σ'.set i none) H', rt := D.rt, bk := fun σ' H' => D.bk (σ'.set i none) H', ct := fun σ' H' => D.ct (σ'.set i none) H' }
def slotOn (i : Option Nat) (a : Addr) (σ : L2.St) : L2.St := match i with | none => σ | some i => σ.set i (some (.ref a))
/-- what the clauses wish, one after the other -/
def wA (K : PySem.W.Frag) (Wout : WX) (D : Ends) : List (Value × Option Nat × (Addr → Value → Option Addr → TS)) → WX
  | [] => Wout
  | (c, i, ts) :: r => fun cls d σ H => ∃ b, PySem.W.exmOne K cls c = some b ∧ (b = true → ∀ a, H a = none → ts a cls d (endsOff i D) (slotOn i a σ) H) ∧ (b = false → wA K Wout D r cls d σ H)
inductive HdsA (X : Cx) : List ExceptHandler → List (Value × Option Nat × (Addr → Value → Option Addr → TS)) → Prop
  | nil : HdsA X [] []
  | plain {x : Str} {c : Value} {ts : Addr → Value → Option Addr → TS} {b₀ : Stmt} {suite : List Stmt} {np pos' : Pos} {hds : List ExceptHandler} {l : List (Value × Option Nat × (Addr → Value → Option Addr → TS))} (hc : Names X x c)
      (hsu : ∀ (a : Addr) (oe : Obj) (cls : Value) (d : Option Addr) (pn : List (Addr × Obj)), L2N.Zn cls d oe → (∃ vs, oe.data = .fields vs) → PSs (X.suite a ((a, oe) :: pn)) (b₀ :: suite) (ts a cls d)) (r : HdsA X hds l) :
      HdsA X (.ExceptHandler (some (.Name x np)) none (b₀ :: suite) pos' :: hds) ((c, none, ts) :: l)
  | named {x n : Str} {i : Nat} {c : Value} {ts : Addr → Value → Option Addr → TS} {b₀ : Stmt} {suite : List Stmt} {np pos' : Pos} {hds : List ExceptHandler} {l : List (Value × Option Nat × (Addr → Value → Option Addr → TS))} (hc : Names X x c)
      (hi : X.N[i]? = some n) (hln : X.env.kindOf n = some .local)
      (hsu : ∀ (a : Addr) (oe : Obj) (cls : Value) (d : Option Addr) (pn : List (Addr × Obj)), L2N.Zn cls d oe → (∃ vs, oe.data = .fields vs) → PSs (X.suite a ((a, oe) :: pn)) (b₀ :: suite) (ts a cls d)) (r : HdsA X hds l) :
      HdsA X (.ExceptHandler (some (.Name x np)) (some n) (b₀ :: suite) pos' :: hds) ((c, some i, ts) :: l)
section
variable {X : Cx} {body : List Stmt} {h₀ : ExceptHandler} {hds : List ExceptHandler} {l : List (Value × Option Nat × (Addr → Value → Option Addr → TS))} {pos : Pos} {tb : WX → TS} {Wout : WX}
theorem ps_tryA (hs : X.stack = X.env :: X.outer) (hf : X.env.frame = some X.env.locals) (hN : X.N.Nodup) (tk : L2N.Takes X Wout)
    (hb : ∀ (W : WX) (pn : List (Addr × Obj)) (xe : Value → Shared → Prop), L2N.Takes (X.tr pn xe) W → PassesOwn (model X.prog X.w) X.A X.env xe → PSs (X.tr pn xe) body (tb W))
    (hh : HdsA X (h₀ :: hds) l) : PS X (.Try body (h₀ :: hds) [] [] pos) (fun D σ H => tb (wA X.K Wout D l) D σ H) := by
  refine ⟨fun pins s σ H D I h => ?_⟩
  have ok := I.ok
  have hfr : X.A.frames = some (X.env :: X.outer) := by rw [ok.frames, hs]
  refine wpAny_Try_except ?_
  refine wpAny_mono ((hb (wA X.K Wout D l) (X.pn ++ pins) (fun e s₁ => wpAny (model X.prog X.w) X.A (noteFrame e X.env) (fun _ s₂ => wpAny (model X.prog X.w) X.A (setFlight e none) (fun _ s₃ =>
    wpAny (model X.prog X.w) X.A (handleBy e X.env (h₀ :: hds)) (SP X pins D) X.xe s₃) X.xe s₂) X.xe s₁) (fun u s' xx => ?_) PassesOwn.looking).run [] s σ H D (I.toTry _) h) (fun f s1 hsp => ?_) (fun e s1 he => he)
  · obtain ⟨a, B, sI, pins', σ', H', cls, d, rfl, J', nb, up, sky, na, os, ag, w⟩ := xx
    have J : Inv X pins σ' H' sI := J'.ofTry ok
    have sky' : Sky B (X.env :: X.outer) a (L2N.Zn cls d) X.env.locals s'.heap := by rw [← hs]; exact sky
    show wpAny (model X.prog X.w) X.A (noteFrame (.ref a) X.env) _ _ _
    refine L2N.Sky.land L2N.Zn.steady hfr hf sky' fun h3 fl3 up3 => ?_
    have J3 : Inv X pins σ' H' { s' with heap := h3 } := J.landed nb fl3.1 (up.trans up3) os ag
    obtain ⟨oe3, vs3, he3, hz3, hd3⟩ := fl3.there
    have nfr : a ∉ frs (X.env :: X.outer) := fun hm => by
      obtain ⟨_, o', e', hnf⟩ := fl3.2.2.1.mem hm
      rw [he3] at e'; cases e'
      exact hnf _ hd3
    have nL : a ≠ X.env.locals := fun z => nfr (List.mem_filterMap.mpr ⟨X.env, List.mem_cons_self, by rw [hf, z]⟩)
    have nF : a ∉ X.fs := fun hm => by
      obtain ⟨e, he, q⟩ := List.mem_filterMap.mp hm
      exact nfr (List.mem_filterMap.mpr ⟨e, List.mem_cons_of_mem _ he, q⟩)
    have S3 := J3.suite he3 hd3 na nL nF
    have LT : PySem.W.Looks (model X.prog X.w) h3 (typeOf (.ref a)) cls := fun A Q E s k q => wpAny_typeOf_ref (k _ _ he3) (by rw [hz3.1]; exact q)
    have test : ∀ {x : Str} {c : Value} {np : Pos} {Q : Value → Shared → Prop} {E : Value → Shared → Prop}, Names X x c → Q c { s' with heap := h3 } → wpAny (model X.prog X.w) (X.A.mark (some (.ref a))) (eval (.Name x np) X.env) Q E { s' with heap := h3 } := fun {x c np Q E} hc q => by
      obtain ⟨hg, hdbg, hm | ⟨hm, hv, hnn⟩⟩ := hc
      · exact ld_glob (X := X.suite a ((a, oe3) :: (X.pn ++ pins))) S3 hg hm q hdbg
      · exact ld_blt (X := X.suite a ((a, oe3) :: (X.pn ++ pins))) S3 hg hm hv q hnn hdbg
    have go : ∀ {hds' : List ExceptHandler} {l' : List (Value × Option Nat × (Addr → Value → Option Addr → TS))}, HdsA X hds' l' → wA X.K Wout D l' cls d σ' H' →
        wpAny (model X.prog X.w) X.A (handleBy (.ref a) X.env hds') (SP X pins D) X.xe { s' with heap := h3 } := by
      intro hds' l' hk
      induction hk with
      | nil =>
        intro w
        refine wpAny_handleBy_nil ?_
        obtain ⟨k1, k2, k3, oe, vs, T, oT, ts', he, hz, hd, h1, hr⟩ := id fl3
        unfold PySem.passOn
        refine wpAny_bind (wpAny_field he hd h1 ?_)
        rw [if_neg (show ¬ ((Value.ref T == Value.none) = true) from by simp)]
        have fin : wpAny (model X.prog X.w) X.A (setFlight (.ref a) X.env.frame) (fun _ s4 => wpAny (model X.prog X.w) X.A (throw (.ref a) : Sem Flow) (SP X pins D) X.xe s4) X.xe { s' with heap := h3 } := by
          rw [hf]
          refine HandSPX.setFlight_upZ fl3 fun h4 hh4 up4 => wpAny_throw (tk _ _ ?_)
          exact ⟨a, B, sI, pins, σ', H', cls, d, rfl, J, nb, (up.trans up3).trans up4, .inr (.inr (by rw [hs]; exact hh4)), na, os, ag, w⟩
        first
          | exact wpAny_bind (wpAny_pure (wpAny_bind fin))
          | exact wpAny_bind fin
      | @plain x c ts b₀ suite np pos' hds2 l2 hc hsu r ih =>
        intro w
        obtain ⟨b, hb1, hyes, hno⟩ := w
        refine wpAny_handleBy_cons (codeAny_handlers_test ?_) (by intro q; cases q)
        have LM := PySem.W.exm_one (M := model X.prog X.w) (J3.kIn) LT hb1
        refine test hc (LM.here ?_)
        cases b with
        | true =>
          refine codeAny_handlers_suite ?_
          refine HandSPX.lands_againZ fl3 fun h4 fl4 up4 => ?_
          have J4 : Inv X pins σ' H' { s' with heap := h4 } := J.landed nb fl4.1 ((up.trans up3).trans up4) os ag
          obtain ⟨oe4, vs4, he4, hz4, hd4⟩ := fl4.there
          have S4 := J4.suite he4 hd4 na nL nF
          refine wpAny_mono ((hsu a oe4 cls d (X.pn ++ pins) hz4 ⟨_, hd4⟩).run [] _ _ H' _ S4 (hyes rfl a na)) (fun f s6 hsp => ?_) (fun _ _ z => False.elim z)
          cases f with
          | ret u =>
            obtain ⟨v6, σ6, H6, S6, r6, q6⟩ := hsp
            exact ⟨_, _, _, S6.unsuite ok, r6, q6⟩
          | _ =>
            obtain ⟨σ6, H6, S6, q6⟩ := hsp
            exact ⟨_, _, S6.unsuite ok, q6⟩
        | false =>
          show wpAny _ X.A (handleBy (.ref a) X.env hds2) _ _ _
          exact ih (hno rfl)
      | @named x n i c ts b₀ suite np pos' hds2 l2 hc hi hln hsu r ih =>
        intro w
        obtain ⟨b, hb1, hyes, hno⟩ := w
        refine wpAny_handleBy_cons (codeAny_handlers_test ?_) (by intro q; cases q)
        have LM := PySem.W.exm_one (M := model X.prog X.w) (J3.kIn) LT hb1
        refine test hc (LM.here ?_)
        cases b with
        | true =>
          refine codeAny_handlers_suite_as ?_
          refine HandSPX.lands_againZ fl3 fun h4 fl4 up4 => ?_
          have J4 : Inv X pins σ' H' { s' with heap := h4 } := J.landed nb fl4.1 ((up.trans up3).trans up4) os ag
          obtain ⟨oe4, vs4, he4, hz4, hd4⟩ := fl4.there
          have S4 := J4.suite he4 hd4 na nL nF
          refine store_ok (X := X.suite a ((a, oe4) :: (X.pn ++ pins))) (v := .ref a) S4 hN hi (.inl hln) rfl (fun s5 S5 => ?_) (.inr hln)
          refine wpAny_mono ((hsu a oe4 cls d (X.pn ++ pins) hz4 ⟨_, hd4⟩).run [] s5 _ H' _ S5 (hyes rfl a na)) (fun f s6 hsp => ?_) (fun _ _ z => False.elim z)
          have end_ : ∀ {σ6 : L2.St} {H6 : Hp} {Q : Shared → Prop}, Inv (X.suite a ((a, oe4) :: (X.pn ++ pins))) [] σ6 H6 s6 → (∀ s7, Inv X pins (σ6.set i none) H6 s7 → Q s7) →
              wpAny (model X.prog X.w) X.A (do bindName X.env n .none; unbindBehindTheSuite X.env n pos') (fun _ s7 => Q s7) X.xe s6 := fun {σ6 H6 Q} S6 hq => gone_ok (S6.unsuite ok) hN hi hln hq
          cases f with
          | ret u =>
            obtain ⟨v6, σ6, H6, S6, r6, q6⟩ := hsp
            exact end_ S6 fun s7 J7 => ⟨_, _, _, J7, r6, q6⟩
          | _ =>
            obtain ⟨σ6, H6, S6, q6⟩ := hsp
            exact end_ S6 fun s7 J7 => ⟨_, _, J7, q6⟩
        | false =>
          show wpAny _ X.A (handleBy (.ref a) X.env hds2) _ _ _
          exact ih (hno rfl)
    exact go hh w
  · cases f with
    | next =>
      obtain ⟨σ', H', J', q⟩ := hsp
      exact wpAny_execs_nil ⟨σ', H', J'.ofTry ok, q⟩
    | ret u =>
      obtain ⟨v, σ', H', J', r, q⟩ := hsp
      exact ⟨v, σ', H', J'.ofTry ok, r, q⟩
    | _ =>
      obtain ⟨σ', H', J', q⟩ := hsp
      exact ⟨σ', H', J'.ofTry ok, q⟩
end

/-! ### an error of an own class is made -/
/-- what __init__ does: the fields, in the order ks -/
def spInit (C : Addr) (ks : List Str) : Sp := fun vs H Q _ => vs.length = ks.length + 1 ∧ ∃ (a : Addr) (xs : List V), vs = .ref a :: xs ∧ H a = some (exo a C none) ∧
  ∀ (dx : Addr) (H' : Hp) (fs : List (Str × V)), H dx = none → dx ≠ a → H' a = some (exo a C (some dx)) → H' dx = some (exd dx fs) → (∀ b, b ≠ a → b ≠ dx → H' b = H b) → (∀ f, fs.lookup f = (ks.zip xs).lookup f) → Q .non H'
section
variable {X : Cx} {P : Program} {w : World} {K : PySem.W.Frag} {mg : Str → Option Value} {base : Heap}
theorem exd_same {dx : Addr} {fs gs : List (Str × V)} (h : ∀ f, fs.lookup f = gs.lookup f) : exd dx fs = exd dx gs := by
  unfold exd
  congr 1
  funext h'
  exact propext ⟨fun ⟨m, n, r⟩ => ⟨m, n, fun f => by rw [← h f]; exact r f⟩, fun ⟨m, n, r⟩ => ⟨m, n, fun f => by rw [h f]; exact r f⟩⟩
/-- C(e, ..) where nothing is handled -/
theorem pmk_oexN {CX : CXT} {x : Str} {e : Expr} {es : List Expr} {ta : TA} {p pos : Pos} {C fI : Addr} {k : Nat} {fd : FuncData} {ps : List Str} {sp : Sp} (T : OexC X.K C) (iC : PySem.W.findIn X.K (.ref C) "__init__" = some (some (.ref fI))) (tI : PySem.W.typeIn X.K (.ref fI) = some (.type "function"))
    (F1 : FnOk X.prog X.w X.K X.mg X.base CX k fI fd ps sp) (hr : Room (k + 1) X.A) (hb : Binds X.K fd ps []) (hx : Passes CX X (fun _ _ _ => False)) (hg : Gl X x) (hm : X.mg x = some (.ref C)) (ha : PA X (e :: es) ta)
    (hdb : (x == ("__debug__" : Str)) = false) (he : starEach (e :: es) X.env = (false, eval e X.env) :: starEach es X.env) (hpl : (backTo pos (starEach es X.env)).any (·.1) = false) :
    L2N.PMk X (.Call (.Name x p) (e :: es) [] pos) (tMkO C sp [] ta) := by
  intro pins s σ H Q I h
  obtain ⟨nm, q, N, bs, bm, sn, sub, ab, col, dd, k0, k1, k2, k3, k5, hC, hbm⟩ := T.cls
  refine wpAny_Call_Name_kw (ld_glob I hg hm ?_ hdb)
  refine PySem.W.callWith_K (h₀ := X.base) I.ok.mod.kin T.kC (thn (ha.run pos pins s σ H _ I h) fun us s1 ⟨vs, H1, I1, r1, hz, q1⟩ => ⟨I1.kIn, ?_⟩) he hpl
  show wpAny _ _ (call (.ref C) us) _ _ _
  obtain ⟨hp, g, dr, tk, os⟩ := s1
  have hsz : hp.objs.size ≤ hp.objs.size + 1 := Nat.le_succ _
  have hn : H1 (hp.objs.size + 1) = none := I1.hok.fresh hsz
  have hq := q1 (hp.objs.size + 1) hn
  rw [List.append_nil] at hq
  have kk : ∀ b o, hp.get? b = some o → ((hp.push (PySem.W.kdv_tup us)).push (PySem.HandSPX.excO C hp.objs.size)).get? b = some o := fun b o e => Heap.get?_push_of_some _ (Heap.get?_push_of_some _ e)
  have hget : ((hp.push (PySem.W.kdv_tup us)).push (PySem.HandSPX.excO C hp.objs.size)).get? (hp.objs.size + 1) = some (PySem.HandSPX.excO C hp.objs.size) := by heap_get
  have I2 : Inv X pins σ (upd H1 (hp.objs.size + 1) (exo (hp.objs.size + 1) C none)) ⟨(hp.push (PySem.W.kdv_tup us)).push (PySem.HandSPX.excO C hp.objs.size), g, dr, tk, os⟩ :=
    I1.laid (t' := tk) (a := hp.objs.size + 1) (o := exo (hp.objs.size + 1) C none) (h' := (hp.push (PySem.W.kdv_tup us)).push (PySem.HandSPX.excO C hp.objs.size)) kk hsz (exo_ok hget)
  have r2 : Vals (V.ref (hp.objs.size + 1) :: vs) (Value.ref (hp.objs.size + 1) :: us) := .cons rfl r1
  have hl : (Value.ref (hp.objs.size + 1) :: us ++ []).length = ps.length := by
    have e := r2.length
    rw [F1.len _ _ _ _ hq] at e
    rw [List.append_nil]
    exact e.symm
  have hus : us.length ≤ sizeLine := by
    rw [← Paired.length r1, sizeLine_eq]
    omega
  have b2 := hb _ (Value.ref (hp.objs.size + 1) :: us) I2.kIn hl
  rw [List.append_nil] at b2
  refine wpAny_call (PySem.HandSPX.call_own F.excBase_ValueError (fun Y => PySem.HandSPX.refsVE_contains Y bm hbm) (I1.kIn _ _ hC) (PySem.W.looks_findIn I1.kIn iC) (fun self => PySem.W.bind_fn I1.kIn self tI) hus
    (codeAny_mono (F1.run _ X.stack _ _ ⟨Value.ref (hp.objs.size + 1) :: us, []⟩ (Value.ref (hp.objs.size + 1) :: us) _ _ (fun _ _ _ => False) (hr.make C us []) (I2.env0.make C us []) b2 r2 hq) fun r s' hq' => ?_))
  cases r with
  | error er => exact hx pins σ _ _ er s' I2 hq'
  | ok fl =>
    cases fl with
    | ret u =>
      obtain ⟨v, H2, os2, bare2, un2, hok2, rv, ev, d, fs, ea, ed, hd1, q2⟩ := hq'
      subst ev
      obtain ⟨h2, g2, d2, t2, os'⟩ := s'
      obtain ⟨t0, G, J, kG, ge, hoe, na⟩ := mk_end0 (d2 := d2) (t2 := t2) I1 hsz kk un2 hok2 os2 bare2 ea ed hd1
      refine ⟨rv, hp.objs.size + 1, _, _, ⟨G, g2, d2, t2, os'⟩, _, .ref C, some d, rfl, J, kG, ge, hoe, ⟨rfl, rfl, fun vs hv => ?_⟩, rfl, rfl, na, rfl, bare2, raises_own T.exC T.tyC, q2⟩
      cases hv
      rfl
    | next => exact False.elim hq'
    | brk => exact False.elim hq'
    | cont => exact False.elim hq'
theorem ini1 {fI C : Addr} {qual f s x : Str} {params : Arguments} {scope : Scope} {kV doc pm cdv ct oc : Value} {an od : Option Addr} {osl : Array (Option Value)} {a1 a2 a3 a4 : Pos} (T : OexC K C) (n1 : PySem.W.findIn K (.ref C) f = some none)
    (lk : K.lookup fI = some ⟨oc, od, .func (PySem.W.fnOf "__init__" qual params [.Assign [.Attribute (.Name s a1) f a2] (.Name x a3) a4] scope .none kV doc pm an cdv ct), osl⟩) (hcd : PySem.W.codeIn K cdv qual = true) (S : FnScope [s, x] [s, x] scope) (o1 : okName s = true) (o2 : okName x = true) :
    FnOk P w K mg base CX0 1 fI (PySem.W.fnOf "__init__" qual params [.Assign [.Attribute (.Name s a1) f a2] (.Name x a3) a4] scope .none kV doc pm an cdv ct) [s, x] (spInit C [f]) := by
  refine fn_of lk hcd S (fun vs H Q E h => h.1) fun A outer s0 H vs Q E hr h => ⟨tSeq (tOst K f (tVar 0) (tVar 1)) tNext, ?_, ?_⟩
  · obtain ⟨d1, d2, _⟩ := okName_at o1
    obtain ⟨d3, d4, _⟩ := okName_at o2
    have v : ∀ y ∈ [s, x], Vis scope y := fun y hy => (S.par y hy).elim .inl fun z => .inr (.inl z)
    exact pss_cons (ps_ost (pe_var (i := 0) rfl (v s (by simp)) d1 d2) (pe_var (i := 1) rfl (v x (by simp)) d3 d4) rfl) pss_nil
  · obtain ⟨hl, a, xs, rfl, ea, k⟩ := h
    match xs, hl with
    | [y], _ =>
      refine ⟨y, rfl, .ref a, rfl, a, C, rfl, T, n1, .inl ⟨ea, fun dx hd hne => k dx _ [(f, y)] hd hne upd_same (by rw [upd_ne hne]; exact upd_same) (fun b hb hb2 => by rw [upd_ne hb, upd_ne hb2]) fun g => rfl⟩⟩
theorem ini2 {fI C : Addr} {qual f g s x y : Str} {params : Arguments} {scope : Scope} {kV doc pm cdv ct oc : Value} {an od : Option Addr} {osl : Array (Option Value)} {a1 a2 a3 a4 b1 b2 b3 b4 : Pos} (T : OexC K C) (n1 : PySem.W.findIn K (.ref C) f = some none) (n2 : PySem.W.findIn K (.ref C) g = some none) (hfg : f ≠ g)
    (lk : K.lookup fI = some ⟨oc, od, .func (PySem.W.fnOf "__init__" qual params [.Assign [.Attribute (.Name s a1) f a2] (.Name x a3) a4, .Assign [.Attribute (.Name s b1) g b2] (.Name y b3) b4] scope .none kV doc pm an cdv ct), osl⟩) (hcd : PySem.W.codeIn K cdv qual = true) (S : FnScope [s, x, y] [s, x, y] scope) (o1 : okName s = true) (o2 : okName x = true) (o3 : okName y = true) :
    FnOk P w K mg base CX0 1 fI (PySem.W.fnOf "__init__" qual params [.Assign [.Attribute (.Name s a1) f a2] (.Name x a3) a4, .Assign [.Attribute (.Name s b1) g b2] (.Name y b3) b4] scope .none kV doc pm an cdv ct) [s, x, y] (spInit C [f, g]) := by
  refine fn_of lk hcd S (fun vs H Q E h => h.1) fun A outer s0 H vs Q E hr h => ⟨tSeq (tOst K f (tVar 0) (tVar 1)) (tSeq (tOst K g (tVar 0) (tVar 2)) tNext), ?_, ?_⟩
  · obtain ⟨d1, d2, _⟩ := okName_at o1
    obtain ⟨d3, d4, _⟩ := okName_at o2
    obtain ⟨d5, d6, _⟩ := okName_at o3
    have v : ∀ z ∈ [s, x, y], Vis scope z := fun y hy => (S.par y hy).elim .inl fun z => .inr (.inl z)
    exact pss_cons (ps_ost (pe_var (i := 0) rfl (v s (by simp)) d1 d2) (pe_var (i := 1) rfl (v x (by simp)) d3 d4) rfl) (pss_cons (ps_ost (pe_var (i := 0) rfl (v s (by simp)) d1 d2) (pe_var (i := 2) rfl (v y (by simp)) d5 d6) rfl) pss_nil)
  · obtain ⟨hl, a, xs, rfl, ea, k⟩ := h
    match xs, hl with
    | [u, v], _ =>
      refine ⟨u, rfl, .ref a, rfl, a, C, rfl, T, n1, .inl ⟨ea, fun dx hd hne => ?_⟩⟩
      refine ⟨v, rfl, .ref a, rfl, a, C, rfl, T, n2, .inr ⟨dx, [(f, u)], upd_same, by rw [upd_ne hne]; exact upd_same, by show 1 ≤ 900; decide, ?_⟩⟩
      refine k dx _ [(g, v), (f, u)] hd hne (by rw [upd_ne (Ne.symm hne)]; exact upd_same) upd_same (fun b hb hb2 => by rw [upd_ne hb2, upd_ne hb, upd_ne hb2]) fun z => ?_
      by_cases z1 : z = g
      · subst z1
        have z2 : (z == f) = false := by simpa using Ne.symm hfg
        simp [List.lookup, z2]
      · have z2 : (z == g) = false := by simpa using z1
        simp [List.lookup, z2]
/-- an own class of errors, its fields, its __init__ -/
structure EclOk (P : Program) (w : World) (K : PySem.W.Frag) (mg : Str → Option Value) (base : Heap) (T : Tab) (c : Str) (ks : List Str) : Prop where
  ex : ∃ (ca fI : Addr) (fd : FuncData) (ps : List Str), T c = some (ca, ks) ∧ mg c = some (.ref ca) ∧ OexC K ca ∧ PySem.W.findIn K (.ref ca) "__init__" = some (some (.ref fI)) ∧ PySem.W.typeIn K (.ref fI) = some (.type "function") ∧
    FnOk P w K mg base CX0 1 fI fd ps (spInit ca ks) ∧ Binds K fd ps []
theorem ss_rse {G : Env'} {T : Tab} {hx : HX} {W : WX} {x : Str} {ks : List Str} {e : Expr} {es : List Expr} {ys : Ies} {p pos pos2 : Pos} (hc : X.calm = true) (tk : L2N.Takes X W) (hr : Room 2 X.A) (C : EclOk X.prog X.w X.K X.mg X.base T x ks) (hg : Gl X x) (ho : okName x = true) (hks : G.fds x = ks) (hl : ks.length = (e :: es).length) (hlen : (e :: es).length ≤ 1000)
    (hst : ∀ e' ∈ e :: es, noStar e' = true) (ha : PA X (e :: es) (tDA X.K T hx W (e :: es).length (wEs G ys))) : PS X (.Raise (some (.Call (.Name x p) (e :: es) [] pos)) none pos2) (tDS X.K T hx W (wS G (.rse x ys))) := by
  obtain ⟨ca, fI, fd, ps, eT, hm, T1, iC, tI, F, hb⟩ := C.ex
  obtain ⟨hdb, _, _⟩ := okName_at ho
  refine PS.weaken (L2N.ps_raise hc tk (pmk_oexN T1 iC tI F hr hb pass0 hg hm ha hdb (star_cons (hst e (by simp))) (no_star fun e' he => hst e' (by simp [he])))) fun D σ H ⟨μ, ρ, A, N, rs, hr, f, q⟩ => ?_
  refine tDA.go (f.pk rs hr) q fun vs H1 μ1 ds A1 l1 s1 r1 p1 q1 => ?_
  obtain ⟨l2, l3, q1⟩ := q1
  have lv : vs.length = (e :: es).length := by rw [← r1.length, l1]
  refine ⟨by rw [lv]; exact hlen, fun a hna => ⟨by simp [lv, hl], a, vs, by simp, upd_same, fun dx H' fs hd hne ea ed hsame hlook => ⟨rfl, dx, ks.zip vs, ea, by rw [ed, exd_same hlook], ?_, ?_⟩⟩⟩
  · rw [upd_ne hne] at hd; exact hd
  · rw [upd_ne hne] at hd
    have eH : upd (del H' a) dx (.xd (ks.zip vs)) = upd H1 dx (.xd (ks.zip vs)) := by
      funext b
      by_cases hb : b = dx
      · rw [hb, upd_same, upd_same]
      · rw [upd_ne hb, upd_ne hb]
        by_cases hba : b = a
        · rw [hba, del_same, hna]
        · rw [del_ne hba, hsame b hba hb, upd_ne hba]
    rw [eH]
    have st := stp_upd0 (μ := μ1) (o := HO.xd (ks.zip vs)) hd
    refine f.xe μ1 ρ σ H1 _ _ _ s1 p1.s ⟨μ1, A1, x, ca, ks, ds, dx, vs, st, p1.h.tupd hd, eT, rfl, rfl, by rw [hl, lv], upd_same, r1.mono st _ _, ?_⟩
    rw [hks] at q1
    exact q1
end
end Px
end TextPx14

section TextPx15
set_option autoImplicit false
set_option maxRecDepth 100000
set_option maxHeartbeats 8000000
/-! Px15: what a suite may ask of the error it holds; the compiler for statements. -/
namespace PySem.W
open PySem PySem.Spec PySem.Calls PyProof.Rows
section
variable {prog : Program} {w : World} {A : Around} {E : Value → Shared → Prop} {s : Shared} {K : Frag} {x D : Addr} {ox : Obj}
theorem findObj_dataD {C : Addr} {od : Obj} {name : Str} {a g : Value} (hc : (clsIn K C).isSome = true) (ha : findIn K (.ref C) name = some (some a)) (hg : specialIn K a "__get__" = some (some g)) (ht : takesIn K a = some true) : findObj K C (some od) name = some (.bind g a) := by
  obtain ⟨cd, hc⟩ := Option.isSome_iff_exists.mp hc
  unfold findObj
  rw [hc, Option.bind_some, ha, Option.bind_some]
  simp [hg, ht]
theorem kin_classD {od : Obj} {Q : Option Value → Shared → Prop} (hga : findIn K (.ref D) "__getattribute__" = some (some (.builtin "BaseException.__getattribute__"))) (hgt : findIn K (.ref D) "__getattr__" = some none) (hsub : subIn K (.ref D) (.type "BaseException") = some true)
    (hdct : hasDictIn K D = true) (ha : findIn K (.ref D) "__class__" = some (some (.builtin "object.__class__")))
    (hn : specialIn K (.builtin "object.__class__") "__get__" = some (some (.builtin "getset_descriptor.__get__"))) (htk : takesIn K (.builtin "object.__class__") = some true) (hm : mroIn K D (.type "object") = some true)
    (X : K.In s.heap) (I : InstAt s.heap x ox D (some od)) (h : Q (some (.ref D)) { s with toks := s.toks + 1 }) : wpAny (model prog w) A (getAttr? (.ref x) "__class__") Q E s := by
  have hf : findObj K D (some od) "__class__" = some (.bind (.builtin "getset_descriptor.__get__") (.builtin "object.__class__")) := findObj_dataD (by obtain ⟨cd, hc, _⟩ := any_some hdct; rw [hc]; rfl) ha hn htk
  obtain ⟨hp, g, d, t, os⟩ := s
  have L0 := I.type (M := model prog w)
  have L1 := looks_findIn (M := model prog w) X hga
  have L2 := looks_findIn (M := model prog w) X hgt
  have L3 := looks_find (M := model prog w) X I hf
  have sub : Looks (model prog w) hp (isInstance (.ref x) (.type "BaseException")) true := L0.andThen (looks_subIn X hsub)
  have hx0 : (false && onTheHeap (Value.builtin "BaseException.__getattribute__")) = false := rfl
  have hx2 : (Value.builtin "BaseException.__getattribute__" == Value.builtin "object.__getattribute__") = false := by decide +kernel
  have hx1 : (onTheHeap (Value.ref D) && Value.builtin "BaseException.__getattribute__" == Value.builtin "object.__getattribute__") = false := by rw [hx2]; rfl
  unfold getAttr? getAttrBy? getAttrBy
  refine wpAny_bind (wpAny_mkText (wpAny_bind (wpAny_attempt (wpAny_holding (wpAny_bind (L0.at (wpAny_bind (L1.at ?_))))))))
  show wpAny _ _ (if (onTheHeap (Value.ref D) && Value.builtin "BaseException.__getattribute__" == Value.builtin "object.__getattribute__") = true then _ else _) _ _ _
  rw [hx1, if_neg Bool.false_ne_true]
  unfold getAttrByItsOwn hookBefore
  refine wpAny_bind ?_
  rw [if_pos (show onTheHeap (Value.ref D) = true from rfl)]
  refine L2.at ?_
  refine wpAny_bind (wpAny_attempt (wpAny_holding ?_))
  unfold callGetattribute
  rw [hx0, if_neg Bool.false_ne_true]
  unfold boundAndCalled
  rw [PySem.F.excAttr_ValueError.ga.bind (.ref x)]
  refine wpAny_bind (wpAny_pure ?_)
  show wpAny _ _ (call (.builtin "BaseException.__getattribute__") [.ref x, .str "__class__" t]) _ _ _
  refine wpAny_call (codeAny_call_builtin PySem.F.excAttr_ValueError.ga.plain PySem.F.entry_bexc_ga ?_)
  refine @check_slot (model prog w) _ _ ⟨hp, g, d, t + 1, os⟩ "BaseException.__getattribute__" "BaseException" "__getattribute__" (.ref x) [.str "__class__" t] [] _ (by decide +kernel) (by decide +kernel) sub (PySem.F.args_bexc_ga (.ref x) (.str "__class__" t)) ?_
  unfold Builtin.«object.__getattribute__»
  refine wpAny_bind (wpAny_of_eq (a := ((Value.ref x : Value), [Value.str "__class__" t])) (by first | rfl | (simp only [slotArgs]; rfl)) ?_)
  refine wpAny_bind (wpAny_pure (wpAny_bind (L0.at (wpAny_bind (L3.at ?_)))))
  show wpAny _ _ (holding [Value.builtin "object.__class__"] (call (.builtin "getset_descriptor.__get__") [.builtin "object.__class__", .ref x, .ref D]) >>= ret) _ _ _
  refine wpAny_bind (wpAny_holding (wpAny_call (class_get (s := ⟨hp, g, d, t + 1, os⟩) (ox := ox) (od := some od) X I hm ?_)))
  refine wpAny_pure ?_
  show wpAny _ _ (handedOut (.ref D)) _ _ _
  rw [handedOut_of (v := .ref D) rfl]
  first
    | exact wpAny_pure (wpAny_pure h)
    | exact wpAny_pure h
    | exact wpAny_pure (wpAny_bind (wpAny_pure (wpAny_pure h)))
theorem kitx_D {od : Obj} (hga : findIn K (.ref D) "__getattribute__" = some (some (.builtin "BaseException.__getattribute__"))) (hgt : findIn K (.ref D) "__getattr__" = some none) (hsub : subIn K (.ref D) (.type "BaseException") = some true) (hdct : hasDictIn K D = true) (ha : findIn K (.ref D) "__class__" = some (some (.builtin "object.__class__")))
    (hn : specialIn K (.builtin "object.__class__") "__get__" = some (some (.builtin "getset_descriptor.__get__"))) (htk : takesIn K (.builtin "object.__class__") = some true) (hm : mroIn K D (.type "object") = some true) :
    KitX K (.ref x) (.ref D) (fun h => InstAt h x ox D (some od)) where
  ty := fun _ _ _ I => I.type
  it := fun M h X _ => by
    obtain ⟨cdD, hcD, _⟩ := any_some hdct
    unfold clsIn at hcD
    split at hcD
    · rename_i c' d' cd' sl' ho
      intro A' Q' E' s' k q
      unfold isType loadHead
      exact wpAny_bind (wpAny_loadPart (k _ _ (X _ _ ho)) (wpAny_pure q))
    · cases hcD
  ne := (handS_kitx_exc (x := x) (ox := { cls := .ref D, dict := none, data := .fields #[] }) hga hgt hsub hdct ha hn htk hm).ne
  ca := fun X I k => kin_classD hga hgt hsub hdct ha hn htk hm X I k
end
end PySem.W
namespace Px
open PySem PySem.Spec PyProof.Rows L2
/-- isinstance(e, c), e the exception that the suite holds, its dict at d -/
def rIsD (K : PySem.W.Frag) (D a d : Addr) : List V → Hp → VK → Prop := fun xs H Q => ∃ (c : V) (cv : Value) (b : Bool) (fs : List (Str × V)), xs = [.ref a, c] ∧ (∀ u, RelV c u → u = cv) ∧ PySem.W.kitOne K (.ref D) cv = some b ∧ H d = some (.xd fs) ∧ Q (.bl b) H
theorem call_isD {X : Cx} {a D d : Addr} {oe : Obj} {pn : List (Addr × Obj)} (C : ExcC X.K D) (hz : Zc (.ref D) (some d) oe) (hf : ∃ vs, oe.data = .fields vs) : CallR (X.suite a ((a, oe) :: pn)) (.builtin "isinstance") (rIsD X.K D a d) := by
  intro pins s σ H xs us Q I r h
  obtain ⟨c, cv, b, fs, rfl, hcv, e, ed, q⟩ := h
  cases r with
  | cons rx rr =>
    cases rr with
    | cons rt rr =>
      cases rr
      cases rx
      have ec := hcv _ rt
      subst ec
      obtain ⟨hget, _⟩ := I.pin (a, oe) (List.mem_append.mpr (.inl List.mem_cons_self))
      obtain ⟨vs, hv⟩ := hf
      have hx : ObjOk X.prog X.w H s.heap d (.xd fs) := I.hok d _ ed
      obtain ⟨mA, hns, hr⟩ := hx
      obtain ⟨od, ho, hl⟩ := lookIn_ns hns
      have J : PySem.W.InstAt s.heap a oe D (some od) := ⟨hget, hz.1, by unfold PySem.W.notCls; rw [hv] <;> rfl, by rw [hz.2]; exact ho⟩
      exact PySem.W.kia_one (PySem.W.kitx_D C.hg C.hk C.hs C.hd C.ha C.hn C.ht C.hm) I.kIn J e (fun z => nomatch z) fun tk => ⟨.bl b, H, I.kept (t' := tk) fun _ _ z => z, rfl, q⟩
/-- isinstance(e, (c1, c2, ..)) -/
def rIsDT (K : PySem.W.Frag) (D a d : Addr) : List V → Hp → VK → Prop := fun xs H Q => ∃ (tp : Addr) (vs : List V) (cvs : List Value) (b : Bool) (fs : List (Str × V)), xs = [.ref a, .ref tp] ∧ H tp = some (.tup vs) ∧ (∀ us, Vals vs us → us = cvs) ∧ PySem.W.kitAny K (.ref D) cvs = some b ∧ H d = some (.xd fs) ∧ Q (.bl b) H
theorem call_isDT {X : Cx} {a D d : Addr} {oe : Obj} {pn : List (Addr × Obj)} (C : ExcC X.K D) (hz : Zc (.ref D) (some d) oe) (hf : ∃ vs, oe.data = .fields vs) : CallR (X.suite a ((a, oe) :: pn)) (.builtin "isinstance") (rIsDT X.K D a d) := by
  intro pins s σ H xs us Q I r h
  obtain ⟨tp, vs, cvs, b, fs, rfl, hT, hcv, e, ed, q⟩ := h
  obtain ⟨u1, u2, rfl, r1, r2⟩ := vals2 r
  cases (show u1 = Value.ref a from r1)
  cases (show u2 = Value.ref tp from r2)
  obtain ⟨hget, _⟩ := I.pin (a, oe) (List.mem_append.mpr (.inl List.mem_cons_self))
  obtain ⟨ws, hv⟩ := hf
  have hx : ObjOk X.prog X.w H s.heap d (.xd fs) := I.hok d _ ed
  obtain ⟨mA, hns, hr⟩ := hx
  obtain ⟨od, ho, hl⟩ := lookIn_ns hns
  have J : PySem.W.InstAt s.heap a oe D (some od) := ⟨hget, hz.1, by unfold PySem.W.notCls; rw [hv] <;> rfl, by rw [hz.2]; exact ho⟩
  obtain ⟨_, its, rv, o, h1, h2, n, h3⟩ := (show ObjOk X.prog X.w H s.heap tp (.tup vs) from I.hok tp _ hT)
  have e3 := hcv _ rv
  subst e3
  obtain ⟨oc, od2, dt, sl⟩ := o
  simp only at h2 h3
  subst h2 h3
  exact PySem.W.kia_tup (PySem.W.kitx_D C.hg C.hk C.hs C.hd C.ha C.hn C.ht C.hm) I.kIn J h1 e (fun z => nomatch z) fun tk => ⟨.bl b, H, I.kept (t' := tk) fun _ _ z => z, rfl, q⟩
end Px
end TextPx15

section TextPx16
set_option autoImplicit false
set_option maxRecDepth 100000
set_option maxHeartbeats 8000000
/-! Px16: whole bodies are sound. -/
namespace Px
open PySem PySem.Spec PyProof.Rows L2
def CC.suite (c : CC) (e : Option Str) : CC := { c with hot := true, hfor := false, exv := e, fns := c.hfns, rss := [], hfns := [] }
def okArgs (es : List Expr) : Bool := decide (es.length ≤ 1000)
def parOf : List Expr → Expr → Option (Str × Pos × Str × Pos × Expr × Expr)
  | [.Name x px, .Name y py], .Tuple [a, b] _ _ => some (x, px, y, py, a, b)
  | _, _ => none
theorem parOf_at {ts : List Expr} {e : Expr} {x y : Str} {px py : Pos} {a b : Expr} (h : parOf ts e = some (x, px, y, py, a, b)) : ts = [.Name x px, .Name y py] ∧ ∃ k p, e = .Tuple [a, b] k p := by
  unfold parOf at h
  split at h
  · cases h; exact ⟨rfl, _, _, rfl⟩
  · cases h
def rsOf : Option Expr → Option Expr → Option (Str × Expr × List Expr)
  | some (.Call (.Name x _) (e :: es) [] _), none => some (x, e, es)
  | _, _ => none
theorem rsOf_at {a b : Option Expr} {x : Str} {e : Expr} {es : List Expr} (h : rsOf a b = some (x, e, es)) : ∃ p p2, a = some (.Call (.Name x p) (e :: es) [] p2) ∧ b = none := by
  unfold rsOf at h
  split at h
  · cases h; exact ⟨_, _, rfl, rfl⟩
  · cases h
/-- what may be walked where an exception is handled -/
def cIH (c : CC) (n : Nat) (tg : Expr) : Expr → Option Ii
  | .Call (.Name f p) [a, b] [] pos => if okName f && c.gl f && (c.fnOf f).isNone && noStar a && noStar b && decide (f = "zip") then (match tg, cE c n a, cE c n b with | .Tuple .., some x, some y => some (.zip x y) | _, _, _ => none) else none
  | _ => none
theorem sd_ih {c : CC} {X : Cx} {G : Env'} {T : Tab} {hx : HX} {W : WX} (s : Snd c X G T hx W) {n : Nat} {tg it : Expr} {ii : Ii} (h : cIH c n tg it = some ii) : L2H.PIH X tg it (tDI X.K T hx W (wI G ii)) ∧ ∀ x, foldedSetIterable it X.env x = pure x := by
  unfold cIH at h
  split at h
  · split at h
    · rename_i hg
      simp only [Bool.and_eq_true, decide_eq_true_eq] at hg
      split at h
      · rename_i x y h1 h2
        cases h
        obtain ⟨iE, _⟩ := sd_all (G := G) (T := T) (hx := hx) n s
        have e := hg.2
        subst e
        exact ⟨pi_zipH (s.gl hg.1.1.1.1.2) (s.bl _ (by decide)) (iE _ x h1).1 (iE _ y h2).1 (star_cons hg.1.1.2) (star_cons hg.1.2), fun _ => rfl⟩
      · cases h
    · cases h
  · cases h
mutual
def cS (c : CC) : Nat → Stmt → Option Is
  | 0, _ => none
  | n + 1, .Assign [tg] e pos => match tg with
      | .Name x p => (match c.sto x with
          | none => none
          | some i => match e with
            | .ListComp elt gens scope epos => (match c.kind x with
                | some .local => if !c.hot && (p.line == epos.line) && !(scope.names.any fun (n, k) => n == x && (k == .local || k == .cell)) then (cE c n (.ListComp elt gens scope epos)).map (.set i) else none
                | some .cell => (cE c n (.ListComp elt gens scope epos)).map (.set i)
                | _ => none)
            | e => if noComp e then (cE c n e).map (.set i) else none)
      | .Tuple ts k p => if !noTup e then (if !c.hot && swapNone (fun x => c.kind x) ts then (match cTg c n (.Tuple ts k p), cE c n e with | some g, some x => some (.asg g x) | _, _ => none) else match parOf ts e with
          | some (x, px, y, py, a, b) => if !c.hot && decide (x ≠ y) && (py.line == px.line) && noStar a && noStar b && !([a, b].all (foldedForSure 8)) && !([a, b].all (constantsAlone 8)) then
              (match c.kind x, c.kind y, c.slot x, c.slot y, cE c n a, cE c n b with
              | some .local, some .local, some i, some j, some u, some v => some (.par i j u v)
              | _, _, _, _, _, _ => none) else none
          | none => none) else if noComp e && noTup e then (match cTg c n (.Tuple ts k p), cE c n e with | some g, some x => some (.asg g x) | _, _ => none) else none
      | .Subscript o i p => if noSlice i then (match cE c n o, cE c n i, cE c n e with | some x, some y, some z => some (.asgS x y z) | _, _, _ => none) else none
      | _ => none
  | n + 1, .AugAssign (.Name x p) op e pos => (match op with
      | .Add => (match c.sto x, cE c n e with | some i, some y => some (.aug i .Add y) | _, _ => none)
      | .Sub => (match c.sto x, cE c n e with | some i, some y => some (.aug i .Sub y) | _, _ => none)
      | _ => none)
  | n + 1, .Expr e pos => if noComp e then (cE c n e).map .ex else none
  | n + 1, .Return (some e) pos => (cE c n e).map .ret
  | n + 1, .Return none pos => some .retN
  | n + 1, .Pass pos => some .pss
  | n + 1, .Break pos => some .brk
  | n + 1, .Continue pos => some .cnt
  | n + 1, .If t a b pos => match cE c n t, cSs c n a, cSs c n b with | some x, some y, some z => some (.ife x y z) | _, _, _ => none
  | n + 1, .While t b [] pos => if c.hot then none else match cE c n t, cSs c n b with | some x, some y => some (.whl x y) | _, _ => none
  | n + 1, .For tg it b [] pos => if c.hot then (if c.hfor then (match cTg c n tg, cIH c n tg it, cSs c n b with | some g, some x, some y => some (.fr g x y) | _, _, _ => none) else none) else match cTg c n tg, cI c n tg it, cSs c n b with | some g, some x, some y => some (.fr g x y) | _, _, _ => none
  | n + 1, .Raise e c' pos => (match rsOf e c' with
      | some (x, e, es) => if !c.hot && c.gl x && okName x && okArgs (e :: es) then
          (match c.rss.lookup x, cList (cE c n) (e :: es) with | some k, some ys => if k = (e :: es).length then some (.rse x ys) else none | _, _ => none) else none
      | none => none)
  | n + 1, .Try b (h :: hs) [] [] pos => if c.hot then none else match cSs c n b, cHs c n (h :: hs) with | some x, some y => some (.tri x y) | _, _ => none
  | _, _ => none
def cSs (c : CC) : Nat → List Stmt → Option Iss
  | _, [] => some .nil
  | 0, _ => none
  | n + 1, s :: ss => match cS c n s, cSs c n ss with | some x, some y => some (.cons x y) | _, _ => none
def cHs (c : CC) : Nat → List ExceptHandler → Option Ihs
  | _, [] => some .nil
  | 0, _ => none
  | n + 1, .ExceptHandler (some (.Name x _)) nm (b :: bs) _ :: r => if c.exs.contains x && c.gl x && okName x then
      (match nm with
      | none => (match cSs (c.suite none) n (b :: bs), cHs c n r with | some y, some z => some (.cons x none y z) | _, _ => none)
      | some e => (match c.kind e, c.slot e with
        | some .local, some i => (match cSs (c.suite (some e)) n (b :: bs), cHs c n r with | some y, some z => some (.cons x (some i) y z) | _, _ => none)
        | _, _ => none))
      else none
  | _, _ => none
end
structure SndS (c : CC) (X : Cx) (G : Env') (T : Tab) (hx : HX) (W : WX) : Prop extends Snd c X G T hx W where
  own : c.hot = false → PassesOwn (model X.prog X.w) X.A X.env X.xe
  ownH : c.hot = true → c.hfor = true → PassesOwn (model X.prog X.w) X.A X.env X.xe
  knd : c.hot = false → X.env.scope.kind = .function
  stk : c.hot = false → X.stack = X.env :: X.outer ∧ X.env.frame = some X.env.locals
  nhx : c.hot = false → hx = none
  nox : c.hot = false → c.exv = none
  room : c.hot = false → Room 2 X.A
  rs : c.hot = false → ∀ x k, c.rss.lookup x = some k → EclOk X.prog X.w X.K X.mg X.base T x (G.fds x) ∧ (G.fds x).length = k
  cls : c.hot = false → ∀ cn ca ks, T cn = some (ca, ks) → XfC X.K ca ∧ ExcC X.K ca ∧ ∀ f, c.flds.contains f = true → PySem.W.findIn X.K (.ref ca) f = some none
  exs : c.hot = false → ∀ t, c.exs.contains t = true → ∃ (v : V) (cv : Value), (∀ u, RelV v u → u = cv) ∧ RelV v cv ∧ (X.mg t = some cv ∨ (X.mg t = none ∧ bootBuiltins t = some cv)) ∧
    ∀ cn ca ks, T cn = some (ca, ks) → PySem.W.kitOne X.K (.ref ca) cv = some (G.sub cn t) ∧ PySem.W.exmOne X.K (.ref ca) cv = some (G.sub cn t)
  hfn : c.hot = false → ∀ f k, c.hfns.lookup f = some k → ∀ h, FnHt X.prog X.w X.K X.mg X.base (X.A.mark h) T (G.con f) f k
section
variable {G : Env'} {T : Tab}
theorem sd_fldE {c : CC} {X : Cx} {W W' : WX} {hx0 : HX} (s : SndS c X G T hx0 W) (hh : c.hot = false) {a ca d : Addr} {oe : Obj} {pn : List (Addr × Obj)} {cn : Str} {ks : List Str} (eT : T cn = some (ca, ks)) (hz : L2N.Zn (.ref ca) (some d) oe) (hf : ∃ vs, oe.data = .fields vs)
    {e f : Str} {i : Nat} {p pos : Pos} (hi : c.slot e = some i) (hv : c.vis e = true) (hfl : c.flds.contains f = true) (ho : okName e = true) :
    PE (X.suite a ((a, oe) :: pn)) (.Attribute (.Name e p) f pos) (tDE X.K T (some (a, cn, d)) W' (wE G (.fld i f))) := by
  obtain ⟨h1, h2, _⟩ := okName_at ho
  obtain ⟨xf, _, hno⟩ := s.cls hh cn ca ks eT
  have hv' : Vis X.env.scope e := by rw [s.sc]; exact CC.vis_at hv
  have pv : PE (X.suite a ((a, oe) :: pn)) (.Name e p) (tVar i) := pe_var (X := X.suite a ((a, oe) :: pn)) (by show X.N[i]? = _; rw [s.N]; exact CC.slot_at hi) hv' h1 h2
  refine PE.weaken (pe_xf xf (hno f hfl) hz.zc hf pv rfl) fun σ H Q ⟨μ, ρ, A, E, Q', pk, h, fin⟩ => ?_
  change (match ρ[i]? with | some (some (.exn _ ks ds)) => (match (ks.zip ds).lookup f with | some d => Q' d A | none => False) | _ => False) at h
  split at h
  · rename_i c2 ks2 ds2 e2
    split at h
    · rename_i dd el
      obtain ⟨v, ev, a2, d2, vs, rfl, ehx, hl, hd, hr⟩ := pk.s.val i _ e2
      cases ehx
      have key : ∀ (ks : List Str) (ds : List Px.D) (vs : List V), RelDs X.K μ H ds vs → ∀ dd, (ks.zip ds).lookup f = some dd → ∃ v, (ks.zip vs).lookup f = some v ∧ RelD X.K μ H dd v := by
        intro ks
        induction ks with
        | nil => intro ds vs _ dd h; simp at h
        | cons k ks ih =>
          intro ds vs r dd h
          cases ds with
          | nil => simp at h
          | cons x ds =>
            obtain ⟨v, t, rfl, r1, r2⟩ := RelDs.cons_iff.mp r
            simp only [List.zip_cons_cons, List.lookup_cons] at h ⊢
            split at h
            · cases h; exact ⟨v, rfl, r1⟩
            · exact ih ds t r2 dd h
      obtain ⟨v, lv, rv⟩ := key _ _ _ hr dd el
      exact ⟨_, ev, rfl, rfl, _, _, v, rfl, hd, lv, fin v H μ dd A .refl rv pk.h h⟩
    · exact h.elim
  · exact h.elim
theorem sd_isxE {c : CC} {X : Cx} {W W' : WX} {hx0 : HX} (s : SndS c X G T hx0 W) (hh : c.hot = false) {a ca d : Addr} {oe : Obj} {pn : List (Addr × Obj)} {cn : Str} {ks : List Str} (eT : T cn = some (ca, ks)) (hz : L2N.Zn (.ref ca) (some d) oe) (hf : ∃ vs, oe.data = .fields vs)
    {e t : Str} {i : Nat} {p p1 p2 pos : Pos} (hi : c.slot e = some i) (hv : c.vis e = true) (he : c.exs.contains t = true) (hg : c.gl t = true) (ho : okName t = true) (ho2 : okName e = true) (hi2 : c.gl "isinstance" = true) :
    PE (X.suite a ((a, oe) :: pn)) (.Call (.Name "isinstance" p) [.Name e p1, .Name t p2] [] pos) (tDE X.K T (some (a, cn, d)) W' (wE G (.isx i t))) := by
  obtain ⟨h1, h2, _⟩ := okName_at ho2
  obtain ⟨h3, h4, h5⟩ := okName_at ho
  obtain ⟨_, ec, _⟩ := s.cls hh cn ca ks eT
  obtain ⟨v, cv, u1, u2, gm, kk⟩ := s.exs hh t he
  have hv' : Vis X.env.scope e := by rw [s.sc]; exact CC.vis_at hv
  have pv : PE (X.suite a ((a, oe) :: pn)) (.Name e p1) (tVar i) := pe_var (X := X.suite a ((a, oe) :: pn)) (by show X.N[i]? = _; rw [s.N]; exact CC.slot_at hi) hv' h1 h2
  have hgt : Gl (X.suite a ((a, oe) :: pn)) t := s.gl hg
  have pt : PE (X.suite a ((a, oe) :: pn)) (.Name t p2) (tC v) := by
    rcases gm with m | ⟨m, b⟩
    · exact pe_glob hgt m u2 h3
    · exact pe_bltn hgt m b u2 h5 h3
  have hgi : Gl (X.suite a ((a, oe) :: pn)) "isinstance" := s.gl hi2
  refine PE.weaken (pe_callB (call_isD ec hz.zc hf) hgi (s.bl _ (by decide)) (by decide +kernel) (pa_cons pv (pa_cons pt pa_nil rfl) rfl) (by decide) (by decide) rfl rfl) fun σ H Q ⟨μ, ρ, A, E, Q', pk, h, fin⟩ => ?_
  change (match ρ[i]? with | some (some (.exn c' _ _)) => Q' (.bl (G.sub c' t)) A | _ => False) at h
  split at h
  · rename_i c2 ks2 ds2 e2
    obtain ⟨w, ev, a2, d2, vs, rfl, ehx, hl, hd, hr⟩ := pk.s.val i _ e2
    cases ehx
    exact ⟨_, ev, v, cv, _, _, rfl, u1, (kk _ _ _ eT).1, hd, fin _ H μ _ A .refl to_bl pk.h h⟩
  · exact h.elim
theorem isx_names {c : CC} {X : Cx} {W : WX} {hx0 : HX} (s : SndS c X G T hx0 W) (hh : c.hot = false) {a : Addr} {pn : List (Addr × Obj)} {cn : Str} {ca : Addr} {ks : List Str} (eT : T cn = some (ca, ks)) : ∀ {xs : List Expr} {ts : List Str}, nmArgs xs = some ts → (∀ t ∈ ts, c.exs.contains t = true ∧ c.gl t = true ∧ okName t = true) →
    ∃ (vs : List V) (cvs : List Value), PA (X.suite a pn) xs (fun σ H Q => Q vs H) ∧ vs.length = ts.length ∧ (∀ us, Vals vs us → us = cvs) ∧ PySem.W.kitAny X.K (.ref ca) cvs = some (ts.any fun t => G.sub cn t)
  | [], ts, h, _ => by
    cases h
    exact ⟨[], [], pa_nil, rfl, fun us r => by cases r; rfl, rfl⟩
  | .Name t p2 :: r, ts, h, hall => by
    have h : (nmArgs r).map (t :: ·) = some ts := h
    simp only [Option.map_eq_some_iff] at h
    obtain ⟨l, hl, rfl⟩ := h
    obtain ⟨vs, cvs, ha, hlen, hu, hk⟩ := isx_names s hh eT hl fun t' ht => hall t' (by simp [ht])
    obtain ⟨he, hg, ho⟩ := hall t (by simp)
    obtain ⟨h3, h4, h5⟩ := okName_at ho
    obtain ⟨v, cv, u1, u2, gm, kk⟩ := s.exs hh t he
    have hgt : Gl (X.suite a pn) t := s.gl hg
    have pt : PE (X.suite a pn) (.Name t p2) (tC v) := by
      rcases gm with m | ⟨m, b⟩
      · exact pe_glob hgt m u2 h3
      · exact pe_bltn hgt m b u2 h5 h3
    refine ⟨v :: vs, cv :: cvs, pa_cons pt ha rfl, by simp [hlen], fun us r => ?_, ?_⟩
    · cases r with
      | cons r1 r2 => rw [u1 _ r1, hu _ r2]
    · refine kitAny_cons (kk _ _ _ eT).1 (fun hb => ?_) fun hb => ?_
      · rw [List.any_cons, hb, Bool.false_or]; exact hk
      · rw [List.any_cons, hb, Bool.true_or]
theorem sd_isxsE {c : CC} {X : Cx} {W W' : WX} {hx0 : HX} (s : SndS c X G T hx0 W) (hh : c.hot = false) {a ca d : Addr} {oe : Obj} {pn : List (Addr × Obj)} {cn : Str} {ks : List Str} (eT : T cn = some (ca, ks)) (hz : L2N.Zn (.ref ca) (some d) oe) (hf : ∃ vs, oe.data = .fields vs)
    {e : Str} {ts : List Str} {xs : List Expr} {i kk : Nat} {p p1 tpos pos : Pos} (hi : c.slot e = some i) (hv : c.vis e = true) (ho2 : okName e = true) (hlen : ts.length ≤ 64) (hn : nmArgs xs = some ts) (hall : ∀ t ∈ ts, c.exs.contains t = true ∧ c.gl t = true ∧ okName t = true) (hi2 : c.gl "isinstance" = true) :
    PE (X.suite a ((a, oe) :: pn)) (.Call (.Name "isinstance" p) [.Name e p1, .Tuple xs kk tpos] [] pos) (tDE X.K T (some (a, cn, d)) W' (wE G (.isxs i ts))) := by
  obtain ⟨h1, h2, _⟩ := okName_at ho2
  obtain ⟨_, ec, _⟩ := s.cls hh cn ca ks eT
  have hv' : Vis X.env.scope e := by rw [s.sc]; exact CC.vis_at hv
  have pv : PE (X.suite a ((a, oe) :: pn)) (.Name e p1) (tVar i) := pe_var (X := X.suite a ((a, oe) :: pn)) (by show X.N[i]? = _; rw [s.N]; exact CC.slot_at hi) hv' h1 h2
  obtain ⟨vs, cvs, ha, hl2, hu, hk⟩ := isx_names s hh (a := a) (pn := (a, oe) :: pn) eT hn hall
  have hgi : Gl (X.suite a ((a, oe) :: pn)) "isinstance" := s.gl hi2
  refine PE.weaken (pe_callB (call_isDT ec hz.zc hf) hgi (s.bl _ (by decide)) (by decide +kernel) (pa_cons pv (pa_cons (pe_tup ha) pa_nil rfl) rfl) (by decide) (by decide) rfl rfl) fun σ H Q ⟨μ, ρ, A, E, Q', pk, h, fin⟩ => ?_
  change (match ρ[i]? with | some (some (.exn c' _ _)) => Q' (.bl (ts.any fun c => G.sub c' c)) A | _ => False) at h
  split at h
  · rename_i c2 ks2 ds2 e2
    obtain ⟨w, ev, a2, d2, ws, rfl, ehx, hl, hd, hr⟩ := pk.s.val i _ e2
    cases ehx
    refine ⟨_, ev, by rw [hl2]; exact Nat.le_trans hlen (by rw [PySem.sizeLine_eq]; decide), fun tp htp => ?_⟩
    have hd' := hd
    rw [← upd_ne (H := H) (a := tp) (o := .tup vs) (fun z => by rw [z, htp] at hd; cases hd)] at hd'
    exact ⟨tp, vs, cvs, _, _, rfl, upd_same, hu, hk, hd', fin _ _ μ _ A (stp_upd0 htp) to_bl (pk.h.tupd htp) h⟩
  · exact h.elim
end
end Px
end TextPx16

section TextPx17
set_option autoImplicit false
set_option maxRecDepth 100000
set_option maxHeartbeats 8000000
/-! Px17: the main theorem for statements. -/
namespace Px
open PySem PySem.Spec PyProof.Rows L2
section
variable {G : Env'} {T : Tab}
theorem snd_suite {c : CC} {X : Cx} {W : WX} (s : SndS c X G T none W) (hh : c.hot = false) {a ca d : Addr} {oe : Obj} (pn : List (Addr × Obj)) {cn : Str} {ks : List Str} (eT : T cn = some (ca, ks)) (hz : L2N.Zn (.ref ca) (some d) oe) (hf : ∃ vs, oe.data = .fields vs) (eo : Option Str) :
    SndS (c.suite eo) (X.suite a ((a, oe) :: pn)) G T (match eo with | none => none | some _ => some (a, cn, d)) W0 where
  N := s.N
  nd := s.nd
  sc := s.sc
  calm := fun h => by cases h
  fnv := s.fnv
  hu := s.hu
  gd := fun _ h => by cases h
  bl := s.bl
  cts := s.cts
  tk := takes_noneN
  fns := fun h => by cases h
  kws := fun h => by cases h
  hfns := fun _ => ⟨⟨(a, oe), ⟨rfl, by obtain ⟨vs, hv⟩ := hf; exact ⟨vs, hv, hz.2.2 vs hv⟩⟩, List.mem_cons_self⟩, fun f k h => s.hfn hh f k h _⟩
  fld := fun e i f p pos h1 h2 h3 h4 h5 => by
    cases eo with
    | none => cases h1
    | some e' => exact sd_fldE s hh eT hz hf (show c.slot e = some i from h2) (show c.vis e = true from h3) h4 h5
  isx := fun e i t p p1 p2 pos h1 h2 h3 h4 h5 h6 h7 h8 => by
    cases eo with
    | none => cases h1
    | some e' => exact sd_isxE s hh eT hz hf (show c.slot e = some i from h2) (show c.vis e = true from h3) h4 h5 h6 h7 h8
  isxs := fun e i ts xs kk p p1 tpos pos h1 h2 h3 h4 h5 h6 h7 h8 => by
    cases eo with
    | none => cases h1
    | some e' => exact sd_isxsE s hh eT hz hf (show c.slot e = some i from h2) (show c.vis e = true from h3) h4 h5 h6 h7 h8
  own := fun h => by cases h
  ownH := fun _ h => by cases h
  knd := fun h => by cases h
  stk := fun h => by cases h
  nhx := fun h => by cases h
  nox := fun h => by cases h
  room := fun h => by cases h
  rs := fun h => by cases h
  cls := fun h => by cases h
  exs := fun h => by cases h
  hfn := fun h => by cases h
theorem snd_tr {c : CC} {X : Cx} {hx : HX} {W : WX} (s : SndS c X G T hx W) (hh : c.hot = false) {W' : WX} {pn : List (Addr × Obj)} {xe : Value → Shared → Prop} (tk : L2N.Takes (X.tr pn xe) W') (ow : PassesOwn (model X.prog X.w) X.A X.env xe) (hv : c.exv = none) : SndS c (X.tr pn xe) G T hx W' where
  N := s.N
  nd := s.nd
  sc := s.sc
  calm := s.calm
  fnv := s.fnv
  hu := s.hu
  gd := fun h1 h2 => s.gd h1 h2
  bl := s.bl
  cts := s.cts
  tk := tk
  fns := s.fns
  kws := s.kws
  hfns := fun h => by rw [hh] at h; cases h
  fld := fun e i f p pos h1 => by rw [hv] at h1; cases h1
  isx := fun e i t p p1 p2 pos h1 => by rw [hv] at h1; cases h1
  isxs := fun e i ts xs kk p p1 tpos pos h1 => by rw [hv] at h1; cases h1
  own := fun _ => ow
  ownH := fun h => by rw [hh] at h; cases h
  knd := s.knd
  stk := s.stk
  nhx := s.nhx
  nox := s.nox
  room := s.room
  rs := s.rs
  cls := s.cls
  exs := s.exs
  hfn := s.hfn
theorem RelS.ofNone {K : PySem.W.Frag} {hx : HX} {μ : List Addr} {H : Hp} {ρ : Rho} {σ : L2.St} (r : RelS K none μ H ρ σ) : RelS K hx μ H ρ σ :=
  ⟨r.len, fun i d e => by
    obtain ⟨v, ev, q⟩ := r.val i d e
    refine ⟨v, ev, ?_⟩
    cases d with
    | exn c ks ds => obtain ⟨a, d, vs, _, z, _⟩ := q; cases z
    | _ => exact q⟩
/-- what the clauses mean -/
def HSem (K : PySem.W.Frag) (G : Env') (T : Tab) (ihs : Ihs) (l : List (Value × Option Nat × (Addr → Value → Option Addr → TS))) : Prop :=
  ∀ (N : Dn) (D : Ends) (Wout : WX) (μ : List Addr) (H : Hp) (ρ : Rho) (σ : L2.St) (A : Ht) (c : Str) (ca : Addr) (ks : List Str) (ds : List Px.D) (a' : Addr) (vs : List V), Fit K T none Wout N D μ H → RelS K none μ H ρ σ → HR K μ A H → T c = some (ca, ks) → ks.length = vs.length →
    H a' = some (.xd (ks.zip vs)) → RelDs K μ H ds vs → wHs G ihs (.exn c ks ds) N ρ A → wA K Wout D l (.ref ca) (some a') σ H
theorem hsem_nil {K : PySem.W.Frag} : HSem K G T .nil [] := fun N D Wout μ H ρ σ A c ca ks ds a' vs f rs hr eT hl ed rd q => f.xe μ ρ σ H _ _ _ .refl rs ⟨μ, A, c, ca, ks, ds, a', vs, .refl, hr, eT, rfl, rfl, hl, ed, rd, q⟩
/-- a suite's reading, whichever error it holds -/
def tSu (K : PySem.W.Frag) (G : Env') (T : Tab) (named : Bool) (ib : Iss) : Addr → Value → Option Addr → TS := fun a cls dd D σ H => ∃ (cn : Str) (ca : Addr) (ks : List Str) (d : Addr), T cn = some (ca, ks) ∧ cls = .ref ca ∧ dd = some d ∧ tDS K T (if named = true then some (a, cn, d) else none) W0 (wSs G ib) D σ H
theorem hsem_cons {K : PySem.W.Frag} {x : Str} {cv : Value} {oi : Option Nat} {ib : Iss} {ihs : Ihs} {l : List (Value × Option Nat × (Addr → Value → Option Addr → TS))} (hx : ∀ cn ca ks, T cn = some (ca, ks) → PySem.W.exmOne K (.ref ca) cv = some (G.sub cn x)) (r : HSem K G T ihs l) :
    HSem K G T (.cons x oi ib ihs) ((cv, oi, tSu K G T oi.isSome ib) :: l) := by
  intro N D Wout μ H ρ σ A c ca ks ds a' vs f rs hr eT hl ed rd q
  refine ⟨G.sub c x, hx c ca ks eT, fun hb a ha => ⟨c, ca, ks, a', eT, rfl, rfl, ?_⟩, fun hb => ?_⟩
  · change (if G.sub c x = true then _ else _) at q
    rw [hb] at q
    simp only [if_true] at q
    cases oi with
    | none =>
      refine ⟨μ, ρ, A, { nx := N.nx, rt := N.rt, bk := N.bk, ct := N.ct }, rs, hr, ⟨f.nx, f.rt, f.bk, f.ct, fun μ' ρ' σ' H' c2 dd H2 _ _ u => u.no.elim⟩, q⟩
    | some i =>
      refine ⟨μ, ρ.set i (some (.exn c ks ds)), A, { nx := fun ρ' A' => N.nx (clean (ρ'.set i none)) A', rt := N.rt, bk := fun ρ' A' => N.bk (clean (ρ'.set i none)) A', ct := fun ρ' A' => N.ct (clean (ρ'.set i none)) A' },
        (RelS.ofNone rs).setX i ⟨a, a', vs, rfl, rfl, hl, ed, rd⟩, hr, ⟨?_, f.rt, ?_, ?_, fun μ' ρ' σ' H' c2 dd H2 _ _ u => u.no.elim⟩, q⟩
      · exact fun μ' ρ' A' σ' H' s r h q => f.nx μ' _ A' _ H' s (r.forget i).clean h q
      · exact fun μ' ρ' A' σ' H' s r h q => f.bk μ' _ A' _ H' s (r.forget i).clean h q
      · exact fun μ' ρ' A' σ' H' s r h q => f.ct μ' _ A' _ H' s (r.forget i).clean h q
  · change (if G.sub c x = true then _ else _) at q
    rw [hb] at q
    simp only [Bool.false_eq_true, if_false] at q
    exact r N D Wout μ H ρ σ A c ca ks ds a' vs f rs hr eT hl ed rd q
theorem lc_parts {c : CC} {X : Cx} {hx : HX} {W : WX} (s : Snd c X G T hx W) (hh : c.hot = false) {n : Nat} {elt : Expr} {gens : List Comprehension} {scope : Scope} {pos : Pos} {ir : Ie} (h : cE c (n + 1) (.ListComp elt gens scope pos) = some ir) :
    ∃ tg iter ifs g it t el, gens = [⟨tg, iter, ifs, 0⟩] ∧ ir = .lc g it t el (tgSlots g) ∧ c.hot = false ∧ PI X tg iter (tDI X.K T hx W (wI G it)) ∧ (∀ x, foldedSetIterable iter X.env x = pure x) ∧ BlkOk X.N X.env.scope scope (ownOf c (tgSlots g)) ∧
      (∀ (s0 : Shared) (H : Hp) (C : Addr) (cl : List (Str × Addr)) (fp : List Addr), PG (X.blk s0 H scope (compEnvC scope cl C X.env) fp) tg (gD X.K hx g)) ∧
      (∀ (s0 : Shared) (H : Hp) (C : Addr) (cl : List (Str × Addr)) (fp : List Addr), PTs (X.blk s0 H scope (compEnvC scope cl C X.env) fp) ifs (tDT X.K T hx W0 (wTo G t))) ∧
      (∀ (s0 : Shared) (H : Hp) (C : Addr) (cl : List (Str × Addr)) (fp : List Addr), PE (X.blk s0 H scope (compEnvC scope cl C X.env) fp) elt (tDE X.K T hx W0 (wE G el))) := by
  match gens, h with
  | [⟨tg, iter, ifs, asy⟩], h =>
    have has : asy = 0 := by
      refine Classical.byContradiction fun has => ?_
      unfold cE at h
      split at h
      all_goals first | (rename_i e1; cases e1; done) | (rename_i e1; cases e1; exact absurd rfl has) | (rename_i e1 _; cases e1; exact absurd rfl has) | cases h
    subst has
    simp only [cE] at h
    split at h
    · rename_i z; rw [hh] at z; cases z
    · split at h
      · rename_i g it el h1 h2 h3
        split at h
        · rename_i hb
          have ok := blkOk_by hb
          obtain ⟨iE, iI⟩ := sd_all (G := G) (T := T) (hx := hx) n s
          have fin : ∀ t, (∀ (s0 : Shared) (H : Hp) (C : Addr) (cl : List (Str × Addr)) (fp : List Addr), PTs (X.blk s0 H scope (compEnvC scope cl C X.env) fp) ifs (tDT X.K T hx W0 (wTo G t))) → ir = .lc g it t el (tgSlots g) → _ := fun t ht hir =>
            (⟨tg, iter, ifs, g, it, t, el, rfl, hir, hh, (iI tg iter it h2).1, fun x => (iI tg iter it h2).2 _ x, by rw [s.N, s.sc]; exact ok, fun s0 H C cl fp => (sd_tgs n (snd_inner s hh scope s0 H C cl fp)).1 tg g h1, ht,
              fun s0 H C cl fp => ((sd_all n (snd_inner s hh scope s0 H C cl fp)).1 elt el h3).1⟩ : ∃ tg' iter' ifs' g it t el, [(⟨tg, iter, ifs, 0⟩ : Comprehension)] = [⟨tg', iter', ifs', 0⟩] ∧ ir = .lc g it t el (tgSlots g) ∧ c.hot = false ∧ PI X tg' iter' (tDI X.K T hx W (wI G it)) ∧ (∀ x, foldedSetIterable iter' X.env x = pure x) ∧ BlkOk X.N X.env.scope scope (ownOf c (tgSlots g)) ∧
      (∀ (s0 : Shared) (H : Hp) (C : Addr) (cl : List (Str × Addr)) (fp : List Addr), PG (X.blk s0 H scope (compEnvC scope cl C X.env) fp) tg' (gD X.K hx g)) ∧
      (∀ (s0 : Shared) (H : Hp) (C : Addr) (cl : List (Str × Addr)) (fp : List Addr), PTs (X.blk s0 H scope (compEnvC scope cl C X.env) fp) ifs' (tDT X.K T hx W0 (wTo G t))) ∧
      (∀ (s0 : Shared) (H : Hp) (C : Addr) (cl : List (Str × Addr)) (fp : List Addr), PE (X.blk s0 H scope (compEnvC scope cl C X.env) fp) elt (tDE X.K T hx W0 (wE G el))))
          split at h
          · cases h
            exact fin .no (fun s0 H C cl fp => ⟨fun pins s1 σ H Q I ⟨μ, ρ, A, E, Q', p, h, fin⟩ => pts_nil.run pins s1 σ H Q I (fin true H μ A .refl p.h h)⟩) rfl
          · rename_i t
            simp only [Option.map_eq_some_iff] at h
            obtain ⟨t', h4, rfl⟩ := h
            exact fin (.so t') (fun s0 H C cl fp => pts_one ((sd_all n (snd_inner s hh scope s0 H C cl fp)).1 t t' h4).2) rfl
          · cases h
        · cases h
      · cases h
  | [], h => simp [cE] at h
  | _ :: _ :: _, h => simp [cE] at h
end
end Px
end TextPx17

section TextPx18
set_option autoImplicit false
set_option maxRecDepth 100000
set_option maxHeartbeats 8000000
/-! Px18: every compiled body is sound. -/
namespace Px
open PySem PySem.Spec PyProof.Rows L2
section
variable {G : Env'} {T : Tab}
theorem ps_freeze {X : Cx} {st : Stmt} {t : TS} (h : PS X st t) : PS X st (fun D σ H => t { D with nx := fun σ' H' => D.nx σ' H' ∨ ∃ a xs, H' a = some (.lst xs) ∧ ∀ od, D.nx σ' (upd H' a (.frz od (.lst xs))) } σ H) := by
  refine ⟨fun pins s σ H D I hw => thn (h.run pins s σ H _ I hw) fun f s1 q => ?_⟩
  cases f with
  | next =>
    obtain ⟨σ', H', I2, q⟩ := q
    rcases q with q | ⟨a, xs, ea, k⟩
    · exact ⟨σ', H', I2, q⟩
    · obtain ⟨od, I3⟩ := I2.lock ea trivial
      exact ⟨σ', _, I3, k od⟩
  | brk => exact q
  | cont => exact q
  | ret v => exact q
theorem sw_cell {elt : Expr} {gs : List Comprehension} {scope : Scope} {pos py : Pos} {y : Str} {l : Nat} {env : Env} (hy : env.scope.names.lookup y = some .cell) : swapsWith (.ListComp elt gs scope pos) (some (.Name y py)) l env = pure false := by
  have ky : env.kindOf y = some .cell := hy
  have e : (some NameKind.cell == some NameKind.local) = false := by decide
  unfold swapsWith
  simp only [ky, e, Bool.and_false, Bool.false_and]
theorem ss_setLc {c : CC} {X : Cx} {hx : HX} {W : WX} (s : SndS c X G T hx W) (hhot : c.hot = false) (hk : X.env.scope.kind = .function) {n : Nat} {x : Str} {i : Nat} {p pos epos : Pos} {elt : Expr} {gens : List Comprehension} {scope : Scope} {ir : Ie} (h : cE c (n + 1) (.ListComp elt gens scope epos) = some ir) (hi : X.N[i]? = some x) (hl : X.env.scope.names.lookup x = some .local)
    (hln : (p.line == epos.line) = true) (ha : (scope.names.any fun (n, k) => n == x && (k == .local || k == .cell)) = false) : PS X (.Assign [.Name x p] (.ListComp elt gens scope epos) pos) (tDS X.K T hx W (wS G (.set i ir))) := by
  obtain ⟨tg, iter, ifs, g, it, t, el, rfl, rfl, hh, pi, hs, ok, pg, pt, pe⟩ := lc_parts s.toSnd hhot h
  have hc := s.calm hh
  have hw : (ownOf c (tgSlots g)).map (·.2) = tgSlots g := by unfold ownOf; rw [List.map_map]; exact List.map_id' _
  refine PS.weaken (ps_freeze (ps_setLc hc (by rw [s.N]; exact s.nd) hi hl (sw_true hk hl hln ha) pi ok pg pt pe hs)) fun D σ H ⟨μ, ρ, A, N, rs, hr, f, q⟩ => ?_
  refine tLc_of (Q := fun v H' => D.nx (σ.set i (some v)) H') (by rw [hw]; exact fun i h => h) (fun v H' q => q.elim .inl fun ⟨a, xs, _, ea, k⟩ => .inr ⟨a, xs, ea, k⟩) ?_
  rw [hw]
  exact tDE.go (w := wE G (.lc g it t el (tgSlots g))) (f.pk rs hr) (show wE G (.lc g it t el (tgSlots g)) ρ A (N.xe ρ) (fun d A1 => N.nx (ρ.set i (some d)) A1) from q) fun v H1 μ1 d A1 s1 r1 p1 q1 => f.nx μ1 _ A1 _ H1 s1 (p1.s.set i r1) p1.h q1
theorem su_body {X : Cx} {K : PySem.W.Frag} {a : Addr} {cls : Value} {dd : Option Addr} {named : Bool} {ib : Iss} {body : List Stmt} (h : ∀ cn ca ks d, T cn = some (ca, ks) → cls = .ref ca → dd = some d → PSs X body (tDS K T (if named = true then some (a, cn, d) else none) W0 (wSs G ib))) :
    PSs X body (tSu K G T named ib a cls dd) := ⟨fun pins s σ H D I ⟨cn, ca, ks, d, e1, e2, e3, q⟩ => (h cn ca ks d e1 e2 e3).run pins s σ H D I q⟩
theorem sto_loc {c : CC} {X : Cx} {hx : HX} {W : WX} (s : SndS c X G T hx W) {x : Str} {i : Nat} (h : c.sto x = some i) : X.N[i]? = some x ∧ L2.Loc X.env.scope x ∧ (X.fn x = true ∨ X.env.scope.names.lookup x = some .local) := CC.sto_at s.toSnd h
theorem sd_stmts (n : Nat) : ∀ {c : CC} {X : Cx} {hx : HX} {W : WX}, SndS c X G T hx W → (∀ st i, cS c n st = some i → PS X st (tDS X.K T hx W (wS G i))) ∧ (∀ sts is, cSs c n sts = some is → PSs X sts (tDS X.K T hx W (wSs G is))) ∧
    (c.hot = false → ∀ hs ihs, cHs c n hs = some ihs → ∃ l, HdsA X hs l ∧ HSem X.K G T ihs l) := by
  induction n with
  | zero =>
    intro c X hx W s
    refine ⟨fun st i h => by simp [cS] at h, fun sts is h => ?_, fun hh hs ihs h => ?_⟩
    · cases sts with
      | nil => simp only [cSs, Option.some.injEq] at h; subst h; exact ss_nil
      | cons a b => simp [cSs] at h
    · cases hs with
      | nil => simp only [cHs, Option.some.injEq] at h; subst h; exact ⟨[], .nil, hsem_nil⟩
      | cons a b => simp [cHs] at h
  | succ n ih =>
    intro c X hx W s
    obtain ⟨iS, iSs, iH⟩ := ih s
    obtain ⟨iE, iI⟩ := sd_all (G := G) (T := T) (hx := hx) n s.toSnd
    obtain ⟨iG, _⟩ := sd_tgs (G := G) (T := T) (hx := hx) n s.toSnd
    have hN : X.N.Nodup := by rw [s.N]; exact s.nd
    refine ⟨fun st i h => ?_, fun sts is h => ?_, fun hh hs ihs h => ?_⟩
    · cases st with
      | Assign tgs e pos =>
        match tgs, h with
        | [], h => cases h
        | _ :: _ :: _, h => cases h
        | [tg], h =>
          cases tg with
          | Name x p =>
            simp only [cS] at h
            split at h
            · cases h
            · rename_i i' hi
              obtain ⟨k1, k2, k3⟩ := sto_loc s hi
              have gen : noComp e = true → (cE c n e).map (.set i') = some i → PS X (.Assign [.Name x p] e pos) (tDS X.K T hx W (wS G i)) := fun hn h => by
                simp only [Option.map_eq_some_iff] at h
                obtain ⟨ir, h1, rfl⟩ := h
                exact ss_set hN k1 k2 k3 (iE e ir h1).1 (sw_no hn _ _ _)
              split at h
              · split at h
                · rename_i hk
                  split at h
                  · rename_i hc
                    simp only [Bool.and_eq_true, Bool.not_eq_true'] at hc
                    simp only [Option.map_eq_some_iff] at h
                    obtain ⟨ir, h1, rfl⟩ := h
                    cases n with
                    | zero => simp [cE] at h1
                    | succ m =>
                      exact ss_setLc s hc.1.1 (s.knd hc.1.1) h1 k1 (by rw [s.sc]; exact hk) hc.1.2 hc.2
                  · cases h
                · rename_i hk
                  simp only [Option.map_eq_some_iff] at h
                  obtain ⟨ir, h1, rfl⟩ := h
                  exact ss_set hN k1 k2 k3 (iE _ ir h1).1 (sw_cell (by rw [s.sc]; exact hk))
                · cases h
              · split at h
                · rename_i hn
                  exact gen hn h
                · cases h
          | Tuple ts k p =>
            simp only [cS] at h
            split at h
            · rename_i hnt
              split at h
              · rename_i hsw
                simp only [Bool.and_eq_true, Bool.not_eq_true'] at hsw
                split at h
                · rename_i g x h1 h2
                  cases h
                  cases e with
                  | Tuple vs k2 p2 => exact ss_asgP (iE _ x h2).1 (iG _ _ h1) (by rw [← hsw.2]; unfold swapNone Env.kindOf CC.kind; rw [s.sc])
                  | _ => cases hnt
                · cases h
              split at h
              · rename_i x px y py a b hp
                split at h
                · rename_i hc
                  simp only [Bool.and_eq_true, Bool.not_eq_true', decide_eq_true_eq] at hc
                  obtain ⟨⟨⟨⟨⟨⟨hh, hne⟩, hl⟩, sa⟩, sb⟩, f1⟩, f2⟩ := hc
                  split at h
                  · rename_i i1 j1 u v kx ky hi hj h1 h2
                    cases h
                    obtain ⟨rfl, k', p', rfl⟩ := parOf_at hp
                    have ix : X.N[i1]? = some x := by rw [s.N]; exact CC.slot_at hi
                    have jx : X.N[j1]? = some y := by rw [s.N]; exact CC.slot_at hj
                    have lx : X.env.scope.names.lookup x = some .local := by rw [s.sc]; exact kx
                    have ly : X.env.scope.names.lookup y = some .local := by rw [s.sc]; exact ky
                    exact ss_par (s.calm hh) hN ix jx (fun z => by subst z; rw [ix] at jx; cases jx; exact hne rfl) lx ly (iE a u h1).1 (iE b v h2).1 sa sb (sw_par (s.knd hh) lx ly hl hne sa sb f1 f2)
                  · cases h
                · cases h
              · cases h
            split at h
            · rename_i hc
              simp only [Bool.and_eq_true] at hc
              split at h
              · rename_i g x h1 h2
                cases h
                exact ss_asg (iE e x h2).1 (iG _ _ h1) hc.1 hc.2 rfl
              · cases h
            · cases h
          | Subscript o i' p =>
            simp only [cS] at h
            split at h
            · rename_i hc
              split at h
              · rename_i x y z h1 h2 h3
                cases h
                exact ss_asgS s.hu (iE e z h3).1 (iE o x h1).1 (iE i' y h2).1 hc
              · cases h
            · cases h
          | _ => cases h
      | AugAssign tg op e pos =>
        cases tg with
        | Name x p =>
          cases op with
          | Add =>
            simp only [cS] at h
            split at h
            · rename_i i' y hi h1
              cases h
              obtain ⟨k1, k2, k3⟩ := sto_loc s hi
              exact ss_aug (.inl rfl) hN k1 k2 k3 (iE e y h1).1
            · cases h
          | Sub =>
            simp only [cS] at h
            split at h
            · rename_i i' y hi h1
              cases h
              obtain ⟨k1, k2, k3⟩ := sto_loc s hi
              exact ss_aug (.inr rfl) hN k1 k2 k3 (iE e y h1).1
            · cases h
          | _ => cases h
        | _ => cases h
      | Expr e pos =>
        simp only [cS] at h
        split at h
        · rename_i hn
          simp only [Option.map_eq_some_iff] at h
          obtain ⟨x, h1, rfl⟩ := h
          exact ss_ex (iE e x h1).1 hn
        · cases h
      | Return e pos =>
        cases e with
        | none => simp only [cS, Option.some.injEq] at h; subst h; exact ss_retN
        | some e =>
          simp only [cS, Option.map_eq_some_iff] at h
          obtain ⟨x, h1, rfl⟩ := h
          exact ss_ret (iE e x h1).1
      | Pass pos => simp only [cS, Option.some.injEq] at h; subst h; exact ss_pass
      | Break pos => simp only [cS, Option.some.injEq] at h; subst h; exact ss_brk
      | Continue pos => simp only [cS, Option.some.injEq] at h; subst h; exact ss_cnt
      | If t a b pos =>
        simp only [cS] at h
        split at h
        · rename_i x y z h1 h2 h3
          cases h
          exact ss_if (iE t x h1).2 (iSs a y h2) (iSs b z h3)
        · cases h
      | While t b els pos =>
        cases els with
        | cons _ _ => cases h
        | nil =>
          simp only [cS] at h
          split at h
          · cases h
          · rename_i hh
            split at h
            · rename_i x y h1 h2
              cases h
              exact ss_while (s.own (by simpa using hh)) (iE t x h1).2 (iSs b y h2)
            · cases h
      | For tg it b els pos =>
        cases els with
        | cons _ _ => cases h
        | nil =>
          simp only [cS] at h
          split at h
          · rename_i hh
            split at h
            · rename_i hf
              split at h
              · rename_i g x y h1 h2 h3
                cases h
                obtain ⟨k1, k2⟩ := sd_ih (G := G) (T := T) (hx := hx) s.toSnd h2
                exact ss_forH (s.ownH hh hf) (s.hfns hh).1 k1 k2 (iG tg g h1) (iSs b y h3)
              · cases h
            · cases h
          · rename_i hh
            have hh : c.hot = false := by simpa using hh
            split at h
            · rename_i g x y h1 h2 h3
              cases h
              exact ss_for (s.own hh) (s.calm hh) (iI tg it x h2).1 (fun z => (iI tg it x h2).2 _ z) (iG tg g h1) (iSs b y h3)
            · cases h
      | Raise e c' pos =>
        simp only [cS] at h
        split at h
        · rename_i x e es hr
          obtain ⟨p, p2, rfl, rfl⟩ := rsOf_at hr
          split at h
          · rename_i hc
            simp only [Bool.and_eq_true, Bool.not_eq_true'] at hc
            split at h
            · rename_i k ys h1 h2
              split at h
              · rename_i hk
                cases h
                have hh := hc.1.1.1
                obtain ⟨ec, ek⟩ := s.rs hh x k h1
                have ha := sd_list (G := G) (T := T) (hx := hx) (W := W) (X := X) (fun e ir h => (iE e ir h).1) h2
                exact ss_rse (s.calm hh) s.tk (s.room hh) ec (s.gl hc.1.1.2) hc.1.2 rfl (by rw [ek]; exact hk) (of_decide_eq_true hc.2) (cList_stars h2) ha
              · cases h
            · cases h
          · cases h
        · cases h
      | Try b hs els fin pos =>
        match hs, els, fin, h with
        | h' :: hs, [], [], h =>
          simp only [cS] at h
          split at h
          · cases h
          · rename_i hh
            have hh : c.hot = false := by simpa using hh
            split at h
            · rename_i x y h1 h2
              cases h
              obtain ⟨l, hl, sem⟩ := iH hh _ _ h2
              have e := s.nhx hh
              subst e
              refine PS.weaken (ps_tryA (tb := fun W => tDS X.K T none W (wSs G x)) (s.stk hh).1 (s.stk hh).2 hN s.tk (fun W' pn xe tk ow => ((ih (snd_tr s hh tk ow (s.nox hh))).2.1 b x h1)) hl) fun D σ H ⟨μ, ρ, A, N, rs, hr, f, q⟩ => ?_
              refine ⟨μ, ρ, A, { N with xe := fun ρ' d A' => wHs G y d N ρ' A' }, rs, hr, ⟨f.nx, f.rt, f.bk, f.ct, ?_⟩, q⟩
              rintro μ' ρ' σ' H' cls dd H'' st rs' ⟨μ2, A2, c2, ca, ks, ds, a', vs, st2, hr2, eT, rfl, rfl, hl2, ed, rd, q2⟩
              exact sem N D W μ2 H'' ρ' σ' A2 c2 ca ks ds a' vs (f.step (st.trans st2)) (rs'.mono st2) hr2 eT hl2 ed rd q2
            · cases h
        | [], _, _, h => cases h
        | _ :: _, _ :: _, _, h => cases h
        | _ :: _, [], _ :: _, h => cases h
      | _ => cases h
    · cases sts with
      | nil => simp only [cSs, Option.some.injEq] at h; subst h; exact ss_nil
      | cons a b =>
        simp only [cSs] at h
        split at h
        · rename_i x y h1 h2
          cases h
          exact ss_cons (iS a x h1) (iSs b y h2)
        · cases h
    · cases hs with
      | nil => simp only [cHs, Option.some.injEq] at h; subst h; exact ⟨[], .nil, hsem_nil⟩
      | cons hd r =>
        obtain ⟨ty, nm, body, hpos⟩ := hd
        cases ty with
        | none => cases h
        | some ty =>
        cases body with
        | nil => cases ty <;> cases h
        | cons b bs =>
        cases ty with
        | Name x np =>
          simp only [cHs] at h
          split at h
          · rename_i hc
            simp only [Bool.and_eq_true] at hc
            obtain ⟨v, cv, u1, u2, gm, kk⟩ := s.exs hh x hc.1.1
            obtain ⟨o1, o2, o3⟩ := okName_at hc.2
            have hnames : Names X x cv := ⟨s.gl hc.1.2, o1, gm.elim .inl fun ⟨m, b⟩ => .inr ⟨m, b, o3⟩⟩
            have hnx := s.nhx hh
            subst hnx
            cases nm with
            | none =>
              dsimp only at h
              split at h
              · rename_i y z h1 h2
                cases h
                obtain ⟨l, hl, sem⟩ := iH hh r z h2
                refine ⟨_, .plain (ts := tSu X.K G T false y) hnames (fun a oe cls d pn hz hf => su_body fun cn ca ks dd eT e1 e2 => ?_) hl, hsem_cons (fun cn ca ks eT => (kk cn ca ks eT).2) sem⟩
                subst e1 e2
                exact (ih (snd_suite s hh pn eT hz hf none)).2.1 _ y h1
              · cases h
            | some e =>
              dsimp only at h
              split at h
              · rename_i i' hk hi
                split at h
                · rename_i y z h1 h2
                  cases h
                  obtain ⟨l, hl, sem⟩ := iH hh r z h2
                  refine ⟨_, .named (i := i') (ts := tSu X.K G T true y) hnames (by rw [s.N]; exact CC.slot_at hi) (by show X.env.scope.names.lookup e = _; rw [s.sc]; exact hk) (fun a oe cls d pn hz hf => su_body fun cn ca ks dd eT e1 e2 => ?_) hl, hsem_cons (fun cn ca ks eT => (kk cn ca ks eT).2) sem⟩
                  subst e1 e2
                  exact (ih (snd_suite s hh pn eT hz hf (some e))).2.1 _ y h1
                · cases h
              · cases h
          · cases h
        | _ => cases h
end
end Px
end TextPx18

section TextPx18f
set_option autoImplicit false
set_option maxRecDepth 100000
set_option maxHeartbeats 4000000
/-! Px18f: what a def hands back may be taken as a value, its own objects forgotten. -/
namespace Px
open PySem PySem.Spec PyProof.Rows L2
mutual
def belowD (n : Nat) : D → Bool
  | .obj m => decide (m < n) | .tup ds => belowDs n ds | .rol ds => belowDs n ds | .ls ds => belowDs n ds | .exn _ _ ds => belowDs n ds
  | .non => true | .bl _ => true | .int _ => true | .str _ => true | .rg _ _ => true
def belowDs (n : Nat) : List D → Bool
  | [] => true
  | d :: ds => belowD n d && belowDs n ds
end
def belowO (n : Nat) : O → Bool
  | .lst ds => belowDs n ds | .ro ds => belowDs n ds | .dic kvs => belowDs n (kvs.map (·.2)) | .gone => true
mutual
def fzD (n : Nat) (f : Nat → Option D) : D → Option D
  | .obj m => if m < n then some (.obj m) else f m
  | .tup ds => (fzDs n f ds).map .tup | .ls ds => (fzDs n f ds).map .ls | .rol ds => (fzDs n f ds).map .rol
  | .non => some .non | .bl b => some (.bl b) | .int i => some (.int i) | .str s => some (.str s) | .rg i j => some (.rg i j)
  | .exn _ _ _ => none
def fzDs (n : Nat) (f : Nat → Option D) : List D → Option (List D)
  | [] => some []
  | d :: ds => (fzD n f d).bind fun x => (fzDs n f ds).map fun xs => x :: xs
end
/-- a value read deep: the objects from n on are taken as lists -/
def fzK (n : Nat) (A : Ht) : Nat → D → Option D
  | 0 => fzD n fun _ => none
  | k + 1 => fzD n fun m => match A[m]? with
    | some (.lst ds) => (fzDs n (fun j => fzK n A k (.obj j)) ds).map .ls
    | some (.ro ds) => (fzDs n (fun j => fzK n A k (.obj j)) ds).map .ls
    | _ => none
def Tame (A A1 : Ht) : Prop := ∀ (i : Nat) (o : O), A1[i]? = some o → A[i]? = some o ∨ belowO A1.length o = true
/-- what may be made of an answer: as it is, or read deep, the own objects forgotten -/
def Rt (A : Ht) (Q : D → Ht → Prop) : D → Ht → Prop := fun d' A' => Q d' A' ∨ ∃ A1 B d, A' = A1 ++ B ∧ A.length ≤ A1.length ∧ Tame A A1 ∧ fzK A1.length A' 3 d' = some d ∧ Q d A1
def RtE (A : Ht) (E : D → Ht → Prop) : D → Ht → Prop := fun d A' => E d A' ∨ ∃ A1 B, A' = A1 ++ B ∧ A.length ≤ A1.length ∧ Tame A A1 ∧ belowD A1.length d = true ∧ E d A1
def Frozen (L : List Addr) (H H2 : Hp) : Prop := (∀ a, a ∉ L → H2 a = H a) ∧ ∀ a ∈ L, ∃ od xs, H a = some (.lst xs) ∧ H2 a = some (.frz od (.lst xs))
theorem inv_locks {X : Cx} {pins : List (Addr × Obj)} {σ : L2.St} {s : Shared} : ∀ (L : List Addr) (H : Hp), Inv X pins σ H s → L.Nodup → (∀ a ∈ L, ∃ xs, H a = some (.lst xs)) → ∃ H2, Frozen L H H2 ∧ Inv X pins σ H2 s
  | [], H, I, _, _ => ⟨H, ⟨fun _ _ => rfl, fun a h => by cases h⟩, I⟩
  | a :: L, H, I, nd, h => by
    obtain ⟨xs, ea⟩ := h a List.mem_cons_self
    obtain ⟨od, I1⟩ := I.lock ea trivial
    rw [List.nodup_cons] at nd
    have ne : ∀ b ∈ L, b ≠ a := fun b hb z => nd.1 (z ▸ hb)
    obtain ⟨H2, ⟨f1, f2⟩, I2⟩ := inv_locks L _ I1 nd.2 fun b hb => by
      obtain ⟨ys, eb⟩ := h b (List.mem_cons_of_mem _ hb)
      exact ⟨ys, by rw [upd_ne (ne b hb)]; exact eb⟩
    refine ⟨H2, ⟨fun b hb => ?_, fun b hb => ?_⟩, I2⟩
    · rw [List.mem_cons, not_or] at hb
      rw [f1 b hb.2, upd_ne hb.1]
    · rcases List.mem_cons.mp hb with rfl | hb
      · exact ⟨od, xs, ea, by rw [f1 b nd.1, upd_same]⟩
      · obtain ⟨o2, ys, e1, e2⟩ := f2 b hb
        rw [upd_ne (ne b hb)] at e1
        exact ⟨o2, ys, e1, e2⟩
def tFz (t : TS) : TS := fun D σ H => t { D with rt := fun v H' => ∃ L : List Addr, L.Nodup ∧ (∀ a ∈ L, ∃ xs, H' a = some (.lst xs)) ∧ ∀ H2, Frozen L H' H2 → D.rt v H2 } σ H
theorem pss_fz {X : Cx} {b : List Stmt} {t : TS} (h : PSs X b t) : PSs X b (tFz t) := by
  refine ⟨fun pins s σ H D I hw => thn (h.run pins s σ H _ I hw) fun f s1 q => ?_⟩
  cases f with
  | next => exact q
  | brk => exact q
  | cont => exact q
  | ret u =>
    obtain ⟨v, σ', H', I2, r, L, nd, hl, k⟩ := q
    obtain ⟨H2, fz, I3⟩ := inv_locks L H' I2 nd hl
    exact ⟨v, σ', H2, I3, r, k H2 fz⟩
section
variable {K : PySem.W.Frag} {μ μ' : List Addr} {H H' H2 : Hp} {A A1 B : Ht}
theorem frozen_fix {L : List Addr} (f : Frozen L H' H2) : ∀ a o, H' a = some o → Fix o → H2 a = some o := fun a o e hf => by
  by_cases h : a ∈ L
  · obtain ⟨od, xs, e1, _⟩ := f.2 a h
    rw [e] at e1; cases e1; exact hf.elim
  · rw [f.1 a h]; exact e
mutual
theorem rel_below : ∀ (d : D) (v : V), RelD K μ H d v → belowD μ.length d = true
  | .non, _, _ => rfl | .bl _, _, _ => rfl | .int _, _, _ => rfl | .str _, _, _ => rfl
  | .obj m, v, r => by
    obtain ⟨a, e, _⟩ := rel_obj r
    exact decide_eq_true (List.getElem?_eq_some_iff.mp e).1
  | .tup ds, v, r => by obtain ⟨a, vs, _, _, h⟩ := rel_tup r; exact rels_below ds vs h
  | .rol ds, v, r => by obtain ⟨a, vs, _, _, h⟩ := rel_rol r; exact rels_below ds vs h
  | .ls ds, v, r => by obtain ⟨a, vs, o, _, _, h⟩ := rel_ls r; exact rels_below ds vs h
  | .rg _ _, _, _ => rfl
  | .exn _ _ _, v, r => (no_exn r).elim
theorem rels_below : ∀ (ds : List D) (vs : List V), RelDs K μ H ds vs → belowDs μ.length ds = true
  | [], _, _ => rfl
  | d :: ds, vs, r => by
    obtain ⟨v, t, rfl, r1, r2⟩ := RelDs.cons_iff.mp r
    unfold belowDs
    rw [rel_below d v r1, rels_below ds t r2]; rfl
end
mutual
theorem below_mono {n m : Nat} (h : n ≤ m) : ∀ (d : D), belowD n d = true → belowD m d = true
  | .non, _ => rfl | .bl _, _ => rfl | .int _, _ => rfl | .str _, _ => rfl
  | .obj j, e => by
    have e' := of_decide_eq_true (show decide (j < n) = true from e)
    exact decide_eq_true (by omega)
  | .tup ds, e => belows_mono h ds e
  | .rol ds, e => belows_mono h ds e
  | .ls ds, e => belows_mono h ds e
  | .exn _ _ ds, e => belows_mono h ds e
  | .rg _ _, _ => rfl
theorem belows_mono {n m : Nat} (h : n ≤ m) : ∀ (ds : List D), belowDs n ds = true → belowDs m ds = true
  | [], _ => rfl
  | d :: ds, e => by
    unfold belowDs at e ⊢
    rw [Bool.and_eq_true] at e ⊢
    exact ⟨below_mono h d e.1, belows_mono h ds e.2⟩
end
mutual
theorem shrink {n : Nat} (f : ∀ a o, H' a = some o → Fix o → H2 a = some o) : ∀ (d : D) (v : V), belowD n d = true → RelD K μ' H' d v → RelD K (μ'.take n) H2 d v
  | .non, _, _, r => by rw [rel_non r]; exact to_non
  | .bl _, _, _, r => by rw [rel_bl r]; exact to_bl
  | .int _, _, _, r => by rw [rel_int r]; exact to_int
  | .str _, _, _, r => by rw [rel_str r]; exact to_str
  | .rg i j, _, _, r => by obtain ⟨a, rfl, ha⟩ := rel_rg r; exact to_rg (f _ _ ha trivial)
  | .obj m, v, e, r => by
    obtain ⟨a, ea, rfl⟩ := rel_obj r
    have e' := of_decide_eq_true (show decide (m < n) = true from e)
    exact to_obj (by rw [List.getElem?_take_of_lt e']; exact ea)
  | .tup ds, v, e, r => by
    obtain ⟨a, vs, rfl, hs, h⟩ := rel_tup r
    exact to_tup (sqT_fix f hs) (shrinks f ds vs e h)
  | .rol ds, v, e, r => by
    obtain ⟨a, vs, rfl, hs, h⟩ := rel_rol r
    simp only [RelD]
    exact ⟨a, vs, rfl, hs.fix f, shrinks f ds vs e h⟩
  | .ls ds, v, e, r => by
    obtain ⟨a, vs, o, rfl, hs, h⟩ := rel_ls r
    exact to_ls (f _ _ hs trivial) (shrinks f ds vs e h)
  | .exn _ _ _, v, _, r => (no_exn r).elim
theorem shrinks {n : Nat} (f : ∀ a o, H' a = some o → Fix o → H2 a = some o) : ∀ (ds : List D) (vs : List V), belowDs n ds = true → RelDs K μ' H' ds vs → RelDs K (μ'.take n) H2 ds vs
  | [], vs, _, r => by rw [RelDs.nil_iff.mp r]; exact .nil
  | d :: ds, vs, e, r => by
    obtain ⟨v, t, rfl, r1, r2⟩ := RelDs.cons_iff.mp r
    unfold belowDs at e
    rw [Bool.and_eq_true] at e
    exact .cons (shrink f d v e.1 r1) (shrinks f ds t e.2 r2)
end
theorem relO_below {o : O} {h : Option HO} (r : RelO K μ H o h) : belowO μ.length o = true := by
  cases o with
  | lst ds => obtain ⟨vs, _, r⟩ := r; exact rels_below _ _ r
  | ro ds => obtain ⟨_, vs, _, r⟩ := r; exact rels_below _ _ r
  | dic kvs => obtain ⟨ws, _, _, r⟩ := r; exact rels_below _ _ r
  | gone => rfl
theorem belowO_mono {n m : Nat} (h : n ≤ m) {o : O} (e : belowO n o = true) : belowO m o = true := by
  cases o with
  | lst ds => exact belows_mono h _ e
  | ro ds => exact belows_mono h _ e
  | dic kvs => exact belows_mono h _ e
  | gone => rfl
theorem shrinkO {n : Nat} (f : ∀ a o, H' a = some o → Fix o → H2 a = some o) {o : O} {h : Option HO} (e : belowO n o = true) (r : RelO K μ' H' o h) : RelO K (μ'.take n) H2 o h := by
  cases o with
  | lst ds => obtain ⟨vs, e1, r⟩ := r; exact ⟨vs, e1, shrinks f _ _ e r⟩
  | ro ds => obtain ⟨od, vs, e1, r⟩ := r; exact ⟨od, vs, e1, shrinks f _ _ e r⟩
  | dic kvs => obtain ⟨ws, e1, e2, r⟩ := r; exact ⟨ws, e1, e2, shrinks f _ _ e r⟩
  | gone => exact r
/-- the addresses that are frozen -/
theorem fz_list (hr : HR K μ' A H') (n : Nat) : ∃ L : List Addr, L.Nodup ∧ (∀ a ∈ L, ∃ xs, H' a = some (.lst xs)) ∧ (∀ a ∈ L, a ∈ μ'.drop n) ∧ ∀ a ∈ μ'.drop n, ∀ xs, H' a = some (.lst xs) → a ∈ L := by
  refine ⟨(μ'.drop n).filter fun a => match H' a with | some (.lst _) => true | _ => false, ?_, fun a ha => ?_, fun a ha => (List.mem_filter.mp ha).1, fun a ha xs e => List.mem_filter.mpr ⟨ha, by rw [e]⟩⟩
  · exact (hr.nd.sublist (List.drop_sublist n μ')).filter _
  · have := (List.mem_filter.mp ha).2
    split at this
    · rename_i xs e; exact ⟨xs, e⟩
    · cases this
section
variable {L : List Addr} (s : Stp μ H μ' H') (hr0 : HR K μ A H) (hr : HR K μ' (A1 ++ B) H') (hl : A.length ≤ A1.length) (ht : Tame A A1) (hL : ∀ a ∈ L, a ∈ μ'.drop A1.length) (fz : Frozen L H' H2)
include s hr0 hr hl ht hL fz
theorem forget_stp : Stp μ H (μ'.take A1.length) H2 := by
  have hn : μ.length ≤ A1.length := by rw [hr0.len]; exact hl
  refine ⟨?_, fun a o e hf => frozen_fix fz a o (s.fix a o e hf) hf, fun a ha => s.new a (List.mem_of_mem_take ha), fun a o e hn => ?_⟩
  · obtain ⟨t, rfl⟩ := s.pre
    rw [List.take_append, List.take_of_length_le hn]
    exact List.prefix_append _ _
  · rw [fz.1 a fun h => ?_]
    · exact s.frame a o e hn
    · rcases s.new a (List.mem_of_mem_drop (hL a h)) with z | z
      · exact hn z
      · rw [e] at z; cases z
theorem forget_hr : HR K (μ'.take A1.length) A1 H2 := by
  have hlen : A1.length ≤ μ'.length := by rw [hr.len]; simp
  refine ⟨by rw [List.length_take]; omega, hr.nd.sublist (List.take_sublist _ _), fun i o a e ea => ?_⟩
  have hi := (List.getElem?_eq_some_iff.mp e).1
  have ea' : μ'[i]? = some a := by rw [List.getElem?_take_of_lt hi] at ea; exact ea
  have r := hr.obj i o a (by rw [List.getElem?_append_left hi]; exact e) ea'
  have na : a ∉ L := fun h => by
    obtain ⟨j, hj⟩ := List.mem_iff_getElem?.mp (hL a h)
    rw [List.getElem?_drop] at hj
    have := nodup_at hr.nd ea' hj
    omega
  rw [fz.1 a na]
  refine shrinkO (frozen_fix fz) ?_ r
  rcases ht i o e with h | h
  · have hi2 : i < μ.length := by rw [hr0.len]; exact (List.getElem?_eq_some_iff.mp h).1
    exact belowO_mono (by rw [hr0.len]; exact hl) (relO_below (hr0.obj i o _ h (List.getElem?_eq_getElem hi2)))
  · exact h
end
mutual
theorem fzD_rel {n : Nat} {f : Nat → Option D} (hn : Fix = Fix) (fx : ∀ a o, H' a = some o → Fix o → H2 a = some o) (hf : ∀ m d v, n ≤ m → f m = some d → RelD K μ' H' (.obj m) v → RelD K (μ'.take n) H2 d v) : ∀ (d d2 : D) (v : V), fzD n f d = some d2 → RelD K μ' H' d v → RelD K (μ'.take n) H2 d2 v
  | .non, d2, _, e, r => by simp only [fzD, Option.some.injEq] at e; subst e; rw [rel_non r]; exact to_non
  | .bl _, d2, _, e, r => by simp only [fzD, Option.some.injEq] at e; subst e; rw [rel_bl r]; exact to_bl
  | .int _, d2, _, e, r => by simp only [fzD, Option.some.injEq] at e; subst e; rw [rel_int r]; exact to_int
  | .str _, d2, _, e, r => by simp only [fzD, Option.some.injEq] at e; subst e; rw [rel_str r]; exact to_str
  | .obj m, d2, v, e, r => by
    simp only [fzD] at e
    split at e
    · rename_i h
      cases e
      exact shrink fx _ v (decide_eq_true h) r
    · exact hf m d2 v (by omega) e r
  | .tup ds, d2, v, e, r => by
    simp only [fzD, Option.map_eq_some_iff] at e
    obtain ⟨xs, e1, rfl⟩ := e
    obtain ⟨a, vs, rfl, hs, h⟩ := rel_tup r
    exact to_tup (sqT_fix fx hs) (fzDs_rel hn fx hf ds xs vs e1 h)
  | .rol ds, d2, v, e, r => by
    simp only [fzD, Option.map_eq_some_iff] at e
    obtain ⟨xs, e1, rfl⟩ := e
    obtain ⟨a, vs, rfl, hs, h⟩ := rel_rol r
    simp only [RelD]
    exact ⟨a, vs, rfl, hs.fix fx, fzDs_rel hn fx hf ds xs vs e1 h⟩
  | .ls ds, d2, v, e, r => by
    simp only [fzD, Option.map_eq_some_iff] at e
    obtain ⟨xs, e1, rfl⟩ := e
    obtain ⟨a, vs, o, rfl, hs, h⟩ := rel_ls r
    exact to_ls (fx _ _ hs trivial) (fzDs_rel hn fx hf ds xs vs e1 h)
  | .rg i j, d2, v, e, r => by
    simp only [fzD, Option.some.injEq] at e; subst e
    obtain ⟨a, rfl, ha⟩ := rel_rg r
    exact to_rg (fx _ _ ha trivial)
  | .exn _ _ _, d2, v, e, r => (no_exn r).elim
theorem fzDs_rel {n : Nat} {f : Nat → Option D} (hn : Fix = Fix) (fx : ∀ a o, H' a = some o → Fix o → H2 a = some o) (hf : ∀ m d v, n ≤ m → f m = some d → RelD K μ' H' (.obj m) v → RelD K (μ'.take n) H2 d v) : ∀ (ds xs : List D) (vs : List V), fzDs n f ds = some xs → RelDs K μ' H' ds vs → RelDs K (μ'.take n) H2 xs vs
  | [], xs, vs, e, r => by
    simp only [fzDs, Option.some.injEq] at e; subst e
    rw [RelDs.nil_iff.mp r]; exact .nil
  | d :: ds, xs, vs, e, r => by
    simp only [fzDs, Option.bind_eq_some_iff, Option.map_eq_some_iff] at e
    obtain ⟨x, e1, ys, e2, rfl⟩ := e
    obtain ⟨v, t, rfl, r1, r2⟩ := RelDs.cons_iff.mp r
    exact .cons (fzD_rel hn fx hf d x v e1 r1) (fzDs_rel hn fx hf ds ys t e2 r2)
end
theorem fzK_rel {n : Nat} {L : List Addr} (hr : HR K μ' A H') (fz : Frozen L H' H2) (all : ∀ a ∈ μ'.drop n, ∀ xs, H' a = some (.lst xs) → a ∈ L) : ∀ (k : Nat) (d d2 : D) (v : V), fzK n A k d = some d2 → RelD K μ' H' d v → RelD K (μ'.take n) H2 d2 v
  | 0, d, d2, v, e, r => fzD_rel rfl (frozen_fix fz) (fun m d v _ h => by cases h) d d2 v e r
  | k + 1, d, d2, v, e, r => by
    refine fzD_rel rfl (frozen_fix fz) (fun m d v hm h r => ?_) d d2 v e r
    have sub : ∀ (ds xs : List D) (vs : List V), fzDs n (fun j => fzK n A k (.obj j)) ds = some xs → RelDs K μ' H' ds vs → RelDs K (μ'.take n) H2 xs vs :=
      fzDs_rel rfl (frozen_fix fz) fun j d v _ h r => fzK_rel hr fz all k _ d v h r
    split at h
    · rename_i ds e2
      obtain ⟨xs, e3, rfl⟩ := Option.map_eq_some_iff.mp h
      obtain ⟨a, vs, ea, rfl, eh, hv⟩ := hr.lst e2 r
      have hm2 : a ∈ μ'.drop n := List.mem_iff_getElem?.mpr ⟨m - n, by rw [List.getElem?_drop, show n + (m - n) = m by omega]; exact ea⟩
      obtain ⟨od, ys, e4, e5⟩ := fz.2 a (all a hm2 vs eh)
      rw [eh] at e4; cases e4
      exact to_ls e5 (sub ds xs vs e3 hv)
    · rename_i ds e2
      obtain ⟨xs, e3, rfl⟩ := Option.map_eq_some_iff.mp h
      obtain ⟨a, vs, ea, rfl, ⟨o, eh⟩, hv⟩ := hr.ro e2 r
      exact to_ls (frozen_fix fz _ _ eh trivial) (sub ds xs vs e3 hv)
    · cases h
end
end Px
end TextPx18f

section TextPx19
set_option autoImplicit false
set_option maxRecDepth 100000
set_option maxHeartbeats 8000000
/-! Px19: defs keep the contracts that their bodies mean. -/
namespace Px
open PySem PySem.Spec PyProof.Rows L2
def startD (N : List Str) (ds : List D) : Rho := ds.map some ++ List.replicate (N.length - ds.length) none
theorem start_rel {K : PySem.W.Frag} {μ : List Addr} {H : Hp} {N : List Str} {ds : List D} {vs : List V} (r : RelDs K μ H ds vs) : RelS K none μ H (startD N ds) (L2.start N vs) := by
  refine ⟨by unfold startD L2.start; simp [r.length], fun i d e => ?_⟩
  unfold startD at e
  unfold L2.start
  by_cases hi : i < ds.length
  · rw [List.getElem?_append_left (by simpa using hi), List.getElem?_map, List.getElem?_eq_getElem hi] at e
    have e' : ds[i] = d := by simpa using e
    obtain ⟨v, ev, rv⟩ := r.get (List.getElem?_eq_getElem hi)
    refine ⟨v, ?_, .of (by rw [← e']; exact rv)⟩
    rw [List.getElem?_append_left (by rw [List.length_map, ← r.length]; exact hi), List.getElem?_map, ev]
    rfl
  · rw [List.getElem?_append_right (by simpa using hi)] at e
    rw [List.getElem?_replicate] at e
    split at e <;> cases e
/-- what a def of the text is worth, once its callees are known -/
structure Callees (P : Program) (w : World) (K : PySem.W.Frag) (mg : Str → Option Value) (base : Heap) (T : Tab) (G : Env') (lv : Nat) (c : CC) : Prop where
  fns : c.hot = false → ∀ f k, c.fnOf f = some k → ∃ (fa : Addr) (fd : FuncData) (ps : List Str) (l : Nat), l ≤ lv ∧ FnOk P w K mg base (L2N.CX P w) l fa fd ps (spD K T (G.con f) k) ∧ mg f = some (.ref fa) ∧ PySem.W.keepIn K (.ref fa) = true ∧ Binds K fd ps [] ∧ ps.length = k
  kws : c.hot = false → ∀ f m ns pm, c.kwp.lookup (f, m, ns) = some pm → ∃ (fa : Addr) (fd : FuncData) (ps : List Str) (l : Nat), l ≤ lv ∧ FnOk P w K mg base (L2N.CX P w) l fa fd ps (spD K T (G.con f) pm.length) ∧ mg f = some (.ref fa) ∧ PySem.W.keepIn K (.ref fa) = true ∧ ps.length = pm.length ∧
    ∀ (s : Shared) (us ws : List Value), K.In s.heap → us.length = m → ws.length = ns.length → BindsTo s fd ⟨us, ns.zip ws⟩ (ps.zip (permD pm (us ++ ws)))
  hfns : ∀ f k, (if c.hot = true then c.fnOf f = some k else c.hfns.lookup f = some k) → ∃ (fa : Addr) (fd : FuncData) (ps : List Str) (l : Nat), l ≤ lv ∧ L2H.FnH P w K mg base (L2N.CX P w) l fa fd ps (spD K T (G.con f) k) ∧ mg f = some (.ref fa) ∧ PySem.W.keepIn K (.ref fa) = true ∧ Binds K fd ps [] ∧ ps.length = k
  bl : ∀ x ∈ blNames, mg x = none
  cts : ∀ x, c.cts.contains x = true → ∃ d u v, G.ct x = some d ∧ mg x = some u ∧ RelV v u ∧ ∀ μ H, RelD K μ H d v
  rs : c.hot = false → ∀ x k, c.rss.lookup x = some k → EclOk P w K mg base T x (G.fds x) ∧ (G.fds x).length = k
  cls : c.hot = false → ∀ cn ca ks, T cn = some (ca, ks) → XfC K ca ∧ ExcC K ca ∧ ∀ f, c.flds.contains f = true → PySem.W.findIn K (.ref ca) f = some none
  exs : c.hot = false → ∀ t, c.exs.contains t = true → ∃ (v : V) (cv : Value), (∀ u, RelV v u → u = cv) ∧ RelV v cv ∧ (mg t = some cv ∨ (mg t = none ∧ bootBuiltins t = some cv)) ∧
    ∀ cn ca ks, T cn = some (ca, ks) → PySem.W.kitOne K (.ref ca) cv = some (G.sub cn t) ∧ PySem.W.exmOne K (.ref ca) cv = some (G.sub cn t)
section
variable {P : Program} {w : World} {K : PySem.W.Frag} {mg : Str → Option Value} {base : Heap} {T : Tab} {G : Env'} {lv : Nat} {c : CC}
theorem hu64 {A : Around} {k : Nat} (hr : Room k A) : A.units + 64 < cLine := by have := hr.un; omega
theorem hu64H {A : Around} {k : Nat} (hr : L2H.RoomH k A) : A.units + 64 < cLine := by have := hr.un; omega
theorem callees_snd (C : Callees P w K mg base T G lv c) (h2 : 2 ≤ lv) (hh : c.hot = false) (hx : c.exv = none) (hb : c.blk = none) (nd : c.N.Nodup) {qual : Str} {scope : Scope} (hsc : c.sc = scope) (hk : scope.kind = .function) {f : Addr} {cdv : Value} {A : Around} {outer : List Env} {s : Shared} {H : Hp} {E : XK} (hr : Room lv (A.deeper (envOfC qual scope s.heap.objs.size f cdv))) (gd : c.gd = true → A.guards = some []) :
    SndS c (cxOf (L2N.CX P w) P w K mg base c.N qual scope f cdv A outer s H E) G T none (fun cls d _ H => E cls d H) where
  N := rfl
  nd := nd
  sc := hsc.symm
  calm := fun _ => rfl
  fnv := fun _ _ => rfl
  hu := hu64 hr
  gd := fun h1 _ => gd h1
  bl := C.bl
  cts := C.cts
  tk := L2N.takes_of rfl rfl rfl rfl
  fns := fun h f k e => by
    obtain ⟨fa, fd, ps, l, hl, F, r⟩ := C.fns h f k e
    exact ⟨fa, fd, ps, l, F, hr.mono hl, r⟩
  kws := fun h f m ns pm e => by
    obtain ⟨fa, fd, ps, l, hl, F, r⟩ := C.kws h f m ns pm e
    exact ⟨fa, fd, ps, l, F, hr.mono hl, r⟩
  hfns := fun h => by rw [hh] at h; cases h
  fld := fun e i f p pos h => by rw [hx] at h; cases h
  isx := fun e i t p p1 p2 pos h => by rw [hx] at h; cases h
  isxs := fun e i ts xs kk p p1 tpos pos h => by rw [hx] at h; cases h
  own := fun _ => passes_of rfl
  ownH := fun h => by rw [hh] at h; cases h
  knd := fun _ => hk
  stk := fun _ => ⟨rfl, rfl⟩
  nhx := fun _ => rfl
  nox := fun _ => hx
  room := fun _ => hr.mono h2
  rs := C.rs
  cls := C.cls
  exs := C.exs
  hfn := fun h f k e hv => by
    obtain ⟨fa, fd, ps, l, hl, F, r⟩ := C.hfns f k (by rw [h]; exact e)
    exact ⟨fa, fd, ps, l, F, ⟨(hr.mono hl).dp, (hr.mono hl).un⟩, r⟩
theorem callees_sndH (C : Callees P w K mg base T G lv c) (hh : c.hot = true) (hx : c.exv = none) (hb : c.blk = none) (nd : c.N.Nodup) {qual : Str} {scope : Scope} (hsc : c.sc = scope) (hk : scope.kind = .function) {f : Addr} {cdv : Value} {A : Around} {outer : List Env} {s : Shared} {H : Hp} {E : XK} {p : Addr × Obj} (hot : L2H.Hot1 A p) (hr : L2H.RoomH lv (A.deeper (envOfC qual scope s.heap.objs.size f cdv))) :
    SndS c (L2H.cxH (L2N.CX P w) P w K mg base c.N qual scope f cdv A outer s H E p) G T none (fun cls d _ H => E cls d H) where
  N := rfl
  nd := nd
  sc := hsc.symm
  calm := fun h => by rw [hh] at h; cases h
  fnv := fun _ _ => rfl
  hu := hu64H hr
  gd := fun _ h => by rw [hh] at h; cases h
  bl := C.bl
  cts := C.cts
  tk := L2N.takes_of rfl rfl rfl rfl
  fns := fun h => by rw [hh] at h; cases h
  kws := fun h => by rw [hh] at h; cases h
  hfns := fun _ => ⟨⟨p, hot, List.mem_singleton.mpr rfl⟩, fun f k e => by
    obtain ⟨fa, fd, ps, l, hl, F, r⟩ := C.hfns f k (by rw [hh]; exact e)
    exact ⟨fa, fd, ps, l, F, hr.mono hl, r⟩⟩
  fld := fun e i f p pos h => by rw [hx] at h; cases h
  isx := fun e i t p p1 p2 pos h => by rw [hx] at h; cases h
  isxs := fun e i ts xs kk p p1 tpos pos h => by rw [hx] at h; cases h
  own := fun h => by rw [hh] at h; cases h
  ownH := fun _ _ => passes_of rfl
  knd := fun h => by rw [hh] at h; cases h
  stk := fun h => by rw [hh] at h; cases h
  nhx := fun _ => rfl
  nox := fun h => by rw [hh] at h; cases h
  room := fun h => by rw [hh] at h; cases h
  rs := fun h => by rw [hh] at h; cases h
  cls := fun h => by rw [hh] at h; cases h
  exs := fun h => by rw [hh] at h; cases h
  hfn := fun h => by rw [hh] at h; cases h
/-- the contract that a body means -/
def conOf (G : Env') (N : List Str) (ir : Iss) : Con := fun ds A E Q => wSs G ir { nx := fun _ A' => Rt A Q .non A', rt := Rt A Q, xe := fun _ d A' => RtE A E d A' } (startD N ds) A
theorem up_rt {μ : List Addr} {H : Hp} {A : Ht} {Q' : D → Ht → Prop} {Q : VK} (hr0 : HR K μ A H) (hq : ∀ v H', Up K μ H Q' v H' → Q v H') {v : V} {H' : Hp} (u : Up K μ H (Rt A Q') v H') : ∃ L : List Addr, L.Nodup ∧ (∀ a ∈ L, ∃ xs, H' a = some (.lst xs)) ∧ ∀ H2, Frozen L H' H2 → Q v H2 := by
  obtain ⟨μ', d', A', s, r, hr, q⟩ := u
  rcases q with q | ⟨A1, B, d, rfl, hl, ht, e, q⟩
  · refine ⟨[], .nil, (fun a h => by cases h), fun H2 fz => ?_⟩
    have e : H2 = H' := funext fun a => fz.1 a (by simp)
    subst e
    exact hq _ _ ⟨μ', d', A', s, r, hr, q⟩
  · obtain ⟨L, nd, h1, h2, h3⟩ := fz_list hr A1.length
    refine ⟨L, nd, h1, fun H2 fz => hq _ _ ⟨μ'.take A1.length, d, A1, forget_stp s hr0 hr hl ht h2 fz, fzK_rel hr fz h3 3 d' d v e r, forget_hr s hr0 hr hl ht h2 fz, q⟩⟩
theorem up_rt_non {μ : List Addr} {H : Hp} {A : Ht} {Q' : D → Ht → Prop} {Q : VK} (hr0 : HR K μ A H) (hq : ∀ v H', Up K μ H Q' v H' → Q v H') {H' : Hp} {μ' : List Addr} {A' : Ht} (s : Stp μ H μ' H') (hr : HR K μ' A' H') (q : Rt A Q' .non A') : Q .non H' := by
  rcases q with q | ⟨A1, B, d, rfl, hl, ht, e, q⟩
  · exact hq _ _ ⟨μ', .non, A', s, to_non, hr, q⟩
  · have fz : Frozen [] H' H' := ⟨fun _ _ => rfl, fun a h => by cases h⟩
    have hL : ∀ a ∈ ([] : List Addr), a ∈ μ'.drop A1.length := fun a h => by cases h
    have ed : d = .non := by
      have e' : some Px.D.non = some d := e
      cases e'; rfl
    subst ed
    exact hq _ _ ⟨μ'.take A1.length, .non, A1, forget_stp s hr0 hr hl ht hL fz, to_non, forget_hr s hr0 hr hl ht hL fz, q⟩
theorem upx_rt {μ : List Addr} {H : Hp} {A : Ht} {E' : D → Ht → Prop} {E : XK} (hr0 : HR K μ A H) (he : ∀ c dd H', UpX K T μ H E' c dd H' → E c dd H') {c : Value} {dd : Option Addr} {H' : Hp} (u : UpX K T μ H (fun d A' => RtE A E' d A') c dd H') : E c dd H' := by
  obtain ⟨μ', A', cn, ca, ks, ds, a, vs, s, hr, eT, ec, ed, hl, eh, rd, q⟩ := u
  rcases q with q | ⟨A1, B, rfl, hl1, ht, hb, q⟩
  · exact he _ _ _ ⟨μ', A', cn, ca, ks, ds, a, vs, s, hr, eT, ec, ed, hl, eh, rd, q⟩
  · have fz : Frozen [] H' H' := ⟨fun _ _ => rfl, fun a h => by cases h⟩
    have hL : ∀ a ∈ ([] : List Addr), a ∈ μ'.drop A1.length := fun a h => by cases h
    exact he _ _ _ ⟨μ'.take A1.length, A1, cn, ca, ks, ds, a, vs, forget_stp s hr0 hr hl1 ht hL fz, forget_hr s hr0 hr hl1 ht hL fz, eT, ec, ed, hl, eh, shrinks (frozen_fix fz) ds vs hb rd, q⟩
theorem fit_start {μ : List Addr} {H : Hp} {A : Ht} {E' : D → Ht → Prop} {Q' : D → Ht → Prop} {Q : VK} {E : XK} (hr0 : HR K μ A H) (hq : ∀ v H', Up K μ H Q' v H' → Q v H') (he : ∀ c dd H', UpX K T μ H E' c dd H' → E c dd H') :
    Fit K T none (fun cls d _ H => E cls d H) { nx := fun _ A' => Rt A Q' .non A', rt := Rt A Q', xe := fun _ d A' => RtE A E' d A' } { nx := fun _ H' => Q .non H', rt := fun v H' => ∃ L : List Addr, L.Nodup ∧ (∀ a ∈ L, ∃ xs, H' a = some (.lst xs)) ∧ ∀ H2, Frozen L H' H2 → Q v H2 } μ H where
  nx := fun μ' ρ' A' σ' H' s r h q => up_rt_non hr0 hq s h q
  rt := fun v H' u => up_rt hr0 hq u
  bk := fun μ' ρ' A' σ' H' s r h q => q
  ct := fun μ' ρ' A' σ' H' s r h q => q
  xe := fun μ' ρ' σ' H' c dd H'' s r u => upx_rt hr0 he (u.step s)
theorem fn_sound {x qual : Str} {st : Stmt} {f : Addr} {fd : FuncData} {n : Nat} {ir : Iss} {ps : List Str} {con : Con} (F : Fun K x qual st f fd) (C : Callees P w K mg base T G lv c) (h2 : 2 ≤ lv) (hc : cSs c n (defBody st) = some ir) (hh : c.hot = false) (hx : c.exv = none) (hb : c.blk = none) (hsc : c.sc = defScope st)
    (S : FnScope c.N ps (defScope st)) (hcon : ∀ ds A E Q, ds.length = ps.length → con ds A E Q → conOf G c.N ir ds A E Q) (hgd : c.gd = false := by rfl) : FnOk P w K mg base (L2N.CX P w) (lv + 1) f fd ps (spD K T con ps.length) := by
  obtain ⟨oc, od, kV, doc, pm, an, cdv, ct, osl, rfl, lk, hcd⟩ := F.ex
  refine fn_of lk hcd S (fun vs H Q E h => h.1) fun A outer s H vs Q E hr h => ⟨_, pss_fz ((sd_stmts n (callees_snd C h2 hh hx hb S.nd hsc S.kind hr (fun h => by rw [hgd] at h; cases h))).2.1 _ ir hc), ?_⟩
  obtain ⟨hl, μ, A0, ds, E', Q', hr0, rd, q, hq, he⟩ := h
  exact ⟨μ, _, A0, _, start_rel rd, hr0, fit_start hr0 hq he, hcon ds A0 E' Q' (by rw [rd.length, hl]) q⟩
theorem fn_soundH {x qual : Str} {st : Stmt} {f : Addr} {fd : FuncData} {n : Nat} {ir : Iss} {ps : List Str} {con : Con} (F : Fun K x qual st f fd) (C : Callees P w K mg base T G lv c) (hc : cSs c n (defBody st) = some ir) (hh : c.hot = true) (hx : c.exv = none) (hb : c.blk = none) (hsc : c.sc = defScope st)
    (S : FnScope c.N ps (defScope st)) (hcon : ∀ ds A E Q, ds.length = ps.length → con ds A E Q → conOf G c.N ir ds A E Q) : L2H.FnH P w K mg base (L2N.CX P w) (lv + 1) f fd ps (spD K T con ps.length) := by
  obtain ⟨oc, od, kV, doc, pm, an, cdv, ct, osl, rfl, lk, hcd⟩ := F.ex
  refine L2H.fn_ofH lk hcd S (fun vs H Q E h => h.1) fun A outer s H vs Q E p hot hr h => ⟨_, pss_fz ((sd_stmts n (callees_sndH C hh hx hb S.nd hsc S.kind hot hr)).2.1 _ ir hc), ?_⟩
  obtain ⟨hl, μ, A0, ds, E', Q', hr0, rd, q, hq, he⟩ := h
  exact ⟨μ, _, A0, _, start_rel rd, hr0, fit_start hr0 hq he, hcon ds A0 E' Q' (by rw [rd.length, hl]) q⟩
theorem intsV_rel {μ : List Addr} {H : Hp} : ∀ ns : List Int, RelDs K μ H (ns.map .int) (ns.map V.int)
  | [] => .nil
  | n :: r => .cons to_int (intsV_rel r)
/-- the law's own promise, from its contract -/
theorem law_sp {con : Con} {H : Hp} {a : Addr} {ns : List Int} (hO : L2.Only H) (hS : SqL K H a (ns.map V.int)) (hcon : con [.rol (ns.map .int)] [] (fun _ _ => False) (fun d _ => d = .bl true)) : spD K T con 1 [.ref a] H (fun v _ => v = .bl true) fun _ _ _ => False := by
  refine ⟨rfl, [], [], [.rol (ns.map .int)], _, _, ⟨rfl, .nil, fun i o b e => by simp at e⟩, .cons ?_ .nil, hcon, fun v H' ⟨μ', d, A', s, r, h, q⟩ => ?_, fun c dd H' u => u.no⟩
  · simp only [RelD]
    refine ⟨a, ns.map V.int, rfl, ?_, ?_⟩
    · rcases hS with (h | ⟨o, h⟩) | h
      · rcases hO a with z | ⟨o, xs, z⟩
        · rw [h] at z; cases z
        · rw [h] at z; cases z
      · exact .inl ⟨o, h⟩
      · exact .inr h
    · exact intsV_rel ns
  · have q' : d = .bl true := q
    subst q'
    exact rel_bl r
end
end Px
end TextPx19

section TextPx21
set_option autoImplicit false
set_option maxRecDepth 100000
set_option maxHeartbeats 4000000
/-! Px21: the defs of a text, one after the other. -/
namespace Px
open PySem PySem.Spec PyProof.Rows L2
abbrev KwL := List ((Nat × List Str) × List Nat)
abbrev FnL := List (Str × List Str × KwL)
section
variable (P : Program) (w : World) (K : PySem.W.Frag) (mg : Str → Option Value) (base : Heap) (T : Tab) (G : Env')
structure Fn1 (lv : Nat) (f : Str) (ps : List Str) (kw : KwL) : Prop where
  ex : ∃ (fa : Addr) (fd : FuncData) (l : Nat), l ≤ lv ∧ FnOk P w K mg base (L2N.CX P w) l fa fd ps (spD K T (G.con f) ps.length) ∧ mg f = some (.ref fa) ∧ PySem.W.keepIn K (.ref fa) = true ∧ Binds K fd ps [] ∧
    ∀ m ns pm, kw.lookup (m, ns) = some pm → ∀ (s : Shared) (us ws : List Value), K.In s.heap → us.length = m → ws.length = ns.length → BindsTo s fd ⟨us, ns.zip ws⟩ (ps.zip (permD pm (us ++ ws)))
structure FnH1 (lv : Nat) (f : Str) (ps : List Str) : Prop where
  ex : ∃ (fa : Addr) (fd : FuncData) (l : Nat), l ≤ lv ∧ L2H.FnH P w K mg base (L2N.CX P w) l fa fd ps (spD K T (G.con f) ps.length) ∧ mg f = some (.ref fa) ∧ PySem.W.keepIn K (.ref fa) = true ∧ Binds K fd ps []
def Known (lv : Nat) (L : FnL) : Prop := ∀ f ps kw, L.lookup f = some (ps, kw) → Fn1 P w K mg base T G lv f ps kw
def KnownH (lv : Nat) (L : List (Str × List Str)) : Prop := ∀ f ps, L.lookup f = some ps → FnH1 P w K mg base T G lv f ps
structure Globs (exs : List Str) (rss : List (Str × Nat)) (flds cts : List Str) : Prop where
  bl : ∀ x ∈ blNames, mg x = none
  cts : ∀ x ∈ cts, ∃ d u v, G.ct x = some d ∧ mg x = some u ∧ RelV v u ∧ ∀ μ H, RelD K μ H d v
  rs : ∀ x k, rss.lookup x = some k → EclOk P w K mg base T x (G.fds x) ∧ (G.fds x).length = k
  cls : ∀ cn ca ks, T cn = some (ca, ks) → XfC K ca ∧ ExcC K ca ∧ ∀ f ∈ flds, PySem.W.findIn K (.ref ca) f = some none
  exs : ∀ t ∈ exs, ∃ (v : V) (cv : Value), (∀ u, RelV v u → u = cv) ∧ RelV v cv ∧ (mg t = some cv ∨ (mg t = none ∧ bootBuiltins t = some cv)) ∧
    ∀ cn ca ks, T cn = some (ca, ks) → PySem.W.kitOne K (.ref ca) cv = some (G.sub cn t) ∧ PySem.W.exmOne K (.ref ca) cv = some (G.sub cn t)
end
def chk (c : CC) (L : FnL) (LH : List (Str × List Str)) (exs : List Str) (rss : List (Str × Nat)) (flds cts : List Str) : Bool :=
  (c.hot || c.fns.all fun p => match L.lookup p.1 with | some e => decide (e.1.length = p.2) | none => false) &&
  (c.hot || c.kwp.all fun p => match L.lookup p.1.1 with | some e => decide (e.2.lookup (p.1.2.1, p.1.2.2) = some p.2) && decide (p.2.length = e.1.length) | none => false) &&
  ((if c.hot then c.fns else c.hfns).all fun p => match LH.lookup p.1 with | some e => decide (e.length = p.2) | none => false) &&
  (c.cts.all fun x => decide (x ∈ cts)) && (c.hot || c.rss.all fun p => decide (rss.lookup p.1 = some p.2)) && (c.flds.all fun x => decide (x ∈ flds)) && (c.exs.all fun x => decide (x ∈ exs))
section
variable {P : Program} {w : World} {K : PySem.W.Frag} {mg : Str → Option Value} {base : Heap} {T : Tab} {G : Env'} {lv : Nat} {L : FnL} {LH : List (Str × List Str)} {exs : List Str} {rss : List (Str × Nat)} {flds cts : List Str}
theorem lookup_mem {α β : Type} [BEq α] [LawfulBEq α] {k : α} {v : β} : ∀ {l : List (α × β)}, l.lookup k = some v → (k, v) ∈ l
  | [], h => by simp at h
  | (a, b) :: r, h => by
    rw [List.lookup_cons] at h
    split at h
    · rename_i e
      cases h
      rw [eq_of_beq e]
      exact List.mem_cons_self
    · exact List.mem_cons_of_mem _ (lookup_mem h)
theorem mk_callees (k : Known P w K mg base T G lv L) (kh : KnownH P w K mg base T G lv LH) (g : Globs P w K mg base T G exs rss flds cts) {c : CC} (h : chk c L LH exs rss flds cts = true) : Callees P w K mg base T G lv c := by
  unfold chk at h
  simp only [Bool.and_eq_true, List.all_eq_true, Bool.or_eq_true] at h
  obtain ⟨⟨⟨⟨⟨⟨h1, h2⟩, h3⟩, h4⟩, h5⟩, h6⟩, h7⟩ := h
  refine ⟨fun hh f n e => ?_, fun hh f m ns pm e => ?_, fun f n e => ?_, g.bl, fun x hx => ?_, fun hh x n e => ?_, fun _ cn ca ks e => ?_, fun _ t ht => ?_⟩
  · have q := (h1.resolve_left (by rw [hh]; simp)) _ (lookup_mem e)
    dsimp only at q
    split at q
    · rename_i e2 he
      obtain ⟨fa, fd, l, hl, F, hm, hk, hb, _⟩ := (k f _ _ he).ex
      have en := of_decide_eq_true q
      exact ⟨fa, fd, _, l, hl, by rw [← en]; exact F, hm, hk, hb, en⟩
    · cases q
  · have q := (h2.resolve_left (by rw [hh]; simp)) _ (lookup_mem e)
    dsimp only at q
    split at q
    · rename_i e2 he
      obtain ⟨fa, fd, l, hl, F, hm, hk, hb, hkw⟩ := (k f _ _ he).ex
      simp only [Bool.and_eq_true, decide_eq_true_eq] at q
      exact ⟨fa, fd, _, l, hl, by rw [q.2]; exact F, hm, hk, q.2.symm, hkw m ns pm q.1⟩
    · cases q
  · have q := h3 (f, n) (by split at e <;> rename_i hc <;> (first | rw [if_pos hc] | rw [if_neg hc]) <;> exact lookup_mem e)
    dsimp only at q
    split at q
    · rename_i e2 he
      obtain ⟨fa, fd, l, hl, F, hm, hk, hb⟩ := (kh f _ he).ex
      have en := of_decide_eq_true q
      exact ⟨fa, fd, _, l, hl, by rw [← en]; exact F, hm, hk, hb, en⟩
    · cases q
  · exact g.cts x (of_decide_eq_true (h4 x (by simpa using hx)))
  · exact g.rs x n (of_decide_eq_true ((h5.resolve_left (by rw [hh]; simp)) _ (lookup_mem e)))
  · obtain ⟨a, b, d⟩ := g.cls cn ca ks e
    exact ⟨a, b, fun f hf => d f (of_decide_eq_true (h6 f (by simpa using hf)))⟩
  · exact g.exs t (of_decide_eq_true (h7 t (by simpa using ht)))
theorem known_nil {lv : Nat} : Known P w K mg base T G lv [] := fun f ps kw h => by simp at h
theorem knownH_nil {lv : Nat} : KnownH P w K mg base T G lv [] := fun f ps h => by simp at h
theorem KnownH.up {l2 : Nat} (k : KnownH P w K mg base T G lv LH) (h : lv ≤ l2) : KnownH P w K mg base T G l2 LH := fun f ps e => by
  obtain ⟨fa, fd, l, hl, r⟩ := (k f ps e).ex
  exact ⟨fa, fd, l, Nat.le_trans hl h, r⟩
theorem Known.up {l2 : Nat} (k : Known P w K mg base T G lv L) (h : lv ≤ l2) : Known P w K mg base T G l2 L := fun f ps kw e => by
  obtain ⟨fa, fd, l, hl, r⟩ := (k f ps kw e).ex
  exact ⟨fa, fd, l, Nat.le_trans hl h, r⟩
theorem fn_step {f : Str} {st : Stmt} {fa : Addr} {fd : FuncData} {c : CC} {n : Nat} {ir : Iss} {ps : List Str} {kw : KwL} (k : Known P w K mg base T G lv L) (kh : KnownH P w K mg base T G lv LH) (g : Globs P w K mg base T G exs rss flds cts) (F : Fun K f f st fa fd) (hm : mg f = some (.ref fa)) (h2 : 2 ≤ lv)
    (hc : cSs c n (defBody st) = some ir) (hh : c.hot = false) (hx : c.exv = none) (hb : c.blk = none) (hsc : c.sc = defScope st) (hk : chk c L LH exs rss flds cts = true) (S : FnScope c.N ps (defScope st)) (pure : ∀ ds A E Q, ds.length = ps.length → G.con f ds A E Q → conOf G c.N ir ds A E Q) (bd : Binds K fd ps [])
    (bk : ∀ m ns pm, kw.lookup (m, ns) = some pm → ∀ (s : Shared) (us ws : List Value), K.In s.heap → us.length = m → ws.length = ns.length → BindsTo s fd ⟨us, ns.zip ws⟩ (ps.zip (permD pm (us ++ ws)))) (hgd : c.gd = false := by rfl) :
    Known P w K mg base T G (lv + 1) ((f, ps, kw) :: L) := fun x qs kw' e => by
  rw [List.lookup_cons] at e
  split at e
  · rename_i ex
    cases e
    rw [eq_of_beq ex]
    exact ⟨fa, fd, lv + 1, Nat.le_refl _, fn_sound F (mk_callees k kh g hk) h2 hc hh hx hb hsc S pure hgd, hm, F.kp, bd, bk⟩
  · obtain ⟨fa, fd, l, hl, r⟩ := (k x qs kw' e).ex
    exact ⟨fa, fd, l, Nat.le_succ_of_le hl, r⟩
theorem fnH_step {f : Str} {st : Stmt} {fa : Addr} {fd : FuncData} {c : CC} {n : Nat} {ir : Iss} {ps : List Str} (k : Known P w K mg base T G lv L) (kh : KnownH P w K mg base T G lv LH) (g : Globs P w K mg base T G exs rss flds cts) (F : Fun K f f st fa fd) (hm : mg f = some (.ref fa))
    (hc : cSs c n (defBody st) = some ir) (hh : c.hot = true) (hx : c.exv = none) (hb : c.blk = none) (hsc : c.sc = defScope st) (hk : chk c L LH exs rss flds cts = true) (S : FnScope c.N ps (defScope st)) (pure : ∀ ds A E Q, ds.length = ps.length → G.con f ds A E Q → conOf G c.N ir ds A E Q) (bd : Binds K fd ps []) :
    KnownH P w K mg base T G (lv + 1) ((f, ps) :: LH) := fun x qs e => by
  rw [List.lookup_cons] at e
  split at e
  · rename_i ex
    cases e
    rw [eq_of_beq ex]
    exact ⟨fa, fd, lv + 1, Nat.le_refl _, fn_soundH F (mk_callees k kh g hk) hc hh hx hb hsc S pure, hm, F.kp, bd⟩
  · obtain ⟨fa, fd, l, hl, r⟩ := (kh x qs e).ex
    exact ⟨fa, fd, l, Nat.le_succ_of_le hl, r⟩
theorem no_kw {fd : FuncData} {ps : List Str} : ∀ (m : Nat) (ns : List Str) (pm : List Nat), ([] : KwL).lookup (m, ns) = some pm → ∀ (s : Shared) (us ws : List Value), K.In s.heap → us.length = m → ws.length = ns.length → BindsTo s fd ⟨us, ns.zip ws⟩ (ps.zip (permD pm (us ++ ws))) := fun m ns pm h => by simp at h
end
end Px
end TextPx21

section TextPx22
set_option autoImplicit false
set_option maxRecDepth 100000
set_option maxHeartbeats 4000000
/-! Px22: the end of a law. -/
namespace Px
open PySem PySem.Spec PyProof.Rows L2
def spL (K : PySem.W.Frag) (con : Con) : Sp := fun vs H Q _ => vs.length = 1 ∧ ∃ μ A ds Q', HR K μ A H ∧ RelDs K μ H ds vs ∧ con ds A (fun _ _ => False) Q' ∧ ∀ v H', Up K μ H Q' v H' → Q v H'
theorem fn_ofL {P : Program} {w : World} {K : PySem.W.Frag} {mg : Str → Option Value} {base : Heap} {CX : CXT} {T : Tab} {l : Nat} {fa : Addr} {fd : FuncData} {ps : List Str} {con : Con} (F : FnOk P w K mg base CX l fa fd ps (spD K T con 1)) : FnOk P w K mg base CX l fa fd ps (spL K con) := by
  have k : ∀ vs H Q E, spL K con vs H Q E → spD K T con 1 vs H Q E := fun vs H Q E ⟨hl, μ, A, ds, Q', hr, rd, q, f⟩ => ⟨hl, μ, A, ds, _, Q', hr, rd, q, f, fun c dd H' u => u.no.elim⟩
  exact ⟨fun vs H Q E h => F.len vs H Q E (k _ _ _ _ h), fun A outer s H args us vs Q E hr e0 hb r h => F.run A outer s H args us vs Q E hr e0 hb r (k _ _ _ _ h)⟩
theorem law_spL {K : PySem.W.Frag} {con : Con} {H : Hp} {a : Addr} {ns : List Int} (hO : L2.Only H) (hS : SqL K H a (ns.map V.int)) (hcon : con [.rol (ns.map .int)] [] (fun _ _ => False) (fun d _ => d = .bl true)) : spL K con [.ref a] H (fun v _ => v = .bl true) fun _ _ _ => False := by
  have q := law_sp (T := fun _ => none) hO hS hcon
  refine ⟨rfl, [], [], [.rol (ns.map .int)], _, ⟨rfl, .nil, fun i o b e => by simp at e⟩, .cons ?_ .nil, hcon, fun v H' ⟨μ', d, A', s, r, h, q⟩ => ?_⟩
  · simp only [RelD]
    refine ⟨a, ns.map V.int, rfl, ?_, intsV_rel ns⟩
    rcases hS with (h | ⟨o, h⟩) | h
    · rcases hO a with z | ⟨o, xs, z⟩
      · rw [h] at z; cases z
      · rw [h] at z; cases z
    · exact .inl ⟨o, h⟩
    · exact .inr h
  · have q' : d = .bl true := q
    subst q'
    exact rel_bl r
theorem no_cx {P : Program} {w : World} {H : Hp} {s : Shared} {e : Value} {s' : Shared} (h : L2N.CX P w [] H s (fun _ _ _ => False) e s') : False := by
  obtain ⟨_, _, _, _, _, _, _, _, _, _, _, _, z⟩ := h
  exact z.elim
theorem walkP {l : PySem.W.OpenLaw} {n lv : Nat} {q : Program} {loose : List Str} {XP : (Str → Option Value) → Heap → Prop} {YP : World → Heap → Prop} {d : DefRec} {K : Params → PySem.W.Frag} {con : Con} {x : Str} (hn : l.most = some n) (hn2 : n ≤ sizeLine) (hdf : d.params.defaults = []) (hr : Room lv callerA)
    (hY : ∀ (w : World) (h : Heap), YP w h → (K w.params).In h) (hcon : ∀ ns : List Int, ns.length ≤ n → con [.rol (ns.map .int)] [] (fun _ _ => False) (fun d _ => d = .bl true))
    (F : ∀ (w : World) (mg : Str → Option Value) (fa : Addr) (h : Heap), (K w.params).In h → h.Ns mainGlobals mg → mg d.name = some (.ref fa) →
      ∃ (T : Tab) (fd : FuncData), (∀ (s : Shared) (u : Value), BindsTo s fd ⟨[u], []⟩ [(x, u)]) ∧ ∀ base : Heap, (K w.params).In base → base.Ns mainGlobals mg → FnOk l.prog w (K w.params) mg base (L2N.CX l.prog w) lv fa fd [x] (spD (K w.params) T con 1)) :
    PySem.W.WalkO q loose XP YP l.row.toRowW d [] (fun f vs => PySem.call f vs) :=
  L2.walk_of (n := n) (k := lv) (x := x) (CX := fun w => L2N.CX l.prog w) (sp := fun w => spL (K w.params) con) hn hn2 hdf hr hY
    (fun w mg fa h KX G hm => let ⟨T, fd, hb, hF⟩ := F w mg fa h KX G hm; ⟨fd, hb, fun base h1 h2 => fn_ofL (hF base h1 h2)⟩)
    (fun w H a ns hl hO hS => law_spL hO hS (hcon ns hl)) fun w H s e s' z => no_cx z
end Px
end TextPx22

section TextPx23
set_option autoImplicit false
set_option maxRecDepth 100000
set_option maxHeartbeats 4000000
/-! Px23: a def that calls itself: contracts by depth. -/
namespace Px
open PySem PySem.Spec PyProof.Rows L2
def Env'.upd (G : Env') (f : Str) (c : Con) : Env' := { G with con := fun x => if x = f then c else G.con x }
theorem upd_self {G : Env'} {f : Str} {c : Con} : (G.upd f c).con f = c := if_pos rfl
theorem upd_other {G : Env'} {f x : Str} {c : Con} (h : x ≠ f) : (G.upd f c).con x = G.con x := if_neg h
section
variable {P : Program} {w : World} {K : PySem.W.Frag} {mg : Str → Option Value} {base : Heap} {T : Tab} {G : Env'} {lv : Nat} {L : FnL} {LH : List (Str × List Str)} {exs : List Str} {rss : List (Str × Nat)} {flds cts : List Str}
theorem Known.upd (k : Known P w K mg base T G lv L) {f : Str} {c : Con} (hf : L.lookup f = none) : Known P w K mg base T (G.upd f c) lv L := fun x ps kw e => by
  have hx : x ≠ f := fun z => by rw [z, hf] at e; cases e
  obtain ⟨fa, fd, l, hl, F, r⟩ := (k x ps kw e).ex
  exact ⟨fa, fd, l, hl, by rw [upd_other hx]; exact F, r⟩
theorem KnownH.upd (k : KnownH P w K mg base T G lv LH) {f : Str} {c : Con} (hf : LH.lookup f = none) : KnownH P w K mg base T (G.upd f c) lv LH := fun x ps e => by
  have hx : x ≠ f := fun z => by rw [z, hf] at e; cases e
  obtain ⟨fa, fd, l, hl, F, r⟩ := (k x ps e).ex
  exact ⟨fa, fd, l, hl, by rw [upd_other hx]; exact F, r⟩
theorem Globs.upd (g : Globs P w K mg base T G exs rss flds cts) {f : Str} {c : Con} : Globs P w K mg base T (G.upd f c) exs rss flds cts := ⟨g.bl, g.cts, g.rs, g.cls, g.exs⟩
/-- con n: what it keeps where it may go down n levels -/
theorem fn_rec {f : Str} {st : Stmt} {fa : Addr} {fd : FuncData} {c : CC} {n : Nat} {ir : Iss} {ps : List Str} {kw : KwL} {con : Nat → Con} (k : Known P w K mg base T G lv L) (kh : KnownH P w K mg base T G lv LH) (g : Globs P w K mg base T G exs rss flds cts) (F : Fun K f f st fa fd) (hm : mg f = some (.ref fa)) (h2 : 2 ≤ lv)
    (hc : cSs c n (defBody st) = some ir) (hh : c.hot = false) (hx : c.exv = none) (hb : c.blk = none) (hsc : c.sc = defScope st) (hk : chk c ((f, ps, kw) :: L) LH exs rss flds cts = true) (S : FnScope c.N ps (defScope st)) (hf : L.lookup f = none) (hf2 : LH.lookup f = none) (h0 : ∀ ds A E Q, ¬ con 0 ds A E Q)
    (pure : ∀ n ds A E Q, ds.length = ps.length → con (n + 1) ds A E Q → conOf (G.upd f (con n)) c.N ir ds A E Q) (bd : Binds K fd ps [])
    (bk : ∀ m ns pm, kw.lookup (m, ns) = some pm → ∀ (s : Shared) (us ws : List Value), K.In s.heap → us.length = m → ws.length = ns.length → BindsTo s fd ⟨us, ns.zip ws⟩ (ps.zip (permD pm (us ++ ws)))) (hgd : c.gd = false := by rfl) :
    ∀ m, FnOk P w K mg base (L2N.CX P w) (lv + m + 1) fa fd ps (spD K T (con m) ps.length)
  | 0 => ⟨fun vs H Q E h => h.1, fun A outer s H args us vs Q E hr e0 hb r h => by
      obtain ⟨_, _, _, _, _, _, _, _, q, _⟩ := h
      exact (h0 _ _ _ _ q).elim⟩
  | m + 1 => by
    have ih := fn_rec k kh g F hm h2 hc hh hx hb hsc hk S hf hf2 h0 pure bd bk hgd m
    have k' : Known P w K mg base T (G.upd f (con m)) (lv + m + 1) ((f, ps, kw) :: L) := fun x qs kw' e => by
      rw [List.lookup_cons] at e
      split at e
      · rename_i ex
        cases e
        rw [eq_of_beq ex]
        exact ⟨fa, fd, lv + m + 1, Nat.le_refl _, by rw [upd_self]; exact ih, hm, F.kp, bd, bk⟩
      · exact ((k.upd hf).up (by omega)) x qs kw' e
    exact fn_sound F (mk_callees k' ((kh.upd hf2).up (by omega)) g.upd hk) (by omega) hc hh hx hb hsc S (pure m) hgd
/-- and so it is known: D levels -/
theorem rec_step {f : Str} {fa : Addr} {fd : FuncData} {ps : List Str} {kw : KwL} {con : Nat → Con} {D : Nat} {st : Stmt} (k : Known P w K mg base T G lv L) (F : Fun K f f st fa fd) (hm : mg f = some (.ref fa)) (hG : G.con f = con D) (ok : ∀ m, FnOk P w K mg base (L2N.CX P w) (lv + m + 1) fa fd ps (spD K T (con m) ps.length)) (bd : Binds K fd ps [])
    (bk : ∀ m ns pm, kw.lookup (m, ns) = some pm → ∀ (s : Shared) (us ws : List Value), K.In s.heap → us.length = m → ws.length = ns.length → BindsTo s fd ⟨us, ns.zip ws⟩ (ps.zip (permD pm (us ++ ws)))) :
    Known P w K mg base T G (lv + D + 1) ((f, ps, kw) :: L) := fun x qs kw' e => by
  rw [List.lookup_cons] at e
  split at e
  · rename_i ex
    cases e
    rw [eq_of_beq ex]
    exact ⟨fa, fd, lv + D + 1, Nat.le_refl _, by rw [hG]; exact ok D, hm, F.kp, bd, bk⟩
  · exact (k.up (by omega)) x qs kw' e
/-- the same where an exception is handled -/
theorem fn_recH {f : Str} {st : Stmt} {fa : Addr} {fd : FuncData} {c : CC} {n : Nat} {ir : Iss} {ps : List Str} {con : Nat → Con} (k : Known P w K mg base T G lv L) (kh : KnownH P w K mg base T G lv LH) (g : Globs P w K mg base T G exs rss flds cts) (F : Fun K f f st fa fd) (hm : mg f = some (.ref fa))
    (hc : cSs c n (defBody st) = some ir) (hh : c.hot = true) (hx : c.exv = none) (hb : c.blk = none) (hsc : c.sc = defScope st) (hk : chk c L ((f, ps) :: LH) exs rss flds cts = true) (S : FnScope c.N ps (defScope st)) (hf : L.lookup f = none) (hf2 : LH.lookup f = none) (h0 : ∀ ds A E Q, ¬ con 0 ds A E Q)
    (pure : ∀ n ds A E Q, ds.length = ps.length → con (n + 1) ds A E Q → conOf (G.upd f (con n)) c.N ir ds A E Q) (bd : Binds K fd ps []) :
    ∀ m, L2H.FnH P w K mg base (L2N.CX P w) (lv + m + 1) fa fd ps (spD K T (con m) ps.length)
  | 0 => ⟨fun vs H Q E h => h.1, fun A outer s H args us vs Q E p _ _ _ _ _ _ h => by
      obtain ⟨_, _, _, _, _, _, _, _, q, _⟩ := h
      exact (h0 _ _ _ _ q).elim⟩
  | m + 1 => by
    have ih := fn_recH k kh g F hm hc hh hx hb hsc hk S hf hf2 h0 pure bd m
    have k' : KnownH P w K mg base T (G.upd f (con m)) (lv + m + 1) ((f, ps) :: LH) := fun x qs e => by
      rw [List.lookup_cons] at e
      split at e
      · rename_i ex
        cases e
        rw [eq_of_beq ex]
        exact ⟨fa, fd, lv + m + 1, Nat.le_refl _, by rw [upd_self]; exact ih, hm, F.kp, bd⟩
      · exact ((kh.upd hf2).up (by omega)) x qs e
    exact fn_soundH F (mk_callees ((k.upd hf).up (by omega)) k' g.upd hk) hc hh hx hb hsc S (pure m)
theorem recH_step {f : Str} {fa : Addr} {fd : FuncData} {ps : List Str} {con : Nat → Con} {D : Nat} {st : Stmt} (kh : KnownH P w K mg base T G lv LH) (F : Fun K f f st fa fd) (hm : mg f = some (.ref fa)) (hG : G.con f = con D) (ok : ∀ m, L2H.FnH P w K mg base (L2N.CX P w) (lv + m + 1) fa fd ps (spD K T (con m) ps.length)) (bd : Binds K fd ps []) :
    KnownH P w K mg base T G (lv + D + 1) ((f, ps) :: LH) := fun x qs e => by
  rw [List.lookup_cons] at e
  split at e
  · rename_i ex
    cases e
    rw [eq_of_beq ex]
    exact ⟨fa, fd, lv + D + 1, Nat.le_refl _, by rw [hG]; exact ok D, hm, F.kp, bd⟩
  · exact (kh.up (by omega)) x qs e
end
end Px
end TextPx23

section TextPx24
set_option autoImplicit false
set_option maxRecDepth 100000
/-! Px24: rules for the pure part. -/
namespace Px
open PySem
abbrev Pf (G : Env') (N : List Str) (ir : Iss) (con : Con) : Prop := ∀ (ds : List D) (A : Ht) (E Q : D → Ht → Prop), con ds A E Q → conOf G N ir ds A E Q
theorem use {G : Env'} {f : Str} {c : Con} (e : G.con f = c) {ds : List D} {A : Ht} {E Q : D → Ht → Prop} (h : c ds A E Q) : G.con f ds A E Q := by rw [e]; exact h
/-- a test, its answer known -/
theorem w_if {G : Env'} {t : Ie} {a b : Iss} {N : Dn} {ρ : Rho} {A : Ht} (c : Bool) (ht : ∀ K : Bool → Ht → Prop, K c A → wT G t ρ A (N.xe ρ) K) (h1 : c = true → wSs G a N ρ A) (h2 : c = false → wSs G b N ρ A) : wS G (.ife t a b) N ρ A := by
  refine ht _ ?_
  cases c with
  | true => rw [if_pos rfl]; exact h1 rfl
  | false => rw [if_neg (by decide)]; exact h2 rfl
theorem w_ite {G : Env'} {t a b : Ie} {ρ : Rho} {A : Ht} {X Q : D → Ht → Prop} (c : Bool) (ht : ∀ K : Bool → Ht → Prop, K c A → wT G t ρ A X K) (h1 : c = true → wE G a ρ A X Q) (h2 : c = false → wE G b ρ A X Q) : wE G (.ite t a b) ρ A X Q := by
  refine ht _ ?_
  cases c with
  | true => rw [if_pos rfl]; exact h1 rfl
  | false => rw [if_neg (by decide)]; exact h2 rfl
theorem dec_t {p : Prop} [Decidable p] {Q : Bool → Prop} (h : p) (q : Q true) : Q (decide p) := by rw [decide_eq_true h]; exact q
theorem dec_f {p : Prop} [Decidable p] {Q : Bool → Prop} (h : ¬ p) (q : Q false) : Q (decide p) := by rw [decide_eq_false h]; exact q
/-- a comprehension whose turns leave the objects as they are -/
theorem comp_l {α : Type} {ok : Ht → Prop} {st : D → Ht → (Option D → Ht → Prop) → Prop} {fin : List D → Ht → Prop} {items : List D} {A : Ht} (l : List α) (e : α → D) (f : α → Option D) (hi : items = l.map e) (hok : ok A) (hl : l.length ≤ PySem.sizeLine)
    (hs : ∀ x, x ∈ l → ∀ k : Option D → Ht → Prop, k (f x) A → st (e x) A k) (hf : fin (l.filterMap f) A) : compD ok st fin items [] A := by
  subst hi
  refine comp_go (fun i acc A' => A' = A ∧ acc = (l.take i).filterMap f) ⟨rfl, by simp⟩ (fun _ _ _ h => by rw [h.1]; exact hok) ?_ ?_
  · rintro i hi acc A1 k ⟨rfl, rfl⟩ hk1 hk2
    have hi2 : i < l.length := by simpa using hi
    rw [List.getElem_map]
    refine hs _ (List.getElem_mem hi2) _ ?_
    have e2 : l.take (i + 1) = l.take i ++ [l[i]] := by rw [List.take_succ_eq_append_getElem hi2]
    cases h : f l[i] with
    | none => exact hk1 _ ⟨rfl, by rw [e2, List.filterMap_append]; simp [h]⟩
    | some y =>
      refine hk2 y _ ⟨?_, rfl, by rw [e2, List.filterMap_append]; simp [h]⟩
      have := List.length_filterMap_le f (l.take i)
      rw [List.length_take] at this
      omega
  · rintro acc A1 ⟨rfl, rfl⟩
    rw [List.length_map, List.take_length]
    exact hf
theorem comp_m {α : Type} {ok : Ht → Prop} {st : D → Ht → (Option D → Ht → Prop) → Prop} {fin : List D → Ht → Prop} {items : List D} {A : Ht} (l : List α) (e : α → D) (f : α → D) (hi : items = l.map e) (hok : ok A) (hl : l.length ≤ PySem.sizeLine)
    (hs : ∀ x, x ∈ l → ∀ k : Option D → Ht → Prop, k (some (f x)) A → st (e x) A k) (hf : fin (l.map f) A) : compD ok st fin items [] A :=
  comp_l l e (fun x => some (f x)) hi hok hl hs (by rw [List.filterMap_eq_map']; exact hf)
theorem comp_f {α : Type} {ok : Ht → Prop} {st : D → Ht → (Option D → Ht → Prop) → Prop} {fin : List D → Ht → Prop} {items : List D} {A : Ht} (l : List α) (e : α → D) (p : α → Bool) (f : α → D) (hi : items = l.map e) (hok : ok A) (hl : l.length ≤ PySem.sizeLine)
    (hs : ∀ x, x ∈ l → ∀ k : Option D → Ht → Prop, (p x = true → k (some (f x)) A) → (p x = false → k none A) → st (e x) A k) (hf : fin ((l.filter p).map f) A) : compD ok st fin items [] A := by
  refine comp_l l e (fun x => if p x then some (f x) else none) hi hok hl (fun x hx k hk => hs x hx k (fun h => ?_) fun h => ?_) ?_
  · rw [if_pos h] at hk; exact hk
  · rw [if_neg (by rw [h]; simp)] at hk; exact hk
  · have z : l.filterMap (fun x => if p x then some (f x) else none) = (l.filter p).map f := by
      clear hi hl hs hf
      induction l with
      | nil => rfl
      | cons x r ih =>
        rw [List.filterMap_cons, List.filter_cons]
        cases h : p x with
        | true => simp [ih]
        | false => simp [ih]
    rw [z]; exact hf
/-- a loop by a fold -/
theorem loop_f {α σ : Type} {ok : Ht → Prop} {st : D → Rho → Ht → (Rho → Ht → Prop) → Prop} {fin : Rho → Ht → Prop} {items : List D} {ρ : Rho} {A : Ht} (l : List α) (e : α → D) (f : σ → α → σ) (s : σ) (R : σ → Rho → Ht → Prop) (hi : items = l.map e) (h0 : R s ρ A) (hok : ∀ s ρ A, R s ρ A → ok A)
    (hs : ∀ i (hi : i < l.length) ρ A k, R ((l.take i).foldl f s) ρ A → (∀ ρ' A', R (f ((l.take i).foldl f s) l[i]) ρ' A' → k ρ' A') → st (e l[i]) ρ A k) (hf : ∀ ρ A, R (l.foldl f s) ρ A → fin ρ A) : loopD ok st fin items ρ A := by
  subst hi
  refine loop_go (fun i ρ A => R ((l.take i).foldl f s) ρ A) (by simpa using h0) (fun i ρ A h => hok _ _ _ h) (fun i hi ρ A k h hk => ?_) (fun ρ A h => hf _ _ (by rw [List.length_map, List.take_length] at h; exact h))
  have hi2 : i < l.length := by simpa using hi
  rw [List.getElem_map]
  refine hs i hi2 ρ A k h fun ρ' A' h' => hk ρ' A' ?_
  rw [List.take_succ_eq_append_getElem hi2, List.foldl_append]
  exact h'
/-- a loop by turns -/
theorem loop_i {α : Type} {ok : Ht → Prop} {st : D → Rho → Ht → (Rho → Ht → Prop) → Prop} {fin : Rho → Ht → Prop} {items : List D} {ρ : Rho} {A : Ht} (l : List α) (e : α → D) (R : Nat → Rho → Ht → Prop) (hi : items = l.map e) (h0 : R 0 ρ A) (hok : ∀ i ρ A, R i ρ A → ok A)
    (hs : ∀ i (hi : i < l.length) ρ A k, R i ρ A → (∀ ρ' A', R (i + 1) ρ' A' → k ρ' A') → st (e l[i]) ρ A k) (hf : ∀ ρ A, R l.length ρ A → fin ρ A) : loopD ok st fin items ρ A := by
  subst hi
  refine loop_go R h0 hok (fun i hi ρ A k h hk => ?_) (fun ρ A h => hf _ _ (by rw [List.length_map] at h; exact h))
  have hi2 : i < l.length := by simpa using hi
  rw [List.getElem_map]
  exact hs i hi2 ρ A k h hk
/-- a loop that ends at the first that does not pass -/
theorem loop_all {α : Type} {ok : Ht → Prop} {st : D → Rho → Ht → (Rho → Ht → Prop) → Prop} {fin : Rho → Ht → Prop} {items : List D} {ρ : Rho} {A : Ht} (l : List α) (e : α → D) (p : α → Bool) (R : Rho → Ht → Prop) (hi : items = l.map e) (h0 : R ρ A) (hok : ∀ ρ A, R ρ A → ok A)
    (hs : ∀ x, x ∈ l → ∀ ρ A k, R ρ A → (p x = false → l.all p = false) → (p x = true → ∀ ρ' A', R ρ' A' → k ρ' A') → st (e x) ρ A k) (hf : l.all p = true → ∀ ρ A, R ρ A → fin ρ A) : loopD ok st fin items ρ A := by
  refine loop_i l e (fun i ρ A => R ρ A ∧ ∀ j, j < i → ∀ h : j < l.length, p l[j] = true) hi ⟨h0, fun j h => by omega⟩ (fun i ρ A h => hok _ _ h.1) (fun i hi ρ A k h hk => ?_) (fun ρ A h => hf ?_ ρ A h.1)
  · refine hs _ (List.getElem_mem hi) ρ A k h.1 (fun hp => ?_) fun hp ρ' A' hr => hk ρ' A' ⟨hr, fun j hj hjl => ?_⟩
    · rw [List.all_eq_false]
      exact ⟨_, List.getElem_mem hi, by rw [hp]; simp⟩
    · by_cases e : j = i
      · subst e; exact hp
      · exact h.2 j (by omega) hjl
  · rw [List.all_eq_true]
    intro x hx
    obtain ⟨j, hj, rfl⟩ := List.getElem_of_mem hx
    exact h.2 j hj hj
/-! ### what returns -/
theorem rt_at {A A' : Ht} {Q : D → Ht → Prop} {d : D} (h : Q d A') : Rt A Q d A' := .inl h
mutual
def pureD : D → Bool
  | .obj _ => false | .tup ds => pureDs ds | .rol ds => pureDs ds | .ls ds => pureDs ds | .exn _ _ _ => false
  | .non => true | .bl _ => true | .int _ => true | .str _ => true | .rg _ _ => false
def pureDs : List D → Bool
  | [] => true
  | d :: ds => pureD d && pureDs ds
end
mutual
theorem fz_pure {n : Nat} {f : Nat → Option D} : ∀ d : D, pureD d = true → fzD n f d = some d
  | .non, _ => rfl | .bl _, _ => rfl | .int _, _ => rfl | .str _, _ => rfl
  | .rg _ _, h => by cases h
  | .obj _, h => by cases h
  | .exn _ _ _, h => by cases h
  | .tup ds, h => by unfold fzD; rw [fzs_pure ds h]; rfl
  | .rol ds, h => by unfold fzD; rw [fzs_pure ds h]; rfl
  | .ls ds, h => by unfold fzD; rw [fzs_pure ds h]; rfl
theorem fzs_pure {n : Nat} {f : Nat → Option D} : ∀ ds : List D, pureDs ds = true → fzDs n f ds = some ds
  | [], _ => rfl
  | d :: ds, h => by
    unfold pureDs at h
    rw [Bool.and_eq_true] at h
    unfold fzDs
    rw [fz_pure d h.1, fzs_pure ds h.2]; rfl
end
theorem fzK_pure {n : Nat} {A : Ht} {d : D} (h : pureD d = true) : fzK n A 3 d = some d := fz_pure d h
theorem pureDs_all : ∀ {ds : List D}, (∀ d ∈ ds, pureD d = true) → pureDs ds = true
  | [], _ => rfl
  | d :: ds, h => by unfold pureDs; rw [h d (by simp), pureDs_all fun x hx => h x (by simp [hx])]; rfl
theorem pureDs_map {α : Type} {l : List α} {e : α → D} (h : ∀ x ∈ l, pureD (e x) = true) : pureDs (l.map e) = true := pureDs_all fun d hd => by
  obtain ⟨x, hx, rfl⟩ := List.mem_map.mp hd
  exact h x hx
theorem tame_self {A : Ht} : Tame A A := fun i o e => .inl e
/-- the own objects are forgotten -/
theorem rt_pure {A B : Ht} {Q : D → Ht → Prop} {d : D} (hd : pureD d = true) (h : Q d A) : Rt A Q d (A ++ B) := .inr ⟨A, B, d, rfl, Nat.le_refl _, tame_self, fzK_pure hd, h⟩
theorem keep_pre {A A' : Ht} (k : Keep [] A A') : ∃ B, A' = A ++ B := by
  refine ⟨A'.drop A.length, ?_⟩
  conv => lhs; rw [← List.take_append_drop A.length A']
  congr 1
  apply List.ext_getElem?
  intro i
  by_cases h : i < A.length
  · rw [List.getElem?_take_of_lt h]
    rw [List.getElem?_eq_getElem h]
    exact k.2 i _ (List.getElem?_eq_getElem h) (by simp)
  · rw [List.getElem?_eq_none (by rw [List.length_take]; omega), List.getElem?_eq_none (by omega)]
theorem rt_keep {A A' : Ht} {Q : D → Ht → Prop} {d : D} (k : Keep [] A A') (hd : pureD d = true) (h : Q d A) : Rt A Q d A' := by
  obtain ⟨B, rfl⟩ := keep_pre k
  exact rt_pure hd h
/-- a list of one's own is handed back as a value -/
theorem rt_list {A B : Ht} {Q : D → Ht → Prop} {n : Nat} {l : List D} (e : (A ++ B)[n]? = some (.lst l)) (hn : A.length ≤ n) (hl : pureDs l = true) (h : Q (.ls l) A) : Rt A Q (.obj n) (A ++ B) :=
  .inr ⟨A, B, .ls l, rfl, Nat.le_refl _, tame_self, by
    show (if n < A.length then _ else _) = _
    rw [if_neg (by omega)]
    simp only [e]
    rw [fzs_pure l hl]; rfl, h⟩
theorem rte_at {A A' : Ht} {E : D → Ht → Prop} {d : D} (h : E d A') : RtE A E d A' := .inl h
theorem rte_keep {A A' : Ht} {E : D → Ht → Prop} {c : Str} {ks : List Str} {ds : List D} (k : Keep [] A A') (hd : belowDs A.length ds = true) (h : E (.exn c ks ds) A) : RtE A E (.exn c ks ds) A' := by
  obtain ⟨B, rfl⟩ := keep_pre k
  exact .inr ⟨A, B, rfl, Nat.le_refl _, tame_self, hd, h⟩
/-! ### numbers -/
abbrev nL (l : List Nat) : List D := l.map fun (n : Nat) => D.int (n : Int)
theorem nL_get {l : List Nat} {i : Nat} (h : i < l.length) : (nL l)[i]? = some (.int (l[i] : Int)) := by simp [List.getElem?_eq_getElem h]
theorem pure_nL {l : List Nat} : pureDs (nL l) = true := pureDs_map fun _ _ => rfl
theorem pure_iL {l : List Int} : pureDs (iL l) = true := pureDs_map fun _ _ => rfl
theorem sz0 : (0 : Nat) ≤ PySem.sizeLine := by rw [PySem.sizeLine_eq]; decide
theorem sz1 : (1 : Nat) ≤ PySem.sizeLine := by rw [PySem.sizeLine_eq]; decide
theorem sz2 : (2 : Nat) ≤ PySem.sizeLine := by rw [PySem.sizeLine_eq]; decide
theorem sz3 : (3 : Nat) ≤ PySem.sizeLine := by rw [PySem.sizeLine_eq]; decide
theorem sz4 : (4 : Nat) ≤ PySem.sizeLine := by rw [PySem.sizeLine_eq]; decide
theorem sz5 : (5 : Nat) ≤ PySem.sizeLine := by rw [PySem.sizeLine_eq]; decide
theorem sz6 : (6 : Nat) ≤ PySem.sizeLine := by rw [PySem.sizeLine_eq]; decide
theorem sz7 : (7 : Nat) ≤ PySem.sizeLine := by rw [PySem.sizeLine_eq]; decide
theorem sz8 : (8 : Nat) ≤ PySem.sizeLine := by rw [PySem.sizeLine_eq]; decide
theorem sz9 : (9 : Nat) ≤ PySem.sizeLine := by rw [PySem.sizeLine_eq]; decide
theorem sz10 : (10 : Nat) ≤ PySem.sizeLine := by rw [PySem.sizeLine_eq]; decide
theorem sz11 : (11 : Nat) ≤ PySem.sizeLine := by rw [PySem.sizeLine_eq]; decide
theorem sz12 : (12 : Nat) ≤ PySem.sizeLine := by rw [PySem.sizeLine_eq]; decide
theorem szN {n : Nat} (h : n ≤ 65536) : n ≤ PySem.sizeLine := by have := sl32; omega
theorem szL {n : Nat} (h : n ≤ 65536) : n < PySem.sizeLine := by have := sl32; omega
theorem ints_nL : ∀ l : List Nat, intsD (nL l) = some (l.map fun (n : Nat) => (n : Int))
  | [] => rfl
  | n :: r => by simp only [List.map_cons, intsD, ints_nL r, Option.map_some]
theorem bls_map {α : Type} (f : α → Bool) : ∀ l : List α, blsD (l.map fun x => .bl (f x)) = some (l.map f)
  | [] => rfl
  | x :: r => by simp only [List.map_cons, blsD, bls_map f r, Option.map_some]
theorem all_map {α : Type} (f : α → Bool) (l : List α) : (l.map f).all id = l.all f := by simp
end Px
end TextPx24

section TextPg1
set_option autoImplicit false
set_option maxRecDepth 100000
namespace Pg
open PySem Px
def N_is_integer : List Str := ["thing"]
def ir_is_integer : Iss := (.cons (.ret (.andv (.isi (.var 0) .int) (.notv (.isi (.var 0) .bool)))) .nil)
def N_is_number : List Str := ["thing"]
def ir_is_number : Iss := (.cons (.ret (.andv (.call "is_integer" (.cons (.var 0) .nil)) (.cmp .GtE (.var 0) (.cst (.int 0))))) .nil)
def N_is_value : List Str := ["thing"]
def ir_is_value : Iss := (.cons (.ret (.andv (.call "is_integer" (.cons (.var 0) .nil)) (.chain .LtE .LtE (.cst (.int 0)) (.var 0) (.cst (.int 2))))) .nil)
def N_is_known : List Str := ["thing"]
def ir_is_known : Iss := (.cons (.ret (.andv (.call "is_integer" (.cons (.var 0) .nil)) (.chain .LtE .LtE (.cst (.int 0)) (.var 0) (.cst (.int 1))))) .nil)
def N_is_column : List Str := ["net", "thing", "part"]
def ir_is_column : Iss := (.cons (.ife (.orv (.notv (.isi (.var 1) .tuple)) (.cmp .NotEq (.bi .len (.cons (.var 1) .nil)) (.bi .len (.cons (.ix (.var 0) (.cst (.int 1))) .nil)))) (.cons (.ret (.cst (.bl false))) .nil) .nil) (.cons (.ret (.bi .all (.cons (.lc (.name 2) (.seq (.var 1)) .no (.call "is_number" (.cons (.var 2) .nil)) [2]) .nil))) .nil))
def N_has_node : List Str := ["net", "thing"]
def ir_has_node : Iss := (.cons (.ret (.andv (.call "is_number" (.cons (.var 1) .nil)) (.cmp .Lt (.var 1) (.bin .Add (.bi .len (.cons (.ix (.var 0) (.cst (.int 0))) .nil)) (.bi .len (.cons (.ix (.var 0) (.cst (.int 1))) .nil)))))) .nil)
def N_has_switch : List Str := ["net", "thing"]
def ir_has_switch : Iss := (.cons (.ret (.andv (.call "is_number" (.cons (.var 1) .nil)) (.cmp .Lt (.var 1) (.bi .len (.cons (.ix (.var 0) (.cst (.int 2))) .nil))))) .nil)
def N_node_ranks : List Str := ["net", "_", "size"]
def ir_node_ranks : Iss := (.cons (.ret (.bin .Add (.bin .Mult (.lst (.cons (.glob "FEED_RANK") .nil)) (.bi .len (.cons (.ix (.var 0) (.cst (.int 0))) .nil))) (.lc (.tup (.cons (.name 1) (.cons (.name 2) .nil))) (.seq (.ix (.var 0) (.cst (.int 1)))) .no (.var 2) [1, 2]))) .nil)
def N_rank_of : List Str := ["net", "node"]
def ir_rank_of : Iss := (.cons (.ife (.notv (.call "has_node" (.cons (.var 0) (.cons (.var 1) .nil)))) (.cons (.rse "NotUsable" (.cons (.cst (.str "node")) (.cons (.neg (.cst (.int 1))) .nil))) .nil) .nil) (.cons (.ret (.ix (.call "node_ranks" (.cons (.var 0) .nil)) (.var 1))) .nil))
def N_switch_rank : List Str := ["net", "switch"]
def ir_switch_rank : Iss := (.cons (.ife (.notv (.call "has_switch" (.cons (.var 0) (.cons (.var 1) .nil)))) (.cons (.rse "NotUsable" (.cons (.cst (.str "switch")) (.cons (.neg (.cst (.int 1))) .nil))) .nil) .nil) (.cons (.ret (.bin .Add (.glob "RANK_BELOW_STRENGTHS") (.ix (.ix (.ix (.var 0) (.cst (.int 2))) (.var 1)) (.cst (.int 1))))) .nil))
def N_is_positions : List Str := ["net", "thing", "position", "switch"]
def ir_is_positions : Iss := (.cons (.ife (.orv (.notv (.isi (.var 1) .tuple)) (.cmp .NotEq (.bi .len (.cons (.var 1) .nil)) (.bi .len (.cons (.ix (.var 0) (.cst (.int 2))) .nil)))) (.cons (.ret (.cst (.bl false))) .nil) .nil) (.cons (.fr (.tup (.cons (.name 2) (.cons (.name 3) .nil))) (.zip (.var 1) (.ix (.var 0) (.cst (.int 2)))) (.cons (.ife (.orv (.notv (.call "is_value" (.cons (.var 2) .nil))) (.andv (.cmp .Eq (.ix (.var 3) (.cst (.int 0))) (.cst (.str "tie"))) (.cmp .NotEq (.var 2) (.cst (.int 1))))) (.cons (.ret (.cst (.bl false))) .nil) .nil) .nil)) (.cons (.ret (.cst (.bl true))) .nil)))
def N__begins_as_held : List Str := ["thing", "many", "part"]
def ir__begins_as_held : Iss := (.cons (.ife (.orv (.notv (.isi (.var 0) .tuple)) (.cmp .NotEq (.bi .len (.cons (.var 0) .nil)) (.var 1))) (.cons (.ret (.cst (.bl false))) .nil) .nil) (.cons (.ife (.notv (.bi .all (.cons (.lc (.name 2) (.seq (.var 0)) .no (.call "is_value" (.cons (.var 2) .nil)) [2]) .nil))) (.cons (.ret (.cst (.bl false))) .nil) .nil) (.cons (.ret (.andv (.cmp .Eq (.ix (.var 0) (.cst (.int 0))) (.cst (.int 0))) (.cmp .Eq (.ix (.var 0) (.cst (.int 1))) (.cst (.int 1))))) .nil)))
def N_is_held : List Str := ["net", "thing"]
def ir_is_held : Iss := (.cons (.ret (.call "_begins_as_held" (.cons (.var 1) (.cons (.bin .Add (.bi .len (.cons (.ix (.var 0) (.cst (.int 0))) .nil)) (.bi .len (.cons (.ix (.var 0) (.cst (.int 1))) .nil))) .nil)))) .nil)
def N_is_feeds : List Str := ["net", "thing"]
def ir_is_feeds : Iss := (.cons (.ret (.call "_begins_as_held" (.cons (.var 1) (.cons (.bi .len (.cons (.ix (.var 0) (.cst (.int 0))) .nil)) .nil)))) .nil)
def N_is_state : List Str := ["net", "thing"]
def ir_is_state : Iss := (.cons (.ife (.orv (.notv (.isi (.var 1) .tuple)) (.cmp .NotEq (.bi .len (.cons (.var 1) .nil)) (.cst (.int 2)))) (.cons (.ret (.cst (.bl false))) .nil) .nil) (.cons (.ret (.andv (.call "is_positions" (.cons (.var 0) (.cons (.ix (.var 1) (.cst (.int 0))) .nil))) (.call "is_held" (.cons (.var 0) (.cons (.ix (.var 1) (.cst (.int 1))) .nil))))) .nil))
def N_ways_out : List Str := ["net", "usable", "feeds", "ways", "_", "switch", "strength", "left", "right", "rank"]
def ir_ways_out : Iss := (.cons (.set 2 (.bi .len (.cons (.ix (.var 0) (.cst (.int 0))) .nil))) (.cons (.set 3 (.lc (.name 4) (.rng1 (.bin .Add (.var 2) (.bi .len (.cons (.ix (.var 0) (.cst (.int 1))) .nil)))) .no (.lst .nil) [4])) (.cons (.fr (.name 5) (.seq (.var 1)) (.cons (.asg (.tup (.cons (.name 4) (.cons (.name 6) (.cons (.name 4) (.cons (.name 7) (.cons (.name 8) .nil)))))) (.ix (.ix (.var 0) (.cst (.int 2))) (.var 5))) (.cons (.set 9 (.bin .Add (.glob "RANK_BELOW_STRENGTHS") (.var 6))) (.cons (.ife (.cmp .GtE (.var 8) (.var 2)) (.cons (.ex (.mt .append (.ix (.var 3) (.var 7)) (.cons (.tup (.cons (.var 9) (.cons (.var 8) (.cons (.var 5) .nil)))) .nil))) .nil) .nil) (.cons (.ife (.cmp .GtE (.var 7) (.var 2)) (.cons (.ex (.mt .append (.ix (.var 3) (.var 8)) (.cons (.tup (.cons (.var 9) (.cons (.var 7) (.cons (.var 5) .nil)))) .nil))) .nil) .nil) .nil))))) (.cons (.ret (.var 3)) .nil))))
def N_flooded : List Str := ["ways", "starts", "floors", "numbers", "reached_by", "waiting", "_", "node", "start", "level", "queue", "at", "switch", "rank", "tank", "over"]
def ir_flooded : Iss := (.cons (.set 3 (.bin .Mult (.lst (.cons (.cst (.int 0)) .nil)) (.bi .len (.cons (.var 0) .nil)))) (.cons (.set 4 (.bin .Mult (.lst (.cons (.neg (.cst (.int 1))) .nil)) (.bi .len (.cons (.var 0) .nil)))) (.cons (.set 5 (.lc (.name 6) (.rng1 (.bin .Add (.glob "FEED_RANK") (.cst (.int 1)))) .no (.lst .nil) [6])) (.cons (.fr (.tup (.cons (.name 7) (.cons (.name 8) .nil))) (.enum (.var 1)) (.cons (.ex (.mt .append (.ix (.var 5) (.var 8)) (.cons (.tup (.cons (.var 7) (.cons (.neg (.cst (.int 1))) .nil))) .nil))) .nil)) (.cons (.fr (.name 9) (.rng3 (.glob "FEED_RANK") (.cst (.int 0)) (.neg (.cst (.int 1)))) (.cons (.set 10 (.ix (.var 5) (.var 9))) (.cons (.set 11 (.cst (.int 0))) (.cons (.whl (.cmp .Lt (.var 11) (.bi .len (.cons (.var 10) .nil))) (.cons (.asg (.tup (.cons (.name 7) (.cons (.name 12) .nil))) (.ix (.var 10) (.var 11))) (.cons (.aug 11 .Add (.cst (.int 1))) (.cons (.ife (.andv (.cmp .Eq (.ix (.var 3) (.var 7)) (.cst (.int 0))) (.cmp .LtE (.ix (.var 2) (.var 7)) (.var 9))) (.cons (.asgS (.var 3) (.var 7) (.var 9)) (.cons (.asgS (.var 4) (.var 7) (.var 12)) (.cons (.fr (.tup (.cons (.name 13) (.cons (.name 14) (.cons (.name 15) .nil)))) (.seq (.ix (.var 0) (.var 7))) (.cons (.ex (.mt .append (.ix (.var 5) (.bi .min (.cons (.var 9) (.cons (.var 13) .nil)))) (.cons (.tup (.cons (.var 14) (.cons (.var 15) .nil))) .nil))) .nil)) .nil))) .nil) .nil)))) .nil)))) (.cons (.ret (.tup (.cons (.var 3) (.cons (.var 4) .nil)))) .nil))))))
def N_firm_ranks : List Str := ["net", "positions", "closed", "switch", "position", "ranks"]
def ir_firm_ranks : Iss := (.cons (.set 2 (.lc (.tup (.cons (.name 3) (.cons (.name 4) .nil))) (.enum (.var 1)) (.so (.cmp .Eq (.var 4) (.cst (.int 1)))) (.var 3) [3, 4])) (.cons (.set 5 (.call "node_ranks" (.cons (.var 0) .nil))) (.cons (.ret (.ix (.call "flooded" (.cons (.call "ways_out" (.cons (.var 0) (.cons (.var 2) .nil))) (.cons (.var 5) (.cons (.bin .Mult (.lst (.cons (.cst (.int 0)) .nil)) (.bi .len (.cons (.var 5) .nil))) .nil)))) (.cst (.int 0)))) .nil)))
def N_likely_ways : List Str := ["net", "positions", "switch", "position"]
def ir_likely_ways : Iss := (.cons (.ret (.call "ways_out" (.cons (.var 0) (.cons (.lc (.tup (.cons (.name 2) (.cons (.name 3) .nil))) (.enum (.var 1)) (.so (.cmp .NotEq (.var 3) (.cst (.int 0)))) (.var 2) [2, 3]) .nil)))) .nil)
def N_root_ranks : List Str := ["net", "held", "value", "rank", "told"]
def ir_root_ranks : Iss := (.cons (.ret (.lc (.tup (.cons (.name 3) (.cons (.name 4) .nil))) (.zip (.call "node_ranks" (.cons (.var 0) .nil)) (.var 1)) .no (.ite (.cmp .In (.var 4) (.tup (.cons (.var 2) (.cons (.cst (.int 2)) .nil)))) (.var 3) (.cst (.int 0))) [3, 4])) .nil)
def N_may : List Str := ["net", "positions", "held", "value", "ways"]
def ir_may : Iss := (.cons (.ife (.notv (.call "is_positions" (.cons (.var 0) (.cons (.var 1) .nil)))) (.cons (.rse "NotUsable" (.cons (.cst (.str "positions")) (.cons (.neg (.cst (.int 1))) .nil))) .nil) .nil) (.cons (.ife (.notv (.call "is_held" (.cons (.var 0) (.cons (.var 2) .nil)))) (.cons (.rse "NotUsable" (.cons (.cst (.str "held")) (.cons (.neg (.cst (.int 1))) .nil))) .nil) .nil) (.cons (.ife (.notv (.call "is_known" (.cons (.var 3) .nil))) (.cons (.rse "NotUsable" (.cons (.cst (.str "value")) (.cons (.neg (.cst (.int 1))) .nil))) .nil) .nil) (.cons (.set 4 (.call "likely_ways" (.cons (.var 0) (.cons (.var 1) .nil)))) (.cons (.ret (.bi .tuple (.cons (.ix (.call "flooded" (.cons (.var 4) (.cons (.call "root_ranks" (.cons (.var 0) (.cons (.var 2) (.cons (.var 3) .nil)))) (.cons (.call "firm_ranks" (.cons (.var 0) (.cons (.var 1) .nil))) .nil)))) (.cst (.int 0))) .nil))) .nil)))))
def N_firm : List Str := ["net", "positions"]
def ir_firm : Iss := (.cons (.ife (.notv (.call "is_positions" (.cons (.var 0) (.cons (.var 1) .nil)))) (.cons (.rse "NotUsable" (.cons (.cst (.str "positions")) (.cons (.neg (.cst (.int 1))) .nil))) .nil) .nil) (.cons (.ret (.bi .tuple (.cons (.call "firm_ranks" (.cons (.var 0) (.cons (.var 1) .nil))) .nil))) .nil))
def N_response : List Str := ["net", "positions", "held", "floors", "ways", "lows", "_", "highs", "told", "tank"]
def ir_response : Iss := (.cons (.ife (.notv (.call "is_positions" (.cons (.var 0) (.cons (.var 1) .nil)))) (.cons (.rse "NotUsable" (.cons (.cst (.str "positions")) (.cons (.neg (.cst (.int 1))) .nil))) .nil) .nil) (.cons (.ife (.notv (.call "is_held" (.cons (.var 0) (.cons (.var 2) .nil)))) (.cons (.rse "NotUsable" (.cons (.cst (.str "held")) (.cons (.neg (.cst (.int 1))) .nil))) .nil) .nil) (.cons (.set 3 (.call "firm_ranks" (.cons (.var 0) (.cons (.var 1) .nil)))) (.cons (.set 4 (.call "likely_ways" (.cons (.var 0) (.cons (.var 1) .nil)))) (.cons (.asg (.tup (.cons (.name 5) (.cons (.name 6) .nil))) (.call "flooded" (.cons (.var 4) (.cons (.call "root_ranks" (.cons (.var 0) (.cons (.var 2) (.cons (.cst (.int 0)) .nil)))) (.cons (.var 3) .nil))))) (.cons (.asg (.tup (.cons (.name 7) (.cons (.name 6) .nil))) (.call "flooded" (.cons (.var 4) (.cons (.call "root_ranks" (.cons (.var 0) (.cons (.var 2) (.cons (.cst (.int 1)) .nil)))) (.cons (.var 3) .nil))))) (.cons (.set 8 (.bi .list (.cons (.var 2) .nil))) (.cons (.fr (.name 9) (.rng2 (.bi .len (.cons (.ix (.var 0) (.cst (.int 0))) .nil)) (.bi .len (.cons (.var 2) .nil))) (.cons (.ife (.cmp .Eq (.ix (.var 5) (.var 9)) (.cst (.int 0))) (.cons (.asgS (.var 8) (.var 9) (.cst (.int 1))) .nil) (.cons (.ife (.cmp .Eq (.ix (.var 7) (.var 9)) (.cst (.int 0))) (.cons (.asgS (.var 8) (.var 9) (.cst (.int 0))) .nil) (.cons (.asgS (.var 8) (.var 9) (.cst (.int 2))) .nil)) .nil)) .nil)) (.cons (.ret (.bi .tuple (.cons (.var 8) .nil))) .nil)))))))))
end Pg
end TextPg1

section TextPg2
set_option autoImplicit false
set_option maxRecDepth 100000
namespace Pg
open PySem Px
def N_may_paper : List Str := ["net", "positions", "held", "value"]
def ir_may_paper : Iss := (.cons (.ret (.bi .tuple (.cons (.sl (.call "may" (.cons (.var 0) (.cons (.var 1) (.cons (.var 2) (.cons (.var 3) .nil))))) (.so (.bi .len (.cons (.ix (.var 0) (.cst (.int 0))) .nil))) .no) .nil))) .nil)
def N__feed_numbers : List Str := ["net", "held", "value", "feed"]
def ir__feed_numbers : Iss := (.cons (.ret (.lc (.name 3) (.rng1 (.bi .len (.cons (.ix (.var 0) (.cst (.int 0))) .nil))) .no (.ite (.cmp .In (.ix (.var 1) (.var 3)) (.tup (.cons (.var 2) (.cons (.cst (.int 2)) .nil)))) (.call "rank_of" (.cons (.var 0) (.cons (.var 3) .nil))) (.cst (.int 0))) [3])) .nil)
def N__begins_well : List Str := ["net", "held", "value", "ranks", "paper", "feeds", "place", "size"]
def ir__begins_well : Iss := (.cons (.set 5 (.bi .len (.cons (.ix (.var 0) (.cst (.int 0))) .nil))) (.cons (.fr (.name 6) (.rng1 (.bi .len (.cons (.var 3) .nil))) (.cons (.set 7 (.call "rank_of" (.cons (.var 0) (.cons (.bin .Add (.var 5) (.var 6)) .nil)))) (.cons (.ife (.andv (.cmp .In (.ix (.var 1) (.bin .Add (.var 5) (.var 6))) (.tup (.cons (.var 2) (.cons (.cst (.int 2)) .nil)))) (.andv (.cmp .GtE (.var 7) (.ix (.var 3) (.var 6))) (.cmp .Lt (.ix (.var 4) (.var 6)) (.var 7)))) (.cons (.ret (.cst (.bl false))) .nil) .nil) .nil))) (.cons (.ret (.cst (.bl true))) .nil)))
def N__goes_on_well : List Str := ["net", "positions", "ranks", "numbers", "feeds", "switch", "left", "right", "rank", "one", "other", "least"]
def ir__goes_on_well : Iss := (.cons (.set 4 (.bi .len (.cons (.ix (.var 0) (.cst (.int 0))) .nil))) (.cons (.fr (.name 5) (.rng1 (.bi .len (.cons (.var 1) .nil))) (.cons (.ife (.cmp .NotEq (.ix (.var 1) (.var 5)) (.cst (.int 0))) (.cons (.asg (.tup (.cons (.name 6) (.cons (.name 7) .nil))) (.sl (.ix (.ix (.var 0) (.cst (.int 2))) (.var 5)) (.so (.cst (.int 3))) .no)) (.cons (.set 8 (.call "switch_rank" (.cons (.var 0) (.cons (.var 5) .nil)))) (.cons (.fr (.tup (.cons (.name 9) (.cons (.name 10) .nil))) (.seq (.tup (.cons (.tup (.cons (.var 6) (.cons (.var 7) .nil))) (.cons (.tup (.cons (.var 7) (.cons (.var 6) .nil))) .nil)))) (.cons (.set 11 (.bi .min (.cons (.ix (.var 3) (.var 9)) (.cons (.var 8) .nil)))) (.cons (.ife (.andv (.cmp .GtE (.var 10) (.var 4)) (.andv (.cmp .GtE (.var 11) (.ix (.var 2) (.bin .Sub (.var 10) (.var 4)))) (.cmp .Lt (.ix (.var 3) (.var 10)) (.var 11)))) (.cons (.ret (.cst (.bl false))) .nil) .nil) .nil))) .nil))) .nil) .nil)) (.cons (.ret (.cst (.bl true))) .nil)))
def N_judge_may : List Str := ["net", "positions", "held", "value", "ranks", "paper", "numbers"]
def ir_judge_may : Iss := (.cons (.ife (.notv (.call "is_positions" (.cons (.var 0) (.cons (.var 1) .nil)))) (.cons (.rse "NotUsable" (.cons (.cst (.str "positions")) (.cons (.neg (.cst (.int 1))) .nil))) .nil) .nil) (.cons (.ife (.notv (.call "is_held" (.cons (.var 0) (.cons (.var 2) .nil)))) (.cons (.rse "NotUsable" (.cons (.cst (.str "held")) (.cons (.neg (.cst (.int 1))) .nil))) .nil) .nil) (.cons (.ife (.notv (.call "is_known" (.cons (.var 3) .nil))) (.cons (.rse "NotUsable" (.cons (.cst (.str "value")) (.cons (.neg (.cst (.int 1))) .nil))) .nil) .nil) (.cons (.ife (.notv (.call "is_column" (.cons (.var 0) (.cons (.var 4) .nil)))) (.cons (.rse "NotUsable" (.cons (.cst (.str "ranks")) (.cons (.neg (.cst (.int 1))) .nil))) .nil) .nil) (.cons (.ife (.orv (.notv (.call "is_column" (.cons (.var 0) (.cons (.var 5) .nil)))) (.notv (.call "_begins_well" (.cons (.var 0) (.cons (.var 2) (.cons (.var 3) (.cons (.var 4) (.cons (.var 5) .nil)))))))) (.cons (.ret (.cst .non)) .nil) .nil) (.cons (.set 6 (.bin .Add (.call "_feed_numbers" (.cons (.var 0) (.cons (.var 2) (.cons (.var 3) .nil)))) (.bi .list (.cons (.var 5) .nil)))) (.cons (.ife (.notv (.call "_goes_on_well" (.cons (.var 0) (.cons (.var 1) (.cons (.var 4) (.cons (.var 6) .nil)))))) (.cons (.ret (.cst .non)) .nil) .nil) (.cons (.ret (.var 5)) .nil))))))))
def N__law_same_1 : List Str := ["_law_told", "_law_due", "_law_k"]
def ir__law_same_1 : Iss := (.cons (.ife (.isi (.var 1) .tuple) (.cons (.ife (.orv (.notv (.isi (.var 0) .tuple)) (.cmp .NotEq (.bi .len (.cons (.var 0) .nil)) (.bi .len (.cons (.var 1) .nil)))) (.cons (.ret (.cst (.bl false))) .nil) .nil) (.cons (.ret (.cmp .Eq (.bi .len (.cons (.lc (.name 2) (.rng1 (.bi .len (.cons (.var 1) .nil))) (.so (.notv (.call "_law_same" (.cons (.ix (.var 0) (.var 2)) (.cons (.ix (.var 1) (.var 2)) .nil))))) (.var 2) [2]) .nil)) (.cst (.int 0)))) .nil)) .nil) (.cons (.ife (.orv (.cmp .Is (.var 1) (.cst .non)) (.orv (.isi (.var 1) .bool) (.isi (.var 0) .bool))) (.cons (.ret (.andv (.cmp .Eq (.isi (.var 0) .bool) (.isi (.var 1) .bool)) (.cmp .Eq (.var 0) (.var 1)))) .nil) .nil) (.cons (.ife (.isi (.var 1) .int) (.cons (.ret (.andv (.isi (.var 0) .int) (.cmp .Eq (.var 0) (.var 1)))) .nil) .nil) (.cons (.ret (.andv (.isi (.var 1) .str) (.andv (.isi (.var 0) .str) (.cmp .Eq (.var 0) (.var 1))))) .nil))))
def N__law_is_number_1 : List Str := ["_law_item"]
def ir__law_is_number_1 : Iss := (.cons (.ret (.andv (.isi (.var 0) .int) (.notv (.isi (.var 0) .bool)))) .nil)
end Pg
end TextPg2

section TextPg3
set_option autoImplicit false
set_option maxRecDepth 100000
namespace Pg
open PySem Px
def N_is_lot : List Str := ["thing", "least", "number"]
def ir_is_lot : Iss := (.cons (.ife (.notv (.isi (.var 0) .tuple)) (.cons (.ret (.cst (.bl false))) .nil) .nil) (.cons (.set 1 (.cst (.int 0))) (.cons (.fr (.name 2) (.seq (.var 0)) (.cons (.ife (.orv (.notv (.call "is_integer" (.cons (.var 2) .nil))) (.cmp .Lt (.var 2) (.var 1))) (.cons (.ret (.cst (.bl false))) .nil) .nil) (.cons (.set 1 (.bin .Add (.var 2) (.cst (.int 1)))) .nil))) (.cons (.ret (.cst (.bl true))) .nil))))
def N_is_level_tuple : List Str := ["net", "thing", "greatest", "level"]
def ir_is_level_tuple : Iss := (.cons (.ife (.orv (.notv (.isi (.var 1) .tuple)) (.cmp .NotEq (.bi .len (.cons (.var 1) .nil)) (.bin .Add (.bi .len (.cons (.ix (.var 0) (.cst (.int 0))) .nil)) (.bi .len (.cons (.ix (.var 0) (.cst (.int 1))) .nil))))) (.cons (.ret (.cst (.bl false))) .nil) .nil) (.cons (.ret (.bi .all (.cons (.lc (.name 3) (.seq (.var 1)) .no (.andv (.call "is_number" (.cons (.var 3) .nil)) (.cmp .LtE (.var 3) (.var 2))) [3]) .nil))) .nil))
def N_flood : List Str := ["net", "usable", "starts", "floors", "switch"]
def ir_flood : Iss := (.cons (.ife (.orv (.notv (.call "is_lot" (.cons (.var 1) .nil))) (.notv (.bi .all (.cons (.lc (.name 4) (.seq (.var 1)) .no (.call "has_switch" (.cons (.var 0) (.cons (.var 4) .nil))) [4]) .nil)))) (.cons (.rse "NotUsable" (.cons (.cst (.str "usable")) (.cons (.neg (.cst (.int 1))) .nil))) .nil) .nil) (.cons (.ife (.notv (.call "is_level_tuple" (.cons (.var 0) (.cons (.var 2) (.cons (.glob "FEED_RANK") .nil))))) (.cons (.rse "NotUsable" (.cons (.cst (.str "starts")) (.cons (.neg (.cst (.int 1))) .nil))) .nil) .nil) (.cons (.ife (.notv (.call "is_level_tuple" (.cons (.var 0) (.cons (.var 3) (.cons (.glob "GREATEST_FLOOR") .nil))))) (.cons (.rse "NotUsable" (.cons (.cst (.str "floors")) (.cons (.neg (.cst (.int 1))) .nil))) .nil) .nil) (.cons (.ret (.bi .tuple (.cons (.ix (.call "flooded" (.cons (.call "ways_out" (.cons (.var 0) (.cons (.var 1) .nil))) (.cons (.var 2) (.cons (.var 3) .nil)))) (.cst (.int 0))) .nil))) .nil))))
def N__law_same_3 : List Str := ["_law_one", "_law_other", "_law_k"]
def ir__law_same_3 : Iss := (.cons (.ife (.andv (.isi (.var 0) .tuple) (.isi (.var 1) .tuple)) (.cons (.ife (.cmp .NotEq (.bi .len (.cons (.var 0) .nil)) (.bi .len (.cons (.var 1) .nil))) (.cons (.ret (.cst (.bl false))) .nil) .nil) (.cons (.fr (.name 2) (.rng1 (.bi .len (.cons (.var 0) .nil))) (.cons (.ife (.notv (.call "_law_same" (.cons (.ix (.var 0) (.var 2)) (.cons (.ix (.var 1) (.var 2)) .nil)))) (.cons (.ret (.cst (.bl false))) .nil) .nil) .nil)) (.cons (.ret (.cst (.bl true))) .nil))) .nil) (.cons (.ife (.orv (.cmp .Is (.var 0) (.cst .non)) (.cmp .Is (.var 1) (.cst .non))) (.cons (.ret (.andv (.cmp .Is (.var 0) (.cst .non)) (.cmp .Is (.var 1) (.cst .non)))) .nil) .nil) (.cons (.ife (.orv (.isi (.var 0) .bool) (.isi (.var 1) .bool)) (.cons (.ret (.orv (.andv (.cmp .Is (.var 0) (.cst (.bl true))) (.cmp .Is (.var 1) (.cst (.bl true)))) (.andv (.cmp .Is (.var 0) (.cst (.bl false))) (.cmp .Is (.var 1) (.cst (.bl false)))))) .nil) .nil) (.cons (.ife (.andv (.isi (.var 0) .int) (.isi (.var 1) .int)) (.cons (.ret (.cmp .Eq (.var 0) (.var 1))) .nil) .nil) (.cons (.ife (.andv (.isi (.var 0) .str) (.isi (.var 1) .str)) (.cons (.ret (.cmp .Eq (.var 0) (.var 1))) .nil) .nil) (.cons (.ret (.cst (.bl false))) .nil))))))
end Pg
end TextPg3

section TextPg4
set_option autoImplicit false
set_option maxRecDepth 100000
namespace Pg
open PySem Px
def N_flipped : List Str := ["value"]
def ir_flipped : Iss := (.cons (.ife (.notv (.call "is_value" (.cons (.var 0) .nil))) (.cons (.rse "NotUsable" (.cons (.cst (.str "value")) (.cons (.neg (.cst (.int 1))) .nil))) .nil) .nil) (.cons (.ret (.ite (.cmp .Eq (.var 0) (.cst (.int 2))) (.var 0) (.bin .Sub (.cst (.int 1)) (.var 0)))) .nil))
def N_joined_all : List Str := ["ones", "others", "one", "other"]
def ir_joined_all : Iss := (.cons (.ife (.notv (.call "are_all_values" (.cons (.var 0) .nil))) (.cons (.rse "NotUsable" (.cons (.cst (.str "ones")) (.cons (.neg (.cst (.int 1))) .nil))) .nil) .nil) (.cons (.ife (.orv (.notv (.call "are_all_values" (.cons (.var 1) .nil))) (.cmp .NotEq (.bi .len (.cons (.var 1) .nil)) (.bi .len (.cons (.var 0) .nil)))) (.cons (.rse "NotUsable" (.cons (.cst (.str "others")) (.cons (.neg (.cst (.int 1))) .nil))) .nil) .nil) (.cons (.ret (.bi .tuple (.cons (.lc (.tup (.cons (.name 2) (.cons (.name 3) .nil))) (.zip (.var 0) (.var 1)) .no (.call "_joined_pair" (.cons (.var 2) (.cons (.var 3) .nil))) [2, 3]) .nil))) .nil)))
def N_are_all_values : List Str := ["thing", "part"]
def ir_are_all_values : Iss := (.cons (.ife (.notv (.isi (.var 0) .tuple)) (.cons (.ret (.cst (.bl false))) .nil) .nil) (.cons (.fr (.name 1) (.seq (.var 0)) (.cons (.ife (.notv (.call "is_value" (.cons (.var 1) .nil))) (.cons (.ret (.cst (.bl false))) .nil) .nil) .nil)) (.cons (.ret (.cst (.bl true))) .nil)))
def N__joined_pair : List Str := ["one", "other"]
def ir__joined_pair : Iss := (.cons (.ret (.ite (.cmp .Eq (.var 0) (.var 1)) (.var 0) (.cst (.int 2)))) .nil)
def N_is_above_all : List Str := ["ones", "others", "one", "other"]
def ir_is_above_all : Iss := (.cons (.ife (.notv (.call "are_all_values" (.cons (.var 0) .nil))) (.cons (.rse "NotUsable" (.cons (.cst (.str "ones")) (.cons (.neg (.cst (.int 1))) .nil))) .nil) .nil) (.cons (.ife (.orv (.notv (.call "are_all_values" (.cons (.var 1) .nil))) (.cmp .NotEq (.bi .len (.cons (.var 1) .nil)) (.bi .len (.cons (.var 0) .nil)))) (.cons (.rse "NotUsable" (.cons (.cst (.str "others")) (.cons (.neg (.cst (.int 1))) .nil))) .nil) .nil) (.cons (.fr (.tup (.cons (.name 2) (.cons (.name 3) .nil))) (.zip (.var 0) (.var 1)) (.cons (.ife (.andv (.cmp .NotEq (.var 2) (.var 3)) (.cmp .NotEq (.var 2) (.cst (.int 2)))) (.cons (.ret (.cst (.bl false))) .nil) .nil) .nil)) (.cons (.ret (.cst (.bl true))) .nil))))
def N_readings : List Str := ["net", "held", "switch"]
def ir_readings : Iss := (.cons (.ife (.notv (.call "is_held" (.cons (.var 0) (.cons (.var 1) .nil)))) (.cons (.rse "NotUsable" (.cons (.cst (.str "held")) (.cons (.neg (.cst (.int 1))) .nil))) .nil) .nil) (.cons (.ret (.bi .tuple (.cons (.lc (.name 2) (.seq (.ix (.var 0) (.cst (.int 2)))) .no (.call "_reading_at" (.cons (.var 2) (.cons (.var 1) .nil))) [2]) .nil))) .nil))
def N__reading_at : List Str := ["switch", "held", "kind", "gate"]
def ir__reading_at : Iss := (.cons (.par 2 3 (.ix (.var 0) (.cst (.int 0))) (.ix (.var 0) (.cst (.int 2)))) (.cons (.ife (.cmp .Eq (.var 2) (.cst (.str "tie"))) (.cons (.ret (.cst (.int 1))) .nil) .nil) (.cons (.ife (.cmp .Eq (.var 2) (.cst (.str "zero"))) (.cons (.ret (.call "flipped" (.cons (.ix (.var 1) (.var 3)) .nil))) .nil) .nil) (.cons (.ret (.ix (.var 1) (.var 3))) .nil))))
def N_is_resting : List Str := ["net", "state", "positions", "held"]
def ir_is_resting : Iss := (.cons (.ife (.notv (.call "is_state" (.cons (.var 0) (.cons (.var 1) .nil)))) (.cons (.rse "NotUsable" (.cons (.cst (.str "state")) (.cons (.neg (.cst (.int 1))) .nil))) .nil) .nil) (.cons (.asg (.tup (.cons (.name 2) (.cons (.name 3) .nil))) (.var 1)) (.cons (.ret (.andv (.cmp .Eq (.var 2) (.call "readings" (.cons (.var 0) (.cons (.var 3) .nil)))) (.cmp .Eq (.var 3) (.call "response" (.cons (.var 0) (.cons (.var 2) (.cons (.var 3) .nil))))))) .nil)))
def N_begun : List Str := ["net", "state", "feeds"]
def ir_begun : Iss := (.cons (.ife (.notv (.call "is_state" (.cons (.var 0) (.cons (.var 1) .nil)))) (.cons (.rse "NotUsable" (.cons (.cst (.str "state")) (.cons (.neg (.cst (.int 1))) .nil))) .nil) .nil) (.cons (.ife (.notv (.call "is_feeds" (.cons (.var 0) (.cons (.var 2) .nil)))) (.cons (.rse "NotUsable" (.cons (.cst (.str "feeds")) (.cons (.neg (.cst (.int 1))) .nil))) .nil) .nil) (.cons (.ret (.tup (.cons (.ix (.var 1) (.cst (.int 0))) (.cons (.bin .Add (.var 2) (.sl (.ix (.var 1) (.cst (.int 1))) (.so (.bi .len (.cons (.var 2) .nil))) .no)) .nil)))) .nil)))
def N_spread : List Str := ["net", "state", "feeds", "positions", "held", "further", "wider"]
def ir_spread : Iss := (.cons (.asg (.tup (.cons (.name 3) (.cons (.name 4) .nil))) (.call "begun" (.cons (.var 0) (.cons (.var 1) (.cons (.var 2) .nil))))) (.cons (.whl (.cst (.bl true)) (.cons (.set 5 (.call "joined_all" (.cons (.var 3) (.cons (.call "readings" (.cons (.var 0) (.cons (.var 4) .nil))) .nil)))) (.cons (.set 6 (.call "joined_all" (.cons (.var 4) (.cons (.call "response" (.cons (.var 0) (.cons (.var 5) (.cons (.var 4) .nil)))) .nil)))) (.cons (.ife (.andv (.cmp .Eq (.var 5) (.var 3)) (.cmp .Eq (.var 6) (.var 4))) (.cons (.ret (.tup (.cons (.var 3) (.cons (.var 4) .nil)))) .nil) .nil) (.cons (.par 3 4 (.var 5) (.var 6)) .nil))))) .nil))
def N_chain : List Str := ["net", "state", "positions", "held"]
def ir_chain : Iss := (.cons (.ife (.notv (.call "is_state" (.cons (.var 0) (.cons (.var 1) .nil)))) (.cons (.rse "NotUsable" (.cons (.cst (.str "state")) (.cons (.neg (.cst (.int 1))) .nil))) .nil) .nil) (.cons (.asg (.tup (.cons (.name 2) (.cons (.name 3) .nil))) (.var 1)) (.cons (.ife (.notv (.call "is_above_all" (.cons (.var 2) (.cons (.call "readings" (.cons (.var 0) (.cons (.var 3) .nil))) .nil)))) (.cons (.rse "NotUsable" (.cons (.cst (.str "state")) (.cons (.neg (.cst (.int 1))) .nil))) .nil) .nil) (.cons (.ife (.notv (.call "is_above_all" (.cons (.var 3) (.cons (.call "response" (.cons (.var 0) (.cons (.var 2) (.cons (.var 3) .nil)))) .nil)))) (.cons (.rse "NotUsable" (.cons (.cst (.str "state")) (.cons (.neg (.cst (.int 1))) .nil))) .nil) .nil) (.cons (.ret (.call "_states_from" (.cons (.var 0) (.cons (.var 1) .nil)))) .nil)))))
def N__states_from : List Str := ["net", "state", "states", "positions", "following"]
def ir__states_from : Iss := (.cons (.set 2 (.lst (.cons (.var 1) .nil))) (.cons (.whl (.cst (.bl true)) (.cons (.set 3 (.call "readings" (.cons (.var 0) (.cons (.ix (.var 1) (.cst (.int 1))) .nil)))) (.cons (.set 4 (.tup (.cons (.var 3) (.cons (.call "response" (.cons (.var 0) (.cons (.var 3) (.cons (.ix (.var 1) (.cst (.int 1))) .nil)))) .nil)))) (.cons (.ife (.cmp .Eq (.var 4) (.var 1)) (.cons (.ret (.bi .tuple (.cons (.var 2) .nil))) .nil) .nil) (.cons (.ex (.mt .append (.var 2) (.cons (.var 4) .nil))) (.cons (.set 1 (.var 4)) .nil)))))) .nil))
def N_turn : List Str := ["net", "state", "feeds", "first"]
def ir_turn : Iss := (.cons (.set 3 (.call "spread" (.cons (.var 0) (.cons (.var 1) (.cons (.var 2) .nil))))) (.cons (.ret (.tup (.cons (.var 3) (.cons (.call "_states_from" (.cons (.var 0) (.cons (.var 3) .nil))) .nil)))) .nil))
def N_after : List Str := ["net", "state", "feeds"]
def ir_after : Iss := (.cons (.ret (.ix (.ix (.call "turn" (.cons (.var 0) (.cons (.var 1) (.cons (.var 2) .nil)))) (.cst (.int 1))) (.neg (.cst (.int 1))))) .nil)
def N_after_all : List Str := ["net", "state", "sequence", "feeds"]
def ir_after_all : Iss := (.cons (.ife (.notv (.call "is_state" (.cons (.var 0) (.cons (.var 1) .nil)))) (.cons (.rse "NotUsable" (.cons (.cst (.str "state")) (.cons (.neg (.cst (.int 1))) .nil))) .nil) .nil) (.cons (.ife (.orv (.notv (.isi (.var 2) .tuple)) (.notv (.bi .all (.cons (.lc (.name 3) (.seq (.var 2)) .no (.call "is_feeds" (.cons (.var 0) (.cons (.var 3) .nil))) [3]) .nil)))) (.cons (.rse "NotUsable" (.cons (.cst (.str "sequence")) (.cons (.neg (.cst (.int 1))) .nil))) .nil) .nil) (.cons (.fr (.name 3) (.seq (.var 2)) (.cons (.set 1 (.call "after" (.cons (.var 0) (.cons (.var 1) (.cons (.var 3) .nil))))) .nil)) (.cons (.ret (.var 1)) .nil))))
def N_item_among : List Str := ["thing", "items"]
def ir_item_among : Iss := (.cons (.ife (.orv (.notv (.isi (.var 0) .tuple)) (.orv (.cmp .NotEq (.bi .len (.cons (.var 0) .nil)) (.cst (.int 2))) (.notv (.call "is_integer" (.cons (.ix (.var 0) (.cst (.int 1))) .nil))))) (.cons (.ret (.cst (.bl false))) .nil) .nil) (.cons (.ret (.cmp .In (.var 0) (.var 1))) .nil))
def N_items_unlike : List Str := ["net", "ones", "others", "many", "switches", "place", "tanks", "node"]
def ir_items_unlike : Iss := (.cons (.set 3 (.bi .len (.cons (.ix (.var 0) (.cst (.int 0))) .nil))) (.cons (.set 4 (.lc (.name 5) (.rng1 (.bi .len (.cons (.ix (.var 0) (.cst (.int 2))) .nil))) (.so (.cmp .NotEq (.ix (.ix (.var 1) (.cst (.int 0))) (.var 5)) (.ix (.ix (.var 2) (.cst (.int 0))) (.var 5)))) (.tup (.cons (.cst (.str "switch")) (.cons (.var 5) .nil))) [5])) (.cons (.set 6 (.lc (.name 7) (.rng2 (.var 3) (.bin .Add (.var 3) (.bi .len (.cons (.ix (.var 0) (.cst (.int 1))) .nil)))) (.so (.cmp .NotEq (.ix (.ix (.var 1) (.cst (.int 1))) (.var 7)) (.ix (.ix (.var 2) (.cst (.int 1))) (.var 7)))) (.tup (.cons (.cst (.str "tank")) (.cons (.var 7) .nil))) [7])) (.cons (.ret (.bi .tuple (.cons (.bin .Add (.var 4) (.var 6)) .nil))) .nil))))
def N_with_item : List Str := ["state", "other", "item", "word", "at", "positions", "held"]
def ir_with_item : Iss := (.cons (.asg (.tup (.cons (.name 3) (.cons (.name 4) .nil))) (.var 2)) (.cons (.asg (.tup (.cons (.name 5) (.cons (.name 6) .nil))) (.var 0)) (.cons (.ife (.cmp .Eq (.var 3) (.cst (.str "switch"))) (.cons (.ret (.tup (.cons (.bin .Add (.bin .Add (.sl (.var 5) .no (.so (.var 4))) (.tup (.cons (.ix (.ix (.var 1) (.cst (.int 0))) (.var 4)) .nil))) (.sl (.var 5) (.so (.bin .Add (.var 4) (.cst (.int 1)))) .no)) (.cons (.var 6) .nil)))) .nil) .nil) (.cons (.ret (.tup (.cons (.var 5) (.cons (.bin .Add (.bin .Add (.sl (.var 6) .no (.so (.var 4))) (.tup (.cons (.ix (.ix (.var 1) (.cst (.int 1))) (.var 4)) .nil))) (.sl (.var 6) (.so (.bin .Add (.var 4) (.cst (.int 1)))) .no)) .nil)))) .nil))))
def N_can_raise : List Str := ["net", "state"]
def ir_can_raise : Iss := (.cons (.ife (.notv (.call "is_state" (.cons (.var 0) (.cons (.var 1) .nil)))) (.cons (.rse "NotUsable" (.cons (.cst (.str "state")) (.cons (.neg (.cst (.int 1))) .nil))) .nil) .nil) (.cons (.ret (.call "items_unlike" (.cons (.var 0) (.cons (.var 1) (.cons (.call "_all_joined" (.cons (.var 0) (.cons (.var 1) .nil))) .nil))))) .nil))
def N_raised : List Str := ["net", "state", "item", "other"]
def ir_raised : Iss := (.cons (.ife (.notv (.call "is_state" (.cons (.var 0) (.cons (.var 1) .nil)))) (.cons (.rse "NotUsable" (.cons (.cst (.str "state")) (.cons (.neg (.cst (.int 1))) .nil))) .nil) .nil) (.cons (.set 3 (.call "_all_joined" (.cons (.var 0) (.cons (.var 1) .nil)))) (.cons (.ife (.notv (.call "item_among" (.cons (.var 2) (.cons (.call "items_unlike" (.cons (.var 0) (.cons (.var 1) (.cons (.var 3) .nil)))) .nil)))) (.cons (.rse "NotUsable" (.cons (.cst (.str "item")) (.cons (.neg (.cst (.int 1))) .nil))) .nil) .nil) (.cons (.ret (.call "with_item" (.cons (.var 1) (.cons (.var 3) (.cons (.var 2) .nil))))) .nil))))
def N__all_joined : List Str := ["net", "state", "positions", "held", "told"]
def ir__all_joined : Iss := (.cons (.asg (.tup (.cons (.name 2) (.cons (.name 3) .nil))) (.var 1)) (.cons (.set 4 (.call "response" (.cons (.var 0) (.cons (.var 2) (.cons (.var 3) .nil))))) (.cons (.ret (.tup (.cons (.call "joined_all" (.cons (.var 2) (.cons (.call "readings" (.cons (.var 0) (.cons (.var 3) .nil))) .nil))) (.cons (.call "joined_all" (.cons (.var 3) (.cons (.var 4) .nil))) .nil)))) .nil)))
def N_can_fall : List Str := ["net", "state"]
def ir_can_fall : Iss := (.cons (.ife (.notv (.call "is_state" (.cons (.var 0) (.cons (.var 1) .nil)))) (.cons (.rse "NotUsable" (.cons (.cst (.str "state")) (.cons (.neg (.cst (.int 1))) .nil))) .nil) .nil) (.cons (.ret (.call "items_unlike" (.cons (.var 0) (.cons (.var 1) (.cons (.call "_all_told" (.cons (.var 0) (.cons (.var 1) .nil))) .nil))))) .nil))
def N_fallen : List Str := ["net", "state", "item", "other"]
def ir_fallen : Iss := (.cons (.ife (.notv (.call "is_state" (.cons (.var 0) (.cons (.var 1) .nil)))) (.cons (.rse "NotUsable" (.cons (.cst (.str "state")) (.cons (.neg (.cst (.int 1))) .nil))) .nil) .nil) (.cons (.set 3 (.call "_all_told" (.cons (.var 0) (.cons (.var 1) .nil)))) (.cons (.ife (.notv (.call "item_among" (.cons (.var 2) (.cons (.call "items_unlike" (.cons (.var 0) (.cons (.var 1) (.cons (.var 3) .nil)))) .nil)))) (.cons (.rse "NotUsable" (.cons (.cst (.str "item")) (.cons (.neg (.cst (.int 1))) .nil))) .nil) .nil) (.cons (.ret (.call "with_item" (.cons (.var 1) (.cons (.var 3) (.cons (.var 2) .nil))))) .nil))))
def N__all_told : List Str := ["net", "state", "positions", "held"]
def ir__all_told : Iss := (.cons (.asg (.tup (.cons (.name 2) (.cons (.name 3) .nil))) (.var 1)) (.cons (.ret (.tup (.cons (.call "readings" (.cons (.var 0) (.cons (.var 3) .nil))) (.cons (.call "response" (.cons (.var 0) (.cons (.var 2) (.cons (.var 3) .nil)))) .nil)))) .nil))
end Pg
end TextPg4

section TextK02a
set_option autoImplicit false
set_option maxRecDepth 100000
set_option maxHeartbeats 8000000
namespace K02
open PySem PySem.Spec PyProof.Rows L2 Px
def top (i : Nat) : Stmt := PySem.Challenge.pw_everyohm_k02_whole_joined_fillings.main.body.getD i (.Pass ⟨0, 0, 0, 0⟩)
abbrev st_is_integer : Stmt := top 5
def cc_is_integer : CC := { N := ["thing"], sc := defScope st_is_integer, blk := none, cts := [], fns := [], exs := [], hot := false, exv := none, rss := [], hfns := [], hds := [], flds := [], kwp := [] }
abbrev st_is_value : Stmt := top 6
def cc_is_value : CC := { N := ["thing"], sc := defScope st_is_value, blk := none, cts := [], fns := [("is_integer", 1)], exs := [], hot := false, exv := none, rss := [], hfns := [], hds := [], flds := [], kwp := [] }
abbrev st_is_known : Stmt := top 7
def cc_is_known : CC := { N := ["thing"], sc := defScope st_is_known, blk := none, cts := [], fns := [("is_integer", 1)], exs := [], hot := false, exv := none, rss := [], hfns := [], hds := [], flds := [], kwp := [] }
abbrev st_node_ranks : Stmt := top 11
def cc_node_ranks : CC := { N := ["net", "_", "size"], sc := defScope st_node_ranks, blk := none, cts := ["FEED_RANK"], fns := [], exs := [], hot := false, exv := none, rss := [], hfns := [], hds := [], flds := [], kwp := [] }
abbrev st_ways_out : Stmt := top 13
def cc_ways_out : CC := { N := ["net", "usable", "feeds", "ways", "_", "switch", "strength", "left", "right", "rank"], sc := defScope st_ways_out, blk := none, cts := ["RANK_BELOW_STRENGTHS"], fns := [], exs := [], hot := false, exv := none, rss := [], hfns := [], hds := [], flds := [], kwp := [] }
abbrev st_flooded : Stmt := top 14
def cc_flooded : CC := { N := ["ways", "starts", "floors", "numbers", "reached_by", "waiting", "_", "node", "start", "level", "queue", "at", "switch", "rank", "tank", "over"], sc := defScope st_flooded, blk := none, cts := ["FEED_RANK"], fns := [], exs := [], hot := false, exv := none, rss := [], hfns := [], hds := [], flds := [], kwp := [] }
abbrev st_is_positions : Stmt := top 16
def cc_is_positions : CC := { N := ["net", "thing", "position", "switch"], sc := defScope st_is_positions, blk := none, cts := [], fns := [("is_value", 1)], exs := [], hot := false, exv := none, rss := [], hfns := [], hds := [], flds := [], kwp := [] }
abbrev st__begins_as_held : Stmt := top 17
def cc__begins_as_held : CC := { N := ["thing", "many", "part"], sc := defScope st__begins_as_held, blk := none, cts := [], fns := [("is_value", 1)], exs := [], hot := false, exv := none, rss := [], hfns := [], hds := [], flds := [], kwp := [] }
abbrev st_is_held : Stmt := top 18
def cc_is_held : CC := { N := ["net", "thing"], sc := defScope st_is_held, blk := none, cts := [], fns := [("_begins_as_held", 2)], exs := [], hot := false, exv := none, rss := [], hfns := [], hds := [], flds := [], kwp := [] }
abbrev st_firm_ranks : Stmt := top 20
def cc_firm_ranks : CC := { N := ["net", "positions", "closed", "switch", "position", "ranks"], sc := defScope st_firm_ranks, blk := none, cts := [], fns := [("node_ranks", 1), ("flooded", 3), ("ways_out", 2)], exs := [], hot := false, exv := none, rss := [], hfns := [], hds := [], flds := [], kwp := [] }
abbrev st_likely_ways : Stmt := top 21
def cc_likely_ways : CC := { N := ["net", "positions", "switch", "position"], sc := defScope st_likely_ways, blk := none, cts := [], fns := [("ways_out", 2)], exs := [], hot := false, exv := none, rss := [], hfns := [], hds := [], flds := [], kwp := [] }
abbrev st_root_ranks : Stmt := top 22
def cc_root_ranks : CC := { N := ["net", "held", "value", "rank", "told"], sc := defScope st_root_ranks, blk := none, cts := [], fns := [("node_ranks", 1)], exs := [], hot := false, exv := none, rss := [], hfns := [], hds := [], flds := [], kwp := [] }
abbrev st_may : Stmt := top 23
def cc_may : CC := { N := ["net", "positions", "held", "value", "ways"], sc := defScope st_may, blk := none, cts := [], fns := [("is_positions", 2), ("is_held", 2), ("is_known", 1), ("likely_ways", 2), ("flooded", 3), ("root_ranks", 3), ("firm_ranks", 2)], exs := [], hot := false, exv := none, rss := [("NotUsable", 2)], hfns := [], hds := [], flds := [], kwp := [] }
abbrev st_response : Stmt := top 25
def cc_response : CC := { N := ["net", "positions", "held", "floors", "ways", "lows", "_", "highs", "told", "tank"], sc := defScope st_response, blk := none, cts := [], fns := [("is_positions", 2), ("is_held", 2), ("firm_ranks", 2), ("likely_ways", 2), ("flooded", 3), ("root_ranks", 3)], exs := [], hot := false, exv := none, rss := [("NotUsable", 2)], hfns := [], hds := [], flds := [], kwp := [] }
abbrev st__law_tape : Stmt := top 27
def cc__law_tape : CC := { N := ["_law_script", "_law_state", "_law_cells", "_law_cell"], sc := defScope st__law_tape, blk := none, cts := [], fns := [], exs := [], hot := false, exv := none, rss := [], hfns := [], hds := [], flds := [], kwp := [] }
abbrev st__law_pick : Stmt := top 28
def cc__law_pick : CC := { N := ["_law_tape_here", "_law_many", "_law_found"], sc := defScope st__law_pick, blk := none, cts := [], fns := [], exs := [], hot := false, exv := none, rss := [], hfns := [], hds := [], flds := [], kwp := [] }
abbrev st__law_switch : Stmt := top 29
def cc__law_switch : CC := { N := ["_law_tape_here", "_law_nodes", "_law_strength", "_law_left", "_law_right", "_law_kind"], sc := defScope st__law_switch, blk := none, cts := [], fns := [("_law_pick", 2)], exs := [], hot := false, exv := none, rss := [], hfns := [], hds := [], flds := [], kwp := [] }
abbrev st__law_net : Stmt := top 30
def cc__law_net : CC := { N := ["_law_tape_here", "_law_feeds", "_law_tanks", "_law_nodes", "_law_sizes", "_law_span", "_law_first", "_law_switches", "_law_place", "_law_left", "_law_turn", "_law_right", "_law_names", "_law_marks", "_law_rows", "_law_k"], sc := defScope st__law_net, blk := none, cts := [], fns := [("_law_pick", 2), ("_law_switch", 5)], exs := [], hot := false, exv := none, rss := [], hfns := [], hds := [], flds := [], kwp := [] }
abbrev st__law_question : Stmt := top 31
def cc__law_question : CC := { N := ["_law_tape_here", "_law_net_here", "_law_nodes", "_law_positions", "_law_held", "_law_left", "_law_place", "_law_value", "_law_tie"], sc := defScope st__law_question, blk := none, cts := [], fns := [("_law_pick", 2)], exs := [], hot := false, exv := none, rss := [], hfns := [], hds := [], flds := [], kwp := [] }
abbrev st__law_settled : Stmt := top 32
def cc__law_settled : CC := { N := ["_law_net_here", "_law_positions", "_law_held", "_law_feeds", "_law_nodes", "_law_heap", "_law_node", "_law_told_here", "_law_less", "_law_now", "_law_k", "_law_row", "_law_old", "_law_new", "_law_mark", "_law_found", "_law_one", "_law_other", "_law_mates", "_law_most", "_law_kept"], sc := defScope st__law_settled, blk := none, cts := [], fns := [], exs := [], hot := false, exv := none, rss := [], hfns := [], hds := [], flds := [], kwp := [] }
abbrev st__law_fillings : Stmt := top 33
def cc__law_fillings : CC := { N := ["_law_positions", "_law_held", "_law_rows", "_law_k", "_law_low", "_law_row"], sc := defScope st__law_fillings, blk := none, cts := [], fns := [], exs := [], hot := false, exv := none, rss := [], hfns := [], hds := [], flds := [], kwp := [] }
abbrev st__law_told : Stmt := top 34
def cc__law_told : CC := { N := ["_law_net_here", "_law_positions", "_law_held", "_law_told_here", "_law_one", "_law_other", "_law_now", "_law_k"], sc := defScope st__law_told, blk := none, cts := [], fns := [("_law_fillings", 2), ("_law_settled", 3)], exs := [], hot := false, exv := none, rss := [], hfns := [], hds := [], flds := [], kwp := [] }
abbrev st__law_is_number : Stmt := top 35
def cc__law_is_number : CC := { N := ["_law_found"], sc := defScope st__law_is_number, blk := none, cts := [], fns := [], exs := [], hot := false, exv := none, rss := [], hfns := [], hds := [], flds := [], kwp := [] }
abbrev st__law_same_values : Stmt := top 36
def cc__law_same_values : CC := { N := ["_law_found", "_law_due", "_law_k"], sc := defScope st__law_same_values, blk := none, cts := [], fns := [("_law_is_number", 1)], exs := [], hot := false, exv := none, rss := [], hfns := [], hds := [], flds := [], kwp := [] }
abbrev st_law : Stmt := top 37
def cc_law : CC := { N := ["_law_script", "_law_tape_here", "_law_net_here", "_law_positions", "_law_held", "_law_told_here", "_law_one", "_law_other", "_law_due", "_law_value", "_law_ranks", "_law_node"], sc := defScope st_law, blk := none, cts := [], fns := [("_law_tape", 1), ("_law_net", 1), ("_law_question", 2), ("_law_told", 3), ("_law_same_values", 2), ("response", 3), ("_law_fillings", 2), ("_law_settled", 3), ("may", 4), ("_law_is_number", 1)], exs := [], hot := false, exv := none, rss := [], hfns := [], hds := [], flds := [], kwp := [] }
abbrev ir_is_integer : Iss := Pg.ir_is_integer
theorem cs_is_integer : cSs cc_is_integer 200 (defBody st_is_integer) = some ir_is_integer := by kernel_rfl
abbrev ir_is_value : Iss := Pg.ir_is_value
theorem cs_is_value : cSs cc_is_value 200 (defBody st_is_value) = some ir_is_value := by kernel_rfl
abbrev ir_is_known : Iss := Pg.ir_is_known
theorem cs_is_known : cSs cc_is_known 200 (defBody st_is_known) = some ir_is_known := by kernel_rfl
abbrev ir_node_ranks : Iss := Pg.ir_node_ranks
theorem cs_node_ranks : cSs cc_node_ranks 200 (defBody st_node_ranks) = some ir_node_ranks := by kernel_rfl
abbrev ir_ways_out : Iss := Pg.ir_ways_out
theorem cs_ways_out : cSs cc_ways_out 200 (defBody st_ways_out) = some ir_ways_out := by kernel_rfl
abbrev ir_flooded : Iss := Pg.ir_flooded
theorem cs_flooded : cSs cc_flooded 200 (defBody st_flooded) = some ir_flooded := by kernel_rfl
abbrev ir_is_positions : Iss := Pg.ir_is_positions
theorem cs_is_positions : cSs cc_is_positions 200 (defBody st_is_positions) = some ir_is_positions := by kernel_rfl
abbrev ir__begins_as_held : Iss := Pg.ir__begins_as_held
theorem cs__begins_as_held : cSs cc__begins_as_held 200 (defBody st__begins_as_held) = some ir__begins_as_held := by kernel_rfl
abbrev ir_is_held : Iss := Pg.ir_is_held
theorem cs_is_held : cSs cc_is_held 200 (defBody st_is_held) = some ir_is_held := by kernel_rfl
abbrev ir_firm_ranks : Iss := Pg.ir_firm_ranks
theorem cs_firm_ranks : cSs cc_firm_ranks 200 (defBody st_firm_ranks) = some ir_firm_ranks := by kernel_rfl
abbrev ir_likely_ways : Iss := Pg.ir_likely_ways
theorem cs_likely_ways : cSs cc_likely_ways 200 (defBody st_likely_ways) = some ir_likely_ways := by kernel_rfl
abbrev ir_root_ranks : Iss := Pg.ir_root_ranks
theorem cs_root_ranks : cSs cc_root_ranks 200 (defBody st_root_ranks) = some ir_root_ranks := by kernel_rfl
abbrev ir_may : Iss := Pg.ir_may
theorem cs_may : cSs cc_may 200 (defBody st_may) = some ir_may := by kernel_rfl
abbrev ir_response : Iss := Pg.ir_response
theorem cs_response : cSs cc_response 200 (defBody st_response) = some ir_response := by kernel_rfl
def ir__law_tape : Iss := (.cons (.set 1 (.cst (.int 0))) (.cons (.set 2 (.lst .nil)) (.cons (.fr (.name 3) (.seq (.var 0)) (.cons (.set 1 (.bin .Mod (.bi .int (.cons (.bin .Add (.bin .Mult (.var 1) (.cst (.int 50021))) (.var 3)) .nil)) (.cst (.int 2147483587)))) (.cons (.ife (.cmp .Gt (.bi .abs (.cons (.var 3) .nil)) (.bin .Pow (.cst (.int 10)) (.cst (.int 18)))) (.cons (.ex (.mt .append (.var 2) (.cons (.bi .abs (.cons (.var 3) .nil)) .nil))) .nil) .nil) .nil))) (.cons (.ret (.dic (.cons (.cst (.str "state")) (.cons (.cst (.str "cells")) (.cons (.cst (.str "at")) (.cons (.cst (.str "rest")) .nil)))) (.cons (.var 1) (.cons (.var 2) (.cons (.cst (.int 0)) (.cons (.cst (.int 0)) .nil)))))) .nil))))
theorem cs__law_tape : cSs cc__law_tape 200 (defBody st__law_tape) = some ir__law_tape := by kernel_rfl
def ir__law_pick : Iss := (.cons (.ife (.andv (.cmp .Eq (.ix (.var 0) (.cst (.str "rest"))) (.cst (.int 0))) (.cmp .Lt (.ix (.var 0) (.cst (.str "at"))) (.bi .len (.cons (.ix (.var 0) (.cst (.str "cells"))) .nil)))) (.cons (.asgS (.var 0) (.cst (.str "rest")) (.ix (.ix (.var 0) (.cst (.str "cells"))) (.ix (.var 0) (.cst (.str "at"))))) (.cons (.asgS (.var 0) (.cst (.str "at")) (.bin .Add (.ix (.var 0) (.cst (.str "at"))) (.cst (.int 1)))) .nil)) .nil) (.cons (.ife (.cmp .Gt (.ix (.var 0) (.cst (.str "rest"))) (.cst (.int 0))) (.cons (.set 2 (.bin .Mod (.bi .int (.cons (.ix (.var 0) (.cst (.str "rest"))) .nil)) (.var 1))) (.cons (.asgS (.var 0) (.cst (.str "rest")) (.bin .FloorDiv (.ix (.var 0) (.cst (.str "rest"))) (.var 1))) (.cons (.ret (.var 2)) .nil))) .nil) (.cons (.asgS (.var 0) (.cst (.str "state")) (.bin .Mod (.bi .int (.cons (.bin .Mult (.ix (.var 0) (.cst (.str "state"))) (.cst (.int 39373))) .nil)) (.cst (.int 2147483587)))) (.cons (.ret (.bin .Mod (.bi .int (.cons (.bin .FloorDiv (.bin .Mod (.bi .int (.cons (.bin .Mult (.ix (.var 0) (.cst (.str "state"))) (.cst (.int 16807))) .nil)) (.cst (.int 2147483587))) (.cst (.int 64))) .nil)) (.var 1))) .nil))))
theorem cs__law_pick : cSs cc__law_pick 200 (defBody st__law_pick) = some ir__law_pick := by kernel_rfl
def ir__law_switch : Iss := (.cons (.set 5 (.ix (.lst (.cons (.cst (.str "tie")) (.cons (.cst (.str "one")) (.cons (.cst (.str "zero")) .nil)))) (.call "_law_pick" (.cons (.var 0) (.cons (.cst (.int 3)) .nil))))) (.cons (.ret (.tup (.cons (.var 5) (.cons (.var 2) (.cons (.ite (.cmp .Eq (.var 5) (.cst (.str "tie"))) (.bin .Sub (.cst (.int 0)) (.cst (.int 1))) (.call "_law_pick" (.cons (.var 0) (.cons (.var 1) .nil)))) (.cons (.var 3) (.cons (.var 4) .nil))))))) .nil))
theorem cs__law_switch : cSs cc__law_switch 200 (defBody st__law_switch) = some ir__law_switch := by kernel_rfl
def ir__law_net : Iss := (.cons (.set 1 (.bin .Add (.cst (.int 2)) (.call "_law_pick" (.cons (.var 0) (.cons (.cst (.int 3)) .nil))))) (.cons (.set 2 (.bin .Add (.cst (.int 1)) (.call "_law_pick" (.cons (.var 0) (.cons (.cst (.int 6)) .nil))))) (.cons (.set 3 (.bin .Add (.var 1) (.var 2))) (.cons (.set 4 (.bin .Add (.cst (.int 1)) (.call "_law_pick" (.cons (.var 0) (.cons (.cst (.int 4)) .nil))))) (.cons (.set 5 (.bin .Add (.cst (.int 1)) (.call "_law_pick" (.cons (.var 0) (.cons (.cst (.int 3)) .nil))))) (.cons (.set 6 (.bin .Add (.cst (.int 1)) (.call "_law_pick" (.cons (.var 0) (.cons (.cst (.int 4)) .nil))))) (.cons (.set 7 (.lst .nil)) (.cons (.ife (.cmp .Eq (.call "_law_pick" (.cons (.var 0) (.cons (.cst (.int 3)) .nil))) (.cst (.int 0))) (.cons (.fr (.name 8) (.rng1 (.var 2)) (.cons (.set 9 (.ite (.cmp .Eq (.var 8) (.cst (.int 0))) (.cst (.int 1)) (.bin .Sub (.bin .Add (.var 1) (.var 8)) (.cst (.int 1))))) (.cons (.ex (.mt .append (.var 7) (.cons (.call "_law_switch" (.cons (.var 0) (.cons (.var 3) (.cons (.bin .Add (.var 6) (.call "_law_pick" (.cons (.var 0) (.cons (.var 5) .nil)))) (.cons (.var 9) (.cons (.bin .Add (.var 1) (.var 8)) .nil)))))) .nil))) .nil))) .nil) .nil) (.cons (.fr (.name 10) (.rng1 (.call "_law_pick" (.cons (.var 0) (.cons (.bin .Sub (.cst (.int 10)) (.bi .len (.cons (.var 7) .nil))) .nil)))) (.cons (.set 9 (.call "_law_pick" (.cons (.var 0) (.cons (.var 3) .nil)))) (.cons (.set 11 (.bin .Mod (.bi .int (.cons (.bin .Add (.bin .Add (.var 9) (.cst (.int 1))) (.call "_law_pick" (.cons (.var 0) (.cons (.bin .Sub (.var 3) (.cst (.int 1))) .nil)))) .nil)) (.var 3))) (.cons (.ex (.mt .append (.var 7) (.cons (.call "_law_switch" (.cons (.var 0) (.cons (.var 3) (.cons (.bin .Add (.var 6) (.call "_law_pick" (.cons (.var 0) (.cons (.var 5) .nil)))) (.cons (.var 9) (.cons (.var 11) .nil)))))) .nil))) .nil)))) (.cons (.set 12 (.sl (.lst (.cons (.cst (.str "low")) (.cons (.cst (.str "high")) (.cons (.cst (.str "d")) (.cons (.cst (.str "g[1]")) .nil))))) .no (.so (.var 1)))) (.cons (.set 13 (.lst (.cons (.cst (.str "m")) (.cons (.cst (.str "n")) (.cons (.cst (.str "o.p")) (.cons (.cst (.str "q_2")) (.cons (.cst (.str "r[0][3]")) (.cons (.cst (.str "s")) .nil)))))))) (.cons (.set 14 (.lc (.name 15) (.rng1 (.var 2)) .no (.tup (.cons (.ix (.var 13) (.var 15)) (.cons (.bin .Add (.cst (.int 1)) (.call "_law_pick" (.cons (.var 0) (.cons (.var 4) .nil)))) .nil))) [15])) (.cons (.ret (.tup (.cons (.bi .tuple (.cons (.var 12) .nil)) (.cons (.bi .tuple (.cons (.var 14) .nil)) (.cons (.bi .tuple (.cons (.var 7) .nil)) .nil))))) .nil)))))))))))))
theorem cs__law_net : cSs cc__law_net 200 (defBody st__law_net) = some ir__law_net := by kernel_rfl
def ir__law_question : Iss := (.cons (.set 2 (.bin .Add (.bi .len (.cons (.ix (.var 1) (.cst (.int 0))) .nil)) (.bi .len (.cons (.ix (.var 1) (.cst (.int 1))) .nil)))) (.cons (.set 3 (.lst .nil)) (.cons (.set 4 (.lst (.cons (.cst (.int 0)) (.cons (.cst (.int 1)) .nil)))) (.cons (.set 5 (.call "_law_pick" (.cons (.var 0) (.cons (.cst (.int 7)) .nil)))) (.cons (.fr (.name 6) (.rng1 (.bin .Sub (.bin .Add (.bi .len (.cons (.ix (.var 1) (.cst (.int 2))) .nil)) (.var 2)) (.cst (.int 2)))) (.cons (.set 7 (.call "_law_pick" (.cons (.var 0) (.cons (.cst (.int 3)) .nil)))) (.cons (.set 8 (.andv (.cmp .Lt (.var 6) (.bi .len (.cons (.ix (.var 1) (.cst (.int 2))) .nil))) (.cmp .Eq (.ix (.ix (.ix (.var 1) (.cst (.int 2))) (.var 6)) (.cst (.int 0))) (.cst (.str "tie"))))) (.cons (.ife (.var 8) (.cons (.set 7 (.cst (.int 1))) .nil) .nil) (.cons (.ife (.cmp .Eq (.var 7) (.cst (.int 2))) (.cons (.set 5 (.bin .Sub (.var 5) (.cst (.int 1)))) (.cons (.ife (.cmp .Lt (.var 5) (.cst (.int 0))) (.cons (.set 7 (.call "_law_pick" (.cons (.var 0) (.cons (.cst (.int 2)) .nil)))) .nil) .nil) .nil)) .nil) (.cons (.ife (.cmp .Lt (.var 6) (.bi .len (.cons (.ix (.var 1) (.cst (.int 2))) .nil))) (.cons (.ex (.mt .append (.var 3) (.cons (.var 7) .nil))) .nil) (.cons (.ex (.mt .append (.var 4) (.cons (.var 7) .nil))) .nil)) .nil)))))) (.cons (.ret (.tup (.cons (.bi .tuple (.cons (.var 3) .nil)) (.cons (.bi .tuple (.cons (.var 4) .nil)) .nil)))) .nil))))))
theorem cs__law_question : cSs cc__law_question 200 (defBody st__law_question) = some ir__law_question := by kernel_rfl
def ir__law_settled : Iss := (.cons (.set 3 (.bi .len (.cons (.ix (.var 0) (.cst (.int 0))) .nil))) (.cons (.set 4 (.bi .len (.cons (.var 2) .nil))) (.cons (.set 5 (.lc (.name 6) (.rng1 (.var 4)) .no (.var 6) [6])) (.cons (.set 7 (.lc (.name 6) (.rng1 (.var 4)) .no (.ite (.cmp .Lt (.var 6) (.var 3)) (.ix (.var 2) (.var 6)) (.cst .non)) [6])) (.cons (.fr (.name 8) (.rng1 (.cst (.int 6))) (.cons (.set 9 (.lst .nil)) (.cons (.fr (.name 10) (.rng1 (.bi .len (.cons (.ix (.var 0) (.cst (.int 2))) .nil))) (.cons (.ife (.andv (.cmp .Eq (.ix (.var 1) (.var 10)) (.cst (.int 1))) (.cmp .Eq (.ix (.ix (.ix (.var 0) (.cst (.int 2))) (.var 10)) (.cst (.int 1))) (.bin .Sub (.cst (.int 6)) (.var 8)))) (.cons (.ex (.mt .append (.var 9) (.cons (.ix (.ix (.var 0) (.cst (.int 2))) (.var 10)) .nil))) .nil) .nil) .nil)) (.cons (.fr (.name 11) (.seq (.var 9)) (.cons (.ife (.andv (.cmp .Is (.ix (.var 7) (.ix (.var 11) (.cst (.int 3)))) (.cst .non)) (.cmp .Is (.ix (.var 7) (.ix (.var 11) (.cst (.int 4)))) (.cst .non))) (.cons (.asg (.tup (.cons (.name 12) (.cons (.name 13) .nil))) (.tup (.cons (.ix (.var 5) (.ix (.var 11) (.cst (.int 4)))) (.cons (.ix (.var 5) (.ix (.var 11) (.cst (.int 3)))) .nil)))) (.cons (.set 5 (.lc (.name 14) (.seq (.var 5)) .no (.ite (.cmp .Eq (.var 14) (.var 12)) (.var 13) (.var 14)) [14])) .nil)) .nil) .nil)) (.cons (.set 15 (.dic .nil .nil)) (.cons (.fr (.name 11) (.seq (.var 9)) (.cons (.fr (.tup (.cons (.name 16) (.cons (.name 17) .nil))) (.seq (.lst (.cons (.tup (.cons (.ix (.var 11) (.cst (.int 3))) (.cons (.ix (.var 11) (.cst (.int 4))) .nil))) (.cons (.tup (.cons (.ix (.var 11) (.cst (.int 4))) (.cons (.ix (.var 11) (.cst (.int 3))) .nil))) .nil)))) (.cons (.ife (.andv (.cmp .IsNot (.ix (.var 7) (.var 16)) (.cst .non)) (.cmp .Is (.ix (.var 7) (.var 17)) (.cst .non))) (.cons (.set 14 (.ix (.var 5) (.var 17))) (.cons (.ife (.cmp .NotIn (.var 14) (.var 15)) (.cons (.asgS (.var 15) (.var 14) (.ix (.var 7) (.var 16))) .nil) (.cons (.ife (.cmp .NotEq (.ix (.var 15) (.var 14)) (.ix (.var 7) (.var 16))) (.cons (.asgS (.var 15) (.var 14) (.cst (.int 2))) .nil) .nil) .nil)) .nil)) .nil) .nil)) .nil)) (.cons (.fr (.name 6) (.rng1 (.var 4)) (.cons (.ife (.andv (.cmp .Is (.ix (.var 7) (.var 6)) (.cst .non)) (.cmp .In (.ix (.var 5) (.var 6)) (.var 15))) (.cons (.asgS (.var 7) (.var 6) (.ix (.var 15) (.ix (.var 5) (.var 6)))) .nil) .nil) .nil)) .nil))))))) (.cons (.fr (.name 6) (.rng2 (.var 3) (.var 4)) (.cons (.ife (.cmp .Is (.ix (.var 7) (.var 6)) (.cst .non)) (.cons (.set 18 (.lc (.name 10) (.rng2 (.var 3) (.var 4)) (.so (.cmp .Eq (.ix (.var 5) (.var 10)) (.ix (.var 5) (.var 6)))) (.var 10) [10])) (.cons (.set 19 (.bi .max (.cons (.lc (.name 10) (.seq (.var 18)) .no (.ix (.ix (.ix (.var 0) (.cst (.int 1))) (.bin .Sub (.var 10) (.var 3))) (.cst (.int 1))) [10]) .nil))) (.cons (.set 20 (.lc (.name 10) (.seq (.var 18)) (.so (.cmp .Eq (.ix (.ix (.ix (.var 0) (.cst (.int 1))) (.bin .Sub (.var 10) (.var 3))) (.cst (.int 1))) (.var 19))) (.ix (.var 2) (.var 10)) [10])) (.cons (.asgS (.var 7) (.var 6) (.ite (.cmp .Eq (.bi .min (.cons (.var 20) .nil)) (.bi .max (.cons (.var 20) .nil))) (.ix (.var 20) (.cst (.int 0))) (.cst (.int 2)))) .nil)))) .nil) .nil)) (.cons (.ret (.var 7)) .nil)))))))
theorem cs__law_settled : cSs cc__law_settled 200 (defBody st__law_settled) = some ir__law_settled := by kernel_rfl
def ir__law_fillings : Iss := (.cons (.set 2 (.lst (.cons (.bin .Add (.bi .list (.cons (.var 0) .nil)) (.bi .list (.cons (.var 1) .nil))) .nil))) (.cons (.fr (.name 3) (.rng1 (.bi .len (.cons (.ix (.var 2) (.cst (.int 0))) .nil))) (.cons (.ife (.cmp .Eq (.ix (.ix (.var 2) (.cst (.int 0))) (.var 3)) (.cst (.int 2))) (.cons (.set 4 (.lc (.name 5) (.seq (.var 2)) .no (.bin .Add (.bin .Add (.sl (.var 5) .no (.so (.var 3))) (.lst (.cons (.cst (.int 0)) .nil))) (.sl (.var 5) (.so (.bin .Add (.var 3) (.cst (.int 1)))) .no)) [5])) (.cons (.set 2 (.bin .Add (.var 4) (.lc (.name 5) (.seq (.var 2)) .no (.bin .Add (.bin .Add (.sl (.var 5) .no (.so (.var 3))) (.lst (.cons (.cst (.int 1)) .nil))) (.sl (.var 5) (.so (.bin .Add (.var 3) (.cst (.int 1)))) .no)) [5]))) .nil)) .nil) .nil)) (.cons (.ret (.lc (.name 5) (.seq (.var 2)) .no (.tup (.cons (.sl (.var 5) .no (.so (.bi .len (.cons (.var 0) .nil)))) (.cons (.sl (.var 5) (.so (.bi .len (.cons (.var 0) .nil))) .no) .nil))) [5])) .nil)))
theorem cs__law_fillings : cSs cc__law_fillings 200 (defBody st__law_fillings) = some ir__law_fillings := by kernel_rfl
def ir__law_told : Iss := (.cons (.set 3 (.cst .non)) (.cons (.fr (.tup (.cons (.name 4) (.cons (.name 5) .nil))) (.seq (.call "_law_fillings" (.cons (.var 1) (.cons (.var 2) .nil)))) (.cons (.set 6 (.call "_law_settled" (.cons (.var 0) (.cons (.var 4) (.cons (.var 5) .nil))))) (.cons (.ife (.cmp .Is (.var 3) (.cst .non)) (.cons (.set 3 (.var 6)) .nil) .nil) (.cons (.set 3 (.lc (.name 7) (.rng1 (.bi .len (.cons (.var 6) .nil))) .no (.ite (.cmp .Eq (.ix (.var 6) (.var 7)) (.ix (.var 3) (.var 7))) (.ix (.var 6) (.var 7)) (.cst (.int 2))) [7])) .nil)))) (.cons (.ret (.var 3)) .nil)))
theorem cs__law_told : cSs cc__law_told 200 (defBody st__law_told) = some ir__law_told := by kernel_rfl
def ir__law_is_number : Iss := (.cons (.ret (.andv (.isi (.var 0) .int) (.notv (.isi (.var 0) .bool)))) .nil)
theorem cs__law_is_number : cSs cc__law_is_number 200 (defBody st__law_is_number) = some ir__law_is_number := by kernel_rfl
def ir__law_same_values : Iss := (.cons (.ife (.orv (.notv (.isi (.var 0) .tuple)) (.cmp .NotEq (.bi .len (.cons (.var 0) .nil)) (.bi .len (.cons (.var 1) .nil)))) (.cons (.ret (.cst (.bl false))) .nil) .nil) (.cons (.fr (.name 2) (.rng1 (.bi .len (.cons (.var 1) .nil))) (.cons (.ife (.orv (.notv (.call "_law_is_number" (.cons (.ix (.var 0) (.var 2)) .nil))) (.cmp .NotEq (.ix (.var 0) (.var 2)) (.ix (.var 1) (.var 2)))) (.cons (.ret (.cst (.bl false))) .nil) .nil) .nil)) (.cons (.ret (.cst (.bl true))) .nil)))
theorem cs__law_same_values : cSs cc__law_same_values 200 (defBody st__law_same_values) = some ir__law_same_values := by kernel_rfl
def ir_law : Iss := (.cons (.set 1 (.call "_law_tape" (.cons (.var 0) .nil))) (.cons (.set 2 (.call "_law_net" (.cons (.var 1) .nil))) (.cons (.asg (.tup (.cons (.name 3) (.cons (.name 4) .nil))) (.call "_law_question" (.cons (.var 1) (.cons (.var 2) .nil)))) (.cons (.set 5 (.call "_law_told" (.cons (.var 2) (.cons (.var 3) (.cons (.var 4) .nil))))) (.cons (.ife (.notv (.call "_law_same_values" (.cons (.call "response" (.cons (.var 2) (.cons (.var 3) (.cons (.var 4) .nil)))) (.cons (.var 5) .nil)))) (.cons (.ret (.cst (.bl false))) .nil) .nil) (.cons (.fr (.tup (.cons (.name 6) (.cons (.name 7) .nil))) (.seq (.call "_law_fillings" (.cons (.var 3) (.cons (.var 4) .nil)))) (.cons (.set 8 (.call "_law_settled" (.cons (.var 2) (.cons (.var 6) (.cons (.var 7) .nil))))) (.cons (.ife (.notv (.call "_law_same_values" (.cons (.call "response" (.cons (.var 2) (.cons (.bi .tuple (.cons (.var 6) .nil)) (.cons (.bi .tuple (.cons (.var 7) .nil)) .nil)))) (.cons (.var 8) .nil)))) (.cons (.ret (.cst (.bl false))) .nil) .nil) .nil))) (.cons (.fr (.name 9) (.rng1 (.cst (.int 2))) (.cons (.set 10 (.call "may" (.cons (.var 2) (.cons (.var 3) (.cons (.var 4) (.cons (.var 9) .nil)))))) (.cons (.ife (.orv (.notv (.isi (.var 10) .tuple)) (.cmp .NotEq (.bi .len (.cons (.var 10) .nil)) (.bi .len (.cons (.var 5) .nil)))) (.cons (.ret (.cst (.bl false))) .nil) .nil) (.cons (.fr (.name 11) (.rng2 (.bi .len (.cons (.ix (.var 2) (.cst (.int 0))) .nil)) (.bi .len (.cons (.var 5) .nil))) (.cons (.ife (.notv (.call "_law_is_number" (.cons (.ix (.var 10) (.var 11)) .nil))) (.cons (.ret (.cst (.bl false))) .nil) .nil) (.cons (.ife (.cmp .NotEq (.cmp .Eq (.ix (.var 10) (.var 11)) (.cst (.int 0))) (.cmp .Eq (.ix (.var 5) (.var 11)) (.bin .Sub (.cst (.int 1)) (.var 9)))) (.cons (.ret (.cst (.bl false))) .nil) .nil) .nil))) .nil)))) (.cons (.ret (.cst (.bl true))) .nil))))))))
theorem cs_law : cSs cc_law 200 (defBody st_law) = some ir_law := by kernel_rfl
end K02
end TextK02a

section TextNt1
set_option autoImplicit false
set_option maxRecDepth 100000
set_option maxHeartbeats 4000000
/-! Nt1: nets; what is a number, a value, a column, positions, held values. -/
namespace Nt
open PySem Px Pg
local macro_rules | `(tactic| walk_at "px") => `(tactic| ((conv => whnf); repeat ((refine And.intro (by first | exact True.intro | exact Px.sz2 | exact Px.sz3 | exact Px.sz1 | exact Px.sz0 | exact Px.sz4 | exact Px.sz5 | exact Px.sz6 | exact Px.sz7 | exact Px.sz8 | exact Px.sz9 | decide) ?_); (conv => whnf))))
structure Sw where
  kind : Str
  st : Nat
  gate : Int
  l : Nat
  r : Nat
structure Net where
  fs : List Str
  ts : List (Str × Nat)
  sw : List Sw
def Sw.d (s : Sw) : D := .tup [.str s.kind, .int (s.st : Int), .int s.gate, .int (s.l : Int), .int (s.r : Int)]
def Net.fD (N : Net) : List D := N.fs.map .str
def Net.tD (N : Net) : List D := N.ts.map fun t => .tup [.str t.1, .int (t.2 : Int)]
def Net.sD (N : Net) : List D := N.sw.map Sw.d
def Net.d (N : Net) : D := .tup [.tup N.fD, .tup N.tD, .tup N.sD]
def Net.nF (N : Net) : Nat := N.fs.length
def Net.nN (N : Net) : Nat := N.fs.length + N.ts.length
structure Net.ok (N : Net) : Prop where
  f2 : 2 ≤ N.fs.length
  fl : N.fs.length ≤ 64
  tl : N.ts.length ≤ 128
  sl : N.sw.length ≤ 512
  sz : ∀ t ∈ N.ts, 1 ≤ t.2 ∧ t.2 ≤ 4
  st : ∀ s ∈ N.sw, 1 ≤ s.st ∧ s.st ≤ 6
  en : ∀ s ∈ N.sw, s.l < N.nN ∧ s.r < N.nN ∧ s.l ≠ s.r
theorem fD_len {N : Net} : N.fD.length = N.fs.length := by simp [Net.fD]
theorem tD_len {N : Net} : N.tD.length = N.ts.length := by simp [Net.tD]
theorem sD_len {N : Net} : N.sD.length = N.sw.length := by simp [Net.sD]
theorem fD_i {N : Net} : (N.fD.length : Int) = N.fs.length := by rw [fD_len]
theorem tD_i {N : Net} : (N.tD.length : Int) = N.ts.length := by rw [tD_len]
theorem sD_i {N : Net} : (N.sD.length : Int) = N.sw.length := by rw [sD_len]
theorem sD_at {N : Net} {i : Nat} (h : i < N.sw.length) : N.sD[i]? = some (N.sw[i].d) := by simp [Net.sD, List.getElem?_eq_getElem h]
theorem tD_at {N : Net} {i : Nat} (h : i < N.ts.length) : N.tD[i]? = some (.tup [.str N.ts[i].1, .int (N.ts[i].2 : Int)]) := by simp [Net.tD, List.getElem?_eq_getElem h]
theorem net_pure (N : Net) : pureD N.d = true := by
  have a : pureDs N.fD = true := pureDs_map fun _ _ => rfl
  have b : pureDs N.tD = true := pureDs_map fun _ _ => rfl
  have c : pureDs N.sD = true := pureDs_map fun _ _ => rfl
  show (pureDs N.fD && (pureDs N.tD && (pureDs N.sD && true))) = true
  rw [a, b, c]; rfl
/-! ### kinds of data -/
def isInt : D → Bool | .int _ => true | _ => false
def isNum : D → Bool | .int i => decide (0 ≤ i) | _ => false
def isVal : D → Bool | .int i => decide (0 ≤ i) && decide (i ≤ 2) | _ => false
def isKnw : D → Bool | .int i => decide (0 ≤ i) && decide (i ≤ 1) | _ => false
def isTup : D → Bool | .tup _ => true | _ => false
def isBlB : D → Bool | .bl _ => true | _ => false
def isStr : D → Bool | .str _ => true | _ => false
def isLst : D → Bool | .ls _ => true | .rol _ => true | _ => false
theorem pure_nonX {d : D} (h : pureD d = true) : nonX d := by cases d <;> first | trivial | cases h
theorem isi_tup {A : Ht} {d : D} (h : pureD d = true) : isiD A d .tuple = some (isTup d) := by cases d <;> first | rfl | cases h
theorem isi_int {A : Ht} {d : D} (h : pureD d = true) : isiD A d .int = some (isInt d || isBlB d) := by cases d <;> first | rfl | cases h
theorem isi_bl {A : Ht} {d : D} (h : pureD d = true) : isiD A d .bool = some (isBlB d) := by cases d <;> first | rfl | cases h
theorem isi_str {A : Ht} {d : D} (h : pureD d = true) : isiD A d .str = some (isStr d) := by cases d <;> first | rfl | cases h
theorem isi_lst {A : Ht} {d : D} (h : pureD d = true) : isiD A d .list = some (isLst d) := by cases d <;> first | rfl | cases h
theorem num_nat {d : D} (h : isNum d = true) : ∃ n : Nat, d = .int (n : Int) := by
  cases d <;> first | cases h; done | skip
  rename_i i
  have h' : (0 : Int) ≤ i := of_decide_eq_true h
  exact ⟨i.toNat, by rw [Int.toNat_of_nonneg h']⟩
theorem val_nat {d : D} (h : isVal d = true) : ∃ n : Nat, d = .int (n : Int) ∧ n ≤ 2 := by
  cases d <;> first | cases h; done | skip
  rename_i i
  have h' : (decide (0 ≤ i) && decide (i ≤ 2)) = true := h
  simp only [Bool.and_eq_true, decide_eq_true_eq] at h'
  exact ⟨i.toNat, by rw [Int.toNat_of_nonneg h'.1], by omega⟩
theorem nums_nat : ∀ {xs : List D}, xs.all isNum = true → ∃ ns : List Nat, xs = nL ns
  | [], _ => ⟨[], rfl⟩
  | d :: r, h => by
    rw [List.all_cons, Bool.and_eq_true] at h
    obtain ⟨n, rfl⟩ := num_nat h.1
    obtain ⟨ns, rfl⟩ := nums_nat h.2
    exact ⟨n :: ns, rfl⟩
theorem vals_nat : ∀ {xs : List D}, xs.all isVal = true → ∃ ns : List Nat, xs = nL ns ∧ ∀ n ∈ ns, n ≤ 2
  | [], _ => ⟨[], rfl, by simp⟩
  | d :: r, h => by
    rw [List.all_cons, Bool.and_eq_true] at h
    obtain ⟨n, rfl, hn⟩ := val_nat h.1
    obtain ⟨ns, rfl, hs⟩ := vals_nat h.2
    exact ⟨n :: ns, rfl, fun m hm => by rcases List.mem_cons.mp hm with rfl | hm; exact hn; exact hs m hm⟩
theorem nL_all_num {ns : List Nat} : (nL ns).all isNum = true := by
  rw [List.all_eq_true]
  intro x hx
  obtain ⟨n, _, rfl⟩ := List.mem_map.mp hx
  show decide ((0 : Int) ≤ (n : Int)) = true
  simp
theorem nL_all_val {ns : List Nat} (h : ∀ n ∈ ns, n ≤ 2) : (nL ns).all isVal = true := by
  rw [List.all_eq_true]
  intro x hx
  obtain ⟨n, hn, rfl⟩ := List.mem_map.mp hx
  have := h n hn
  show (decide ((0 : Int) ≤ (n : Int)) && decide ((n : Int) ≤ 2)) = true
  simp; omega
def isCol (m : Nat) : D → Bool | .tup xs => decide (xs.length = m) && xs.all isNum | _ => false
def isI (i : Int) : D → Bool | .int j => decide (j = i) | _ => false
def isO (i : Int) : Option D → Bool | some d => isI i d | _ => false
def tieOk (d : D) (s : Sw) : Bool := isVal d && !(decide (s.kind = "tie") && !isI 1 d)
def isPos (N : Net) : D → Bool | .tup xs => decide (xs.length = N.sw.length) && (xs.zip N.sw).all fun p => tieOk p.1 p.2 | _ => false
def isHel (m : Nat) : D → Bool
  | .tup xs => decide (xs.length = m) && xs.all isVal && isO 0 xs[0]? && isO 1 xs[1]?
  | _ => false
def con_is_integer : Con := fun ds A E Q => ∃ (d : D), ds = [d] ∧ pureD d = true ∧ Q (.bl (isInt d)) A
def con_is_number : Con := fun ds A E Q => ∃ (d : D), ds = [d] ∧ pureD d = true ∧ Q (.bl (isNum d)) A
def con_is_value : Con := fun ds A E Q => ∃ (d : D), ds = [d] ∧ pureD d = true ∧ Q (.bl (isVal d)) A
def con_is_known : Con := fun ds A E Q => ∃ (d : D), ds = [d] ∧ pureD d = true ∧ Q (.bl (isKnw d)) A
def con_is_column : Con := fun ds A E Q => ∃ (N : Net) (d : D), ds = [N.d, d] ∧ N.ok ∧ pureD d = true ∧ Q (.bl (isCol N.ts.length d)) A
def con_is_positions : Con := fun ds A E Q => ∃ (N : Net) (d : D), ds = [N.d, d] ∧ N.ok ∧ pureD d = true ∧ Q (.bl (isPos N d)) A
def con__begins_as_held : Con := fun ds A E Q => ∃ (d : D) (m : Nat), ds = [d, .int ((m : Nat) : Int)] ∧ 2 ≤ m ∧ m ≤ 65536 ∧ pureD d = true ∧ Q (.bl (isHel m d)) A
def con_is_held : Con := fun ds A E Q => ∃ (N : Net) (d : D), ds = [N.d, d] ∧ N.ok ∧ pureD d = true ∧ Q (.bl (isHel N.nN d)) A
def con_is_feeds : Con := fun ds A E Q => ∃ (N : Net) (d : D), ds = [N.d, d] ∧ N.ok ∧ pureD d = true ∧ Q (.bl (isHel N.fs.length d)) A
def isSta (N : Net) : D → Bool | .tup [p, h] => isPos N p && isHel N.nN h | _ => false
def con_is_state : Con := fun ds A E Q => ∃ (N : Net) (d : D), ds = [N.d, d] ∧ N.ok ∧ pureD d = true ∧ Q (.bl (isSta N d)) A
def hasI (m : Nat) : D → Bool | .int i => decide (0 ≤ i) && decide (i < (m : Int)) | _ => false
theorem hasI_nat {m v : Nat} (h : v < m) : hasI m (.int (v : Int)) = true := by
  show (decide ((0 : Int) ≤ (v : Int)) && decide ((v : Int) < (m : Int))) = true
  simp; omega
theorem num_ok {v : Nat} : isNum (.int (v : Int)) = true := by
  show decide ((0 : Int) ≤ (v : Int)) = true
  simp
def con_has_node : Con := fun ds A E Q => ∃ (N : Net) (d : D), ds = [N.d, d] ∧ pureD d = true ∧ Q (.bl (hasI N.nN d)) A
def con_has_switch : Con := fun ds A E Q => ∃ (N : Net) (d : D), ds = [N.d, d] ∧ pureD d = true ∧ Q (.bl (hasI N.sw.length d)) A
section
variable {G : Env'}
theorem b_is_integer : Pf G N_is_integer ir_is_integer con_is_integer := by
  rintro ds A E Q ⟨d, rfl, k, q⟩
  cases d <;> first | cases k; done | (walk_at "px"; exact .inl q)
theorem b_is_number (g1 : G.con "is_integer" = con_is_integer) : Pf G N_is_number ir_is_number con_is_number := by
  rintro ds A E Q ⟨d, rfl, k, q⟩
  refine varK_of (pure_nonX k) (use g1 ⟨d, rfl, k, ?_⟩)
  cases d <;> first | cases k; done | (walk_at "px"; exact .inl q)
theorem b_is_value (g1 : G.con "is_integer" = con_is_integer) : Pf G N_is_value ir_is_value con_is_value := by
  rintro ds A E Q ⟨d, rfl, k, q⟩
  refine varK_of (pure_nonX k) (use g1 ⟨d, rfl, k, ?_⟩)
  cases d <;> first | cases k; done | skip
  case int i =>
    walk_at "px"
    have q : Q (.bl (decide (0 ≤ i) && decide (i ≤ 2))) A := q
    by_cases e : (0 : Int) ≤ i
    · rw [decide_eq_true e] at q ⊢; exact .inl q
    · rw [decide_eq_false e] at q ⊢; exact .inl q
  all_goals (walk_at "px"; exact .inl q)
theorem b_is_known (g1 : G.con "is_integer" = con_is_integer) : Pf G N_is_known ir_is_known con_is_known := by
  rintro ds A E Q ⟨d, rfl, k, q⟩
  refine varK_of (pure_nonX k) (use g1 ⟨d, rfl, k, ?_⟩)
  cases d <;> first | cases k; done | skip
  case int i =>
    walk_at "px"
    have q : Q (.bl (decide (0 ≤ i) && decide (i ≤ 1))) A := q
    by_cases e : (0 : Int) ≤ i
    · rw [decide_eq_true e] at q ⊢; exact .inl q
    · rw [decide_eq_false e] at q ⊢; exact .inl q
  all_goals (walk_at "px"; exact .inl q)
end
end Nt
end TextNt1

section TextNt2
set_option autoImplicit false
set_option maxRecDepth 100000
set_option maxHeartbeats 4000000
namespace Nt
open PySem Px Pg
local macro_rules | `(tactic| walk_at "px") => `(tactic| ((conv => whnf); repeat ((refine And.intro (by first | exact True.intro | exact Px.sz2 | exact Px.sz3 | exact Px.sz1 | exact Px.sz0 | exact Px.sz4 | exact Px.sz5 | exact Px.sz6 | exact Px.sz7 | exact Px.sz8 | exact Px.sz9 | decide) ?_); (conv => whnf))))
theorem Int.ofNat_inj' {a b : Nat} : (decide ((a : Int) = (b : Int))) = decide (a = b) := by
  by_cases h : a = b
  · subst h; simp
  · rw [decide_eq_false h, decide_eq_false (by omega)]
section
variable {G : Env'}
theorem tup_of {d : D} (h : isTup d = true) : ∃ xs, d = .tup xs := by cases d <;> first | cases h; done | exact ⟨_, rfl⟩
theorem pure_tup {xs : List D} (h : pureD (.tup xs) = true) : ∀ d ∈ xs, pureD d = true := by
  have h : pureDs xs = true := h
  induction xs with
  | nil => intro d hd; cases hd
  | cons x r ih =>
    unfold pureDs at h
    rw [Bool.and_eq_true] at h
    intro d hd
    rcases List.mem_cons.mp hd with rfl | hd
    · exact h.1
    · exact ih h.2 h.2 d hd
theorem map_id_d (l : List D) : l = l.map id := (List.map_id l).symm
theorem allB {l : List D} {f : D → Bool} : blsD (l.map fun d => .bl (f d)) = some (l.map f) := bls_map f l
theorem b_is_column (g1 : G.con "is_number" = con_is_number) : Pf G N_is_column ir_is_column con_is_column := by
  rintro ds A E Q ⟨N, d, rfl, ok, k, q⟩
  cases d <;> first | cases k; done | skip
  case tup xs =>
    have hp := pure_tup k
    refine w_if (!decide (xs.length = N.ts.length)) (fun K hK => ?_) (fun h => ?_) (fun h => ?_)
    · walk_at "px"
      rw [tD_i, Int.ofNat_inj']
      exact hK
    · have e : isCol N.ts.length (.tup xs) = false := by simp [isCol] at h ⊢; intro e; exact absurd e h
      rw [e] at q
      exact .inl q
    · have e : xs.length = N.ts.length := by simpa using h
      refine comp_m xs id (fun d => .bl (isNum d)) (map_id_d xs) True.intro (szN (by have := ok.tl; omega)) (fun x hx K hK => ?_) ?_
      · exact varK_of (pure_nonX (hp x hx)) (use g1 ⟨x, rfl, hp x hx, hK⟩)
      · refine nl_v ?_
        show (match blsD (xs.map fun d => .bl (isNum d)) with | some ns => _ | none => False)
        rw [allB]
        refine .inl ?_
        have e2 : isCol N.ts.length (.tup xs) = (xs.map isNum).all id := by simp [isCol, e]
        rw [← e2]; exact q
  all_goals (walk_at "px"; exact .inl q)
theorem zip_map {α : Type} (xs : List D) (l : List α) (e : α → D) : ((xs.zip (l.map e)).map fun p => D.tup [p.1, p.2]) = (xs.zip l).map fun p => D.tup [p.1, e p.2] := by
  rw [List.zip_map_right, List.map_map]; rfl
theorem zip_map2 {α β : Type} (m : List β) (f : β → D) (l : List α) (e : α → D) : (((m.map f).zip (l.map e)).map fun p => D.tup [p.1, p.2]) = (m.zip l).map fun p => D.tup [f p.1, e p.2] := by
  rw [List.zip_map, List.map_map]; rfl
theorem b_is_positions (g1 : G.con "is_value" = con_is_value) : Pf G N_is_positions ir_is_positions con_is_positions := by
  rintro ds A E Q ⟨N, d, rfl, ok, k, q⟩
  cases d <;> first | cases k; done | skip
  case tup xs =>
    have hp := pure_tup k
    refine w_if (!decide (xs.length = N.sw.length)) (fun K hK => ?_) (fun h => ?_) (fun h => ?_)
    · walk_at "px"
      rw [sD_i, Int.ofNat_inj']
      exact hK
    · have e : isPos N (.tup xs) = false := by simp [isPos] at h ⊢; intro e; exact absurd e h
      rw [e] at q
      exact .inl q
    · have e : xs.length = N.sw.length := by simpa using h
      refine loop_all (xs.zip N.sw) (fun p => D.tup [p.1, p.2.d]) (fun p => tieOk p.1 p.2) (fun ρ A' => A' = A ∧ ∃ u v, ρ = [some N.d, some (.tup xs), u, v]) (zip_map xs N.sw Sw.d) ⟨rfl, none, none, rfl⟩ (fun _ _ _ => ⟨True.intro, True.intro⟩) ?_ ?_
      · rintro ⟨x, s⟩ hx ρ A1 K ⟨rfl, u, v, rfl⟩ bad hk
        have px := hp x (List.of_mem_zip hx).1
        refine w_if (!tieOk x s) (fun K2 hK => ?_) (fun h => ?_) (fun h => ?_)
        · refine varK_of (pure_nonX px) (use g1 ⟨x, rfl, px, ?_⟩)
          cases x <;> first | cases px; done | skip
          case int i =>
            cases hv : isVal (.int i) with
            | false => rw [show tieOk (.int i) s = false by simp [tieOk, hv]] at hK; exact hK
            | true =>
              walk_at "px"
              by_cases hs : s.kind = "tie"
              · rw [decide_eq_true hs]
                walk_at "px"
                have e3 : tieOk (.int i) s = decide (i = 1) := by simp [tieOk, hv, hs, isI]
                rw [e3] at hK; exact hK
              · rw [decide_eq_false hs]
                have e3 : tieOk (.int i) s = true := by simp [tieOk, hv, hs]
                rw [e3] at hK; exact hK
          all_goals exact hK
        · have h' : tieOk x s = false := by simpa using h
          have e : isPos N (.tup xs) = false := by
            have := bad h'
            simp only [isPos, this, Bool.and_false]
          rw [e] at q
          exact .inl q
        · exact hk (by simpa using h) _ _ ⟨rfl, _, _, rfl⟩
      · rintro hall ρ A1 ⟨rfl, u, v, rfl⟩
        have e : isPos N (.tup xs) = true := by simp only [isPos, hall, e, decide_true, Bool.and_self]
        rw [e] at q
        exact .inl q
  all_goals (walk_at "px"; exact .inl q)
theorem atI_0 {xs : List D} {d : D} (h : xs[0]? = some d) : L2.atI xs 0 = some d := L2.atI_nat (j := 0) h
theorem atI_1 {xs : List D} {d : D} (h : xs[1]? = some d) : L2.atI xs 1 = some d := L2.atI_nat (j := 1) h
theorem val_int {d : D} (h : isVal d = true) : ∃ i, d = .int i := by cases d <;> first | cases h; done | exact ⟨_, rfl⟩
theorem b__begins_as_held (g1 : G.con "is_value" = con_is_value) : Pf G N__begins_as_held ir__begins_as_held con__begins_as_held := by
  rintro ds A E Q ⟨d, m, rfl, m2, ml, k, q⟩
  cases d <;> first | cases k; done | skip
  case tup xs =>
    have hp := pure_tup k
    refine w_if (!decide (xs.length = m)) (fun K hK => ?_) (fun h => ?_) (fun h => ?_)
    · walk_at "px"
      rw [Int.ofNat_inj']
      exact hK
    · have e : isHel m (.tup xs) = false := by
        have h' : xs.length ≠ m := by simpa using h
        simp [isHel, h']
      rw [e] at q
      exact .inl q
    · have e : xs.length = m := by simpa using h
      refine w_if (!xs.all isVal) (fun K hK => ?_) (fun h => ?_) (fun h => ?_)
      · refine comp_m xs id (fun d => .bl (isVal d)) (map_id_d xs) True.intro (szN (by omega)) (fun x hx K hK => ?_) ?_
        · exact varK_of (pure_nonX (hp x hx)) (use g1 ⟨x, rfl, hp x hx, hK⟩)
        · refine nl_v ?_
          show (match blsD (xs.map fun d => .bl (isVal d)) with | some ns => _ | none => False)
          rw [allB]
          show K (!(xs.map isVal).all id) A
          rw [all_map]; exact hK
      · have e : isHel m (.tup xs) = false := by
          have h' : xs.all isVal = false := by simpa using h
          simp [isHel, h']
        rw [e] at q
        exact .inl q
      · have hv : xs.all isVal = true := by simpa using h
        match xs, e, hv, hp, q with
        | [], e, _, _, _ => simp at e; omega
        | [_], e, _, _, _ => simp at e; omega
        | x :: y :: r, e, hv, hp, q =>
          simp only [List.all_cons, Bool.and_eq_true] at hv
          obtain ⟨i, rfl⟩ := val_int hv.1
          obtain ⟨j, rfl⟩ := val_int hv.2.1
          have eq : isHel m (.tup (.int i :: .int j :: r)) = (decide (i = 0) && decide (j = 1)) := by
            show (decide _ && (List.all _ isVal) && isI 0 (.int i) && isI 1 (.int j)) = _
            simp only [List.all_cons, hv.1, hv.2.1, hv.2.2, e, isI, Bool.and_self, decide_true, Bool.true_and]
          rw [eq] at q
          walk_at "px"
          rw [atI_0 rfl]
          walk_at "px"
          by_cases h0 : i = 0
          · rw [decide_eq_true h0] at q ⊢
            walk_at "px"
            rw [atI_1 rfl]
            walk_at "px"
            exact .inl q
          · rw [decide_eq_false h0] at q ⊢
            exact .inl q
  all_goals (walk_at "px"; exact .inl q)
theorem b_is_held (g1 : G.con "_begins_as_held" = con__begins_as_held) : Pf G N_is_held ir_is_held con_is_held := by
  rintro ds A E Q ⟨N, d, rfl, ok, k, q⟩
  refine varK_of (pure_nonX k) ?_
  walk_at "px"
  have e : ((N.fD.length : Int) + (N.tD.length : Int)) = ((N.nN : Nat) : Int) := by rw [fD_i, tD_i]; simp [Net.nN]
  rw [e]
  have := ok.f2; have := ok.fl; have := ok.tl
  exact use g1 ⟨d, N.nN, rfl, by unfold Net.nN; omega, by unfold Net.nN; omega, k, .inl q⟩
theorem b_is_feeds (g1 : G.con "_begins_as_held" = con__begins_as_held) : Pf G N_is_feeds ir_is_feeds con_is_feeds := by
  rintro ds A E Q ⟨N, d, rfl, ok, k, q⟩
  refine varK_of (pure_nonX k) ?_
  walk_at "px"
  rw [fD_i]
  have := ok.f2; have := ok.fl; have := ok.tl
  exact use g1 ⟨d, N.fs.length, rfl, by omega, by omega, k, .inl q⟩
theorem b_is_state (g1 : G.con "is_positions" = con_is_positions) (g2 : G.con "is_held" = con_is_held) : Pf G N_is_state ir_is_state con_is_state := by
  rintro ds A E Q ⟨N, d, rfl, ok, k, q⟩
  cases d <;> first | cases k; done | skip
  case tup xs =>
    have hp := pure_tup k
    match xs, hp, q with
    | [x, y], hp, q =>
      walk_at "px"
      refine use g1 ⟨N, x, rfl, ok, hp x (by simp), ?_⟩
      cases h : isPos N x with
      | false =>
        have e : isSta N (.tup [x, y]) = false := by simp [isSta, h]
        rw [e] at q; exact .inl q
      | true =>
        walk_at "px"
        have e : isSta N (.tup [x, y]) = isHel N.nN y := by simp [isSta, h]
        rw [e] at q
        exact use g2 ⟨N, y, rfl, ok, hp y (by simp), .inl q⟩
    | [], hp, q => walk_at "px"; exact .inl q
    | [_], hp, q => walk_at "px"; exact .inl q
    | _ :: _ :: _ :: r, hp, q =>
      refine w_if true (fun K hK => ?_) (fun h => .inl q) (fun h => by cases h)
      walk_at "px"
      rw [decide_eq_false (by simp; omega)]
      exact hK
  all_goals (walk_at "px"; exact .inl q)
theorem b_has_node (g1 : G.con "is_number" = con_is_number) : Pf G N_has_node ir_has_node con_has_node := by
  rintro ds A E Q ⟨N, d, rfl, k, q⟩
  refine varK_of (pure_nonX k) (use g1 ⟨d, rfl, k, ?_⟩)
  cases d <;> first | cases k; done | skip
  case int i =>
    by_cases h : (0 : Int) ≤ i
    · have e : isNum (.int i) = true := decide_eq_true h
      have e2 : hasI N.nN (.int i) = decide (i < ((N.nN : Nat) : Int)) := by show (decide _ && _) = _; rw [decide_eq_true h]; rfl
      rw [e]
      rw [e2] at q
      walk_at "px"
      have e : ((N.fD.length : Int) + (N.tD.length : Int)) = ((N.nN : Nat) : Int) := by rw [fD_i, tD_i]; simp [Net.nN]
      rw [e]
      exact .inl q
    · have e : isNum (.int i) = false := decide_eq_false h
      have e2 : hasI N.nN (.int i) = false := by show (decide _ && _) = _; rw [decide_eq_false h]; rfl
      rw [e]
      rw [e2] at q
      exact .inl q
  all_goals exact .inl q
theorem b_has_switch (g1 : G.con "is_number" = con_is_number) : Pf G N_has_switch ir_has_switch con_has_switch := by
  rintro ds A E Q ⟨N, d, rfl, k, q⟩
  refine varK_of (pure_nonX k) (use g1 ⟨d, rfl, k, ?_⟩)
  cases d <;> first | cases k; done | skip
  case int i =>
    by_cases h : (0 : Int) ≤ i
    · have e : isNum (.int i) = true := decide_eq_true h
      have e2 : hasI N.sw.length (.int i) = decide (i < ((N.sw.length : Nat) : Int)) := by show (decide _ && _) = _; rw [decide_eq_true h]; rfl
      rw [e]
      rw [e2] at q
      walk_at "px"
      rw [sD_i]
      exact .inl q
    · have e : isNum (.int i) = false := decide_eq_false h
      have e2 : hasI N.sw.length (.int i) = false := by show (decide _ && _) = _; rw [decide_eq_false h]; rfl
      rw [e]
      rw [e2] at q
      exact .inl q
  all_goals exact .inl q
end
end Nt
end TextNt2

section TextFl1
set_option autoImplicit false
/-! Fl1: floods in plain Lean: the least relation, and what a list of numbers must keep to be it. -/
namespace Fl
/-- Edge u r v: a way from u with rank r into v -/
inductive Reach (E : Nat → Nat → Nat → Prop) (st fl : Nat → Nat) : Nat → Nat → Prop
  | start {v : Nat} : 0 < st v → fl v ≤ st v → Reach E st fl (st v) v
  | step {l u r v : Nat} : Reach E st fl l u → E u r v → 0 < min l r → fl v ≤ min l r → Reach E st fl (min l r) v
variable {E : Nat → Nat → Nat → Prop} {st fl : Nat → Nat}
structure Closed (E : Nat → Nat → Nat → Prop) (st fl f : Nat → Nat) : Prop where
  start : ∀ v, fl v ≤ st v → st v ≤ f v
  step : ∀ u r v, E u r v → fl v ≤ min (f u) r → min (f u) r ≤ f v
def Sound (E : Nat → Nat → Nat → Prop) (st fl f : Nat → Nat) : Prop := ∀ v, f v ≠ 0 → Reach E st fl (f v) v
theorem Closed.bound {f : Nat → Nat} (h : Closed E st fl f) : ∀ {l v : Nat}, Reach E st fl l v → l ≤ f v := fun r => by
  induction r with
  | start a b => exact h.start _ b
  | @step l u r v _ e p q ih =>
    have a : min l r ≤ min (f u) r := by omega
    exact Nat.le_trans a (h.step u r v e (Nat.le_trans q a))
theorem Reach.pos {l v : Nat} (h : Reach E st fl l v) : 0 < l := by cases h <;> assumption
theorem Reach.floor {l v : Nat} (h : Reach E st fl l v) : fl v ≤ l := by cases h <;> assumption
theorem le_of {f g : Nat → Nat} (s : Sound E st fl f) (c : Closed E st fl g) (v : Nat) : f v ≤ g v := by
  by_cases h : f v = 0
  · omega
  · exact c.bound (s v h)
theorem num_eq {f g : Nat → Nat} (sf : Sound E st fl f) (cf : Closed E st fl f) (sg : Sound E st fl g) (cg : Closed E st fl g) : f = g :=
  funext fun v => Nat.le_antisymm (le_of sf cg v) (le_of sg cf v)
/-- the buckets: B b v: v waits (or waited) in bucket b -/
structure Inv (E : Nat → Nat → Nat → Prop) (st fl f : Nat → Nat) (B D : Nat → Nat → Prop) (L : Nat) : Prop where
  sound : Sound E st fl f
  ent : ∀ b v, B b v → 0 < b → fl v ≤ b → Reach E st fl b v
  low : ∀ v, f v ≠ 0 → L ≤ f v
  ways : ∀ u r v, f u ≠ 0 → E u r v → B (min (f u) r) v
  starts : ∀ v, 0 < st v → B (st v) v
  done : ∀ b v, D b v → fl v ≤ b → b ≤ f v
  up : ∀ b v, B b v → L < b → D b v
/-- all buckets but that of 0 are done: the numbers are the flood -/
theorem Inv.closed {f : Nat → Nat} {B D : Nat → Nat → Prop} (h : Inv E st fl f B D 0) : Closed E st fl f where
  start v a := by
    by_cases z : st v = 0
    · omega
    · exact h.done _ v (h.up _ v (h.starts v (by omega)) (by omega)) a
  step u r v e a := by
    by_cases z : f u = 0
    · omega
    · by_cases y : r = 0
      · omega
      · exact h.done _ v (h.up _ v (h.ways u r v z e) (by omega)) a
end Fl
end TextFl1

section TextFl2
set_option autoImplicit false
set_option maxRecDepth 100000
set_option maxHeartbeats 4000000
/-! Fl2: columns by node, buckets; one flood's state and what it keeps, in plain Lean. -/
namespace Fl
open Px
/-- a column by number -/
def rl {α : Type} (n : Nat) (F : Nat → α) : List α := (List.range n).map F
section
variable {α β : Type} {n : Nat} {F F' : Nat → α}
@[simp] theorem rl_len : (rl n F).length = n := by simp [rl]
theorem rl_get {i : Nat} (h : i < n) : (rl n F)[i]? = some (F i) := by simp [rl, h]
theorem rl_gt {i : Nat} (h : i < (rl n F).length) : (rl n F)[i] = F i := by simp [rl]
theorem rl_congr (h : ∀ i, i < n → F i = F' i) : rl n F = rl n F' := List.map_congr_left fun i hi => h i (List.mem_range.mp hi)
theorem rl_set {i : Nat} {x : α} : (rl n F).set i x = rl n fun j => if j = i then x else F j := by
  apply List.ext_getElem?
  intro j
  by_cases hj : j < n
  · rw [rl_get hj]
    by_cases e : i = j
    · subst e
      rw [List.getElem?_set_self (by simpa using hj), if_pos rfl]
    · rw [List.getElem?_set_ne e, rl_get hj, if_neg (Ne.symm e)]
  · rw [List.getElem?_eq_none (by simpa using hj), List.getElem?_eq_none (by simpa using hj)]
theorem rl_map {g : α → β} : (rl n F).map g = rl n fun i => g (F i) := by simp [rl]
theorem rl_succ : rl (n + 1) F = rl n F ++ [F n] := by simp [rl, List.range_succ]
theorem rl_zero : rl 0 F = [] := rfl
theorem rl_const {c : α} : List.replicate n c = rl n fun _ => c := by simp [rl, List.map_const']
theorem rl_of (l : List α) (F : Nat → α) (h : ∀ i (hi : i < l.length), l[i] = F i) : l = rl l.length F := by
  apply List.ext_getElem?
  intro j
  by_cases hj : j < l.length
  · rw [rl_get hj, List.getElem?_eq_getElem hj, h j hj]
  · rw [List.getElem?_eq_none (by omega), List.getElem?_eq_none (by simpa using hj)]
theorem rl_mem {x : α} : x ∈ rl n F ↔ ∃ i, i < n ∧ F i = x := by simp [rl]
end
/-- objects laid one behind the other -/
def hp (A : Ht) (n : Nat) (F : Nat → List D) : Ht := A ++ rl n fun i => O.lst (F i)
section
variable {A : Ht} {n : Nat} {F F' : Nat → List D}
theorem hp_len : (hp A n F).length = A.length + n := by simp [hp]
theorem hp_get {i : Nat} (h : i < n) : (hp A n F)[A.length + i]? = some (.lst (F i)) := by
  unfold hp
  rw [List.getElem?_append_right (by omega), show A.length + i - A.length = i by omega, rl_get h]
theorem hp_old {i : Nat} (h : i < A.length) : (hp A n F)[i]? = A[i]? := by unfold hp; rw [List.getElem?_append_left h]
theorem hp_set {i : Nat} {x : List D} : (hp A n F).set (A.length + i) (.lst x) = hp A n fun j => if j = i then x else F j := by
  unfold hp
  rw [List.set_append_right _ _ (by omega), show A.length + i - A.length = i by omega, rl_set]
  congr 1
  exact rl_congr fun j _ => by by_cases h : j = i <;> simp [h]
theorem hp_congr (h : ∀ i, i < n → F i = F' i) : hp A n F = hp A n F' := by unfold hp; rw [rl_congr fun i hi => by rw [h i hi]]
theorem hp_succ : hp A (n + 1) F = hp A n F ++ [.lst (F n)] := by unfold hp; rw [rl_succ, List.append_assoc]
end
abbrev Way := Nat × Nat × Nat
/-- one flood's task -/
structure Tk where
  n : Nat
  W : Nat → List Way
  st : Nat → Nat
  fl : Nat → Nat
structure Tk.ok (T : Tk) : Prop where
  nl : T.n ≤ 400
  wl : ∀ v, v < T.n → (T.W v).length ≤ 2000
  wn : ∀ v, v < T.n → ∀ w ∈ T.W v, w.2.1 < T.n
  s11 : ∀ v, v < T.n → T.st v ≤ 11
def Tk.E (T : Tk) : Nat → Nat → Nat → Prop := fun u r v => u < T.n ∧ ∃ s, (r, v, s) ∈ T.W u
def Tk.s0 (T : Tk) : Nat → Nat := fun v => if v < T.n then T.st v else 0
/-- the answer of a flood -/
structure Ans (T : Tk) (f : Nat → Nat) (rb : Nat → Int) : Prop where
  sound : Sound T.E T.s0 T.fl f
  closed : Closed T.E T.s0 T.fl f
  out : ∀ v, T.n ≤ v → f v = 0
  le : ∀ v, f v ≤ 11
  par : ∃ o : Nat → Nat, ∀ v, f v ≠ 0 → (rb v = -1 ∧ T.st v = f v) ∨ ∃ u r s, rb v = (s : Nat) ∧ u < T.n ∧ (r, v, s) ∈ T.W u ∧ f u ≠ 0 ∧ f v = min (f u) r ∧ o u < o v
/-- a state: numbers, switches, buckets -/
structure S where
  f : Nat → Nat
  rb : Nat → Int
  b : Nat → List (Nat × Int)
/-- entries still to come at most -/
def pot (T : Tk) (f : Nat → Nat) : Nat := (rl T.n fun v => if f v = 0 then (T.W v).length else 0).sum
theorem sum_upd : ∀ (n : Nat) (F G : Nat → Nat) (v : Nat), v < n → (∀ u, u ≠ v → F u = G u) → (rl n F).sum + G v = (rl n G).sum + F v
  | 0, _, _, v, h, _ => by omega
  | n + 1, F, G, v, h, e => by
    rw [rl_succ, rl_succ, List.sum_append, List.sum_append]
    simp only [List.sum_cons, List.sum_nil, Nat.add_zero]
    by_cases hv : v = n
    · subst hv
      have z : rl v F = rl v G := rl_congr fun i hi => e i (by omega)
      rw [z]; omega
    · have := sum_upd n F G v (by omega) e
      have z := e n (Ne.symm hv)
      omega
theorem sum_le : ∀ (n : Nat) (F : Nat → Nat) (c : Nat), (∀ v, v < n → F v ≤ c) → (rl n F).sum ≤ n * c
  | 0, _, _, _ => by simp [rl]
  | n + 1, F, c, h => by
    rw [rl_succ, List.sum_append]
    have := sum_le n F c fun v hv => h v (by omega)
    have := h n (by omega)
    rw [Nat.succ_mul]
    simp
    omega
theorem pot_set {T : Tk} {f : Nat → Nat} {v L : Nat} (h : v < T.n) (h0 : f v = 0) (hL : L ≠ 0) : pot T (fun u => if u = v then L else f u) + (T.W v).length = pot T f := by
  unfold pot
  have := sum_upd T.n (fun u => if (if u = v then L else f u) = 0 then (T.W u).length else 0) (fun u => if f u = 0 then (T.W u).length else 0) v h fun u hu => by simp only [if_neg hu]
  simp only [if_pos rfl, if_neg hL, h0, if_true] at this
  omega
theorem pot_le {T : Tk} (ok : T.ok) (f : Nat → Nat) : pot T f ≤ 800000 := by
  have := sum_le T.n (fun v => if f v = 0 then (T.W v).length else 0) 2000 fun v hv => by split; exact ok.wl v hv; omega
  have h2 := ok.nl
  have : T.n * 2000 ≤ 400 * 2000 := Nat.mul_le_mul_right _ h2
  unfold pot; omega
/-- what a flood keeps: level L, entries done at this level: the first a; o: in which sequence nodes were reached, c so far -/
structure Kp (T : Tk) (L a : Nat) (s : S) (o : Nat → Nat) (c : Nat) : Prop where
  out : ∀ v, T.n ≤ v → s.f v = 0
  le : ∀ v, s.f v ≤ 11
  sound : Sound T.E T.s0 T.fl s.f
  ent : ∀ b v k, (v, k) ∈ s.b b → v < T.n ∧ (0 < b → T.fl v ≤ b → Reach T.E T.s0 T.fl b v)
  src : ∀ b v k, (v, k) ∈ s.b b → (k = -1 ∧ T.st v = b) ∨ ∃ u r w, k = ((w : Nat) : Int) ∧ u < T.n ∧ (r, v, w) ∈ T.W u ∧ s.f u ≠ 0 ∧ b = min (s.f u) r
  low : ∀ v, s.f v ≠ 0 → L ≤ s.f v
  ways : ∀ u r v w, s.f u ≠ 0 → (r, v, w) ∈ T.W u → ∃ k, (v, k) ∈ s.b (min (s.f u) r)
  starts : ∀ v, v < T.n → ∃ k, (v, k) ∈ s.b (T.st v)
  up : ∀ b v k, (v, k) ∈ s.b b → L < b → T.fl v ≤ b → b ≤ s.f v
  now : ∀ v k, (v, k) ∈ (s.b L).take a → T.fl v ≤ L → L ≤ s.f v
  par : ∀ v, s.f v ≠ 0 → (s.rb v = -1 ∧ T.st v = s.f v) ∨ ∃ u r w, s.rb v = (w : Nat) ∧ u < T.n ∧ (r, v, w) ∈ T.W u ∧ s.f u ≠ 0 ∧ s.f v = min (s.f u) r ∧ o u < o v
  cnt : ∀ v, s.f v ≠ 0 → o v < c
  sz : ∀ b, (s.b b).length + pot T s.f ≤ T.n + 800000
theorem Kp.more {T : Tk} {L a : Nat} {s : S} {o : Nat → Nat} {c : Nat} (h : Kp T L a s o c) {v : Nat} {k : Int} (ha : (s.b L)[a]? = some (v, k)) (hn : ¬ (s.f v = 0 ∧ T.fl v ≤ L)) : Kp T L (a + 1) s o c := by
  refine { h with now := fun u j hm hf => ?_ }
  have hlt := (List.getElem?_eq_some_iff.mp ha).1
  rw [List.take_succ_eq_append_getElem hlt, List.mem_append] at hm
  rcases hm with hm | hm
  · exact h.now u j hm hf
  · rw [(List.getElem?_eq_some_iff.mp ha).2] at hm
    have e : (u, j) = (v, k) := by simpa using hm
    have eu : u = v := congrArg Prod.fst e
    rw [eu] at hf ⊢
    have : s.f v ≠ 0 := fun z => hn ⟨z, hf⟩
    exact h.low v this
/-- what is put into the buckets -/
def put (L : Nat) (b : Nat → List (Nat × Int)) (ws : List Way) : Nat → List (Nat × Int) := ws.foldl (fun b w => fun i => if i = min L w.1 then b i ++ [(w.2.1, (w.2.2 : Int))] else b i) b
theorem put_at (L : Nat) : ∀ (ws : List Way) (b : Nat → List (Nat × Int)) (i : Nat), put L b ws i = b i ++ (ws.filter fun w => decide (i = min L w.1)).map fun w => (w.2.1, (w.2.2 : Int))
  | [], b, i => by simp [put]
  | w :: r, b, i => by
    show put L _ r i = _
    rw [put_at L r]
    rw [List.filter_cons]
    by_cases h : i = min L w.1
    · rw [decide_eq_true h]; simp [h]
    · rw [decide_eq_false h]; simp [h]
theorem Kp.hit {T : Tk} {L a : Nat} {s : S} {o : Nat → Nat} {c : Nat} (h : Kp T L a s o c) (hL : 0 < L) (hL2 : L ≤ 11) {v : Nat} {k : Int} (ha : (s.b L)[a]? = some (v, k)) (h0 : s.f v = 0) (hf : T.fl v ≤ L) (wn : ∀ w ∈ T.W v, w.2.1 < T.n) :
    Kp T L (a + 1) ⟨fun u => if u = v then L else s.f u, fun u => if u = v then k else s.rb u, put L s.b (T.W v)⟩ (fun u => if u = v then c else o u) (c + 1) := by
  have hm : (v, k) ∈ s.b L := List.mem_of_getElem? ha
  obtain ⟨hv, he⟩ := h.ent L v k hm
  have hr := he hL hf
  have ne : L ≠ 0 := by omega
  have mono : ∀ u, s.f u ≠ 0 → u ≠ v := fun u hu e => hu (by rw [e]; exact h0)
  have sub : ∀ {b : Nat} {x : Nat × Int}, x ∈ s.b b → x ∈ put L s.b (T.W v) b := fun {b x} hx => by rw [put_at]; exact List.mem_append_left _ hx
  have new : ∀ {b : Nat} {x : Nat × Int}, x ∈ put L s.b (T.W v) b → x ∈ s.b b ∨ ∃ r t w, (r, t, w) ∈ T.W v ∧ b = min L r ∧ x = (t, ((w : Nat) : Int)) := fun {b x} hx => by
    rw [put_at, List.mem_append] at hx
    rcases hx with hx | hx
    · exact .inl hx
    · obtain ⟨⟨r, t, w⟩, h1, rfl⟩ := List.mem_map.mp hx
      obtain ⟨h2, h3⟩ := List.mem_filter.mp h1
      exact .inr ⟨r, t, w, h2, of_decide_eq_true h3, rfl⟩
  have nz : ∀ u, (if u = v then L else s.f u) ≠ 0 → u = v ∨ (u ≠ v ∧ s.f u ≠ 0) := fun u hu => by
    by_cases e : u = v
    · exact .inl e
    · rw [if_neg e] at hu; exact .inr ⟨e, hu⟩
  refine ⟨fun u hu => ?_, fun u => ?_, fun u hu => ?_, fun b u j hx => ?_, fun b u j hx => ?_, fun u hu => ?_, fun u r t w hu hw => ?_, fun u hu => ?_, fun b u j hx hb hfl => ?_, fun u j hx hfl => ?_, fun u hu => ?_, fun u hu => ?_, fun b => ?_⟩
  · show (if u = v then L else s.f u) = 0
    rw [if_neg (by omega)]; exact h.out u hu
  · show (if u = v then L else s.f u) ≤ 11
    split
    · omega
    · exact h.le u
  · change (if u = v then L else s.f u) ≠ 0 at hu
    show Reach T.E T.s0 T.fl (if u = v then L else s.f u) u
    rcases nz u hu with rfl | ⟨e, hu⟩
    · rw [if_pos rfl]; exact hr
    · rw [if_neg e]; exact h.sound u hu
  · rcases new hx with hx | ⟨r, t, w, h1, rfl, e⟩
    · exact h.ent b u j hx
    · cases e
      exact ⟨wn _ h1, fun hb hfl => .step hr ⟨hv, w, h1⟩ hb hfl⟩
  · show (j = -1 ∧ T.st u = b) ∨ ∃ u' r w, j = ((w : Nat) : Int) ∧ u' < T.n ∧ (r, u, w) ∈ T.W u' ∧ (if u' = v then L else s.f u') ≠ 0 ∧ b = min (if u' = v then L else s.f u') r
    rcases new hx with hx | ⟨r, t, w, h1, rfl, e⟩
    · rcases h.src b u j hx with q | ⟨u', r, w, e1, e2, e3, e4, e5⟩
      · exact .inl q
      · refine .inr ⟨u', r, w, e1, e2, e3, ?_, ?_⟩
        · rw [if_neg (mono u' e4)]; exact e4
        · rw [if_neg (mono u' e4)]; exact e5
    · cases e
      exact .inr ⟨v, r, w, rfl, hv, h1, by rw [if_pos rfl]; exact ne, by rw [if_pos rfl]⟩
  · change (if u = v then L else s.f u) ≠ 0 at hu
    show L ≤ (if u = v then L else s.f u)
    rcases nz u hu with rfl | ⟨e, hu⟩
    · rw [if_pos rfl]; exact Nat.le_refl _
    · rw [if_neg e]; exact h.low u hu
  · change (if u = v then L else s.f u) ≠ 0 at hu
    show ∃ k, (t, k) ∈ put L s.b (T.W v) (min (if u = v then L else s.f u) r)
    rcases nz u hu with rfl | ⟨e, hu⟩
    · rw [if_pos rfl]
      refine ⟨(w : Int), ?_⟩
      rw [put_at]
      exact List.mem_append_right _ (List.mem_map.mpr ⟨(r, t, w), List.mem_filter.mpr ⟨hw, decide_eq_true rfl⟩, rfl⟩)
    · rw [if_neg e]
      obtain ⟨k', hk⟩ := h.ways u r t w hu hw
      exact ⟨k', sub hk⟩
  · obtain ⟨k', hk⟩ := h.starts u hu
    exact ⟨k', sub hk⟩
  · show b ≤ (if u = v then L else s.f u)
    rcases new hx with hx | ⟨r, t, w, h1, rfl, e⟩
    · have := h.up b u j hx hb hfl
      rw [if_neg (mono u (by omega))]; exact this
    · omega
  · show L ≤ (if u = v then L else s.f u)
    have hlt := (List.getElem?_eq_some_iff.mp ha).1
    have et : (put L s.b (T.W v) L).take (a + 1) = (s.b L).take a ++ [(v, k)] := by
      rw [put_at, List.take_append_of_le_length (by omega), List.take_succ_eq_append_getElem hlt, (List.getElem?_eq_some_iff.mp ha).2]
    rw [et, List.mem_append] at hx
    rcases hx with hx | hx
    · have := h.now u j hx hfl
      split
      · exact Nat.le_refl _
      · exact this
    · have e : (u, j) = (v, k) := by simpa using hx
      cases e
      rw [if_pos rfl]; exact Nat.le_refl _
  · change (if u = v then L else s.f u) ≠ 0 at hu
    show ((if u = v then k else s.rb u) = -1 ∧ T.st u = (if u = v then L else s.f u)) ∨ ∃ u' r w, (if u = v then k else s.rb u) = ((w : Nat) : Int) ∧ u' < T.n ∧ (r, u, w) ∈ T.W u' ∧ (if u' = v then L else s.f u') ≠ 0 ∧ (if u = v then L else s.f u) = min (if u' = v then L else s.f u') r ∧ (if u' = v then c else o u') < (if u = v then c else o u)
    rcases nz u hu with rfl | ⟨e, hu⟩
    · simp only [if_pos rfl]
      rcases h.src L u k hm with q | ⟨u', r, w, e1, e2, e3, e4, e5⟩
      · exact .inl q
      · refine .inr ⟨u', r, w, e1, e2, e3, ?_, ?_, ?_⟩
        · rw [if_neg (mono u' e4)]; exact e4
        · rw [if_neg (mono u' e4)]; exact e5
        · rw [if_neg (mono u' e4)]; exact h.cnt u' e4
    · simp only [if_neg e]
      rcases h.par u hu with q | ⟨u', r, w, e1, e2, e3, e4, e5, e6⟩
      · exact .inl q
      · refine .inr ⟨u', r, w, e1, e2, e3, ?_, ?_, ?_⟩
        · rw [if_neg (mono u' e4)]; exact e4
        · rw [if_neg (mono u' e4)]; exact e5
        · rw [if_neg (mono u' e4)]; exact e6
  · change (if u = v then L else s.f u) ≠ 0 at hu
    show (if u = v then c else o u) < c + 1
    rcases nz u hu with rfl | ⟨e, hu⟩
    · rw [if_pos rfl]; omega
    · rw [if_neg e]; have := h.cnt u hu; omega
  · show (put L s.b (T.W v) b).length + pot T (fun u => if u = v then L else s.f u) ≤ T.n + 800000
    have p1 := pot_set (T := T) (f := s.f) hv h0 ne
    have p2 := h.sz b
    rw [put_at, List.length_append, List.length_map]
    have := List.length_filter_le (fun w : Way => decide (b = min L w.1)) (T.W v)
    omega
theorem Kp.next {T : Tk} {L : Nat} {s : S} {o : Nat → Nat} {c : Nat} (h : Kp T (L + 1) (s.b (L + 1)).length s o c) : Kp T L 0 s o c :=
  { h with
    low := fun v hv => by have := h.low v hv; omega
    up := fun b v k hx hb hf => by
      by_cases e : b = L + 1
      · subst e
        exact h.now v k (by rw [List.take_length]; exact hx) hf
      · exact h.up b v k hx (by omega) hf
    now := fun v k hx => by simp at hx }
theorem Kp.ans {T : Tk} {s : S} {o : Nat → Nat} {c : Nat} (h : Kp T 0 0 s o c) : Ans T s.f s.rb := by
  refine ⟨h.sound, ⟨fun v hv => ?_, fun u r v ⟨hu, w, hw⟩ hf => ?_⟩, h.out, h.le, o, h.par⟩
  · unfold Tk.s0 at hv ⊢
    by_cases hn : v < T.n
    · rw [if_pos hn] at hv ⊢
      by_cases z : T.st v = 0
      · omega
      · obtain ⟨k, hk⟩ := h.starts v hn
        exact h.up _ v k hk (by omega) hv
    · rw [if_neg hn]; omega
  · by_cases z : s.f u = 0
    · omega
    · obtain ⟨k, hk⟩ := h.ways u r v w z hw
      by_cases y : min (s.f u) r = 0
      · omega
      · exact h.up _ v k hk (by omega) hf
/-- the beginning: the first i roots stand in their buckets -/
def begb (T : Tk) (i : Nat) : Nat → List (Nat × Int) := fun b => ((List.range i).filter fun v => decide (T.st v = b)).map fun v => (v, -1)
theorem begb_succ {T : Tk} {i b : Nat} : begb T (i + 1) b = if b = T.st i then begb T i b ++ [(i, -1)] else begb T i b := by
  unfold begb
  rw [List.range_succ, List.filter_append, List.map_append]
  by_cases h : b = T.st i
  · subst h
    rw [if_pos rfl]; simp
  · rw [if_neg h]
    simp [Ne.symm h]
theorem Kp.begin {T : Tk} (ok : T.ok) : Kp T 11 0 ⟨fun _ => 0, fun _ => -1, begb T T.n⟩ (fun _ => 0) 0 := by
  have mem : ∀ {b v : Nat} {k : Int}, (v, k) ∈ begb T T.n b → v < T.n ∧ T.st v = b ∧ k = -1 := fun {b v k} h => by
    obtain ⟨x, h1, e⟩ := List.mem_map.mp h
    cases e
    obtain ⟨h2, h3⟩ := List.mem_filter.mp h1
    exact ⟨List.mem_range.mp h2, of_decide_eq_true h3, rfl⟩
  refine ⟨fun _ _ => rfl, fun _ => Nat.zero_le _, fun v h => absurd rfl h, fun b v k h => ?_, fun b v k h => .inl ⟨(mem h).2.2, (mem h).2.1⟩, fun v h => absurd rfl h, fun u r v w h => absurd rfl h, fun v h => ⟨-1, ?_⟩, fun b v k h hb hf => ?_, fun v k h => by simp at h, fun v h => absurd rfl h, fun v h => absurd rfl h, fun b => ?_⟩
  · obtain ⟨h1, h2, _⟩ := mem h
    refine ⟨h1, fun hb hf => ?_⟩
    have e : T.s0 v = b := by unfold Tk.s0; rw [if_pos h1]; exact h2
    rw [← e]
    exact .start (by omega) (by omega)
  · exact List.mem_map.mpr ⟨v, List.mem_filter.mpr ⟨List.mem_range.mpr h, decide_eq_true rfl⟩, rfl⟩
  · obtain ⟨h1, h2, _⟩ := mem h
    have := ok.s11 v h1
    omega
  · show (begb T T.n b).length + _ ≤ _
    have h1 : (begb T T.n b).length ≤ T.n := by
      unfold begb
      rw [List.length_map]
      have := List.length_filter_le (fun v => decide (T.st v = b)) (List.range T.n)
      simpa using this
    have h2 := pot_le ok (fun _ => 0)
    show _ + pot T (fun _ => 0) ≤ _
    omega
/-- two answers agree -/
theorem Ans.eq {T : Tk} {f g : Nat → Nat} {rb rb2 : Nat → Int} (a : Ans T f rb) (b : Ans T g rb2) : f = g := num_eq a.sound a.closed b.sound b.closed
end Fl
end TextFl2

section TextNt3
set_option autoImplicit false
set_option maxRecDepth 100000
set_option maxHeartbeats 4000000
namespace Nt
open PySem Px Pg Fl
local macro_rules | `(tactic| walk_at "px") => `(tactic| ((conv => whnf); repeat ((refine And.intro (by first | exact True.intro | exact Px.sz2 | exact Px.sz3 | exact Px.sz1 | exact Px.sz0 | exact Px.sz4 | exact Px.sz5 | exact Px.sz6 | exact Px.sz7 | exact Px.sz8 | exact Px.sz9 | decide) ?_); (conv => whnf))))
theorem whl_go {G : Env'} {t : Ie} {b : Iss} {N : Dn} {ρ : Rho} {A : Ht} (I : Nat → Rho → Ht → Prop) (F : Rho → Ht → Prop) (h0 : ∃ m, I m ρ A)
    (turn : ∀ m ρ A (k fin : Rho → Ht → Prop), I m ρ A → (∀ ρ' A' m', m' < m → I m' ρ' A' → k ρ' A') → (∀ ρ' A', F ρ' A' → fin ρ' A') → wT G t ρ A (N.xe ρ) (fun c A1 => if c = true then wSs G b (N.lop k) ρ A1 else fin ρ A1)) (hfin : ∀ ρ A, F ρ A → N.nx ρ A) : wS G (.whl t b) N ρ A :=
  ⟨I, h0, fun m ρ A h => turn m ρ A _ _ h (fun ρ' A' m' hm hi => ⟨m', hm, hi⟩) hfin⟩
def rkN (N : Net) (v : Nat) : Nat := if v < N.fs.length then 11 else match N.ts[v - N.fs.length]? with | some t => t.2 | none => 0
def rkD (N : Net) : List D := rl N.nN fun v => .int (rkN N v : Int)
def wD (w : Way) : D := .tup [.int (w.1 : Int), .int (w.2.1 : Int), .int (w.2.2 : Int)]
def seqOf (d : D) (l : List D) : Prop := d = .ls l ∨ d = .tup l
/-- the ways out of u over one switch -/
def way1 (N : Net) (u s : Nat) : List Way := match N.sw[s]? with
  | some w => (if w.l = u ∧ N.fs.length ≤ w.r then [(4 + w.st, w.r, s)] else []) ++ (if w.r = u ∧ N.fs.length ≤ w.l then [(4 + w.st, w.l, s)] else [])
  | none => []
def wy (N : Net) (us : List Nat) (u : Nat) : List Way := us.flatMap (way1 N u)
def con_node_ranks : Con := fun ds A E Q => ∃ N : Net, ds = [N.d] ∧ N.ok ∧ Q (.ls (rkD N)) A
def con_rank_of : Con := fun ds A E Q => ∃ (N : Net) (v : Nat), ds = [N.d, .int (v : Int)] ∧ N.ok ∧ v < N.nN ∧ Q (.int (rkN N v : Int)) A
def stN (N : Net) (s : Nat) : Nat := match N.sw[s]? with | some w => w.st | none => 0
def con_switch_rank : Con := fun ds A E Q => ∃ (N : Net) (s : Nat), ds = [N.d, .int (s : Int)] ∧ N.ok ∧ s < N.sw.length ∧ Q (.int ((4 + stN N s : Nat) : Int)) A
def con_ways_out : Con := fun ds A E Q => ∃ (N : Net) (u : D) (us : List Nat), ds = [N.d, u] ∧ seqOf u (nL us) ∧ N.ok ∧ (∀ s ∈ us, s < N.sw.length) ∧ us.length ≤ 1000 ∧ Q (.ls (rl N.nN fun v => .ls ((wy N us v).map wD))) A
def con_flooded : Con := fun ds A E Q => ∃ (T : Tk) (d e : D), ds = [.ls (rl T.n fun v => .ls ((T.W v).map wD)), d, e] ∧ seqOf d (rl T.n fun v => .int (T.st v : Int)) ∧ seqOf e (rl T.n fun v => .int (T.fl v : Int)) ∧ T.ok ∧
  ∀ f rb, Ans T f rb → Q (.tup [.ls (rl T.n fun v => .int (f v : Int)), .ls (rl T.n fun v => .int (rb v))]) A
section
variable {G : Env'}
theorem repI {n : Nat} {d : D} : (List.replicate ((n : Int)).toNat [d]).flatten = List.replicate n d := by
  rw [Int.toNat_natCast]
  induction n with
  | zero => rfl
  | succ n ih => rw [List.replicate_succ, List.replicate_succ, List.flatten_cons, ih]; rfl
theorem ranks_eq (N : Net) : List.replicate N.fs.length (D.int 11) ++ N.ts.map (fun t => D.int (t.2 : Int)) = rkD N := by
  apply List.ext_getElem?
  intro i
  unfold rkD
  by_cases h : i < N.nN
  · rw [rl_get h]
    by_cases h2 : i < N.fs.length
    · rw [List.getElem?_append_left (by simpa using h2), List.getElem?_replicate, if_pos h2]
      unfold rkN; rw [if_pos h2]; rfl
    · have h3 : i - N.fs.length < N.ts.length := by unfold Net.nN at h; omega
      rw [List.getElem?_append_right (by simpa using h2), List.length_replicate, List.getElem?_map, List.getElem?_eq_getElem h3]
      unfold rkN; rw [if_neg h2, List.getElem?_eq_getElem h3]; rfl
  · rw [List.getElem?_eq_none (by simpa [Net.nN] using h), List.getElem?_eq_none (by simpa using h)]
theorem b_node_ranks (k1 : G.ct "FEED_RANK" = some (.int 11)) : Pf G N_node_ranks ir_node_ranks con_node_ranks := by
  rintro ds A E Q ⟨N, rfl, ok, q⟩
  have := ok.fl; have := ok.tl
  conv => whnf
  rw [k1]
  walk_at "px"
  refine .inl ?_
  walk_at "px"
  rw [fD_i, repI]
  refine ⟨by omega, by omega, szN (by simp; omega), .inl ?_⟩
  refine comp_m N.ts (fun t => .tup [.str t.1, .int (t.2 : Int)]) (fun t => .int (t.2 : Int)) rfl True.intro (szN (by omega)) (fun x hx K hK => hK) ?_
  refine .inl ?_
  walk_at "px"
  refine ⟨szN (by simp; omega), .inl ?_⟩
  rw [ranks_eq]
  exact .inl q
theorem b_rank_of (g1 : G.con "has_node" = con_has_node) (g2 : G.con "node_ranks" = con_node_ranks) : Pf G N_rank_of ir_rank_of con_rank_of := by
  rintro ds A E Q ⟨N, v, rfl, ok, hv, q⟩
  refine use g1 ⟨N, .int (v : Int), rfl, rfl, ?_⟩
  rw [hasI_nat hv]
  refine use g2 ⟨N, rfl, ok, ?_⟩
  exact q_ixLn (rl_get hv) (.inl q)
theorem b_switch_rank (g1 : G.con "has_switch" = con_has_switch) (k1 : G.ct "RANK_BELOW_STRENGTHS" = some (.int 4)) : Pf G N_switch_rank ir_switch_rank con_switch_rank := by
  rintro ds A E Q ⟨N, v, rfl, ok, hv, q⟩
  refine use g1 ⟨N, .int (v : Int), rfl, rfl, ?_⟩
  rw [hasI_nat hv]
  walk_at "px"
  rw [k1]
  conv => whnf
  rw [L2.atI_nat (sD_at hv)]
  walk_at "px"
  have e : (4 : Int) + (N.sw[v].st : Int) = ((4 + stN N v : Nat) : Int) := by unfold stN; rw [List.getElem?_eq_getElem hv]; simp
  exact .inl (e ▸ q)
end
end Nt
end TextNt3

section TextNt4
set_option autoImplicit false
set_option maxRecDepth 100000
set_option maxHeartbeats 4000000
namespace Nt
open PySem Px Pg Fl
local macro_rules | `(tactic| walk_at "px") => `(tactic| ((conv => whnf); repeat ((refine And.intro (by first | exact True.intro | exact Px.sz2 | exact Px.sz3 | exact Px.sz1 | exact Px.sz0 | exact Px.sz4 | exact Px.sz5 | exact Px.sz6 | exact Px.sz7 | exact Px.sz8 | exact Px.sz9 | decide) ?_); (conv => whnf))))
section
variable {G : Env'}
theorem rng_map (n : Nat) : rngD 0 n = (List.range n).map fun (i : Nat) => D.int (i : Int) := by
  unfold rngD
  exact List.map_congr_left fun i _ => by rw [Int.zero_add]
theorem rng_map' (lo n : Nat) : rngD (lo : Int) n = (List.range n).map fun (i : Nat) => D.int ((lo + i : Nat) : Int) := by
  unfold rngD
  exact List.map_congr_left fun i _ => by rw [Int.natCast_add]
/-- a row of empty lists -/
theorem comp_hp {st : D → Ht → (Option D → Ht → Prop) → Prop} {fin : List D → Ht → Prop} {A : Ht} (n : Nat) {items : List D} (hi : items = (List.range n).map fun (i : Nat) => D.int (i : Int)) (hn : n ≤ 65536) (hs : ∀ i B (k : Option D → Ht → Prop), k (some (.obj B.length)) (B ++ [.lst []]) → st (.int ((i : Nat) : Int)) B k)
    (hf : fin (rl n fun i => .obj (A.length + i)) (hp A n fun _ => [])) : compD (fun _ => True) st fin items [] A := by
  subst hi
  refine comp_go (fun i acc A' => A' = hp A i (fun _ => []) ∧ acc = rl i fun j => .obj (A.length + j)) ⟨by simp [hp, rl], rfl⟩ (fun _ _ _ _ => True.intro) ?_ ?_
  · rintro i hi acc A1 k ⟨rfl, rfl⟩ hk1 hk2
    have hi2 : i < n := by simpa using hi
    rw [List.getElem_map, List.getElem_range]
    refine hs i _ _ (hk2 _ _ ⟨szL (by simp; omega), by rw [hp_succ], ?_⟩)
    rw [rl_succ, hp_len]
  · rintro acc A1 ⟨rfl, rfl⟩
    rw [List.length_map, List.length_range]
    exact hf
theorem fzDs_rl {n m : Nat} {f : Nat → Option D} {F H : Nat → D} (h : ∀ i, i < m → fzD n f (F i) = some (H i)) : fzDs n f (rl m F) = some (rl m H) := by
  have app : ∀ (l r : List D) (xs ys : List D), fzDs n f l = some xs → fzDs n f r = some ys → fzDs n f (l ++ r) = some (xs ++ ys) := by
    intro l
    induction l with
    | nil => intro r xs ys h1 h2; simp only [fzDs, Option.some.injEq] at h1; subst h1; exact h2
    | cons d l ih =>
      intro r xs ys h1 h2
      simp only [fzDs, Option.bind_eq_some_iff, Option.map_eq_some_iff] at h1
      obtain ⟨x, e1, zs, e2, rfl⟩ := h1
      show (fzD n f d).bind (fun x => (fzDs n f (l ++ r)).map fun xs => x :: xs) = _
      rw [e1, ih r zs ys e2 h2]; rfl
  induction m with
  | zero => rfl
  | succ m ih =>
    rw [rl_succ, rl_succ]
    refine app _ _ _ _ (ih fun i hi => h i (by omega)) ?_
    show (fzD n f (F m)).bind _ = _
    rw [h m (by omega)]; rfl
/-- a list of one's own lists, read deep -/
theorem fz_rows {A : Ht} {n : Nat} {F : Nat → List D} (h : ∀ i, i < n → pureDs (F i) = true) : fzK A.length (hp A n F) 3 (.ls (rl n fun i => .obj (A.length + i))) = some (.ls (rl n fun i => .ls (F i))) := by
  refine congrArg (Option.map D.ls) (fzDs_rl fun i hi => ?_)
  show (if A.length + i < A.length then _ else _) = _
  rw [if_neg (by omega)]
  dsimp only
  rw [hp_get hi]
  dsimp only
  rw [fzs_pure _ (h i hi)]; rfl
theorem seqOf_pure {d : D} {l : List D} (h : seqOf d l) (hl : pureDs l = true) : pureD d = true := by rcases h with rfl | rfl <;> exact hl
theorem seqOf_wk {d : D} {l : List D} {A : Ht} {k : Wk → Prop} (h : seqOf d l) (q : k ⟨l, fun _ => True⟩) : wkS d A k := by rcases h with rfl | rfl <;> exact q
theorem seqOf_wkd {d : D} {l : List D} {A : Ht} {k : Wk → Prop} (h : seqOf d l) (q : k ⟨l, fun _ => True⟩) : wkD d A k := by rcases h with rfl | rfl <;> exact q
theorem seqOf_ix {d : D} {l : List D} {A : Ht} {Q : D → Ht → Prop} {i : Nat} {x : D} (h : seqOf d l) (e : l[i]? = some x) (q : Q x A) : ixD d (.int (i : Int)) A Q := by
  rcases h with rfl | rfl
  · exact q_ixLn e q
  · exact q_ixTn e q
theorem seqOf_nonX {d : D} {l : List D} (h : seqOf d l) : nonX d := by rcases h with rfl | rfl <;> trivial
theorem way1_len {N : Net} {u s : Nat} : (way1 N u s).length ≤ 2 := by
  unfold way1
  split
  · rw [List.length_append]; split <;> split <;> simp
  · simp
theorem wy_len {N : Net} {u : Nat} : ∀ us : List Nat, (wy N us u).length ≤ 2 * us.length
  | [] => by simp [wy]
  | s :: r => by
    have := wy_len (N := N) (u := u) r
    have := way1_len (N := N) (u := u) (s := s)
    unfold wy at this ⊢
    rw [List.flatMap_cons, List.length_append, List.length_cons]
    have h3 : (List.flatMap (way1 N u) r).length ≤ 2 * r.length := by assumption
    omega
theorem wy_take {N : Net} {us : List Nat} {u i : Nat} (h : i < us.length) : wy N (us.take (i + 1)) u = wy N (us.take i) u ++ way1 N u us[i] := by
  unfold wy
  rw [List.take_succ_eq_append_getElem h, List.flatMap_append]; simp
theorem b_ways_out (k1 : G.ct "RANK_BELOW_STRENGTHS" = some (.int 4)) : Pf G N_ways_out ir_ways_out con_ways_out := by
  rintro ds A E Q ⟨N, u, us, rfl, hu, ok, hus, hul, q⟩
  have hn : N.nN ≤ 400 := by have := ok.fl; have := ok.tl; unfold Net.nN; omega
  walk_at "px"
  rw [fD_i, tD_i]
  have e : ((N.fs.length : Int) + (N.ts.length : Int)) = ((N.nN : Nat) : Int) := by simp [Net.nN]
  rw [e, Int.toNat_natCast]
  refine ⟨by omega, by omega, ?_⟩
  refine comp_hp N.nN (rng_map _) (by omega) (fun i B k hk => ⟨by decide, nl_o hk⟩) ?_
  refine nl_v ?_
  refine varK_of (seqOf_nonX hu) (seqOf_wk hu ?_)
  refine loop_i us (fun (s : Nat) => D.int (s : Int)) (fun i ρ A' => A' = hp A N.nN (fun v => (wy N (us.take i) v).map wD) ∧ ∃ a b c d e f, ρ = [some N.d, some u, some (.int (N.fs.length : Int)), some (.ls (rl N.nN fun i => .obj (A.length + i))), a, b, c, d, e, f]) rfl ⟨rfl, _, _, _, _, _, _, rfl⟩ (fun _ _ _ _ => True.intro) ?_ ?_
  · rintro i hi ρ A1 k ⟨rfl, a, b, c, d, e, f, rfl⟩ hk
    have hs := hus _ (List.getElem_mem hi)
    have hw := ok.en _ (List.getElem_mem hs)
    have hl1 : ((wy N (us.take i) N.sw[us[i]].l).map wD).length < sizeLine := by
      have := wy_len (N := N) (u := N.sw[us[i]].l) (us.take i)
      rw [List.length_take] at this
      exact szL (by simp; omega)
    have hl2 : ((wy N (us.take i) N.sw[us[i]].r).map wD).length < sizeLine := by
      have := wy_len (N := N) (u := N.sw[us[i]].r) (us.take i)
      rw [List.length_take] at this
      exact szL (by simp; omega)
    walk_at "px"
    rw [L2.atI_nat (sD_at hs)]
    walk_at "px"
    rw [k1]
    have e4 : (4 : Int) + (N.sw[us[i]].st : Int) = ((4 + N.sw[us[i]].st : Nat) : Int) := by simp
    have go2 : ∀ F : Nat → List D, (∀ v, v < N.nN → (if v = N.sw[us[i]].r ∧ N.fs.length ≤ N.sw[us[i]].l then F v ++ [wD (4 + N.sw[us[i]].st, N.sw[us[i]].l, us[i])] else F v) = (wy N (us.take (i + 1)) v).map wD) → (F N.sw[us[i]].r).length < sizeLine →
        wSs G (.cons (.ife (.cmp .GtE (.var 7) (.var 2)) (.cons (.ex (.mt .append (.ix (.var 3) (.var 8)) (.cons (.tup (.cons (.var 9) (.cons (.var 7) (.cons (.var 5) .nil)))) .nil))) .nil) .nil) .nil) { nx := k, ct := k, rt := Rt A Q, bk := fun ρ A' => k ρ A', xe := fun _ _ _ => False }
          [some N.d, some u, some (.int (N.fs.length : Int)), some (.ls (rl N.nN fun i => .obj (A.length + i))), some (.int N.sw[us[i]].gate), some (.int (us[i] : Int)), some (.int (N.sw[us[i]].st : Int)), some (.int (N.sw[us[i]].l : Int)), some (.int (N.sw[us[i]].r : Int)), some (.int ((4 + N.sw[us[i]].st : Nat) : Int))] (hp A N.nN F) := by
      intro F hF hFl
      walk_at "px"
      by_cases hc : (N.fs.length : Int) ≤ (N.sw[us[i]].l : Int)
      · rw [decide_eq_true hc]
        walk_at "px"
        rw [L2.atI_nat (rl_get hw.2.1)]
        walk_at "px"
        refine ⟨q_rcA (hp_get hw.2.1), ?_⟩
        walk_at "px"
        rw [hp_get hw.2.1]
        refine ⟨hFl, ?_⟩
        rw [hp_set]
        refine hk _ _ ⟨hp_congr fun v hv => ?_, _, _, _, _, _, _, rfl⟩
        rw [← hF v hv]
        by_cases hv2 : v = N.sw[us[i]].r
        · rw [if_pos hv2, if_pos ⟨hv2, by omega⟩, hv2]; rfl
        · rw [if_neg hv2, if_neg (fun z => hv2 z.1)]
      · rw [decide_eq_false hc]
        refine hk _ _ ⟨hp_congr fun v hv => ?_, _, _, _, _, _, _, rfl⟩
        rw [← hF v hv, if_neg (fun z => hc (by omega))]
    have way_at : ∀ v, way1 N v us[i] = (if N.sw[us[i]].l = v ∧ N.fs.length ≤ N.sw[us[i]].r then [(4 + N.sw[us[i]].st, N.sw[us[i]].r, us[i])] else []) ++ (if N.sw[us[i]].r = v ∧ N.fs.length ≤ N.sw[us[i]].l then [(4 + N.sw[us[i]].st, N.sw[us[i]].l, us[i])] else []) := fun v => by
      unfold way1; rw [List.getElem?_eq_getElem hs]
    walk_at "px"
    rw [e4]
    by_cases hc : (N.fs.length : Int) ≤ (N.sw[us[i]].r : Int)
    · rw [decide_eq_true hc]
      walk_at "px"
      rw [L2.atI_nat (rl_get hw.1)]
      walk_at "px"
      refine ⟨q_rcA (hp_get hw.1), ?_⟩
      walk_at "px"
      rw [hp_get hw.1]
      refine ⟨hl1, ?_⟩
      rw [hp_set]
      refine go2 _ (fun v hv => ?_) ?_
      · rw [wy_take hi, way_at v, List.map_append]
        have hc' : N.fs.length ≤ N.sw[us[i]].r := by omega
        have n1 := hw.2.2
        have n2 : ¬ N.sw[us[i]].r = N.sw[us[i]].l := fun z => n1 z.symm
        by_cases h1 : v = N.sw[us[i]].l
        · subst h1
          simp [n1, n2, hc']; rfl
        · by_cases h2 : v = N.sw[us[i]].r
          · subst h2
            by_cases h3 : N.fs.length ≤ N.sw[us[i]].l
            · simp [n1, n2, h3]
            · simp [n1, n2, h3]
          · simp [h1, h2, Ne.symm h1, Ne.symm h2]
      · rw [if_neg (Ne.symm hw.2.2)]; exact hl2
    · rw [decide_eq_false hc]
      refine go2 _ (fun v hv => ?_) hl2
      rw [wy_take hi, way_at v, List.map_append, if_neg (fun z => hc (by omega) : ¬ (N.sw[us[i]].l = v ∧ N.fs.length ≤ N.sw[us[i]].r))]
      by_cases h2 : v = N.sw[us[i]].r ∧ N.fs.length ≤ N.sw[us[i]].l
      · rw [if_pos h2, if_pos ⟨h2.1.symm, h2.2⟩]; rfl
      · rw [if_neg h2, if_neg (fun z => h2 ⟨z.1.symm, z.2⟩)]; simp
  · rintro ρ A1 ⟨rfl, a, b, c, d, e, f, rfl⟩
    rw [List.take_length]
    refine .inr ⟨A, _, _, rfl, Nat.le_refl _, tame_self, ?_, q⟩
    exact fz_rows (fun v _ => pureDs_map fun _ _ => rfl)
end
end Nt
end TextNt4

section TextNt5
set_option autoImplicit false
set_option maxRecDepth 100000
set_option maxHeartbeats 4000000
set_option profiler true
set_option profiler.threshold 1000
namespace Nt
open PySem Px Pg Fl
local macro_rules | `(tactic| walk_at "px") => `(tactic| ((conv => whnf); repeat ((refine And.intro (by first | exact True.intro | exact Px.sz2 | exact Px.sz3 | exact Px.sz1 | exact Px.sz0 | exact Px.sz4 | exact Px.sz5 | exact Px.sz6 | exact Px.sz7 | exact Px.sz8 | exact Px.sz9 | decide) ?_); (conv => whnf))))
def eD (x : Nat × Int) : D := .tup [.int (x.1 : Int), .int x.2]
/-- the objects of a flood -/
def fH (A : Ht) (T : Tk) (s : S) : Ht := hp ((A ++ [.lst (rl T.n fun v => .int (s.f v : Int))]) ++ [.lst (rl T.n fun v => .int (s.rb v))]) 12 fun i => (s.b i).map eD
theorem fH_b {A : Ht} {T : Tk} {s : S} {i : Nat} (h : i < 12) : (fH A T s)[A.length + 2 + i]? = some (.lst ((s.b i).map eD)) := by
  have := hp_get (A := (A ++ [O.lst (rl T.n fun v => .int (s.f v : Int))]) ++ [.lst (rl T.n fun v => .int (s.rb v))]) (F := fun i => (s.b i).map eD) h
  unfold fH
  simpa using this
theorem fH_f {A : Ht} {T : Tk} {s : S} : (fH A T s)[A.length]? = some (.lst (rl T.n fun v => .int (s.f v : Int))) := by
  unfold fH
  rw [hp_old (by simp), List.getElem?_append_left (by simp), List.getElem?_concat_length]
theorem fH_r {A : Ht} {T : Tk} {s : S} : (fH A T s)[A.length + 1]? = some (.lst (rl T.n fun v => .int (s.rb v))) := by
  unfold fH
  rw [hp_old (by simp)]
  have : A.length + 1 = (A ++ [O.lst (rl T.n fun v => .int (s.f v : Int))]).length := by simp
  rw [this, List.getElem?_concat_length]
theorem fH_sb {A : Ht} {T : Tk} {s : S} {i : Nat} {x : List (Nat × Int)} : (fH A T s).set (A.length + 2 + i) (.lst (x.map eD)) = fH A T { s with b := fun j => if j = i then x else s.b j } := by
  have := hp_set (A := (A ++ [O.lst (rl T.n fun v => .int (s.f v : Int))]) ++ [.lst (rl T.n fun v => .int (s.rb v))]) (n := 12) (F := fun i => (s.b i).map eD) (i := i) (x := x.map eD)
  unfold fH
  rw [show A.length + 2 + i = ((A ++ [O.lst (rl T.n fun v => .int (s.f v : Int))]) ++ [O.lst (rl T.n fun v => .int (s.rb v))]).length + i by simp, this]
  exact hp_congr fun j _ => by by_cases h : j = i <;> simp [h]
theorem fH_sf {A : Ht} {T : Tk} {s : S} {v L : Nat} : (fH A T s).set A.length (.lst ((rl T.n fun v => D.int (s.f v : Int)).set v (.int (L : Int)))) = fH A T { s with f := fun u => if u = v then L else s.f u } := by
  unfold fH hp
  rw [List.append_assoc, List.append_assoc, List.set_append_right _ _ (by simp), Nat.sub_self]
  rw [List.append_assoc, List.append_assoc]
  simp only [List.singleton_append, List.set_cons_zero, rl_set]
  congr 3
  exact rl_congr fun j _ => by by_cases h : j = v <;> simp [h]
theorem fH_sr {A : Ht} {T : Tk} {s : S} {v : Nat} {k : Int} : (fH A T s).set (A.length + 1) (.lst ((rl T.n fun v => D.int (s.rb v)).set v (.int k))) = fH A T { s with rb := fun u => if u = v then k else s.rb u } := by
  unfold fH hp
  rw [List.append_assoc, List.append_assoc, List.set_append_right _ _ (by simp), show A.length + 1 - A.length = 1 by omega]
  rw [List.append_assoc, List.append_assoc]
  simp only [List.singleton_append, List.set_cons_zero, List.set_cons_succ, rl_set]
  congr 4
  exact rl_congr fun j _ => by by_cases h : j = v <;> simp [h]
section
variable {G : Env'}
theorem pureDs_rl {n : Nat} {F : Nat → D} (h : ∀ i, i < n → pureD (F i) = true) : pureDs (rl n F) = true := pureDs_map fun i hi => h i (List.mem_range.mp hi)
theorem begin_heap {A : Ht} {T : Tk} {i : Nat} : hp ((A ++ [O.lst (List.replicate T.n (D.int 0))]) ++ [O.lst (List.replicate T.n (D.int (-1)))]) 12 (fun b => (begb T i b).map eD) = fH A T ⟨fun _ => 0, fun _ => -1, begb T i⟩ := by
  unfold fH; rw [rl_const, rl_const]; rfl
theorem zip_rl {α : Type} {n : Nat} {F : Nat → D} : ((rl n F).zipIdx.map fun p => D.tup [.int (p.2 : Int), p.1]) = (List.range n).map fun v => .tup [.int (v : Int), F v] := by
  apply List.ext_getElem?
  intro i
  by_cases h : i < n
  · rw [List.getElem?_map, List.getElem?_zipIdx, rl_get h, List.getElem?_map, List.getElem?_range h]; simp
  · rw [List.getElem?_eq_none (by simpa using h), List.getElem?_eq_none (by simpa using h)]
theorem eD_at {l : List (Nat × Int)} {a : Nat} (h : a < l.length) : (l.map eD)[a]? = some (.tup [.int (l[a].1 : Int), .int l[a].2]) := by
  rw [List.getElem?_map, List.getElem?_eq_getElem h]; rfl
theorem b_flooded (k1 : G.ct "FEED_RANK" = some (.int 11)) : Pf G N_flooded ir_flooded con_flooded := by
  rintro ds A E Q ⟨T, d, e, rfl, hd, he, ok, q⟩
  have hn := ok.nl
  walk_at "px"
  refine .inl ?_
  walk_at "px"
  rw [rl_len, repI]
  refine ⟨by omega, by omega, szN (by simp; omega), nl_o ?_⟩
  walk_at "px"
  refine .inl ?_
  walk_at "px"
  rw [rl_len, repI]
  refine ⟨by omega, by omega, szN (by simp; omega), nl_o ?_⟩
  walk_at "px"
  rw [k1]
  refine ⟨by decide, by decide, ?_⟩
  refine comp_hp 12 (rng_map 12) (by decide) (fun i B k hk => ⟨by decide, nl_o hk⟩) ?_
  refine nl_v ?_
  have hl : ((A ++ [O.lst (List.replicate T.n (D.int 0))]) ++ [O.lst (List.replicate T.n (D.int (-1)))]).length = A.length + 2 := by simp
  rw [hl, show (A ++ [O.lst (List.replicate T.n (D.int 0))]).length = A.length + 1 by simp]
  refine varK_of (seqOf_nonX hd) (seqOf_wkd hd ?_)
  refine loop_i (List.range T.n) (fun v => D.tup [.int (v : Int), .int (T.st v : Int)]) (fun i ρ A' => A' = fH A T ⟨fun _ => 0, fun _ => -1, begb T i⟩ ∧ ∃ u v, ρ = [some (.ls (rl T.n fun v => .ls ((T.W v).map wD))), some d, some e, some (.obj A.length), some (.obj (A.length + 1)), some (.ls (rl 12 fun i => .obj (A.length + 2 + i))), none, u, v, none, none, none, none, none, none, none]) (zip_rl (α := Unit)) ⟨?_, none, none, rfl⟩ (fun _ _ _ _ => True.intro) ?_ ?_
  · rw [← begin_heap]; exact hp_congr fun i _ => rfl
  · rintro i hi ρ A1 k ⟨rfl, u, v, rfl⟩ hk
    have hi2 : i < T.n := by simpa using hi
    rw [List.getElem_range]
    have h11 := ok.s11 i hi2
    walk_at "px"
    rw [L2.atI_nat (rl_get (by omega : T.st i < 12))]
    refine ⟨q_rcA (fH_b (by omega)), ?_⟩
    walk_at "px"
    rw [fH_b (by omega)]
    refine ⟨szL ?_, ?_⟩
    · rw [List.length_map]
      show (begb T i (T.st i)).length ≤ _
      unfold begb
      rw [List.length_map]
      have := List.length_filter_le (fun v => decide (T.st v = T.st i)) (List.range i)
      rw [List.length_range] at this
      omega
    · have e1 : ((begb T i (T.st i)).map eD ++ [D.tup [.int (i : Int), .int (-1)]]) = (begb T i (T.st i) ++ [(i, -1)]).map eD := by rw [List.map_append]; rfl
      rw [show ((⟨fun _ => 0, fun _ => -1, begb T i⟩ : S).b (T.st i)) = begb T i (T.st i) from rfl]
      conv => whnf
      refine hk _ _ ⟨?_, _, _, rfl⟩
      refine Eq.trans (congrArg (fun x => (fH A T ⟨fun _ => 0, fun _ => -1, begb T i⟩).set (A.length + 2 + T.st i) (.lst x)) e1) ?_
      rw [fH_sb]
      congr 2
      funext b
      rw [begb_succ]
      by_cases h : b = T.st i
      · rw [if_pos h, if_pos h, h]
      · rw [if_neg h, if_neg h]
  · rintro ρ A1 ⟨rfl, u, v, rfl⟩
    rw [List.length_range]
    have kb := Kp.begin ok
    generalize (⟨fun _ => 0, fun _ => -1, begb T T.n⟩ : S) = s0 at kb
    walk_at "px"
    rw [k1]
    refine ⟨11, L2.RgC.neg (i := 11) (j := 0) (by decide) (by decide) (by decide) (by decide), ?_⟩
    refine loop_i (List.range 11) (fun i => D.int ((11 - i : Nat) : Int)) (fun i ρ A' => ∃ s o c, Kp T (11 - i) 0 s o c ∧ A' = fH A T s ∧ ∃ x6 x7 x8 x9 x10 x11 x12 x13 x14 x15, ρ = [some (.ls (rl T.n fun v => .ls ((T.W v).map wD))), some d, some e, some (.obj A.length), some (.obj (A.length + 1)), some (.ls (rl 12 fun i => .obj (A.length + 2 + i))), x6, x7, x8, x9, x10, x11, x12, x13, x14, x15]) ?_ ⟨s0, _, _, kb, rfl, _, _, _, _, _, _, _, _, _, _, rfl⟩ (fun _ _ _ _ => True.intro) ?_ ?_
    · rfl
    · rintro i hi ρ A1 k ⟨s, o, c, kp, rfl, x6, x7, x8, x9, x10, x11, x12, x13, x14, x15, rfl⟩ hk
      have hi2 : i < 11 := by simpa using hi
      rw [List.getElem_range]
      obtain ⟨L, hL, hL11, eL⟩ : ∃ L, 0 < L ∧ L ≤ 11 ∧ 11 - i = L := ⟨11 - i, by omega, by omega, rfl⟩
      rw [eL] at kp ⊢
      walk_at "px"
      rw [L2.atI_nat (rl_get (by omega : L < 12))]
      refine whl_go (fun m ρ A' => ∃ s o c a, Kp T L a s o c ∧ a ≤ (s.b L).length ∧ m = pot T s.f + ((s.b L).length - a) ∧ A' = fH A T s ∧ ∃ x7 x12 x13 x14 x15, ρ = [some (.ls (rl T.n fun v => .ls ((T.W v).map wD))), some d, some e, some (.obj A.length), some (.obj (A.length + 1)), some (.ls (rl 12 fun i => .obj (A.length + 2 + i))), x6, x7, x8, some (.int (L : Int)), some (.obj (A.length + 2 + L)), some (.int (a : Int)), x12, x13, x14, x15])
        (fun ρ A' => ∃ s o c, Kp T L (s.b L).length s o c ∧ A' = fH A T s ∧ ∃ x6 x7 x8 x9 x10 x11 x12 x13 x14 x15, ρ = [some (.ls (rl T.n fun v => .ls ((T.W v).map wD))), some d, some e, some (.obj A.length), some (.obj (A.length + 1)), some (.ls (rl 12 fun i => .obj (A.length + 2 + i))), x6, x7, x8, x9, x10, x11, x12, x13, x14, x15]) ⟨_, s, o, c, 0, kp, Nat.zero_le _, rfl, rfl, _, _, _, _, _, rfl⟩ ?_ ?_
      · rintro m ρ A1 kk fin ⟨s, o, c, a, kp, ha, rfl, rfl, x7, x12, x13, x14, x15, rfl⟩ hk2 hfin
        conv => whnf
        rw [fH_b (by omega)]
        conv => whnf
        rw [List.length_map]
        by_cases hlt : a < (s.b L).length
        · rw [decide_eq_true (by omega : (a : Int) < (((s.b L).length : Nat) : Int))]
          walk_at "px"
          rw [fH_b (by omega)]
          walk_at "px"
          rw [L2.atI_nat (eD_at hlt)]
          have hent := kp.ent L (s.b L)[a].1 (s.b L)[a].2 (List.getElem_mem hlt)
          have hv := hent.1
          generalize hx : (s.b L)[a] = x at hent hv
          obtain ⟨v, sw⟩ := x
          have hat : (s.b L)[a]? = some (v, sw) := by rw [List.getElem?_eq_getElem hlt, hx]
          dsimp only at hv
          conv => whnf
          refine ⟨True.intro, ?_⟩
          refine w_if (decide (s.f v = 0) && decide (T.fl v ≤ L)) (fun K hK => ?_) (fun hc => ?_) (fun hc => ?_)
          · walk_at "px"
            rw [fH_f]
            walk_at "px"
            rw [L2.atI_nat (rl_get hv)]
            walk_at "px"
            by_cases h0 : s.f v = 0
            · rw [decide_eq_true (by omega : (s.f v : Int) = 0)]
              rw [decide_eq_true h0] at hK
              have ed : decide ((T.fl v : Int) ≤ (L : Int)) = decide (T.fl v ≤ L) := by
                by_cases h : T.fl v ≤ L
                · rw [decide_eq_true h, decide_eq_true (by omega)]
                · rw [decide_eq_false h, decide_eq_false (by omega)]
              rcases he with rfl | rfl
              · walk_at "px"
                rw [L2.atI_nat (rl_get hv)]
                walk_at "px"
                rw [ed]; exact hK
              · walk_at "px"
                rw [L2.atI_nat (rl_get hv)]
                walk_at "px"
                rw [ed]; exact hK
            · rw [decide_eq_false (by omega : ¬ (s.f v : Int) = 0)]
              rw [decide_eq_false h0] at hK
              exact hK
          · simp only [Bool.and_eq_true, decide_eq_true_eq] at hc
            obtain ⟨h0, hf⟩ := hc
            have kp2 := kp.hit hL hL11 hat h0 hf (ok.wn v hv)
            have hp2 := pot_set (T := T) (f := s.f) hv h0 (by omega : L ≠ 0)
            walk_at "px"
            rw [fH_f]
            conv => whnf
            have ix : ∀ {α : Type} {l : List α} {v : Nat}, v < l.length → L2.ixN l.length (v : Int) = some v := fun h => by unfold L2.ixN; rw [if_pos (by omega), if_pos (by omega)]; simp
            rw [ix (by simpa using hv)]
            conv => whnf
            rw [fH_sf, fH_r]
            conv => whnf
            rw [ix (by simpa using hv)]
            walk_at "px"
            rw [L2.atI_nat (rl_get hv)]
            conv => whnf
            rw [fH_sr]
            refine loop_i (T.W v) wD (fun j ρ A' => A' = fH A T ⟨fun u => if u = v then L else s.f u, fun u => if u = v then sw else s.rb u, put L s.b ((T.W v).take j)⟩ ∧ ∃ x13 x14 x15, ρ = [some (.ls (rl T.n fun v => .ls ((T.W v).map wD))), some d, some e, some (.obj A.length), some (.obj (A.length + 1)), some (.ls (rl 12 fun i => .obj (A.length + 2 + i))), x6, some (.int (v : Int)), x8, some (.int (L : Int)), some (.obj (A.length + 2 + L)), some (.int ((a : Int) + 1)), some (.int sw), x13, x14, x15]) rfl ⟨rfl, _, _, _, rfl⟩ (fun _ _ _ _ => True.intro) ?_ ?_
            · rintro j hj ρ A1 k3 ⟨rfl, x13, x14, x15, rfl⟩ hk3
              obtain ⟨r, t, w, hw⟩ : ∃ r t w, (T.W v)[j] = (r, t, w) := ⟨_, _, _, rfl⟩
              rw [hw]
              have hmin : (if (r : Int) < (L : Int) then (r : Int) else (L : Int)) = ((min L r : Nat) : Int) := by
                by_cases h : r < L
                · rw [if_pos (by omega), Nat.min_eq_right (by omega)]
                · rw [if_neg (by omega), Nat.min_eq_left (by omega)]
              have hm12 : min L r < 12 := by omega
              walk_at "px"
              rw [hmin, L2.atI_nat (rl_get hm12)]
              refine ⟨q_rcA (fH_b hm12), ?_⟩
              walk_at "px"
              rw [fH_b hm12]
              refine ⟨?_, ?_⟩
              · rw [List.length_map]
                show (put L s.b ((T.W v).take j) (min L r)).length < _
                rw [put_at, List.length_append, List.length_map]
                have h1 := List.length_filter_le (fun w : Way => decide (min L r = min L w.1)) ((T.W v).take j)
                rw [List.length_take] at h1
                have h2 := kp.sz (min L r)
                have h3 := ok.wl v hv
                have : (1048576 : Nat) < PySem.sizeLine := by rw [PySem.sizeLine_eq]; decide
                omega
              · have e1 : ((put L s.b ((T.W v).take j) (min L r)).map eD ++ [D.tup [.int (t : Int), .int (w : Int)]]) = (put L s.b ((T.W v).take j) (min L r) ++ [(t, (w : Int))]).map eD := by rw [List.map_append]; rfl
                refine hk3 _ _ ⟨?_, _, _, _, rfl⟩
                refine Eq.trans (congrArg (fun x => (fH A T ⟨fun u => if u = v then L else s.f u, fun u => if u = v then sw else s.rb u, put L s.b ((T.W v).take j)⟩).set (A.length + 2 + min L r) (.lst x)) e1) ?_
                rw [fH_sb]
                congr 2
                funext b
                rw [List.take_succ_eq_append_getElem hj, hw]
                unfold put
                rw [List.foldl_append]
                show _ = (if b = min L r then _ else _)
                by_cases h : b = min L r
                · rw [if_pos h, if_pos h, h]
                · rw [if_neg h, if_neg h]
            · rintro ρ A1 ⟨rfl, x13, x14, x15, rfl⟩
              rw [List.take_length]
              refine hk2 _ _ (pot T (fun u => if u = v then L else s.f u) + ((put L s.b (T.W v) L).length - (a + 1))) ?_ ⟨_, _, _, a + 1, kp2, ?_, rfl, rfl, _, _, _, _, _, rfl⟩
              · rw [put_at, List.length_append, List.length_map]
                have h1 := List.length_filter_le (fun w : Way => decide (L = min L w.1)) (T.W v)
                omega
              · show a + 1 ≤ (put L s.b (T.W v) L).length
                rw [put_at, List.length_append]; omega
          · have hn : ¬ (s.f v = 0 ∧ T.fl v ≤ L) := fun z => by rw [decide_eq_true z.1, decide_eq_true z.2] at hc; cases hc
            refine hk2 _ _ (pot T s.f + ((s.b L).length - (a + 1))) (by omega) ⟨s, o, c, a + 1, kp.more hat hn, by omega, rfl, rfl, _, _, _, _, _, rfl⟩
        · rw [decide_eq_false (by omega : ¬ (a : Int) < (((s.b L).length : Nat) : Int))]
          have ea : a = (s.b L).length := by omega
          subst ea
          exact hfin _ _ ⟨s, o, c, kp, rfl, _, _, _, _, _, _, _, _, _, _, rfl⟩
      · rintro ρ A1 ⟨s, o, c, kp, rfl, y6, y7, y8, y9, y10, y11, y12, y13, y14, y15, rfl⟩
        refine hk _ _ ⟨s, o, c, ?_, rfl, _, _, _, _, _, _, _, _, _, _, rfl⟩
        obtain ⟨L', rfl⟩ : ∃ L', L = L' + 1 := ⟨L - 1, by omega⟩
        rw [show 11 - (i + 1) = L' by omega]
        exact kp.next
    · rintro ρ A1 ⟨s, o, c, kp, rfl, x6, x7, x8, x9, x10, x11, x12, x13, x14, x15, rfl⟩
      have kp : Kp T 0 0 s o c := by simpa using kp
      walk_at "px"
      refine .inr ⟨A, (fH A T s).drop A.length, .tup [.ls (rl T.n fun v => .int (s.f v : Int)), .ls (rl T.n fun v => .int (s.rb v))], ?_, Nat.le_refl _, tame_self, ?_, q s.f s.rb kp.ans⟩
      · unfold fH hp
        rw [List.append_assoc, List.append_assoc, List.drop_left]
      · have e1 : fzK A.length (fH A T s) 3 (.obj A.length) = some (.ls (rl T.n fun v => .int (s.f v : Int))) := by
          show (if A.length < A.length then _ else _) = _
          rw [if_neg (by omega)]
          dsimp only
          rw [fH_f]
          dsimp only
          rw [fzs_pure _ (pureDs_rl fun _ _ => rfl)]; rfl
        have e2 : fzK A.length (fH A T s) 3 (.obj (A.length + 1)) = some (.ls (rl T.n fun v => .int (s.rb v))) := by
          show (if A.length + 1 < A.length then _ else _) = _
          rw [if_neg (by omega)]
          dsimp only
          rw [fH_r]
          dsimp only
          rw [fzs_pure _ (pureDs_rl fun _ _ => rfl)]; rfl
        show Option.map D.tup ((fzK A.length (fH A T s) 3 (.obj A.length)).bind fun x => ((fzK A.length (fH A T s) 3 (.obj (A.length + 1))).bind fun y => some [y]).map fun xs => x :: xs) = _
        rw [e1, e2]; rfl
end
end Nt
end TextNt5

section TextNt6
set_option autoImplicit false
set_option maxRecDepth 100000
set_option maxHeartbeats 4000000
namespace Nt
open PySem Px Pg Fl
local macro_rules | `(tactic| walk_at "px") => `(tactic| ((conv => whnf); repeat ((refine And.intro (by first | exact True.intro | exact Px.sz2 | exact Px.sz3 | exact Px.sz1 | exact Px.sz0 | exact Px.sz4 | exact Px.sz5 | exact Px.sz6 | exact Px.sz7 | exact Px.sz8 | exact Px.sz9 | decide) ?_); (conv => whnf))))
/-- positions and held values, by number -/
def posL (N : Net) (p : Nat → Nat) : List D := rl N.sw.length fun s => .int (p s : Int)
def heldL (N : Net) (h : Nat → Nat) : List D := rl N.nN fun v => .int (h v : Int)
structure okP (N : Net) (p : Nat → Nat) : Prop where
  le : ∀ s, s < N.sw.length → p s ≤ 2
  tie : ∀ s (hs : s < N.sw.length), N.sw[s].kind = "tie" → p s = 1
structure okH (N : Net) (h : Nat → Nat) : Prop where
  le : ∀ v, v < N.nN → h v ≤ 2
  low : h 0 = 0
  high : h 1 = 1
theorem nL_rl (ns : List Nat) : nL ns = rl ns.length fun i => .int ((ns.getD i 0 : Nat) : Int) := by
  have := rl_of (nL ns) (fun i => D.int ((ns.getD i 0 : Nat) : Int)) fun i hi => by
    have h : i < ns.length := by simpa using hi
    simp [List.getElem?_eq_getElem h]
  simpa using this
theorem pos_iff {N : Net} {d : D} : isPos N d = true ↔ ∃ p, d = .tup (posL N p) ∧ okP N p := by
  constructor
  · intro h
    cases d <;> first | cases h; done | skip
    rename_i xs
    simp only [isPos, Bool.and_eq_true, decide_eq_true_eq, List.all_eq_true] at h
    obtain ⟨hl, ha⟩ := h
    have hv : xs.all isVal = true := by
      rw [List.all_eq_true]
      intro x hx
      obtain ⟨i, hi, rfl⟩ := List.getElem_of_mem hx
      have hz : i < (xs.zip N.sw).length := by simp; omega
      have := ha _ (List.getElem_mem hz)
      rw [List.getElem_zip] at this
      simp only [tieOk, Bool.and_eq_true] at this
      exact this.1
    obtain ⟨ns, rfl, hle⟩ := vals_nat hv
    have hl2 : ns.length = N.sw.length := by simpa using hl
    refine ⟨fun i => ns.getD i 0, by rw [nL_rl, hl2]; rfl, ⟨fun s hs => ?_, fun s hs ht => ?_⟩⟩
    · have : s < ns.length := by omega
      simp only [List.getD_eq_getElem?_getD, List.getElem?_eq_getElem this, Option.getD_some]
      exact hle _ (List.getElem_mem this)
    · have h2 : s < ns.length := by omega
      have hz : s < ((nL ns).zip N.sw).length := by simp; omega
      have := ha _ (List.getElem_mem hz)
      rw [List.getElem_zip] at this
      simp only [tieOk, ht, decide_true, Bool.true_and, Bool.and_eq_true, Bool.not_not, List.getElem_map, isI, decide_eq_true_eq] at this
      simp only [List.getD_eq_getElem?_getD, List.getElem?_eq_getElem h2, Option.getD_some]
      omega
  · rintro ⟨p, rfl, ok⟩
    simp only [isPos, posL, rl_len, decide_true, Bool.true_and, List.all_eq_true]
    intro x hx
    obtain ⟨i, hi, rfl⟩ := List.getElem_of_mem hx
    have hi2 : i < N.sw.length := by simp at hi; exact hi
    rw [List.getElem_zip]
    have e : (rl N.sw.length fun s => D.int (p s : Int))[i]'(by simpa using hi2) = .int (p i : Int) := rl_gt _
    simp only [e, tieOk, isVal, isI]
    have h1 := ok.le i hi2
    by_cases ht : N.sw[i].kind = "tie"
    · have := ok.tie i hi2 ht
      simp [ht, this]
    · simp [ht]; omega
theorem hel_iff {m : Nat} (hm : 2 ≤ m) {d : D} : isHel m d = true ↔ ∃ h : Nat → Nat, d = .tup (rl m fun v => .int (h v : Int)) ∧ (∀ v, v < m → h v ≤ 2) ∧ h 0 = 0 ∧ h 1 = 1 := by
  constructor
  · intro h
    cases d <;> first | cases h; done | skip
    rename_i xs
    simp only [isHel, Bool.and_eq_true, decide_eq_true_eq] at h
    obtain ⟨⟨⟨hl, hv⟩, h0⟩, h1⟩ := h
    obtain ⟨ns, rfl, hle⟩ := vals_nat hv
    have hl2 : ns.length = m := by simpa using hl
    subst hl2
    refine ⟨fun i => ns.getD i 0, by rw [nL_rl], fun v hv => ?_, ?_, ?_⟩
    · simp only [List.getD_eq_getElem?_getD, List.getElem?_eq_getElem hv, Option.getD_some]
      exact hle _ (List.getElem_mem hv)
    · rw [nL_get (by omega)] at h0
      have h0' := of_decide_eq_true h0
      simp only [List.getD_eq_getElem?_getD, List.getElem?_eq_getElem (show 0 < ns.length by omega), Option.getD_some]
      omega
    · rw [nL_get (by omega)] at h1
      have h1' := of_decide_eq_true h1
      simp only [List.getD_eq_getElem?_getD, List.getElem?_eq_getElem (show 1 < ns.length by omega), Option.getD_some]
      omega
  · rintro ⟨h, rfl, hle, h0, h1⟩
    simp only [isHel, rl_len, decide_true, Bool.true_and, rl_get (show 0 < m by omega), rl_get (show 1 < m by omega), isO, isI, h0, h1]
    simp only [Bool.and_eq_true, List.all_eq_true, decide_eq_true_eq]
    refine ⟨⟨fun x hx => ?_, by simp⟩, by simp⟩
    obtain ⟨v, hv, rfl⟩ := rl_mem.mp hx
    have := hle v hv
    simp [isVal]; omega
def closedN (N : Net) (p : Nat → Nat) : List Nat := (List.range N.sw.length).filter fun s => decide (p s = 1)
def likelyN (N : Net) (p : Nat → Nat) : List Nat := (List.range N.sw.length).filter fun s => !decide (p s = 0)
def firmT (N : Net) (p : Nat → Nat) : Tk := ⟨N.nN, wy N (closedN N p), rkN N, fun _ => 0⟩
def rootN (N : Net) (h : Nat → Nat) (v u : Nat) : Nat := if h u = v ∨ h u = 2 then rkN N u else 0
def mayT (N : Net) (p h : Nat → Nat) (v : Nat) (f : Nat → Nat) : Tk := ⟨N.nN, wy N (likelyN N p), rootN N h v, f⟩
theorem rkN_le {N : Net} (ok : N.ok) {v : Nat} (h : v < N.nN) : rkN N v ≤ 11 := by
  unfold rkN
  split
  · omega
  · have h3 : v - N.fs.length < N.ts.length := by unfold Net.nN at h; omega
    rw [List.getElem?_eq_getElem h3]
    have := ok.sz _ (List.getElem_mem h3)
    show (N.ts[v - N.fs.length]).2 ≤ 11
    omega
theorem wy_mem {N : Net} {us : List Nat} {u : Nat} {w : Way} (h : w ∈ wy N us u) : ∃ (hs : w.2.2 < N.sw.length), w.2.2 ∈ us ∧ w.1 = 4 + N.sw[w.2.2].st ∧ ((N.sw[w.2.2].l = u ∧ N.sw[w.2.2].r = w.2.1) ∨ (N.sw[w.2.2].r = u ∧ N.sw[w.2.2].l = w.2.1)) ∧ N.fs.length ≤ w.2.1 := by
  obtain ⟨s, hs, hw⟩ := List.mem_flatMap.mp h
  unfold way1 at hw
  split at hw
  · rename_i sw e
    obtain ⟨hs2, e2⟩ := List.getElem?_eq_some_iff.mp e
    subst e2
    rcases List.mem_append.mp hw with hw | hw
    · split at hw
      · rename_i hc
        have e3 := List.mem_singleton.mp hw
        subst e3
        exact ⟨hs2, hs, rfl, .inl ⟨hc.1, rfl⟩, hc.2⟩
      · cases hw
    · split at hw
      · rename_i hc
        have e3 := List.mem_singleton.mp hw
        subst e3
        exact ⟨hs2, hs, rfl, .inr ⟨hc.1, rfl⟩, hc.2⟩
      · cases hw
  · cases hw
theorem mem_wy {N : Net} {us : List Nat} {s : Nat} (h : s ∈ us) (hs : s < N.sw.length) : (N.fs.length ≤ N.sw[s].r → (4 + N.sw[s].st, N.sw[s].r, s) ∈ wy N us N.sw[s].l) ∧ (N.fs.length ≤ N.sw[s].l → (4 + N.sw[s].st, N.sw[s].l, s) ∈ wy N us N.sw[s].r) := by
  refine ⟨fun hc => List.mem_flatMap.mpr ⟨s, h, ?_⟩, fun hc => List.mem_flatMap.mpr ⟨s, h, ?_⟩⟩
  · unfold way1
    rw [List.getElem?_eq_getElem hs]
    exact List.mem_append_left _ (by rw [if_pos ⟨rfl, hc⟩]; simp)
  · unfold way1
    rw [List.getElem?_eq_getElem hs]
    exact List.mem_append_right _ (by rw [if_pos ⟨rfl, hc⟩]; simp)
theorem tk_ok {N : Net} (ok : N.ok) {us : List Nat} (hl : us.length ≤ 512) {st fl : Nat → Nat} (hst : ∀ v, v < N.nN → st v ≤ 11) : (⟨N.nN, wy N us, st, fl⟩ : Tk).ok := by
  refine ⟨?_, fun v hv => ?_, fun v hv w hw => ?_, hst⟩
  · have := ok.fl; have := ok.tl
    show N.nN ≤ 400
    unfold Net.nN; omega
  · have := wy_len (N := N) (u := v) us
    show (wy N us v).length ≤ 2000
    omega
  · obtain ⟨hs, _, _, hc, _⟩ := wy_mem hw
    have := ok.en _ (List.getElem_mem hs)
    show w.2.1 < N.nN
    rcases hc with ⟨_, e⟩ | ⟨_, e⟩ <;> omega
theorem closed_len {N : Net} (ok : N.ok) (p : Nat → Nat) : (closedN N p).length ≤ 512 := by
  have := List.length_filter_le (fun s => decide (p s = 1)) (List.range N.sw.length)
  rw [List.length_range] at this
  exact Nat.le_trans this ok.sl
theorem likely_len {N : Net} (ok : N.ok) (p : Nat → Nat) : (likelyN N p).length ≤ 512 := by
  have := List.length_filter_le (fun s => !decide (p s = 0)) (List.range N.sw.length)
  rw [List.length_range] at this
  exact Nat.le_trans this ok.sl
theorem firmT_ok {N : Net} (ok : N.ok) (p : Nat → Nat) : (firmT N p).ok := tk_ok ok (closed_len ok p) fun v hv => rkN_le ok hv
theorem root_le {N : Net} (ok : N.ok) {h : Nat → Nat} {v u : Nat} (hu : u < N.nN) : rootN N h v u ≤ 11 := by
  unfold rootN
  split
  · exact rkN_le ok hu
  · omega
theorem mayT_ok {N : Net} (ok : N.ok) (p h : Nat → Nat) (v : Nat) (f : Nat → Nat) : (mayT N p h v f).ok := tk_ok ok (likely_len ok p) fun u hu => root_le ok hu
def nu (s : Str) : D := .exn "NotUsable" ["word", "at"] [.str s, .int (-1)]
def con_firm_ranks : Con := fun ds A E Q => ∃ (N : Net) (p : Nat → Nat), ds = [N.d, .tup (posL N p)] ∧ N.ok ∧ ∀ f rb, Ans (firmT N p) f rb → Q (.ls (rl N.nN fun v => .int (f v : Int))) A
def con_likely_ways : Con := fun ds A E Q => ∃ (N : Net) (p : Nat → Nat), ds = [N.d, .tup (posL N p)] ∧ N.ok ∧ Q (.ls (rl N.nN fun v => .ls ((wy N (likelyN N p) v).map wD))) A
def con_root_ranks : Con := fun ds A E Q => ∃ (N : Net) (h : Nat → Nat) (v : Nat), ds = [N.d, .tup (heldL N h), .int (v : Int)] ∧ N.ok ∧ Q (.ls (rl N.nN fun u => .int (rootN N h v u : Int))) A
def con_firm : Con := fun ds A E Q => ∃ (N : Net) (d : D), ds = [N.d, d] ∧ N.ok ∧ pureD d = true ∧ (isPos N d = false → E (nu "positions") A) ∧ ∀ p f rb, d = .tup (posL N p) → okP N p → Ans (firmT N p) f rb → Q (.tup (rl N.nN fun v => .int (f v : Int))) A
def con_may : Con := fun ds A E Q => ∃ (N : Net) (d e g : D), ds = [N.d, d, e, g] ∧ N.ok ∧ pureD d = true ∧ pureD e = true ∧ pureD g = true ∧ (isPos N d = false → E (nu "positions") A) ∧ (isPos N d = true → isHel N.nN e = false → E (nu "held") A) ∧
  (isPos N d = true → isHel N.nN e = true → isKnw g = false → E (nu "value") A) ∧ ∀ p h v f rb m rb2, d = .tup (posL N p) → okP N p → e = .tup (heldL N h) → okH N h → g = .int ((v : Nat) : Int) → v ≤ 1 → Ans (firmT N p) f rb → Ans (mayT N p h v f) m rb2 → Q (.tup (rl N.nN fun v => .int (m v : Int))) A
theorem held_iff {N : Net} (ok : N.ok) {d : D} : isHel N.nN d = true ↔ ∃ h, d = .tup (heldL N h) ∧ okH N h := by
  have h2 : 2 ≤ N.nN := by have := ok.f2; unfold Net.nN; omega
  rw [hel_iff h2]
  constructor
  · rintro ⟨h, e, a, b, c⟩; exact ⟨h, e, a, b, c⟩
  · rintro ⟨h, e, a, b, c⟩; exact ⟨h, e, a, b, c⟩
theorem knw_iff {d : D} : isKnw d = true ↔ ∃ v : Nat, d = .int (v : Int) ∧ v ≤ 1 := by
  constructor
  · intro h
    cases d <;> first | cases h; done | skip
    rename_i i
    have h' : (decide (0 ≤ i) && decide (i ≤ 1)) = true := h
    simp only [Bool.and_eq_true, decide_eq_true_eq] at h'
    exact ⟨i.toNat, by rw [Int.toNat_of_nonneg h'.1], by omega⟩
  · rintro ⟨v, rfl, hv⟩
    show (decide ((0 : Int) ≤ (v : Int)) && decide ((v : Int) ≤ 1)) = true
    simp; omega
section
variable {G : Env'}
theorem pos_zip {N : Net} {p : Nat → Nat} : ((posL N p).zipIdx.map fun q => D.tup [.int (q.2 : Int), q.1]) = (List.range N.sw.length).map fun (s : Nat) => .tup [.int (s : Int), .int (p s : Int)] := zip_rl (α := Unit)
theorem nat_eq {a b : Nat} : decide ((a : Int) = (b : Int)) = decide (a = b) := Int.ofNat_inj'
theorem b_firm_ranks (g1 : G.con "node_ranks" = con_node_ranks) (g2 : G.con "ways_out" = con_ways_out) (g3 : G.con "flooded" = con_flooded) : Pf G N_firm_ranks ir_firm_ranks con_firm_ranks := by
  rintro ds A E Q ⟨N, p, rfl, ok, q⟩
  have hs := ok.sl
  have hn : N.nN ≤ 400 := (firmT_ok ok p).nl
  refine comp_f (List.range N.sw.length) (fun (s : Nat) => .tup [.int (s : Int), .int (p s : Int)]) (fun s => decide (p s = 1)) (fun (s : Nat) => .int (s : Int)) pos_zip True.intro (szN (by simp; omega)) (fun s hs k h1 h2 => ?_) ?_
  · walk_at "px"
    rw [show decide ((p s : Int) = 1) = decide (p s = 1) from nat_eq (b := 1)]
    cases h : decide (p s = 1) with
    | true => exact h1 h
    | false => exact h2 h
  · refine nl_v ?_
    refine use g1 ⟨N, rfl, ok, ?_⟩
    refine use g2 ⟨N, _, closedN N p, rfl, .inl rfl, ok, fun s hs => List.mem_range.mp (List.mem_filter.mp hs).1, by have := closed_len ok p; omega, ?_⟩
    walk_at "px"
    refine .inl ?_
    walk_at "px"
    unfold rkD
    rw [rl_len, repI]
    refine ⟨by omega, by omega, szN (by simp; omega), nl_v ?_⟩
    refine use g3 ⟨firmT N p, _, _, rfl, .inl rfl, .inl ?_, firmT_ok ok p, fun f rb a => ?_⟩
    · rw [rl_const]; rfl
    · exact .inl (q f rb a)
theorem b_likely_ways (g1 : G.con "ways_out" = con_ways_out) : Pf G N_likely_ways ir_likely_ways con_likely_ways := by
  rintro ds A E Q ⟨N, p, rfl, ok, q⟩
  have hs := ok.sl
  refine comp_f (List.range N.sw.length) (fun (s : Nat) => .tup [.int (s : Int), .int (p s : Int)]) (fun s => !decide (p s = 0)) (fun (s : Nat) => .int (s : Int)) pos_zip True.intro (szN (by simp; omega)) (fun s hs k h1 h2 => ?_) ?_
  · walk_at "px"
    rw [show decide ((p s : Int) = 0) = decide (p s = 0) from nat_eq (b := 0)]
    cases h : decide (p s = 0) with
    | true => exact h2 (by rw [h]; rfl)
    | false => exact h1 (by rw [h]; rfl)
  · refine nl_v ?_
    exact use g1 ⟨N, _, likelyN N p, rfl, .inl rfl, ok, fun s hs => List.mem_range.mp (List.mem_filter.mp hs).1, by have := likely_len ok p; omega, .inl q⟩
theorem rl_zip {n : Nat} {F H : Nat → D} : (((rl n F).zip (rl n H)).map fun p => D.tup [p.1, p.2]) = (List.range n).map fun v => .tup [F v, H v] := by
  apply List.ext_getElem?
  intro i
  by_cases h : i < n
  · have e : ((rl n F).zip (rl n H))[i]? = some (F i, H i) := List.getElem?_zip_eq_some.mpr ⟨rl_get h, rl_get h⟩
    rw [List.getElem?_map, e, List.getElem?_map, List.getElem?_range h]; simp
  · rw [List.getElem?_eq_none (by simpa using h), List.getElem?_eq_none (by simpa using h)]
theorem b_root_ranks (g1 : G.con "node_ranks" = con_node_ranks) : Pf G N_root_ranks ir_root_ranks con_root_ranks := by
  rintro ds A E Q ⟨N, h, v, rfl, ok, q⟩
  have hn : N.nN ≤ 400 := (firmT_ok ok (fun _ => 0)).nl
  refine use g1 ⟨N, rfl, ok, ?_⟩
  refine comp_m (List.range N.nN) (fun (u : Nat) => .tup [.int (rkN N u : Int), .int (h u : Int)]) (fun (u : Nat) => .int (rootN N h v u : Int)) rl_zip ⟨True.intro, True.intro⟩ (szN (by simp; omega)) (fun u hu k hk => ?_) ?_
  · refine w_ite (decide (h u = v ∨ h u = 2)) (fun K hK => ?_) (fun hc => ?_) (fun hc => ?_)
    · walk_at "px"
      have e : ((v : Int) == (h u : Int) || ((2 : Int) == (h u : Int) || false)) = decide (h u = v ∨ h u = 2) := by
        rw [Bool.or_false, Bool.eq_iff_iff]
        simp; omega
      refine ⟨rfl, rfl, ?_⟩
      show K ((v : Int) == (h u : Int) || ((2 : Int) == (h u : Int) || false)) A
      rw [e]; exact hK
    · have hc' := of_decide_eq_true hc
      rw [show rootN N h v u = rkN N u by unfold rootN; rw [if_pos hc']] at hk
      exact hk
    · have hc' := of_decide_eq_false hc
      rw [show rootN N h v u = 0 by unfold rootN; rw [if_neg hc']] at hk
      exact hk
  · exact nl_v (.inl q)
/-- the first line of a def of positions -/
theorem b_firm (n1 : G.fds "NotUsable" = (["word", "at"] : List Str)) (g1 : G.con "is_positions" = con_is_positions) (g2 : G.con "firm_ranks" = con_firm_ranks) : Pf G N_firm ir_firm con_firm := by
  rintro ds A E Q ⟨N, d, rfl, ok, pd, q1, q2⟩
  refine w_if (!isPos N d) (fun K hK => varK_of (pure_nonX pd) (use g1 ⟨N, d, rfl, ok, pd, hK⟩)) (fun hc => ?_) (fun hc => ?_)
  · refine ⟨by rw [n1]; rfl, Nat.succ_pos _, ?_⟩
    rw [n1]
    exact .inl (q1 (by simpa using hc))
  · have hp : isPos N d = true := by simpa using hc
    obtain ⟨p, rfl, okp⟩ := pos_iff.mp hp
    exact use g2 ⟨N, p, rfl, ok, fun f rb a => .inl (q2 p f rb rfl okp a)⟩
theorem b_may (n1 : G.fds "NotUsable" = (["word", "at"] : List Str)) (g1 : G.con "is_positions" = con_is_positions) (g2 : G.con "is_held" = con_is_held) (g3 : G.con "is_known" = con_is_known) (g4 : G.con "likely_ways" = con_likely_ways) (g5 : G.con "root_ranks" = con_root_ranks) (g6 : G.con "firm_ranks" = con_firm_ranks) (g7 : G.con "flooded" = con_flooded) : Pf G N_may ir_may con_may := by
  rintro ds A E Q ⟨N, d, e, g, rfl, ok, pd, pe, pg, q1, q2, q3, q4⟩
  refine w_if (!isPos N d) (fun K hK => varK_of (pure_nonX pd) (use g1 ⟨N, d, rfl, ok, pd, hK⟩)) (fun hc => ?_) (fun hc => ?_)
  · refine ⟨by rw [n1]; rfl, Nat.succ_pos _, ?_⟩
    rw [n1]
    exact .inl (q1 (by simpa using hc))
  have hp : isPos N d = true := by simpa using hc
  refine w_if (!isHel N.nN e) (fun K hK => varK_of (pure_nonX pe) (use g2 ⟨N, e, rfl, ok, pe, hK⟩)) (fun hc => ?_) (fun hc => ?_)
  · refine ⟨by rw [n1]; rfl, Nat.succ_pos _, ?_⟩
    rw [n1]
    exact .inl (q2 hp (by simpa using hc))
  have hh : isHel N.nN e = true := by simpa using hc
  refine w_if (!isKnw g) (fun K hK => varK_of (pure_nonX pg) (use g3 ⟨g, rfl, pg, hK⟩)) (fun hc => ?_) (fun hc => ?_)
  · refine ⟨by rw [n1]; rfl, Nat.succ_pos _, ?_⟩
    rw [n1]
    exact .inl (q3 hp hh (by simpa using hc))
  have hk : isKnw g = true := by simpa using hc
  obtain ⟨p, rfl, okp⟩ := pos_iff.mp hp
  obtain ⟨h, rfl, okh⟩ := (held_iff ok).mp hh
  obtain ⟨v, rfl, hv⟩ := knw_iff.mp hk
  refine use g4 ⟨N, p, rfl, ok, ?_⟩
  refine use g5 ⟨N, h, v, rfl, ok, ?_⟩
  refine use g6 ⟨N, p, rfl, ok, fun f rb a => ?_⟩
  refine use g7 ⟨mayT N p h v f, _, _, rfl, .inl rfl, .inl rfl, mayT_ok ok p h v f, fun m rb2 a2 => ?_⟩
  exact .inl (q4 p h v f rb m rb2 rfl okp rfl okh rfl hv a a2)
end
end Nt
end TextNt6

section TextNt7
set_option autoImplicit false
set_option maxRecDepth 100000
set_option maxHeartbeats 4000000
/-! Nt7: may papers and their judge. -/
namespace Nt
open PySem Px Pg Fl
local macro_rules | `(tactic| walk_at "px") => `(tactic| ((conv => whnf); repeat ((refine And.intro (by first | exact True.intro | exact Px.sz2 | exact Px.sz3 | exact Px.sz1 | exact Px.sz0 | exact Px.sz4 | exact Px.sz5 | exact Px.sz6 | exact Px.sz7 | exact Px.sz8 | exact Px.sz9 | decide) ?_); (conv => whnf))))
theorem cut_from {n a : Nat} {F : Nat → D} (h : a ≤ n) : cutD (rl n F) (some (a : Int)) none = rl (n - a) fun i => F (a + i) := by
  unfold cutD
  rw [HT.sIx_nat, HT.sIx_none, rl_len, Nat.min_eq_left h]
  apply List.ext_getElem?
  intro i
  by_cases hi : i < n - a
  · rw [List.getElem?_take_of_lt hi, List.getElem?_drop, rl_get (by omega), rl_get hi]
  · rw [List.getElem?_eq_none (by simp; omega), List.getElem?_eq_none (by simpa using hi)]
def colL (N : Net) (c : Nat → Nat) : List D := rl N.ts.length fun k => .int (c k : Int)
theorem col_iff {m : Nat} {d : D} : isCol m d = true ↔ ∃ c : Nat → Nat, d = .tup (rl m fun k => .int (c k : Int)) := by
  constructor
  · intro h
    cases d <;> first | cases h; done | skip
    rename_i xs
    simp only [isCol, Bool.and_eq_true, decide_eq_true_eq] at h
    obtain ⟨ns, rfl⟩ := nums_nat h.2
    have hl : ns.length = m := by simpa using h.1
    subst hl
    exact ⟨fun i => ns.getD i 0, by rw [nL_rl]⟩
  · rintro ⟨c, rfl⟩
    simp only [isCol, rl_len, decide_true, Bool.true_and, List.all_eq_true]
    intro x hx
    obtain ⟨i, _, rfl⟩ := rl_mem.mp hx
    exact num_ok
/-- may a node have the value at first -/
def hasV (h : Nat → Nat) (v u : Nat) : Bool := decide (h u = v ∨ h u = 2)
def feedN (h : Nat → Nat) (v u : Nat) : Nat := if hasV h v u then 11 else 0
def numsN (N : Net) (h : Nat → Nat) (v : Nat) (c : Nat → Nat) (u : Nat) : Nat := if u < N.fs.length then feedN h v u else c (u - N.fs.length)
/-- the sentences of a may paper -/
def beginsN (N : Net) (h : Nat → Nat) (v : Nat) (r c : Nat → Nat) (k : Nat) : Bool := !(hasV h v (N.fs.length + k) && decide (r k ≤ rkN N (N.fs.length + k)) && decide (c k < rkN N (N.fs.length + k)))
def stepN (N : Net) (r m : Nat → Nat) (g a b : Nat) : Bool := !(decide (N.fs.length ≤ b) && decide (r (b - N.fs.length) ≤ min (m a) g) && decide (m b < min (m a) g))
def goesN (N : Net) (p r m : Nat → Nat) (s : Nat) : Bool := match N.sw[s]? with
  | some w => decide (p s = 0) || stepN N r m (4 + w.st) w.l w.r && stepN N r m (4 + w.st) w.r w.l
  | none => true
def takesM (N : Net) (p h : Nat → Nat) (v : Nat) (r c : Nat → Nat) : Bool := (List.range N.ts.length).all (beginsN N h v r c) && (List.range N.sw.length).all (goesN N p r (numsN N h v c))
def con_may_paper : Con := fun ds A E Q => ∃ (N : Net) (d e g : D), ds = [N.d, d, e, g] ∧ N.ok ∧ pureD d = true ∧ pureD e = true ∧ pureD g = true ∧ (isPos N d = false → E (nu "positions") A) ∧ (isPos N d = true → isHel N.nN e = false → E (nu "held") A) ∧
  (isPos N d = true → isHel N.nN e = true → isKnw g = false → E (nu "value") A) ∧ ∀ p h v f rb m rb2, d = .tup (posL N p) → okP N p → e = .tup (heldL N h) → okH N h → g = .int ((v : Nat) : Int) → v ≤ 1 → Ans (firmT N p) f rb → Ans (mayT N p h v f) m rb2 → Q (.tup (colL N fun k => m (N.fs.length + k))) A
def con__feed_numbers : Con := fun ds A E Q => ∃ (N : Net) (h : Nat → Nat) (v : Nat), ds = [N.d, .tup (heldL N h), .int (v : Int)] ∧ N.ok ∧ Q (.ls (rl N.fs.length fun u => .int (feedN h v u : Int))) A
def con__begins_well : Con := fun ds A E Q => ∃ (N : Net) (h : Nat → Nat) (v : Nat) (r c : Nat → Nat), ds = [N.d, .tup (heldL N h), .int (v : Int), .tup (colL N r), .tup (colL N c)] ∧ N.ok ∧ Q (.bl ((List.range N.ts.length).all (beginsN N h v r c))) A
def con__goes_on_well : Con := fun ds A E Q => ∃ (N : Net) (p r m : Nat → Nat), ds = [N.d, .tup (posL N p), .tup (colL N r), .ls (rl N.nN fun u => .int (m u : Int))] ∧ N.ok ∧ Q (.bl ((List.range N.sw.length).all (goesN N p r m))) A
def con_judge_may : Con := fun ds A E Q => ∃ (N : Net) (d e g r0 w : D), ds = [N.d, d, e, g, r0, w] ∧ N.ok ∧ pureD d = true ∧ pureD e = true ∧ pureD g = true ∧ pureD r0 = true ∧ pureD w = true ∧ (isPos N d = false → E (nu "positions") A) ∧ (isPos N d = true → isHel N.nN e = false → E (nu "held") A) ∧
  (isPos N d = true → isHel N.nN e = true → isKnw g = false → E (nu "value") A) ∧ (isPos N d = true → isHel N.nN e = true → isKnw g = true → isCol N.ts.length r0 = false → E (nu "ranks") A) ∧
  (isPos N d = true → isHel N.nN e = true → isKnw g = true → isCol N.ts.length r0 = true → isCol N.ts.length w = false → Q .non A) ∧
  ∀ p h v r c, d = .tup (posL N p) → okP N p → e = .tup (heldL N h) → okH N h → g = .int ((v : Nat) : Int) → v ≤ 1 → r0 = .tup (colL N r) → w = .tup (colL N c) → Q (if takesM N p h v r c then w else .non) A
section
variable {G : Env'}
theorem b_may_paper (g1 : G.con "may" = con_may) : Pf G N_may_paper ir_may_paper con_may_paper := by
  rintro ds A E Q ⟨N, d, e, g, rfl, ok, pd, pe, pg, q1, q2, q3, q4⟩
  have hx : N.fs.length ≤ N.nN := by unfold Net.nN; omega
  refine varK_of (pure_nonX pd) (varK_of (pure_nonX pe) (varK_of (pure_nonX pg) (use g1 ⟨N, d, e, g, rfl, ok, pd, pe, pg, fun h => .inl (q1 h), fun h1 h2 => .inl (q2 h1 h2), fun h1 h2 h3 => .inl (q3 h1 h2 h3), fun p h v f rb m rb2 e1 e2 e3 e4 e5 e6 a1 a2 => ?_⟩)))
  walk_at "px"
  rw [fD_i, cut_from hx, show N.nN - N.fs.length = N.ts.length by unfold Net.nN; omega]
  exact .inl (q4 p h v f rb m rb2 e1 e2 e3 e4 e5 e6 a1 a2)
theorem in_two {h : Nat → Nat} {v u : Nat} : ((v : Int) == (h u : Int) || ((2 : Int) == (h u : Int) || false)) = hasV h v u := by
  unfold hasV
  rw [Bool.or_false, Bool.eq_iff_iff]
  simp; omega
theorem b__feed_numbers (g1 : G.con "rank_of" = con_rank_of) : Pf G N__feed_numbers ir__feed_numbers con__feed_numbers := by
  rintro ds A E Q ⟨N, h, v, rfl, ok, q⟩
  have hfl := ok.fl
  have hx : N.fs.length ≤ N.nN := by unfold Net.nN; omega
  walk_at "px"
  rw [fD_i, Int.toNat_natCast]
  refine ⟨by omega, by omega, ?_⟩
  refine comp_m (List.range N.fs.length) (fun (u : Nat) => D.int (u : Int)) (fun (u : Nat) => .int (feedN h v u : Int)) (rng_map _) True.intro (szN (by simp; omega)) (fun u hu k hk => ?_) (nl_v (.inl q))
  have hu2 : u < N.fs.length := List.mem_range.mp hu
  refine w_ite (hasV h v u) (fun K hK => ?_) (fun hc => ?_) (fun hc => ?_)
  · walk_at "px"
    unfold heldL
    rw [L2.atI_nat (rl_get (by omega : u < N.nN))]
    walk_at "px"
    refine ⟨rfl, rfl, ?_⟩
    show K ((v : Int) == (h u : Int) || ((2 : Int) == (h u : Int) || false)) A
    rw [in_two]; exact hK
  · refine use g1 ⟨N, u, rfl, ok, by omega, ?_⟩
    have e : rkN N u = 11 := by unfold rkN; rw [if_pos hu2]
    have e2 : feedN h v u = 11 := by unfold feedN; rw [if_pos hc]
    rw [e]; rw [e2] at hk; exact hk
  · have e2 : feedN h v u = 0 := by unfold feedN; rw [if_neg (by rw [hc]; simp)]
    rw [e2] at hk; exact hk
theorem b__begins_well (g1 : G.con "rank_of" = con_rank_of) : Pf G N__begins_well ir__begins_well con__begins_well := by
  rintro ds A E Q ⟨N, h, v, r, c, rfl, ok, q⟩
  have htl := ok.tl
  walk_at "px"
  unfold colL heldL
  rw [rl_len, Int.toNat_natCast, fD_i]
  refine ⟨by omega, by omega, ?_⟩
  refine loop_all (List.range N.ts.length) (fun (k : Nat) => D.int (k : Int)) (beginsN N h v r c) (fun ρ A' => A' = A ∧ ∃ x y, ρ = [some N.d, some (.tup (rl N.nN fun v => .int (h v : Int))), some (.int (v : Int)), some (.tup (rl N.ts.length fun k => .int (r k : Int))), some (.tup (rl N.ts.length fun k => .int (c k : Int))), some (.int (N.fs.length : Int)), x, y]) (rng_map _) ⟨rfl, _, _, rfl⟩ (fun _ _ _ => True.intro) ?_ ?_
  · rintro k hk ρ A1 K ⟨rfl, x, y, rfl⟩ bad hgo
    have hk2 : k < N.ts.length := List.mem_range.mp hk
    have hkn : N.fs.length + k < N.nN := by unfold Net.nN; omega
    have e1 : (N.fs.length : Int) + (k : Int) = ((N.fs.length + k : Nat) : Int) := by simp
    walk_at "px"
    rw [e1]
    refine use g1 ⟨N, N.fs.length + k, rfl, ok, hkn, ?_⟩
    refine w_if (!beginsN N h v r c k) (fun K2 hK => ?_) (fun hc => ?_) (fun hc => ?_)
    · walk_at "px"
      rw [e1, L2.atI_nat (rl_get hkn)]
      walk_at "px"
      refine ⟨rfl, rfl, ?_⟩
      show (if ((v : Int) == (h (N.fs.length + k) : Int) || ((2 : Int) == (h (N.fs.length + k) : Int) || false)) = true then _ else _)
      rw [in_two]
      cases h1 : hasV h v (N.fs.length + k) with
      | false =>
        have : beginsN N h v r c k = true := by simp [beginsN, h1]
        rw [this] at hK; exact hK
      | true =>
        walk_at "px"
        rw [L2.atI_nat (rl_get hk2)]
        walk_at "px"
        by_cases h2 : r k ≤ rkN N (N.fs.length + k)
        · rw [decide_eq_true (by omega : (r k : Int) ≤ (rkN N (N.fs.length + k) : Int))]
          walk_at "px"
          rw [L2.atI_nat (rl_get hk2)]
          walk_at "px"
          have : beginsN N h v r c k = !decide ((c k : Int) < (rkN N (N.fs.length + k) : Int)) := by simp [beginsN, h1, h2]
          rw [this, Bool.not_not] at hK; exact hK
        · rw [decide_eq_false (by omega : ¬ (r k : Int) ≤ (rkN N (N.fs.length + k) : Int))]
          have : beginsN N h v r c k = true := by simp [beginsN, h2]
          rw [this] at hK; exact hK
    · rw [bad (by simpa using hc)] at q
      exact .inl q
    · exact hgo (by simpa using hc) _ _ ⟨rfl, _, _, rfl⟩
  · rintro hall ρ A1 ⟨rfl, x, y, rfl⟩
    rw [hall] at q
    exact .inl q
theorem b__goes_on_well (g1 : G.con "switch_rank" = con_switch_rank) : Pf G N__goes_on_well ir__goes_on_well con__goes_on_well := by
  rintro ds A E Q ⟨N, p, r, m, rfl, ok, q⟩
  have hsl := ok.sl
  walk_at "px"
  unfold colL posL
  rw [rl_len, Int.toNat_natCast, fD_i]
  refine ⟨by omega, by omega, ?_⟩
  refine loop_all (List.range N.sw.length) (fun (k : Nat) => D.int (k : Int)) (goesN N p r m) (fun ρ A' => A' = A ∧ ∃ x5 x6 x7 x8 x9 x10 x11, ρ = [some N.d, some (.tup (rl N.sw.length fun v => .int (p v : Int))), some (.tup (rl N.ts.length fun k => .int (r k : Int))), some (.ls (rl N.nN fun k => .int (m k : Int))), some (.int (N.fs.length : Int)), x5, x6, x7, x8, x9, x10, x11]) (rng_map _) ⟨rfl, _, _, _, _, _, _, _, rfl⟩ (fun _ _ _ => True.intro) ?_ ?_
  · rintro s hs ρ A1 K ⟨rfl, x5, x6, x7, x8, x9, x10, x11, rfl⟩ bad hgo
    have hs2 : s < N.sw.length := List.mem_range.mp hs
    have hw := ok.en _ (List.getElem_mem hs2)
    have eg : goesN N p r m s = (decide (p s = 0) || stepN N r m (4 + N.sw[s].st) N.sw[s].l N.sw[s].r && stepN N r m (4 + N.sw[s].st) N.sw[s].r N.sw[s].l) := by unfold goesN; rw [List.getElem?_eq_getElem hs2]
    have est : stN N s = N.sw[s].st := by unfold stN; rw [List.getElem?_eq_getElem hs2]
    refine w_if (!decide (p s = 0)) (fun K2 hK => ?_) (fun hc => ?_) (fun hc => ?_)
    · walk_at "px"
      rw [L2.atI_nat (rl_get hs2)]
      walk_at "px"
      rw [show decide ((p s : Int) = 0) = decide (p s = 0) from nat_eq (b := 0)]
      exact hK
    · have hp : decide (p s = 0) = false := by simpa using hc
      rw [hp, Bool.false_or] at eg
      walk_at "px"
      rw [L2.atI_nat (sD_at hs2)]
      walk_at "px"
      refine use g1 ⟨N, s, rfl, ok, hs2, ?_⟩
      rw [est]
      generalize hg : 4 + N.sw[s].st = gr at eg
      generalize hl : N.sw[s].l = l at eg hw
      generalize hr : N.sw[s].r = rr at eg hw
      have test : ∀ (a b : Nat) (ρ' : Rho) (X : D → Ht → Prop) (K2 : Bool → Ht → Prop), a < N.nN → b < N.nN → ρ'[2]? = some (some (.tup (rl N.ts.length fun k => .int (r k : Int)))) → ρ'[3]? = some (some (.ls (rl N.nN fun k => .int (m k : Int)))) → ρ'[4]? = some (some (.int (N.fs.length : Int))) → ρ'[10]? = some (some (.int (b : Int))) → ρ'[11]? = some (some (.int ((min (m a) gr : Nat) : Int))) →
          K2 (!stepN N r m gr a b) A1 → wT G (.andv (.cmp .GtE (.var 10) (.var 4)) (.andv (.cmp .GtE (.var 11) (.ix (.var 2) (.bin .Sub (.var 10) (.var 4)))) (.cmp .Lt (.ix (.var 3) (.var 10)) (.var 11)))) ρ' A1 X K2 := by
        intro a b ρ' X K2 ha hb e2 e3 e4 e10 e11 hK
        conv => whnf
        rw [e10]
        conv => whnf
        rw [e4]
        conv => whnf
        by_cases h1 : N.fs.length ≤ b
        · rw [decide_eq_true (by omega : (N.fs.length : Int) ≤ (b : Int))]
          conv => whnf
          rw [e11]
          conv => whnf
          rw [e2]
          conv => whnf
          rw [e10]
          conv => whnf
          rw [e4]
          conv => whnf
          rw [show (b : Int) - (N.fs.length : Int) = ((b - N.fs.length : Nat) : Int) by omega, L2.atI_nat (rl_get (by unfold Net.nN at hb; omega))]
          conv => whnf
          by_cases h2 : r (b - N.fs.length) ≤ min (m a) gr
          · rw [decide_eq_true (by omega : (r (b - N.fs.length) : Int) ≤ ((min (m a) gr : Nat) : Int))]
            conv => whnf
            rw [e3]
            conv => whnf
            rw [e10]
            conv => whnf
            rw [L2.atI_nat (rl_get hb)]
            conv => whnf
            rw [e11]
            conv => whnf
            have : stepN N r m gr a b = !decide ((m b : Int) < ((min (m a) gr : Nat) : Int)) := by
              simp only [stepN, h1, h2, decide_true, Bool.true_and]
              congr 1
              by_cases h3 : m b < min (m a) gr
              · rw [decide_eq_true h3, decide_eq_true (by omega)]
              · rw [decide_eq_false h3, decide_eq_false (by omega)]
            rw [this, Bool.not_not] at hK; exact hK
          · rw [decide_eq_false (by omega : ¬ (r (b - N.fs.length) : Int) ≤ ((min (m a) gr : Nat) : Int))]
            have : stepN N r m gr a b = true := by simp [stepN, h2]
            rw [this] at hK; exact hK
        · rw [decide_eq_false (by omega : ¬ (N.fs.length : Int) ≤ (b : Int))]
          have : stepN N r m gr a b = true := by simp [stepN, h1]
          rw [this] at hK; exact hK
      have hmin : ∀ a : Nat, (if (gr : Int) < (m a : Int) then (gr : Int) else (m a : Int)) = ((min (m a) gr : Nat) : Int) := fun a => by
        by_cases h : gr < m a
        · rw [if_pos (by omega), Nat.min_eq_right (by omega)]
        · rw [if_neg (by omega), Nat.min_eq_left (by omega)]
      walk_at "px"
      rw [L2.atI_nat (rl_get hw.1)]
      refine w_if (!stepN N r m gr l rr) (fun K2 hK => test l rr _ _ K2 hw.1 hw.2.1 rfl rfl rfl rfl (congrArg (fun x => some (some (D.int x))) (hmin l)) hK) (fun hc => ?_) (fun hc => ?_)
      · have : goesN N p r m s = false := by rw [eg, show stepN N r m gr l rr = false by simpa using hc]; rfl
        rw [bad this] at q
        exact .inl q
      have h1 : stepN N r m gr l rr = true := by simpa using hc
      walk_at "px"
      rw [L2.atI_nat (rl_get hw.2.1)]
      refine w_if (!stepN N r m gr rr l) (fun K2 hK => test rr l _ _ K2 hw.2.1 hw.1 rfl rfl rfl rfl (congrArg (fun x => some (some (D.int x))) (hmin rr)) hK) (fun hc => ?_) (fun hc => ?_)
      · have : goesN N p r m s = false := by rw [eg, show stepN N r m gr rr l = false by simpa using hc, Bool.and_false]
        rw [bad this] at q
        exact .inl q
      have h2 : stepN N r m gr rr l = true := by simpa using hc
      refine ⟨True.intro, ?_⟩
      exact hgo (by rw [eg, h1, h2]; rfl) _ _ ⟨rfl, _, _, _, _, _, _, _, rfl⟩
    · have hp : decide (p s = 0) = true := by simpa using hc
      exact hgo (by rw [eg, hp]; rfl) _ _ ⟨rfl, _, _, _, _, _, _, _, rfl⟩
  · rintro hall ρ A1 ⟨rfl, x5, x6, x7, x8, x9, x10, x11, rfl⟩
    rw [hall] at q
    exact .inl q
theorem nums_eq (N : Net) (h : Nat → Nat) (v : Nat) (c : Nat → Nat) : (rl N.fs.length fun u => D.int (feedN h v u : Int)) ++ colL N c = rl N.nN fun u => .int (numsN N h v c u : Int) := by
  apply List.ext_getElem?
  intro i
  unfold colL
  by_cases hi : i < N.nN
  · rw [rl_get hi]
    unfold numsN
    by_cases h2 : i < N.fs.length
    · rw [List.getElem?_append_left (by simpa using h2), rl_get h2, if_pos h2]
    · rw [List.getElem?_append_right (by simpa using h2), rl_len, rl_get (by unfold Net.nN at hi; omega), if_neg h2]
  · rw [List.getElem?_eq_none (by simp; unfold Net.nN at hi; omega), List.getElem?_eq_none (by simpa using hi)]
theorem b_judge_may (n1 : G.fds "NotUsable" = (["word", "at"] : List Str)) (g1 : G.con "is_positions" = con_is_positions) (g2 : G.con "is_held" = con_is_held) (g3 : G.con "is_known" = con_is_known) (g4 : G.con "is_column" = con_is_column) (g5 : G.con "_begins_well" = con__begins_well) (g6 : G.con "_feed_numbers" = con__feed_numbers) (g7 : G.con "_goes_on_well" = con__goes_on_well) : Pf G N_judge_may ir_judge_may con_judge_may := by
  rintro ds A E Q ⟨N, d, e, g, r0, w, rfl, ok, pd, pe, pg, pr, pw, q1, q2, q3, q4, q5, q6⟩
  refine w_if (!isPos N d) (fun K hK => varK_of (pure_nonX pd) (use g1 ⟨N, d, rfl, ok, pd, hK⟩)) (fun hc => ?_) (fun hc => ?_)
  · refine ⟨by rw [n1]; rfl, Nat.succ_pos _, ?_⟩
    rw [n1]
    exact .inl (q1 (by simpa using hc))
  have hp : isPos N d = true := by simpa using hc
  refine w_if (!isHel N.nN e) (fun K hK => varK_of (pure_nonX pe) (use g2 ⟨N, e, rfl, ok, pe, hK⟩)) (fun hc => ?_) (fun hc => ?_)
  · refine ⟨by rw [n1]; rfl, Nat.succ_pos _, ?_⟩
    rw [n1]
    exact .inl (q2 hp (by simpa using hc))
  have hh : isHel N.nN e = true := by simpa using hc
  refine w_if (!isKnw g) (fun K hK => varK_of (pure_nonX pg) (use g3 ⟨g, rfl, pg, hK⟩)) (fun hc => ?_) (fun hc => ?_)
  · refine ⟨by rw [n1]; rfl, Nat.succ_pos _, ?_⟩
    rw [n1]
    exact .inl (q3 hp hh (by simpa using hc))
  have hk : isKnw g = true := by simpa using hc
  refine w_if (!isCol N.ts.length r0) (fun K hK => varK_of (pure_nonX pr) (use g4 ⟨N, r0, rfl, ok, pr, hK⟩)) (fun hc => ?_) (fun hc => ?_)
  · refine ⟨by rw [n1]; rfl, Nat.succ_pos _, ?_⟩
    rw [n1]
    exact .inl (q4 hp hh hk (by simpa using hc))
  have hr : isCol N.ts.length r0 = true := by simpa using hc
  obtain ⟨p, rfl, okp⟩ := pos_iff.mp hp
  obtain ⟨h, rfl, okh⟩ := (held_iff ok).mp hh
  obtain ⟨v, rfl, hv⟩ := knw_iff.mp hk
  obtain ⟨r, rfl⟩ := col_iff.mp hr
  cases hw : isCol N.ts.length w with
  | false =>
    refine w_if true (fun K hK => varK_of (pure_nonX pw) (use g4 ⟨N, w, rfl, ok, pw, ?_⟩)) (fun _ => .inl (q5 hp hh hk hr hw)) (fun hc => by cases hc)
    rw [hw]; exact hK
  | true =>
    obtain ⟨c, rfl⟩ := col_iff.mp hw
    have q6 := q6 p h v r c rfl okp rfl okh rfl hv rfl rfl
    refine w_if (!(List.range N.ts.length).all (beginsN N h v r c)) (fun K hK => use g4 ⟨N, _, rfl, ok, pw, ?_⟩) (fun hc => ?_) (fun hc => ?_)
    · rw [hw]
      exact use g5 ⟨N, h, v, r, c, rfl, ok, hK⟩
    · rw [if_neg (by rw [takesM, show (List.range N.ts.length).all (beginsN N h v r c) = false by simpa using hc]; simp)] at q6
      exact .inl q6
    have hb : (List.range N.ts.length).all (beginsN N h v r c) = true := by simpa using hc
    refine use g6 ⟨N, h, v, rfl, ok, ?_⟩
    walk_at "px"
    refine .inl ?_
    walk_at "px"
    refine ⟨szN (by have := ok.fl; have := ok.tl; simp; omega), nl_v ?_⟩
    rw [show (rl N.fs.length fun u => D.int (feedN h v u : Int)) ++ (rl N.ts.length fun k => D.int (c k : Int)) = rl N.nN fun u => .int (numsN N h v c u : Int) from nums_eq N h v c]
    refine w_if (!(List.range N.sw.length).all (goesN N p r (numsN N h v c))) (fun K hK => use g7 ⟨N, p, r, _, rfl, ok, hK⟩) (fun hc => ?_) (fun hc => ?_)
    · rw [if_neg (by rw [takesM, show (List.range N.sw.length).all (goesN N p r (numsN N h v c)) = false by simpa using hc, Bool.and_false]; simp)] at q6
      exact .inl q6
    · rw [if_pos (by rw [takesM, hb, show (List.range N.sw.length).all (goesN N p r (numsN N h v c)) = true by simpa using hc]; rfl)] at q6
      exact .inl q6
end
end Nt
end TextNt7

section TextLw1
set_option autoImplicit false
set_option maxRecDepth 100000
set_option maxHeartbeats 4000000
/-! Lw1: helpers that several laws share. -/
namespace Lw
open PySem Px Pg Nt
local macro_rules | `(tactic| walk_at "px") => `(tactic| ((conv => whnf); repeat ((refine And.intro (by first | exact True.intro | exact Px.sz2 | exact Px.sz3 | exact Px.sz1 | exact Px.sz0 | exact Px.sz4 | exact Px.sz5 | exact Px.sz6 | exact Px.sz7 | exact Px.sz8 | exact Px.sz9 | decide) ?_); (conv => whnf))))
def simD : Nat → D → Prop
  | 0, _ => False
  | n + 1, .tup xs => xs.length ≤ 65536 ∧ ∀ x ∈ xs, simD n x
  | _ + 1, .int _ => True | _ + 1, .str _ => True | _ + 1, .non => True | _ + 1, .bl _ => True
  | _, _ => False
def rc__law_same (n : Nat) : Con := fun ds A E Q => ∃ d : D, ds = [d, d] ∧ simD n d ∧ Q (.bl true) A
def con__law_same : Con := rc__law_same 4
def con__law_is_number : Con := fun ds A E Q => ∃ d : D, ds = [d] ∧ pureD d = true ∧ Q (.bl (isInt d)) A
theorem rng_nat (n : Nat) : rngD 0 n = (List.range n).map fun (i : Nat) => D.int (i : Int) := by
  unfold rngD
  exact List.map_congr_left fun i _ => by rw [Int.zero_add]
theorem filter_none {α : Type} (l : List α) : (l.filter fun _ => false) = [] := by induction l <;> simp_all
theorem sim_pure : ∀ (n : Nat) (d : D), simD n d → pureD d = true
  | 0, _, h => h.elim
  | n + 1, .tup xs, h => pureDs_all fun x hx => sim_pure n x (h.2 x hx)
  | _ + 1, .int _, _ => rfl | _ + 1, .str _, _ => rfl | _ + 1, .non, _ => rfl | _ + 1, .bl _, _ => rfl
theorem same_body {G : Env'} (n : Nat) (g1 : G.con "_law_same" = rc__law_same n) : Pf G N__law_same_1 ir__law_same_1 (rc__law_same (n + 1)) := by
  rintro ds A E Q ⟨d, rfl, hd, q⟩
  cases d with
  | tup xs =>
    obtain ⟨hl, hx⟩ := hd
    walk_at "px"
    rw [decide_eq_true rfl]
    walk_at "px"
    refine ⟨by omega, by omega, ?_⟩
    rw [Int.toNat_natCast]
    refine comp_f (List.range xs.length) (fun (i : Nat) => D.int (i : Int)) (fun _ => false) (fun (i : Nat) => D.int (i : Int)) (rng_nat _) True.intro (szN (by simpa using hl)) (fun i hi k _ hk => ?_) ?_
    · have hi2 := List.mem_range.mp hi
      walk_at "px"
      rw [L2.atI_nat (List.getElem?_eq_getElem hi2)]
      walk_at "px"
      rw [L2.atI_nat (List.getElem?_eq_getElem hi2)]
      exact use g1 ⟨_, rfl, hx _ (List.getElem_mem hi2), hk rfl⟩
    · rw [filter_none]
      refine nl_v ?_
      exact .inl q
  | non => walk_at "px"; exact .inl q
  | bl b => cases b <;> (walk_at "px"; exact .inl q)
  | int i =>
    walk_at "px"
    rw [decide_eq_true rfl]
    exact .inl q
  | str s =>
    walk_at "px"
    rw [decide_eq_true rfl]
    exact .inl q
  | _ => exact hd.elim
theorem b__law_is_number {G : Env'} : Pf G N__law_is_number_1 ir__law_is_number_1 con__law_is_number := by
  rintro ds A E Q ⟨d, rfl, k, q⟩
  cases d <;> first | cases k; done | (walk_at "px"; exact .inl q)
end Lw
end TextLw1

section TextNt8
set_option autoImplicit false
set_option maxRecDepth 100000
set_option maxHeartbeats 4000000
/-! Nt8: floods asked from outside. -/
namespace Nt
open PySem Px Pg Fl
local macro_rules | `(tactic| walk_at "px") => `(tactic| ((conv => whnf); repeat ((refine And.intro (by first | exact True.intro | exact Px.sz2 | exact Px.sz3 | exact Px.sz1 | exact Px.sz0 | exact Px.sz4 | exact Px.sz5 | exact Px.sz6 | exact Px.sz7 | exact Px.sz8 | exact Px.sz9 | decide) ?_); (conv => whnf))))
def lotGo : Int → List D → Bool
  | _, [] => true
  | n, .int i :: r => decide (n ≤ i) && lotGo (i + 1) r
  | _, _ => false
def isLot : D → Bool | .tup xs => lotGo 0 xs | _ => false
def allSw (m : Nat) : D → Bool | .tup xs => xs.all (hasI m) | _ => false
def leI (g : Nat) : D → Bool | .int i => decide (i ≤ (g : Int)) | _ => false
def isLev (m g : Nat) : D → Bool | .tup xs => decide (xs.length = m) && xs.all fun d => isNum d && leI g d | _ => false
def shortD : D → Prop | .tup xs => xs.length ≤ sizeLine | _ => True
def con_is_lot : Con := fun ds A E Q => ∃ d : D, ds = [d] ∧ pureD d = true ∧ Q (.bl (isLot d)) A
def con_is_level_tuple : Con := fun ds A E Q => ∃ (N : Net) (d : D) (g : Nat), ds = [N.d, d, .int (g : Int)] ∧ N.ok ∧ pureD d = true ∧ Q (.bl (isLev N.nN g d)) A
def con_flood : Con := fun ds A E Q => ∃ (N : Net) (d e f : D), ds = [N.d, d, e, f] ∧ N.ok ∧ pureD d = true ∧ pureD e = true ∧ pureD f = true ∧ shortD d ∧
  ((isLot d && allSw N.sw.length d) = false → E (nu "usable") A) ∧ ((isLot d && allSw N.sw.length d) = true → isLev N.nN 11 e = false → E (nu "starts") A) ∧
  ((isLot d && allSw N.sw.length d) = true → isLev N.nN 11 e = true → isLev N.nN 12 f = false → E (nu "floors") A) ∧
  ∀ us st fl r rb, isLot d = true → d = .tup (nL us) → (∀ s ∈ us, s < N.sw.length) → e = .tup (rl N.nN fun v => .int (st v : Int)) → f = .tup (rl N.nN fun v => .int (fl v : Int)) → (∀ v, v < N.nN → st v ≤ 11) → (∀ v, v < N.nN → fl v ≤ 12) → Ans ⟨N.nN, wy N us, st, fl⟩ r rb → Q (.tup (rl N.nN fun v => .int (r v : Int))) A
theorem lev_iff {m g : Nat} {d : D} : isLev m g d = true ↔ ∃ c : Nat → Nat, d = .tup (rl m fun k => .int (c k : Int)) ∧ ∀ k, k < m → c k ≤ g := by
  constructor
  · intro h
    cases d <;> first | cases h; done | skip
    rename_i xs
    simp only [isLev, Bool.and_eq_true, decide_eq_true_eq, List.all_eq_true] at h
    have h2 : isCol m (.tup xs) = true := by
      simp only [isCol, Bool.and_eq_true, decide_eq_true_eq, List.all_eq_true]
      exact ⟨h.1, fun x hx => (h.2 x hx).1⟩
    obtain ⟨c, e⟩ := col_iff.mp h2
    refine ⟨c, e, fun k hk => ?_⟩
    have e2 := D.tup.inj e
    have := (h.2 (.int (c k : Int)) (by rw [e2]; exact rl_mem.mpr ⟨k, hk, rfl⟩)).2
    have := of_decide_eq_true this
    omega
  · rintro ⟨c, rfl, hc⟩
    simp only [isLev, rl_len, decide_true, Bool.true_and, List.all_eq_true]
    intro x hx
    obtain ⟨i, hi, rfl⟩ := rl_mem.mp hx
    rw [num_ok, Bool.true_and]
    exact decide_eq_true (by have := hc i hi; omega)
theorem lotGo_num : ∀ {xs : List D} {n : Int}, 0 ≤ n → lotGo n xs = true → xs.all isNum = true
  | [], _, _, _ => rfl
  | x :: r, n, hn, h => by
    cases x <;> first | cases h; done | skip
    rename_i i
    have h : (decide (n ≤ i) && lotGo (i + 1) r) = true := h
    obtain ⟨h1, h2⟩ := Bool.and_eq_true _ _ |>.mp h
    have h1 := of_decide_eq_true h1
    show (decide (0 ≤ i) && r.all isNum) = true
    rw [lotGo_num (by omega) h2, decide_eq_true (by omega)]; rfl
theorem lot_nat {d : D} (h : isLot d = true) : ∃ us : List Nat, d = .tup (nL us) := by
  cases d <;> first | cases h; done | skip
  rename_i xs
  obtain ⟨ns, rfl⟩ := nums_nat (lotGo_num (Int.le_refl 0) h)
  exact ⟨ns, rfl⟩
theorem lotGo_up : ∀ {us : List Nat} {n : Nat}, (∀ u ∈ us, n ≤ u) → us.Pairwise (· < ·) → lotGo (n : Int) (nL us) = true
  | [], _, _, _ => rfl
  | u :: r, n, h, p => by
    obtain ⟨p1, p2⟩ := List.pairwise_cons.mp p
    show (decide ((n : Int) ≤ (u : Int)) && lotGo ((u : Int) + 1) (nL r)) = true
    rw [show (u : Int) + 1 = ((u + 1 : Nat) : Int) by omega, lotGo_up (fun w hw => p1 w hw) p2, decide_eq_true (by have := h u (by simp); omega)]; rfl
theorem lot_up {us : List Nat} (p : us.Pairwise (· < ·)) : isLot (.tup (nL us)) = true := lotGo_up (n := 0) (fun _ _ => Nat.zero_le _) p
theorem allSw_nat {m : Nat} {us : List Nat} : allSw m (.tup (nL us)) = true ↔ ∀ u ∈ us, u < m := by
  show (nL us).all (hasI m) = true ↔ _
  rw [List.all_eq_true]
  constructor
  · intro h u hu
    have := h (.int (u : Int)) (List.mem_map.mpr ⟨u, hu, rfl⟩)
    simp [hasI] at this
    exact this
  · intro h x hx
    obtain ⟨u, hu, rfl⟩ := List.mem_map.mp hx
    exact hasI_nat (h u hu)
theorem lot_len : ∀ {us : List Nat} {n m : Nat}, lotGo (n : Int) (nL us) = true → (∀ u ∈ us, u < m) → n ≤ m → us.length + n ≤ m
  | [], n, m, _, _, h => by simpa using h
  | u :: r, n, m, h, hu, hn => by
    have h : (decide ((n : Int) ≤ (u : Int)) && lotGo ((u : Int) + 1) (nL r)) = true := h
    obtain ⟨h1, h2⟩ := Bool.and_eq_true _ _ |>.mp h
    have h1 := of_decide_eq_true h1
    have h3 := hu u (by simp)
    have := lot_len (us := r) (n := u + 1) (m := m) (by rw [show ((u + 1 : Nat) : Int) = (u : Int) + 1 by omega]; exact h2) (fun w hw => hu w (by simp [hw])) (by omega)
    simp only [List.length_cons]; omega
section
variable {G : Env'}
theorem b_is_lot (g1 : G.con "is_integer" = con_is_integer) : Pf G N_is_lot ir_is_lot con_is_lot := by
  rintro ds A E Q ⟨d, rfl, k, q⟩
  cases d <;> first | cases k; done | skip
  case tup xs =>
    have hp := pure_tup k
    walk_at "px"
    refine loop_i xs id (fun i ρ A' => A' = A ∧ ∃ (n : Int) (x2 : Option D), isLot (.tup xs) = lotGo n (xs.drop i) ∧ ρ = [some (.tup xs), some (.int n), x2]) (map_id_d xs) ⟨rfl, 0, _, rfl, rfl⟩ (fun _ _ _ _ => True.intro) ?_ ?_
    · rintro i hi ρ A1 K ⟨rfl, n, x2, e, rfl⟩ hk
      rw [List.drop_eq_getElem_cons hi] at e
      have hx := hp _ (List.getElem_mem hi)
      generalize hx2 : xs[i] = x at e hx
      show tgD _ x _ _
      refine varK_of (pure_nonX hx) ?_
      refine use g1 ⟨x, rfl, hx, ?_⟩
      cases x <;> first | cases hx; done | skip
      case int j =>
        have e : isLot (.tup xs) = (decide (n ≤ j) && lotGo (j + 1) (xs.drop (i + 1))) := e
        walk_at "px"
        by_cases c : j < n
        · rw [decide_eq_true c]
          rw [e, decide_eq_false (by omega)] at q
          exact .inl q
        · rw [decide_eq_false c]
          rw [decide_eq_true (by omega), Bool.true_and] at e
          exact hk _ _ ⟨rfl, _, _, e, rfl⟩
      all_goals
        have e : isLot (.tup xs) = false := e
        rw [e] at q
        exact .inl q
    · rintro ρ A1 ⟨rfl, n, x2, e, rfl⟩
      rw [List.drop_length] at e
      rw [e] at q
      exact .inl q
  all_goals (walk_at "px"; exact .inl q)
theorem b_is_level_tuple (g1 : G.con "is_number" = con_is_number) : Pf G N_is_level_tuple ir_is_level_tuple con_is_level_tuple := by
  rintro ds A E Q ⟨N, d, g, rfl, ok, k, q⟩
  cases d <;> first | cases k; done | skip
  case tup xs =>
    have hp := pure_tup k
    refine w_if (!decide (xs.length = N.nN)) (fun K hK => ?_) (fun h => ?_) (fun h => ?_)
    · walk_at "px"
      rw [fD_i, tD_i, show decide ((xs.length : Int) = (N.fs.length : Int) + (N.ts.length : Int)) = decide (xs.length = N.nN) by unfold Net.nN; exact decide_eq_decide.mpr (by omega)]
      exact hK
    · have e : isLev N.nN g (.tup xs) = false := by simp [isLev] at h ⊢; intro e; exact absurd e h
      rw [e] at q
      exact .inl q
    · have e : xs.length = N.nN := by simpa using h
      refine comp_m xs id (fun d => .bl (isNum d && leI g d)) (map_id_d xs) True.intro (szN (by have := ok.tl; have := ok.fl; unfold Net.nN at e; omega)) (fun x hx K hK => ?_) ?_
      · replace hx := hp x hx
        refine varK_of (pure_nonX hx) (use g1 ⟨x, rfl, hx, ?_⟩)
        cases x <;> first | cases hx; done | skip
        case int j =>
          have hK : K (some (.bl (decide (0 ≤ j) && decide (j ≤ (g : Int))))) A := hK
          have e0 : isNum (.int j) = decide ((0 : Int) ≤ j) := rfl
          rw [e0]
          walk_at "px"
          by_cases c : (0 : Int) ≤ j
          · rw [decide_eq_true c] at hK ⊢; exact hK
          · rw [decide_eq_false c] at hK ⊢; exact hK
        all_goals exact hK
      · refine nl_v ?_
        show (match blsD (xs.map fun d => .bl (isNum d && leI g d)) with | some ns => _ | none => False)
        rw [allB]
        refine .inl ?_
        have e2 : isLev N.nN g (.tup xs) = (xs.map fun d => isNum d && leI g d).all id := by simp [isLev, e]
        rw [← e2]; exact q
  all_goals (walk_at "px"; exact .inl q)
theorem b_flood (n1 : G.fds "NotUsable" = (["word", "at"] : List Str)) (k1 : G.ct "FEED_RANK" = some (.int 11)) (k2 : G.ct "GREATEST_FLOOR" = some (.int 12)) (g1 : G.con "is_lot" = con_is_lot) (g2 : G.con "has_switch" = con_has_switch) (g3 : G.con "is_level_tuple" = con_is_level_tuple) (g4 : G.con "ways_out" = con_ways_out) (g5 : G.con "flooded" = con_flooded) : Pf G N_flood ir_flood con_flood := by
  rintro ds A E Q ⟨N, d, e, f, rfl, ok, pd, pe, pf, sd, q1, q2, q3, q4⟩
  refine w_if (!(isLot d && allSw N.sw.length d)) (fun K hK => ?_) (fun hc => ?_) (fun hc => ?_)
  · refine varK_of (pure_nonX pd) (use g1 ⟨d, rfl, pd, ?_⟩)
    cases hl : isLot d with
    | false => rw [hl] at hK; exact hK
    | true =>
      obtain ⟨us, rfl⟩ := lot_nat hl
      have hp := pure_tup pd
      walk_at "px"
      refine comp_m (nL us) id (fun x => .bl (hasI N.sw.length x)) (map_id_d _) True.intro sd (fun x hx K hK => ?_) ?_
      · have hx := hp x hx
        refine varK_of (pure_nonX hx) (use g2 ⟨N, x, rfl, hx, hK⟩)
      · refine nl_v ?_
        show (match blsD ((nL us).map fun x => .bl (hasI N.sw.length x)) with | some ns => _ | none => False)
        rw [allB]
        have e2 : allSw N.sw.length (.tup (nL us)) = ((nL us).map (hasI N.sw.length)).all id := by simp [allSw]
        rw [hl, e2] at hK; exact hK
  · refine ⟨by rw [n1]; rfl, Nat.succ_pos _, ?_⟩
    rw [n1]
    exact .inl (q1 (by cases z : (isLot d && allSw N.sw.length d) with | false => rfl | true => rw [z] at hc; cases hc))
  have hl : (isLot d && allSw N.sw.length d) = true := by simpa using hc
  refine w_if (!isLev N.nN 11 e) (fun K hK => varK_of (pure_nonX pe) ?_) (fun hc => ?_) (fun hc => ?_)
  · walk_at "px"
    rw [k1]
    exact use g3 ⟨N, e, 11, rfl, ok, pe, hK⟩
  · refine ⟨by rw [n1]; rfl, Nat.succ_pos _, ?_⟩
    rw [n1]
    exact .inl (q2 hl (by simpa using hc))
  have he : isLev N.nN 11 e = true := by simpa using hc
  refine w_if (!isLev N.nN 12 f) (fun K hK => varK_of (pure_nonX pf) ?_) (fun hc => ?_) (fun hc => ?_)
  · walk_at "px"
    rw [k2]
    exact use g3 ⟨N, f, 12, rfl, ok, pf, hK⟩
  · refine ⟨by rw [n1]; rfl, Nat.succ_pos _, ?_⟩
    rw [n1]
    exact .inl (q3 hl he (by simpa using hc))
  have hf : isLev N.nN 12 f = true := by simpa using hc
  obtain ⟨hl1, hl2⟩ := Bool.and_eq_true _ _ |>.mp hl
  obtain ⟨us, rfl⟩ := lot_nat hl1
  obtain ⟨st, rfl, hst⟩ := lev_iff.mp he
  obtain ⟨fl, rfl, hfl⟩ := lev_iff.mp hf
  have hus := allSw_nat.mp hl2
  have hlen : us.length ≤ 512 := by
    have := lot_len (n := 0) hl1 hus (Nat.zero_le _)
    have := ok.sl
    omega
  refine use g4 ⟨N, _, us, rfl, .inr rfl, ok, hus, by omega, ?_⟩
  walk_at "px"
  refine use g5 ⟨⟨N.nN, wy N us, st, fl⟩, _, _, rfl, .inr rfl, .inr rfl, tk_ok ok hlen hst, fun r rb a => ?_⟩
  exact .inl (q4 us st fl r rb hl1 rfl hus rfl rfl hst hfl a)
end
end Nt
end TextNt8

section TextLw2
set_option autoImplicit false
set_option maxRecDepth 100000
set_option maxHeartbeats 4000000
/-! Lw2: the other ways of `_law_same`. -/
namespace Lw
open PySem Px Pg Nt
local macro_rules | `(tactic| walk_at "px") => `(tactic| ((conv => whnf); repeat ((refine And.intro (by first | exact True.intro | exact Px.sz2 | exact Px.sz3 | exact Px.sz1 | exact Px.sz0 | exact Px.sz4 | exact Px.sz5 | exact Px.sz6 | exact Px.sz7 | exact Px.sz8 | exact Px.sz9 | decide) ?_); (conv => whnf))))
theorem same3_body {G : Env'} (n : Nat) (g1 : G.con "_law_same" = rc__law_same n) : Pf G N__law_same_3 ir__law_same_3 (rc__law_same (n + 1)) := by
  rintro ds A E Q ⟨d, rfl, hd, q⟩
  cases d with
  | tup xs =>
    obtain ⟨hl, hx⟩ := hd
    walk_at "px"
    rw [decide_eq_true rfl]
    walk_at "px"
    refine ⟨by omega, by omega, ?_⟩
    rw [Int.toNat_natCast]
    refine loop_i (List.range xs.length) (fun (i : Nat) => D.int (i : Int)) (fun i ρ A' => A' = A ∧ ∃ x, ρ = [some (.tup xs), some (.tup xs), x]) (rng_nat _) ⟨rfl, _, rfl⟩ (fun _ _ _ _ => True.intro) ?_ ?_
    · rintro i hi ρ A1 k ⟨rfl, x, rfl⟩ hk
      have hi2 : i < xs.length := by simpa using hi
      rw [List.getElem_range]
      walk_at "px"
      rw [L2.atI_nat (List.getElem?_eq_getElem hi2)]
      walk_at "px"
      rw [L2.atI_nat (List.getElem?_eq_getElem hi2)]
      exact use g1 ⟨_, rfl, hx _ (List.getElem_mem hi2), hk _ _ ⟨rfl, _, rfl⟩⟩
    · rintro ρ A1 ⟨rfl, x, rfl⟩
      exact .inl q
  | non => walk_at "px"; exact .inl q
  | bl b => cases b <;> (walk_at "px"; exact .inl q)
  | int i =>
    walk_at "px"
    rw [decide_eq_true rfl]
    exact .inl q
  | str s =>
    walk_at "px"
    rw [decide_eq_true rfl]
    exact .inl q
  | _ => exact hd.elim
end Lw
end TextLw2

section TextLw3
set_option autoImplicit false
set_option maxRecDepth 100000
set_option maxHeartbeats 4000000
/-! Lw3: values that are not as stated, cuts, clauses. -/
namespace Lw
open PySem Px Pg Nt Fl
theorem cut_to {l : List D} {n : Nat} : cutD l none (some (n : Int)) = l.take n := by
  unfold cutD
  rw [HT.sIx_nat, HT.sIx_none, List.drop_zero, Nat.sub_zero]
  by_cases h : n ≤ l.length
  · rw [Nat.min_eq_left h]
  · rw [Nat.min_eq_right (by omega), List.take_length, List.take_of_length_le (by omega)]
theorem cut_pure {l : List D} {lo hi : Option Int} (h : pureDs l = true) : pureDs (cutD l lo hi) = true := by
  refine pureDs_all fun d hd => ?_
  unfold cutD at hd
  exact pure_tup (xs := l) h d (List.mem_of_mem_drop (List.mem_of_mem_take hd))
theorem cut_len {l : List D} {lo hi : Option Int} : (cutD l lo hi).length ≤ l.length := by
  unfold cutD
  rw [List.length_take, List.length_drop]; omega
theorem pureDs_app {l r : List D} (h1 : pureDs l = true) (h2 : pureDs r = true) : pureDs (l ++ r) = true := pureDs_all fun d hd => by
  rcases List.mem_append.mp hd with h | h
  · exact pure_tup (xs := l) h1 d h
  · exact pure_tup (xs := r) h2 d h
section
variable {G : Env'}
theorem w_hd {c : Str} {i : Nat} {b : Iss} {hs : Ihs} {d : D} {N : Dn} {ρ : Rho} {A : Ht} (e : G.sub (clsOf d) c = true) (h : wSs G b { nx := fun ρ' A' => N.nx (clean (ρ'.set i none)) A', rt := N.rt, bk := fun ρ' A' => N.bk (clean (ρ'.set i none)) A', ct := fun ρ' A' => N.ct (clean (ρ'.set i none)) A' } (ρ.set i (some d)) A) :
    wHs G (.cons c (some i) b hs) d N ρ A := by
  show (if G.sub (clsOf d) c = true then _ else _)
  rw [if_pos e]; exact h
theorem pos_bad_len {N : Net} {xs : List D} (h : xs.length ≠ N.sw.length) : isPos N (.tup xs) = false := by simp [isPos, h]
theorem pos_bad_val {N : Net} {xs : List D} {i : Nat} {d : D} (h : xs[i]? = some d) (hd : isVal d = false) : isPos N (.tup xs) = false := by
  by_cases hl : xs.length = N.sw.length
  · obtain ⟨hi, e⟩ := List.getElem?_eq_some_iff.mp h
    have hz : i < (xs.zip N.sw).length := by simp; omega
    have : (xs.zip N.sw).all (fun p => tieOk p.1 p.2) = false := by
      rw [List.all_eq_false]
      refine ⟨_, List.getElem_mem hz, ?_⟩
      rw [List.getElem_zip]
      simp [tieOk, e, hd]
    simp only [isPos, this, Bool.and_false]
  · exact pos_bad_len hl
theorem pos_bad_tie {N : Net} {xs : List D} {i : Nat} {j : Int} (hi : i < N.sw.length) (h : xs[i]? = some (.int j)) (ht : N.sw[i].kind = "tie") (hj : j ≠ 1) : isPos N (.tup xs) = false := by
  by_cases hl : xs.length = N.sw.length
  · obtain ⟨hi2, e⟩ := List.getElem?_eq_some_iff.mp h
    have hz : i < (xs.zip N.sw).length := by simp; omega
    have : (xs.zip N.sw).all (fun p => tieOk p.1 p.2) = false := by
      rw [List.all_eq_false]
      refine ⟨_, List.getElem_mem hz, ?_⟩
      rw [List.getElem_zip]
      simp [tieOk, e, ht, isI, hj]
    simp only [isPos, this, Bool.and_false]
  · exact pos_bad_len hl
theorem col_bad_len {m : Nat} {xs : List D} (h : xs.length ≠ m) : isCol m (.tup xs) = false := by simp [isCol, h]
theorem col_bad_val {m : Nat} {xs : List D} {d : D} (h : d ∈ xs) (hd : isNum d = false) : isCol m (.tup xs) = false := by
  have : xs.all isNum = false := List.all_eq_false.mpr ⟨d, h, by rw [hd]; simp⟩
  simp only [isCol, this, Bool.and_false]
theorem hel_bad_len {m : Nat} {xs : List D} (h : xs.length ≠ m) : isHel m (.tup xs) = false := by simp [isHel, h]
theorem hel_bad_val {m : Nat} {xs : List D} {d : D} (h : d ∈ xs) (hd : isVal d = false) : isHel m (.tup xs) = false := by
  have : xs.all isVal = false := List.all_eq_false.mpr ⟨d, h, by rw [hd]; simp⟩
  simp only [isHel, this, Bool.and_false, Bool.false_and]
theorem hel_bad_0 {m : Nat} {xs : List D} {j : Int} (h : xs[0]? = some (.int j)) (hj : j ≠ 0) : isHel m (.tup xs) = false := by
  simp only [isHel, h, isO, isI, decide_eq_false hj, Bool.and_false, Bool.false_and]
theorem hel_bad_1 {m : Nat} {xs : List D} {j : Int} (h : xs[1]? = some (.int j)) (hj : j ≠ 1) : isHel m (.tup xs) = false := by
  simp only [isHel, h, isO, isI, decide_eq_false hj, Bool.and_false]
theorem cut_to' {l : List D} {n : Nat} {i : Int} (e : i = (n : Int)) : cutD l none (some i) = l.take n := by rw [e]; exact cut_to
theorem cut_fr {l : List D} {n : Nat} {i : Int} (e : i = (n : Int)) : cutD l (some i) none = l.drop n := by
  rw [e]
  unfold cutD
  rw [HT.sIx_nat, HT.sIx_none]
  by_cases h : n ≤ l.length
  · rw [Nat.min_eq_left h]; exact List.take_of_length_le (by simp)
  · rw [Nat.min_eq_right (by omega), Nat.sub_self, List.take_zero, List.drop_of_length_le (by omega)]
theorem last_val {l : List D} {d : D} {n : Nat} (h : l.length = n + 1) : (l.take n ++ [d])[n]? = some d := by
  rw [List.getElem?_append_right (by rw [List.length_take]; omega), show n - (l.take n).length = 0 by rw [List.length_take]; omega]; rfl
end
end Lw
end TextLw3

section TextLw4
set_option autoImplicit false
set_option maxRecDepth 100000
set_option maxHeartbeats 4000000
/-! Lw4: a tape of drawn numbers (seven laws), by its numbers. -/
namespace Tp
open PySem Px Nt Lw
local macro_rules | `(tactic| walk_at "px") => `(tactic| ((conv => whnf); repeat ((refine And.intro (by first | exact True.intro | exact Px.sz2 | exact Px.sz3 | exact Px.sz1 | exact Px.sz0 | exact Px.sz4 | exact Px.sz5 | exact Px.sz6 | exact Px.sz7 | exact Px.sz8 | exact Px.sz9 | decide) ?_); (conv => whnf))))
def irT (seed : Int) : Iss := (.cons (.ret (.lst (.cons (.lc (.name 1) (.seq (.var 0)) .no (.bi .int (.cons (.var 1) .nil)) [1]) (.cons (.cst (.int 0)) (.cons (.cst (.int 0)) (.cons (.cst (.int seed)) .nil)))))) .nil)
def irP (u v w : Int) : Iss := (.cons (.ife (.cmp .Lt (.ix (.var 0) (.cst (.int 2))) (.var 1)) (.cons (.set 2 (.cst (.int 0))) (.cons (.ife (.cmp .Lt (.ix (.var 0) (.cst (.int 1))) (.bi .len (.cons (.ix (.var 0) (.cst (.int 0))) .nil))) (.cons (.set 2 (.ix (.ix (.var 0) (.cst (.int 0))) (.ix (.var 0) (.cst (.int 1))))) (.cons (.asgS (.var 0) (.cst (.int 1)) (.bin .Add (.ix (.var 0) (.cst (.int 1))) (.cst (.int 1)))) .nil)) .nil) (.cons (.asgS (.var 0) (.cst (.int 3)) (.bin .Mod (.bin .Add (.bin .Add (.bin .Mult (.ix (.var 0) (.cst (.int 3))) (.cst (.int u))) (.bin .Mult (.var 2) (.cst (.int v)))) (.cst (.int w))) (.cst (.int 2305843009213693951)))) (.cons (.ife (.cmp .Lt (.bi .abs (.cons (.var 2) .nil)) (.bin .Pow (.cst (.int 10)) (.cst (.int 18)))) (.cons (.ret (.bin .Mod (.bi .int (.cons (.bin .FloorDiv (.ix (.var 0) (.cst (.int 3))) (.cst (.int 1048576))) .nil)) (.var 1))) .nil) .nil) (.cons (.asgS (.var 0) (.cst (.int 2)) (.bi .abs (.cons (.var 2) .nil))) .nil))))) .nil) (.cons (.set 3 (.bin .Mod (.bi .int (.cons (.ix (.var 0) (.cst (.int 2))) .nil)) (.var 1))) (.cons (.asgS (.var 0) (.cst (.int 2)) (.bin .FloorDiv (.ix (.var 0) (.cst (.int 2))) (.var 1))) (.cons (.ret (.var 3)) .nil))))
/-- a small number -/
def Sm (u : Int) : Prop := -(2 ^ 64) < u ∧ u < 2 ^ 64
/-- the tape of drawn numbers, as it stands -/
structure tpo (x : O) : Prop where
  ex : ∃ (a l st : Int) (cells : List Int), x = .lst [.ls (iL cells), .int a, .int l, .int st] ∧ 0 ≤ a ∧ 0 ≤ l ∧ 0 ≤ st ∧ st < 2305843009213693951
def con__law_tape : Con := fun ds A E Q => ∃ ns : List Int, ds = [.rol (iL ns)] ∧ ns.length ≤ 63 ∧ ∀ x, tpo x → Q (.obj A.length) (A ++ [x])
def con__law_pick : Con := fun ds A E Q => ∃ (t : Nat) (x : O) (i : Int), ds = [.obj t, .int i] ∧ A[t]? = some x ∧ tpo x ∧ 0 < i ∧ i < 1000000 ∧ ∀ (y : O) (r : Nat), (r : Int) < i → tpo y → Q (.int (r : Int)) (A.set t y)
section
variable {G : Env'}
theorem b_tape : ∀ {n0 n1 : Str} {seed : Int}, 0 ≤ seed → seed < 2305843009213693951 → Pf G [n0, n1] (irT seed) con__law_tape := by
  rintro n0 n1 seed hs0 hs1 ds A E Q ⟨ns, rfl, hl, q⟩
  walk_at "px"
  refine comp_m ns (fun n => D.int n) (fun n => D.int n) rfl True.intro (szN (by omega)) (fun n hn k hk => ?_) ?_
  · walk_at "px"; exact hk
  · refine nl_v ?_
    walk_at "px"
    refine nl_o (.inl (q _ ⟨0, 0, seed, ns, rfl, by decide, by decide, hs0, hs1⟩))
theorem w_post {s : Is} {ss : Iss} {N : Dn} {ρ : Rho} {A : Ht} (P : Rho → Ht → Prop) (h : ∀ K : Rho → Ht → Prop, (∀ ρ' A', P ρ' A' → K ρ' A') → wS G s (N.wnx K) ρ A) (h2 : ∀ ρ' A', P ρ' A' → wSs G ss N ρ' A') : wSs G (.cons s ss) N ρ A := h _ h2
theorem w_set {i : Nat} {e : Ie} {ss : Iss} {N : Dn} {ρ : Rho} {A : Ht} (h : wE G e ρ A (N.xe ρ) fun d A1 => wSs G ss N (ρ.set i (some d)) A1) : wSs G (.cons (.set i e) ss) N ρ A := h
theorem set_self {A : Ht} {t : Nat} {x : O} (h : A[t]? = some x) : A.set t x = A := by
  apply List.ext_getElem?
  intro i
  by_cases e : t = i
  · subst e; rw [at_set h, h]
  · rw [List.getElem?_set_ne e]
def O4 (a l st : Int) (cells : List Int) : O := .lst [.ls (iL cells), .int a, .int l, .int st]
def rest1 : Iss := match irP 0 0 0 with | .cons _ r => r | .nil => .nil
theorem md (x : Int) {m : Nat} (h : 0 < m) : ∃ r : Nat, x % (m : Int) = (r : Int) ∧ r < m := by
  have h1 := Int.emod_nonneg x (show (m : Int) ≠ 0 by omega)
  have h2 := Int.emod_lt_of_pos x (show (0 : Int) < m by omega)
  exact ⟨(x % (m : Int)).toNat, by omega, by omega⟩
theorem pick2 {A : Ht} {E Q : D → Ht → Prop} {t m : Nat} {a st : Int} {cells : List Int} {x0 : O} {c : Option D} (ht : A[t]? = some x0) (a0 : 0 ≤ a) (s0 : 0 ≤ st) (s1 : st < 2305843009213693951) (m0 : 0 < m) (m1 : m < 1000000)
    (q : ∀ (y : O) (r : Nat), r < m → tpo y → Q (.int (r : Int)) (A.set t y)) (l : Int) (l0 : 0 ≤ l) :
    wSs G rest1 { nx := fun _ A' => Rt A Q .non A', rt := Rt A Q, xe := fun _ d A' => RtE A E d A' } [some (.obj t), some (.int (m : Int)), c, none] (A.set t (O4 a l st cells)) := by
  have atx : ∀ y : O, (A.set t y)[t]? = some y := fun y => at_set ht
  have ss : ∀ y z : O, (A.set t y).set t z = A.set t z := fun y z => List.set_set ..
  have hmi : (0 : Int) < (m : Int) := by omega
  conv => whnf
  rw [atx]
  walk_at "px"
  refine ⟨hmi, ?_⟩
  conv => whnf
  rw [atx]
  walk_at "px"
  refine ⟨hmi, .inl (by omega), ?_⟩
  conv => whnf
  rw [atx]
  conv => whnf
  obtain ⟨r, er, hr⟩ := md l m0
  rw [er, ss]
  exact .inl (q _ r hr ⟨_, _, _, _, rfl, a0, Int.ediv_nonneg l0 (by omega), s0, s1⟩)
theorem b_pick : ∀ {n0 n1 n2 n3 : Str} {u v w : Int}, Sm u → Sm v → Pf G [n0, n1, n2, n3] (irP u v w) con__law_pick := by
  rintro n0 n1 n2 n3 u v w hu hv ds A E Q ⟨t, x, i, rfl, ht, ⟨a, l, st, cells, rfl, a0, l0, s0, s1⟩, i0, i1, q⟩
  obtain ⟨m, rfl⟩ : ∃ m : Nat, i = (m : Int) := ⟨i.toNat, by omega⟩
  have m0 : 0 < m := by omega
  have m1 : m < 1000000 := by omega
  replace q : ∀ (y : O) (r : Nat), r < m → tpo y → Q (.int (r : Int)) (A.set t y) := fun y r hr hy => q y r (by omega) hy
  have atx : ∀ y : O, (A.set t y)[t]? = some y := fun y => at_set ht
  have ss : ∀ y z : O, (A.set t y).set t z = A.set t z := fun y z => List.set_set ..
  refine w_if (decide (l < (m : Int))) (fun K hK => ?_) (fun h => ?_) (fun h => ?_)
  · conv => whnf
    rw [ht]
    exact hK
  · refine w_set ?_
    show wSs G _ _ _ _
    refine w_post (fun ρ' A' => ∃ (a' c : Int), 0 ≤ a' ∧ A' = A.set t (O4 a' l st cells) ∧ ρ' = [some (.obj t), some (.int (m : Int)), some (.int c), none]) (fun K hK => ?_) ?_
    · refine w_if (decide (a < (cells.length : Int))) (fun K2 hK2 => ?_) (fun h => ?_) (fun h => ?_)
      · conv => whnf
        rw [ht]
        conv => whnf
        rw [ht]
        conv => whnf
        rw [iL_len]
        exact hK2
      · obtain ⟨k, rfl⟩ : ∃ k : Nat, a = (k : Int) := ⟨a.toNat, by omega⟩
        have hk : k < cells.length := by have := of_decide_eq_true h; omega
        conv => whnf
        rw [ht]
        conv => whnf
        rw [ht]
        conv => whnf
        rw [L2.atI_nat (iL_get hk)]
        conv => whnf
        rw [ht]
        conv => whnf
        rw [ht]
        conv => whnf
        exact hK _ _ ⟨_, _, by omega, rfl, rfl⟩
      · exact hK _ _ ⟨a, _, a0, (set_self ht).symm, rfl⟩
    rintro ρ' A' ⟨a', c, a0', rfl, rfl⟩
    have hst : ∀ z : Int, 0 ≤ z % 2305843009213693951 ∧ z % 2305843009213693951 < 2305843009213693951 := fun z => ⟨Int.emod_nonneg _ (by decide), Int.emod_lt_of_pos _ (by decide)⟩
    conv => whnf
    rw [atx]
    walk_at "px"
    refine ⟨.inl (.inr hu), ?_⟩
    walk_at "px"
    refine ⟨.inl (.inr hv), ?_⟩
    walk_at "px"
    generalize hz : (st * u + c * v + w) % 2305843009213693951 = z
    have hz2 := hst (st * u + c * v + w)
    rw [hz] at hz2
    rw [atx]
    conv => whnf
    rw [ss]
    refine ⟨⟨by decide, by decide, by decide⟩, ?_⟩
    walk_at "px"
    have hmi : (0 : Int) < (m : Int) := by omega
    cases hd : decide ((if c < 0 then -c else c) < (10 : Int) ^ (18 : Int).toNat) with
    | true =>
      conv => whnf
      rw [atx]
      walk_at "px"
      refine ⟨hmi, ?_⟩
      walk_at "px"
      obtain ⟨r, er, hr⟩ := md (z / 1048576) m0
      rw [er]
      exact .inl (q _ r hr ⟨_, _, _, _, rfl, a0', l0, hz2.1, hz2.2⟩)
    | false =>
      conv => whnf
      rw [atx]
      conv => whnf
      rw [ss]
      exact pick2 (G := G) (E := E) (c := some (.int c)) (cells := cells) ht a0' hz2.1 hz2.2 m0 m1 q (if c < 0 then -c else c) (by split <;> omega)
  · have p := pick2 (G := G) (E := E) (c := none) (cells := cells) ht a0 s0 s1 m0 m1 q l l0
    rw [show A.set t (O4 a l st cells) = A from set_self ht] at p
    exact p
theorem pk (g : G.con "_law_pick" = con__law_pick) {A L : Ht} {t : Nat} {x : O} {i : Int} {E Q : D → Ht → Prop} (ht : t < A.length) (hx : tpo x) (i0 : 0 < i) (i1 : i < 1000000) (h : ∀ (y : O) (r : Nat), (r : Int) < i → tpo y → Q (.int (r : Int)) (A.set t y ++ L)) : G.con "_law_pick" [.obj t, .int i] (A.set t x ++ L) E Q := by
  refine use g ⟨t, x, i, rfl, ?_, hx, i0, i1, fun y r hr hy => ?_⟩
  · rw [List.getElem?_append_left (by simpa using ht), List.getElem?_set_self ht]
  · rw [List.set_append_left _ _ (by simpa using ht), List.set_set]; exact h y r hr hy
/-- what is handed back, the pool drawn from -/
theorem rt_pool {A L : Ht} {t : Nat} {x : O} {d : D} {Q : D → Ht → Prop} (hx : tpo x) (hd : pureD d = true) (q : Q d (A.set t x)) : Rt A Q d (A.set t x ++ L) := by
  refine .inr ⟨A.set t x, L, d, rfl, by simp, fun i o e => ?_, fzK_pure hd, q⟩
  by_cases h : t = i
  · subst h
    have ht : t < A.length := by have := (List.getElem?_eq_some_iff.mp e).1; simpa using this
    rw [List.getElem?_set_self ht] at e
    cases e
    obtain ⟨a, l, st, cells, rfl, _⟩ := hx
    have hb : ∀ l2 : List Int, belowDs (A.set t (O.lst [.ls (iL cells), .int a, .int l, .int st])).length (iL l2) = true := fun l => by
      induction l with
      | nil => rfl
      | cons y r ih => show (true && belowDs _ (iL r)) = true; rw [ih]; rfl
    right
    show (belowDs _ (iL cells) && (true && (true && (true && true)))) = true
    rw [hb]; rfl
  · rw [List.getElem?_set_ne h] at e; exact .inl e
theorem set_nil {A : Ht} {t : Nat} {x : O} (h : A[t]? = some x) : A = A.set t x ++ [] := by rw [List.append_nil, set_self h]
theorem tg1 {i : Nat} {d : D} {ρ : Rho} {K : Rho → Prop} (h : K (ρ.set i (some d))) : tgD (.name i) d ρ K := h
theorem start_pool {ir : Iss} {N : Dn} {ρ : Rho} {A : Ht} {t : Nat} {x : O} (h0 : A[t]? = some x) (h : wSs G ir N ρ (A.set t x ++ [])) : wSs G ir N ρ A := by
  have e := set_nil h0
  rw [← e] at h
  exact h
end
theorem one_lk {A : Ht} {t : Nat} {x o : O} : (A.set t x ++ [o])[A.length]? = some o := by
  rw [List.getElem?_append_right (by simp)]; simp
theorem one_set {A : Ht} {t : Nat} {x o u : O} : (A.set t x ++ [o]).set A.length u = A.set t x ++ [u] := by
  rw [List.set_append_right _ _ (by simp)]; simp
theorem lkp {A L : Ht} {t : Nat} {x : O} (ht : t < A.length) : (A.set t x ++ L)[t]? = some x := by rw [List.getElem?_append_left (by simpa using ht), List.getElem?_set_self ht]
theorem setp {A L : Ht} {t : Nat} {x y : O} (ht : t < A.length) : (A.set t x ++ L).set t y = A.set t y ++ L := by rw [List.set_append_left _ _ (by simpa using ht), List.set_set]
theorem recv_app {A : Ht} {n : Nat} {l : List D} (h : A[n]? = some (.lst l)) : recvD .append (.obj n) A := by
  show (match A[n]? with | some (.lst _) => True | _ => False)
  rw [h]; trivial
theorem recv_pop {A : Ht} {n : Nat} {l : List D} (h : A[n]? = some (.lst l)) : recvD .pop (.obj n) A := by
  show (match A[n]? with | some (.lst _) => True | _ => False)
  rw [h]; trivial
theorem tame_pool {A : Ht} {t : Nat} {x : O} (hx : tpo x) : Tame A (A.set t x) := fun i o e => by
  by_cases h : t = i
  · subst h
    have ht : t < A.length := by have := (List.getElem?_eq_some_iff.mp e).1; simpa using this
    rw [List.getElem?_set_self ht] at e
    cases e
    obtain ⟨a, l, st, cells, rfl, _⟩ := hx
    have hb : ∀ l2 : List Int, belowDs (A.set t (O.lst [.ls (iL cells), .int a, .int l, .int st])).length (iL l2) = true := fun l => by
      induction l with
      | nil => rfl
      | cons y r ih => show (true && belowDs _ (iL r)) = true; rw [ih]; rfl
    right
    show (belowDs _ (iL cells) && (true && (true && (true && true)))) = true
    rw [hb]; rfl
  · rw [List.getElem?_set_ne h] at e; exact .inl e
theorem nL_push {l : List Nat} {n : Nat} : nL l ++ [.int (n : Int)] = nL (l ++ [n]) := by simp
theorem getD_at {l : List Nat} {i : Nat} (h : i < l.length) : l.getD i 0 = l[i] := by simp [List.getD_eq_getElem?_getD, List.getElem?_eq_getElem h]
theorem rt_plst {A L : Ht} {t n : Nat} {x : O} {l : List D} {Q : D → Ht → Prop} (hx : tpo x) (e : (A.set t x ++ L)[n]? = some (.lst l)) (hn : A.length ≤ n) (hl : pureDs l = true) (q : Q (.ls l) (A.set t x)) : Rt A Q (.obj n) (A.set t x ++ L) := by
  refine .inr ⟨A.set t x, L, _, rfl, by simp, tame_pool hx, ?_, q⟩
  have h : ¬ n < (A.set t x).length := by simp; omega
  simp only [fzK, fzD, if_neg h, e, fzs_pure l hl, Option.map_some]
section
variable {A L : Ht} {t : Nat} {x o u : O}
theorem two_lk : (A.set t x ++ (L ++ [o]))[A.length + L.length]? = some o := by
  rw [List.getElem?_append_right (by simp), List.length_set, Nat.add_sub_cancel_left]; simp
theorem two_set : (A.set t x ++ (L ++ [o])).set (A.length + L.length) u = A.set t x ++ (L ++ [u]) := by
  rw [List.set_append_right _ _ (by simp), List.length_set, Nat.add_sub_cancel_left, List.set_append_right _ _ (Nat.le_refl _)]; simp
theorem two_len : (A.set t x ++ L).length = A.length + L.length := by simp
theorem two_push : A.set t x ++ L ++ [u] = A.set t x ++ (L ++ [u]) := List.append_assoc ..
end
abbrev sI (i : Nat) : Str := ((toString ((i : Nat) : Int) : String) : Str)
theorem lg {i : Nat} (h : i < 1900) : ((i : Nat) : Int).natAbs.log2 < 1920 := by rw [Int.natAbs_natCast]; exact Nat.lt_of_le_of_lt (Nat.log2_le_self i) (by omega)
/-- a comprehension of draws -/
theorem comp_draw {st : D → Ht → (Option D → Ht → Prop) → Prop} {fin : List D → Ht → Prop} {items : List D} {A L : Ht} {t : Nat} {x : O} (n c : Nat) (e : Nat → D) (hi : items = (List.range n).map e) (hn : n ≤ 65536) (hx : tpo x)
    (hs : ∀ (i : Nat) (x : O) (k : Option D → Ht → Prop), i < n → tpo x → (∀ (y : O) (v : Nat), tpo y → v ≤ c → k (some (.int (v : Int))) (A.set t y ++ L)) → st (e i) (A.set t x ++ L) k)
    (hf : ∀ (y : O) (g : Nat → Nat), tpo y → (∀ v, v < n → g v ≤ c) → fin (Fl.rl n fun v => .int (g v : Int)) (A.set t y ++ L)) : compD (fun _ => True) st fin items [] (A.set t x ++ L) := by
  subst hi
  refine comp_go (fun i acc A' => ∃ (x : O) (vs : List Nat), tpo x ∧ A' = A.set t x ++ L ∧ vs.length = i ∧ (∀ v ∈ vs, v ≤ c) ∧ acc = nL vs) ⟨x, [], hx, rfl, rfl, by simp, rfl⟩ (fun _ _ _ _ => True.intro) ?_ ?_
  · rintro i hi acc A1 k ⟨x, vs, hx, rfl, hl, hv, rfl⟩ _ hk
    have hi2 : i < n := by simpa using hi
    rw [List.getElem_map, List.getElem_range]
    refine hs i x k hi2 hx fun y v hy hvc => hk _ _ ⟨szL (by simp; omega), y, vs ++ [v], hy, rfl, by simp [hl], fun w hw => ?_, by simp⟩
    rcases List.mem_append.mp hw with hw | hw
    · exact hv w hw
    · rw [List.mem_singleton.mp hw]; exact hvc
  · rintro acc A1 ⟨x, vs, hx, rfl, hl, hv, rfl⟩
    have hl : vs.length = n := by simpa using hl
    rw [nL_rl, hl]
    refine hf x _ hx fun v hv2 => ?_
    rw [getD_at (by omega)]
    exact hv _ (List.getElem_mem _)
theorem clean_cons {d : D} {r : Rho} (h : nonX d) : clean (some d :: r) = some d :: clean r := by cases d <;> first | rfl | exact h.elim
theorem lk1 {A : Ht} {o : O} : (A ++ [o])[A.length]? = some o := List.getElem?_concat_length
theorem set1 {A : Ht} {o u : O} : (A ++ [o]).set A.length u = A ++ [u] := by rw [List.set_append_right _ _ (by simp)]; simp
theorem ixn {l : List D} {v : Nat} (h : v < l.length) : L2.ixN l.length (v : Int) = some v := by unfold L2.ixN; rw [if_pos (by omega), if_pos (by omega)]; simp
end Tp
end TextLw4

section TextK02b
set_option autoImplicit false
set_option maxRecDepth 100000
set_option maxHeartbeats 4000000
/-! K02b: the tape, a pick. -/
namespace K02
open PySem Px Fl Nt Lw Tp
local macro_rules | `(tactic| walk_at "px") => `(tactic| ((conv => whnf); repeat ((refine And.intro (by first | exact True.intro | exact Px.sz2 | exact Px.sz3 | exact Px.sz1 | exact Px.sz0 | exact Px.sz4 | exact Px.sz5 | exact Px.sz6 | exact Px.sz7 | exact Px.sz8 | exact Px.sz9 | decide) ?_); (conv => whnf))))
/-- what the tape holds -/
def tpX (c : Nat) (st a r : Int) : List (L2.Key × D) := [(.inr "state", .int st), (.inr "cells", .obj c), (.inr "at", .int a), (.inr "rest", .int r)]
theorem tpX_ex : ∃ F : Nat → Int → Int → Int → List (L2.Key × D), F = tpX := ⟨_, rfl⟩
noncomputable def tpL : Nat → Int → Int → Int → List (L2.Key × D) := Classical.choose tpX_ex
theorem tpL_eq : tpL = tpX := Classical.choose_spec tpX_ex
section
variable {c : Nat} {st a r x : Int}
theorem tl_st : lookK (tpL c st a r) (.inr "state") = some (.int st) := by rw [tpL_eq]; rfl
theorem tl_ce : lookK (tpL c st a r) (.inr "cells") = some (.obj c) := by rw [tpL_eq]; rfl
theorem tl_at : lookK (tpL c st a r) (.inr "at") = some (.int a) := by rw [tpL_eq]; rfl
theorem tl_re : lookK (tpL c st a r) (.inr "rest") = some (.int r) := by rw [tpL_eq]; rfl
theorem tp_st : putK (tpL c st a r) (.inr "state") (.int x) = tpL c x a r := by rw [tpL_eq]; rfl
theorem tp_at : putK (tpL c st a r) (.inr "at") (.int x) = tpL c st x r := by rw [tpL_eq]; rfl
theorem tp_re : putK (tpL c st a r) (.inr "rest") (.int x) = tpL c st a x := by rw [tpL_eq]; rfl
theorem tp_len : (tpL c st a r).length = 4 := by rw [tpL_eq]; rfl
end
def tpo (c : Nat) (x : O) : Prop := ∃ st a r : Int, x = .dic (tpL c st a r) ∧ 0 ≤ a ∧ 0 ≤ r
/-- the cells stand -/
structure Tb (A : Ht) (t c : Nat) : Prop where
  tc : t ≠ c
  ta : t < A.length
  cl : ∃ cells : List Int, A[c]? = some (.lst (iL cells)) ∧ ∀ y ∈ cells, 0 ≤ y
def con__law_tape : Con := fun ds A E Q => ∃ ns : List Int, ds = [.rol (iL ns)] ∧ ns.length ≤ 63 ∧ ∀ (o x : O), tpo A.length x → (∃ cells : List Int, o = .lst (iL cells) ∧ ∀ y ∈ cells, 0 ≤ y) → Q (.obj (A.length + 1)) (A ++ [o, x])
def con__law_pick : Con := fun ds A E Q => ∃ (t c : Nat) (x : O) (i : Int), ds = [.obj t, .int i] ∧ A[t]? = some x ∧ tpo c x ∧ Tb A t c ∧ 0 < i ∧ i < 1000000 ∧ ∀ (y : O) (r : Nat), (r : Int) < i → tpo c y → Q (.int (r : Int)) (A.set t y)
section
variable {G : Env'}
theorem md (x : Int) {m : Nat} (h : 0 < m) : ∃ r : Nat, x % (m : Int) = (r : Int) ∧ r < m := by
  have h1 := Int.emod_nonneg x (show (m : Int) ≠ 0 by omega)
  have h2 := Int.emod_lt_of_pos x (show (0 : Int) < m by omega)
  exact ⟨(x % (m : Int)).toNat, by omega, by omega⟩
theorem set_self {A : Ht} {t : Nat} {x : O} (h : A[t]? = some x) : A.set t x = A := by
  apply List.ext_getElem?
  intro i
  by_cases e : t = i
  · subst e; rw [at_set h, h]
  · rw [List.getElem?_set_ne e]
theorem set_nil {A : Ht} {t : Nat} {x : O} (h : A[t]? = some x) : A = A.set t x ++ [] := by rw [List.append_nil, set_self h]
theorem start_pool {ir : Iss} {N : Dn} {ρ : Rho} {A : Ht} {t : Nat} {x : O} (h0 : A[t]? = some x) (h : wSs G ir N ρ (A.set t x ++ [])) : wSs G ir N ρ A := by
  have e := set_nil h0
  rw [← e] at h
  exact h
theorem Tb.up {A L : Ht} {t c : Nat} {x : O} (T : Tb A t c) : Tb (A.set t x ++ L) t c := by
  obtain ⟨cells, e, hc⟩ := T.cl
  have hl := (List.getElem?_eq_some_iff.mp e).1
  exact ⟨T.tc, by have := T.ta; simp; omega, cells, by rw [List.getElem?_append_left (by simpa using hl), List.getElem?_set_ne T.tc]; exact e, hc⟩
theorem pk (g : G.con "_law_pick" = con__law_pick) {A L : Ht} {t c : Nat} {x : O} {i : Int} {E Q : D → Ht → Prop} (T : Tb A t c) (hx : tpo c x) (i0 : 0 < i) (i1 : i < 1000000) (h : ∀ (y : O) (r : Nat), (r : Int) < i → tpo c y → Q (.int (r : Int)) (A.set t y ++ L)) : G.con "_law_pick" [.obj t, .int i] (A.set t x ++ L) E Q := by
  have ht := T.ta
  refine use g ⟨t, c, x, i, rfl, ?_, hx, T.up, i0, i1, fun y r hr hy => ?_⟩
  · rw [List.getElem?_append_left (by simpa using ht), List.getElem?_set_self ht]
  · rw [List.set_append_left _ _ (by simpa using ht), List.set_set]; exact h y r hr hy
theorem lkp {A L : Ht} {t : Nat} {x : O} (ht : t < A.length) : (A.set t x ++ L)[t]? = some x := by rw [List.getElem?_append_left (by simpa using ht), List.getElem?_set_self ht]
theorem setp {A L : Ht} {t : Nat} {x y : O} (ht : t < A.length) : (A.set t x ++ L).set t y = A.set t y ++ L := by rw [List.set_append_left _ _ (by simpa using ht), List.set_set]
/-- what is handed back, the tape drawn from -/
theorem rt_pool {A L : Ht} {t c : Nat} {x : O} {d : D} {Q : D → Ht → Prop} (T : Tb A t c) (hx : tpo c x) (hd : pureD d = true) (q : Q d (A.set t x)) : Rt A Q d (A.set t x ++ L) := by
  refine .inr ⟨A.set t x, L, d, rfl, by simp, fun i o e => ?_, fzK_pure hd, q⟩
  by_cases h : t = i
  · subst h
    have ht : t < A.length := T.ta
    rw [List.getElem?_set_self ht] at e
    cases e
    obtain ⟨st, a, r, rfl, _⟩ := hx
    obtain ⟨cells, e2, _⟩ := T.cl
    have hl := (List.getElem?_eq_some_iff.mp e2).1
    right
    rw [tpL_eq]
    show (true && (decide (c < _) && (true && (true && true)))) = true
    rw [decide_eq_true (by simpa using hl)]; rfl
  · rw [List.getElem?_set_ne h] at e; exact .inl e
def restp : Iss := match ir__law_pick with | .cons _ r => r | .nil => .nil
theorem pick2 {A : Ht} {E Q : D → Ht → Prop} {t c m : Nat} {st : Int} {x0 : O} (ht : A[t]? = some x0) (T : Tb A t c) (m0 : 0 < m) (m1 : m < 1000000)
    (q : ∀ (y : O) (r : Nat), r < m → tpo c y → Q (.int (r : Int)) (A.set t y)) (a b : Int) (a0 : 0 ≤ a) (b0 : 0 ≤ b) :
    wSs G restp { nx := fun _ A' => Rt A Q .non A', rt := Rt A Q, xe := fun _ d A' => RtE A E d A' } [some (.obj t), some (.int (m : Int)), none] (A.set t (.dic (tpL c st b a))) := by
  have atx : ∀ y : O, (A.set t y)[t]? = some y := fun y => at_set ht
  have ss : ∀ y z : O, (A.set t y).set t z = A.set t z := fun y z => List.set_set ..
  have hmi : (0 : Int) < (m : Int) := by omega
  have s4 : ∀ {c : Nat} {st a r : Int}, (tpL c st a r).length < PySem.sizeLine := by intros; rw [tp_len, PySem.sizeLine_eq]; decide
  refine w_if (decide ((0 : Int) < a)) (fun K hK => ?_) (fun h => ?_) (fun h => ?_)
  · conv => whnf
    rw [atx]
    conv => whnf
    rw [tl_re]
    exact hK
  · conv => whnf
    rw [atx]
    conv => whnf
    rw [tl_re]
    conv => whnf
    refine ⟨hmi, ?_⟩
    conv => whnf
    rw [atx]
    conv => whnf
    rw [tl_re]
    conv => whnf
    refine ⟨hmi, .inl (by omega), ?_⟩
    conv => whnf
    rw [atx]
    conv => whnf
    refine ⟨s4, ?_⟩
    conv => whnf
    obtain ⟨r, er, hr⟩ := md a m0
    rw [er, ss, tp_re]
    exact .inl (q _ r hr ⟨_, _, _, rfl, b0, Int.ediv_nonneg a0 (by omega)⟩)
  · conv => whnf
    rw [atx]
    conv => whnf
    rw [tl_st]
    conv => whnf
    refine ⟨.inl (.inr ⟨by decide, by decide⟩), ?_⟩
    walk_at "px"
    rw [atx]
    conv => whnf
    refine ⟨s4, ?_⟩
    conv => whnf
    rw [ss, tp_st, atx]
    conv => whnf
    rw [tl_st]
    conv => whnf
    refine ⟨.inl (.inr ⟨by decide, by decide⟩), by decide, by decide, .inl (by decide), hmi, ?_⟩
    conv => whnf
    obtain ⟨r, er, hr⟩ := md (st * 39373 % 2147483587 * 16807 % 2147483587 / 64) m0
    rw [er]
    exact .inl (q _ r hr ⟨_, _, _, rfl, b0, a0⟩)
theorem b__law_pick : Pf G cc__law_pick.N ir__law_pick con__law_pick := by
  rintro ds A E Q ⟨t, c, x, i, rfl, ht, ⟨st, b, a, rfl, b0, a0⟩, T, i0, i1, q⟩
  obtain ⟨m, rfl⟩ : ∃ m : Nat, i = (m : Int) := ⟨i.toNat, by omega⟩
  have m0 : 0 < m := by omega
  have m1 : m < 1000000 := by omega
  replace q : ∀ (y : O) (r : Nat), r < m → tpo c y → Q (.int (r : Int)) (A.set t y) := fun y r hr hy => q y r (by omega) hy
  have atx : ∀ y : O, (A.set t y)[t]? = some y := fun y => at_set ht
  have ss : ∀ y z : O, (A.set t y).set t z = A.set t z := fun y z => List.set_set ..
  have s4 : ∀ {c : Nat} {st a r : Int}, (tpL c st a r).length < PySem.sizeLine := by intros; rw [tp_len, PySem.sizeLine_eq]; decide
  have p2 := fun a b a0 b0 => pick2 (G := G) (E := E) (st := st) ht T m0 m1 q a b a0 b0
  obtain ⟨cells, hc, hcs⟩ := T.cl
  have hcx : ∀ y : O, (A.set t y)[c]? = some (.lst (iL cells)) := fun y => by rw [List.getElem?_set_ne T.tc]; exact hc
  refine w_if (decide (a = 0) && decide (b < (cells.length : Int))) (fun K hK => ?_) (fun h => ?_) (fun h => ?_)
  · conv => whnf
    rw [ht]
    conv => whnf
    rw [tl_re]
    conv => whnf
    cases h : decide (a = 0) with
    | false => rw [h] at hK; exact hK
    | true =>
      rw [h] at hK
      conv => whnf
      rw [ht]
      conv => whnf
      rw [tl_at]
      conv => whnf
      rw [ht]
      conv => whnf
      rw [tl_ce]
      conv => whnf
      rw [hc]
      conv => whnf
      rw [iL_len]
      exact hK
  · simp only [Bool.and_eq_true, decide_eq_true_eq] at h
    obtain ⟨k, rfl⟩ : ∃ k : Nat, b = (k : Int) := ⟨b.toNat, by omega⟩
    have hk : k < cells.length := by omega
    conv => whnf
    rw [ht]
    conv => whnf
    rw [tl_ce]
    conv => whnf
    rw [ht]
    conv => whnf
    rw [tl_at]
    conv => whnf
    rw [hc]
    conv => whnf
    rw [L2.atI_nat (iL_get hk)]
    conv => whnf
    rw [ht]
    conv => whnf
    refine ⟨s4, ?_⟩
    conv => whnf
    rw [tp_re, atx]
    conv => whnf
    rw [tl_at]
    conv => whnf
    rw [atx]
    conv => whnf
    refine ⟨s4, ?_⟩
    conv => whnf
    rw [ss, tp_at]
    exact p2 cells[k] ((k : Int) + 1) (hcs _ (List.getElem_mem hk)) (by omega)
  · have p := p2 a b a0 b0
    rw [show A.set t (.dic (tpL c st b a)) = A from set_self ht] at p
    exact p
theorem b__law_tape : Pf G cc__law_tape.N ir__law_tape con__law_tape := by
  rintro ds A E Q ⟨ns, rfl, hl, q⟩
  refine w_post (fun ρ' A' => A' = A ∧ ρ' = [some (.rol (iL ns)), some (.int 0), none, none]) (fun K hK => hK _ _ ⟨rfl, rfl⟩) ?_
  rintro ρ' A' ⟨rfl, rfl⟩
  refine w_post (fun ρ' B => B = A' ++ [.lst (iL [])] ∧ ρ' = [some (.rol (iL ns)), some (.int 0), some (.obj A'.length), none]) (fun K hK => ?_) ?_
  · conv => whnf
    refine ⟨sz0, ?_⟩
    exact nl_o (hK _ _ ⟨rfl, rfl⟩)
  rintro ρ' B ⟨rfl, rfl⟩
  conv => whnf
  refine loop_i ns (fun n => D.int n) (fun i ρ B => ∃ (st : Int) (cells : List Int) (x3 : Option D), (∀ y ∈ cells, 0 ≤ y) ∧ cells.length ≤ i ∧ B = A' ++ [.lst (iL cells)] ∧ ρ = [some (.rol (iL ns)), some (.int st), some (.obj A'.length), x3]) rfl ⟨0, [], none, by simp, by simp, rfl, rfl⟩ (fun _ _ _ _ => True.intro) ?_ ?_
  · rintro i hi ρ B K ⟨st, cells, x3, hc, hlc, rfl, rfl⟩ hK
    refine tg1 ?_
    conv => whnf
    refine ⟨.inl (.inr ⟨by decide, by decide⟩), by decide, ?_⟩
    conv => whnf
    refine ⟨⟨by decide, by decide, by decide⟩, ?_⟩
    conv => whnf
    by_cases z : (10 : Int) ^ (18 : Int).toNat < (if ns[i] < 0 then -ns[i] else ns[i])
    · rw [decide_eq_true z]
      conv => whnf
      refine ⟨recv_app lk1, ?_⟩
      conv => whnf
      rw [lk1]
      conv => whnf
      refine ⟨szL (by rw [iL_len]; omega), ?_⟩
      conv => whnf
      rw [set1]
      refine hK _ _ ⟨_, cells ++ [if ns[i] < 0 then -ns[i] else ns[i]], _, fun y hy => ?_, by simp; omega, by simp, rfl⟩
      rcases List.mem_append.mp hy with hy | hy
      · exact hc y hy
      · rw [List.mem_singleton.mp hy]; split <;> omega
    · rw [decide_eq_false z]
      exact hK _ _ ⟨_, cells, _, hc, by omega, rfl, rfl⟩
  · rintro ρ B ⟨st, cells, x3, hc, hlc, rfl, rfl⟩
    conv => whnf
    refine ⟨by decide, rfl, by decide, List.getElem?_concat_length, ?_⟩
    rw [show (A' ++ [O.lst (iL cells)] ++ [O.dic []]).set (A' ++ [O.lst (iL cells)]).length (O.dic _) = A' ++ [O.lst (iL cells)] ++ [O.dic _] from set1]
    rw [List.append_assoc, show (A' ++ [O.lst (iL cells)]).length = A'.length + 1 by simp]
    exact .inl (q _ _ ⟨st, 0, 0, by rw [tpL_eq]; rfl, by decide, by decide⟩ ⟨cells, rfl, hc⟩)
end
end K02
end TextK02b

section TextK02c
set_option autoImplicit false
set_option maxRecDepth 100000
set_option maxHeartbeats 4000000
/-! K02c: the net. -/
namespace K02
open PySem Px Fl Nt Lw Tp
local macro_rules | `(tactic| walk_at "px") => `(tactic| ((conv => whnf); repeat ((refine And.intro (by first | exact True.intro | exact Px.sz2 | exact Px.sz3 | exact Px.sz1 | exact Px.sz0 | exact Px.sz4 | exact Px.sz5 | exact Px.sz6 | exact Px.sz7 | exact Px.sz8 | exact Px.sz9 | decide) ?_); (conv => whnf))))
structure smN (N : Net) : Prop where
  ok : N.ok
  fs : N.fs.length ≤ 4
  t1 : 1 ≤ N.ts.length
  ts : N.ts.length ≤ 6
  sw : N.sw.length ≤ 9
/-- a switch that may stand -/
structure okS (n : Nat) (s : Sw) : Prop where
  st : 1 ≤ s.st ∧ s.st ≤ 6
  en : s.l < n ∧ s.r < n ∧ s.l ≠ s.r
def con__law_switch : Con := fun ds A E Q => ∃ (t c : Nat) (x : O) (n s l r : Nat), ds = [.obj t, .int (n : Int), .int (s : Int), .int (l : Int), .int (r : Int)] ∧ A[t]? = some x ∧ tpo c x ∧ Tb A t c ∧ 0 < n ∧ n < 1000000 ∧ ∀ (y : O) (w : Sw), tpo c y → w.st = s → w.l = l → w.r = r → Q w.d (A.set t y)
def con__law_net : Con := fun ds A E Q => ∃ (t c : Nat) (x : O), ds = [.obj t] ∧ A[t]? = some x ∧ tpo c x ∧ Tb A t c ∧ ∀ (y : O) (N : Net), tpo c y → smN N → Q N.d (A.set t y)
def bD (b : Str × Nat) : D := .tup [.str b.1, .int (b.2 : Int)]
def fsL : List Str := ["low", "high", "d", "g[1]"]
theorem cut_to {l : List D} {n : Nat} : cutD l none (some (n : Int)) = l.take n := Lw.cut_to
section
variable {G : Env'}
theorem b__law_switch (g : G.con "_law_pick" = con__law_pick) : Pf G cc__law_switch.N ir__law_switch con__law_switch := by
  rintro ds A E Q ⟨t, c, x, n, s, l, r, rfl, ht0, hx, T, n0, n1, q⟩
  refine start_pool ht0 ?_
  have ret : ∀ (y : O) (kd : Str) (gt : Int), tpo c y → Rt A Q (.tup [.str kd, .int (s : Int), .int gt, .int (l : Int), .int (r : Int)]) (A.set t y ++ []) := fun y kd gt hy => rt_pool T hy rfl (q y ⟨kd, s, gt, l, r⟩ hy rfl rfl rfl)
  refine w_post (fun ρ' B => ∃ (x : O) (kd : Str), tpo c x ∧ B = A.set t x ++ [] ∧ ρ' = [some (.obj t), some (.int (n : Int)), some (.int (s : Int)), some (.int (l : Int)), some (.int (r : Int)), some (.str kd)]) (fun K hK => ?_) ?_
  · conv => whnf
    refine ⟨sz3, .inl ?_⟩
    conv => whnf
    refine pk g T hx (by decide) (by decide) fun y z hz hy => ?_
    obtain ⟨kd, ek⟩ : ∃ kd : Str, L2.atI [D.str "tie", .str "one", .str "zero"] (z : Int) = some (.str kd) := by
      have : z = 0 ∨ z = 1 ∨ z = 2 := by omega
      rcases this with rfl | rfl | rfl <;> exact ⟨_, rfl⟩
    conv => whnf
    rw [ek]
    exact hK _ _ ⟨y, kd, hy, rfl, rfl⟩
  rintro ρ' B ⟨x, kd, hx, rfl, rfl⟩
  conv => whnf
  by_cases z : kd = "tie"
  · rw [decide_eq_true z]
    conv => whnf
    refine ⟨sz5, ?_⟩
    exact ret x kd _ hx
  · rw [decide_eq_false z]
    conv => whnf
    refine pk g T hx (by omega) (by omega) fun y gt hgt hy => ?_
    conv => whnf
    refine ⟨sz5, ?_⟩
    exact ret y kd _ hy
theorem b__law_net (g : G.con "_law_pick" = con__law_pick) (g2 : G.con "_law_switch" = con__law_switch) : Pf G cc__law_net.N ir__law_net con__law_net := by
  rintro ds A E Q ⟨t, c, x, rfl, ht0, hx, T, q⟩
  have tc : ∀ {x L}, Tb (A.set t x ++ L) t c := T.up
  have lt : ∀ {x L}, (A.set t x ++ L)[t]? = some x := lkp T.ta
  refine start_pool ht0 ?_
  refine w_post (fun ρ' B => ∃ (x : O) (nf : Nat), tpo c x ∧ 2 ≤ nf ∧ nf ≤ 4 ∧ B = A.set t x ++ [] ∧ ρ' = [some (.obj t), some (.int (nf : Int)), none, none, none, none, none, none, none, none, none, none, none, none, none, none]) (fun K hK => ?_) ?_
  · conv => whnf
    refine pk g T hx (by decide) (by decide) fun y r hr hy => ?_
    conv => whnf
    rw [show (2 : Int) + (r : Int) = ((2 + r : Nat) : Int) by omega]
    exact hK _ _ ⟨y, _, hy, by omega, by omega, rfl, rfl⟩
  clear hx
  rintro ρ' B ⟨x, nf, hx, nf1, nf2, rfl, rfl⟩
  refine w_post (fun ρ' B => ∃ (x : O) (nt : Nat), tpo c x ∧ 1 ≤ nt ∧ nt ≤ 6 ∧ B = A.set t x ++ [] ∧ ρ' = [some (.obj t), some (.int (nf : Int)), some (.int (nt : Int)), none, none, none, none, none, none, none, none, none, none, none, none, none]) (fun K hK => ?_) ?_
  · conv => whnf
    refine pk g T hx (by decide) (by decide) fun y r hr hy => ?_
    conv => whnf
    rw [show (1 : Int) + (r : Int) = ((1 + r : Nat) : Int) by omega]
    exact hK _ _ ⟨y, _, hy, by omega, by omega, rfl, rfl⟩
  clear hx
  rintro ρ' B ⟨x, nt, hx, nt1, nt2, rfl, rfl⟩
  refine w_post (fun ρ' B => B = A.set t x ++ [] ∧ ρ' = [some (.obj t), some (.int (nf : Int)), some (.int (nt : Int)), some (.int ((nf + nt : Nat) : Int)), none, none, none, none, none, none, none, none, none, none, none, none]) (fun K hK => ?_) ?_
  · conv => whnf
    rw [show (nf : Int) + (nt : Int) = ((nf + nt : Nat) : Int) by omega]
    exact hK _ _ ⟨rfl, rfl⟩
  rintro ρ' B ⟨rfl, rfl⟩
  refine w_post (fun ρ' B => ∃ (x : O) (sz : Nat), tpo c x ∧ 1 ≤ sz ∧ sz ≤ 4 ∧ B = A.set t x ++ [] ∧ ρ' = [some (.obj t), some (.int (nf : Int)), some (.int (nt : Int)), some (.int ((nf + nt : Nat) : Int)), some (.int (sz : Int)), none, none, none, none, none, none, none, none, none, none, none]) (fun K hK => ?_) ?_
  · conv => whnf
    refine pk g T hx (by decide) (by decide) fun y r hr hy => ?_
    conv => whnf
    rw [show (1 : Int) + (r : Int) = ((1 + r : Nat) : Int) by omega]
    exact hK _ _ ⟨y, _, hy, by omega, by omega, rfl, rfl⟩
  clear hx
  rintro ρ' B ⟨x, sz, hx, sz1, sz2, rfl, rfl⟩
  refine w_post (fun ρ' B => ∃ (x : O) (sp : Nat), tpo c x ∧ 1 ≤ sp ∧ sp ≤ 3 ∧ B = A.set t x ++ [] ∧ ρ' = [some (.obj t), some (.int (nf : Int)), some (.int (nt : Int)), some (.int ((nf + nt : Nat) : Int)), some (.int (sz : Int)), some (.int (sp : Int)), none, none, none, none, none, none, none, none, none, none]) (fun K hK => ?_) ?_
  · conv => whnf
    refine pk g T hx (by decide) (by decide) fun y r hr hy => ?_
    conv => whnf
    rw [show (1 : Int) + (r : Int) = ((1 + r : Nat) : Int) by omega]
    exact hK _ _ ⟨y, _, hy, by omega, by omega, rfl, rfl⟩
  clear hx
  rintro ρ' B ⟨x, sp, hx, sp1, sp2, rfl, rfl⟩
  refine w_post (fun ρ' B => ∃ (x : O) (fi : Nat), tpo c x ∧ 1 ≤ fi ∧ fi ≤ 4 ∧ B = A.set t x ++ [] ∧ ρ' = [some (.obj t), some (.int (nf : Int)), some (.int (nt : Int)), some (.int ((nf + nt : Nat) : Int)), some (.int (sz : Int)), some (.int (sp : Int)), some (.int (fi : Int)), none, none, none, none, none, none, none, none, none]) (fun K hK => ?_) ?_
  · conv => whnf
    refine pk g T hx (by decide) (by decide) fun y r hr hy => ?_
    conv => whnf
    rw [show (1 : Int) + (r : Int) = ((1 + r : Nat) : Int) by omega]
    exact hK _ _ ⟨y, _, hy, by omega, by omega, rfl, rfl⟩
  clear hx
  rintro ρ' B ⟨x, fi, hx, fi1, fi2, rfl, rfl⟩
  refine w_post (fun ρ' B => B = A.set t x ++ [.lst (([] : List Sw).map Sw.d)] ∧ ρ' = [some (.obj t), some (.int (nf : Int)), some (.int (nt : Int)), some (.int ((nf + nt : Nat) : Int)), some (.int (sz : Int)), some (.int (sp : Int)), some (.int (fi : Int)), some (.obj A.length), none, none, none, none, none, none, none, none]) (fun K hK => ?_) ?_
  · conv => whnf
    refine ⟨sz0, ?_⟩
    refine nl_o ?_
    rw [List.append_nil, List.length_set]
    exact hK _ _ ⟨rfl, rfl⟩
  rintro ρ' B ⟨rfl, rfl⟩
  -- one switch more
  have app : ∀ (x : O) (sws : List Sw) (l r : Nat) (ρ : Rho) (N : Dn) (e9 e11 : Ie), tpo c x → sws.length < 60000 → ρ[0]? = some (some (.obj t)) → ρ[3]? = some (some (.int ((nf + nt : Nat) : Int))) → ρ[5]? = some (some (.int (sp : Int))) → ρ[6]? = some (some (.int (fi : Int))) → ρ[7]? = some (some (.obj A.length)) → (∀ B X Q', Q' (.int (l : Int)) B → wE G e9 ρ B X Q') → (∀ B X Q', Q' (.int (r : Int)) B → wE G e11 ρ B X Q') →
      (∀ (x : O) (w : Sw), tpo c x → 1 ≤ w.st → w.st ≤ 6 → w.l = l → w.r = r → N.nx ρ (A.set t x ++ [.lst ((sws ++ [w]).map Sw.d)])) →
      wS G (.ex (.mt .append (.var 7) (.cons (.call "_law_switch" (.cons (.var 0) (.cons (.var 3) (.cons (.bin .Add (.var 6) (.call "_law_pick" (.cons (.var 0) (.cons (.var 5) .nil)))) (.cons e9 (.cons e11 .nil)))))) .nil))) N ρ (A.set t x ++ [.lst (sws.map Sw.d)]) := by
    intro x sws l r ρ N e9 e11 hx hl h0 h3 h5 h6 h7 h9 h11 hn
    conv => whnf
    rw [h7]
    refine ⟨recv_app one_lk, ?_⟩
    conv => whnf
    rw [h0]
    conv => whnf
    rw [h3]
    conv => whnf
    rw [h6]
    conv => whnf
    rw [h0]
    conv => whnf
    rw [h5]
    refine pk g T hx (by omega) (by omega) fun y z hz hy => ?_
    show wE G e9 ρ _ _ _
    refine h9 _ _ _ ?_
    refine h11 _ _ _ ?_
    show G.con "_law_switch" [.obj t, .int _, .int ((fi : Int) + (z : Int)), .int _, .int _] _ _ _
    rw [show (fi : Int) + (z : Int) = ((fi + z : Nat) : Int) by omega]
    refine use g2 ⟨t, c, y, nf + nt, fi + z, l, r, rfl, lt, hy, tc, by omega, by omega, fun y w hy w1 w2 w3 => ?_⟩
    rw [setp T.ta]
    conv => whnf
    rw [one_lk]
    conv => whnf
    refine ⟨szL (by simp; omega), ?_⟩
    rw [one_set, show sws.map Sw.d ++ [w.d] = (sws ++ [w]).map Sw.d by simp]
    exact hn y w hy (by omega) (by omega) w2 w3
  refine w_post (fun ρ' B => ∃ (x : O) (sws : List Sw) (x8 x9 : Option D), tpo c x ∧ sws.length ≤ nt ∧ (∀ w ∈ sws, okS (nf + nt) w) ∧ B = A.set t x ++ [.lst (sws.map Sw.d)] ∧ ρ' = [some (.obj t), some (.int (nf : Int)), some (.int (nt : Int)), some (.int ((nf + nt : Nat) : Int)), some (.int (sz : Int)), some (.int (sp : Int)), some (.int (fi : Int)), some (.obj A.length), x8, x9, none, none, none, none, none, none]) (fun K hK => ?_) ?_
  · conv => whnf
    refine pk g T hx (by decide) (by decide) fun x r hr hx => ?_
    conv => whnf
    by_cases z : (r : Int) = 0
    · rw [decide_eq_true z]
      conv => whnf
      rw [Int.toNat_natCast]
      refine ⟨by omega, by omega, ?_⟩
      refine loop_i (List.range nt) (fun (i : Nat) => D.int (i : Int)) (fun i ρ B => ∃ (x : O) (sws : List Sw) (x8 x9 : Option D), tpo c x ∧ sws.length = i ∧ (∀ w ∈ sws, okS (nf + nt) w) ∧ B = A.set t x ++ [.lst (sws.map Sw.d)] ∧ ρ = [some (.obj t), some (.int (nf : Int)), some (.int (nt : Int)), some (.int ((nf + nt : Nat) : Int)), some (.int (sz : Int)), some (.int (sp : Int)), some (.int (fi : Int)), some (.obj A.length), x8, x9, none, none, none, none, none, none]) (rng_nat _) ⟨x, [], _, _, hx, rfl, by simp, rfl, rfl⟩ (fun _ _ _ _ => True.intro) ?_ ?_
      · clear hx
        rintro i hi ρ B k ⟨x, sws, x8, x9, hx, hl, hw, rfl, rfl⟩ hk
        have hi2 : i < nt := by simpa using hi
        rw [List.getElem_range]
        refine tg1 ?_
        refine w_post (fun ρ' B => ∃ l : Nat, (l < nf + i) ∧ B = A.set t x ++ [.lst (sws.map Sw.d)] ∧ ρ' = [some (.obj t), some (.int (nf : Int)), some (.int (nt : Int)), some (.int ((nf + nt : Nat) : Int)), some (.int (sz : Int)), some (.int (sp : Int)), some (.int (fi : Int)), some (.obj A.length), some (.int (i : Int)), some (.int (l : Int)), none, none, none, none, none, none]) (fun K hK => ?_) ?_
        · conv => whnf
          by_cases z2 : (i : Int) = 0
          · rw [decide_eq_true z2]
            exact hK _ _ ⟨1, by omega, rfl, rfl⟩
          · rw [decide_eq_false z2]
            conv => whnf
            rw [show (nf : Int) + (i : Int) - 1 = ((nf + i - 1 : Nat) : Int) by omega]
            exact hK _ _ ⟨_, by omega, rfl, rfl⟩
        rintro ρ' B ⟨l, hl2, rfl, rfl⟩
        refine app x sws l (nf + i) _ _ _ _ hx (by omega) rfl rfl rfl rfl rfl (fun _ _ _ h => h) (fun _ _ _ h => ?_) fun x w hx w1 w2 w3 w4 => ?_
        · conv => whnf
          rw [show (nf : Int) + (i : Int) = ((nf + i : Nat) : Int) by omega]
          exact h
        · refine hk _ _ ⟨x, sws ++ [w], _, _, hx, by simp [hl], fun v hv => ?_, rfl, rfl⟩
          rcases List.mem_append.mp hv with hv | hv
          · exact hw v hv
          · rw [List.mem_singleton.mp hv]; exact ⟨⟨w1, w2⟩, by omega, by omega, by omega⟩
      · clear hx
        rintro ρ B ⟨x, sws, x8, x9, hx, hl, hw, rfl, rfl⟩
        exact hK _ _ ⟨x, sws, _, _, hx, by rw [hl, List.length_range]; exact Nat.le_refl _, hw, rfl, rfl⟩
    · rw [decide_eq_false z]
      exact hK _ _ ⟨x, [], _, _, hx, by simp, by simp, rfl, rfl⟩
  clear hx
  rintro ρ' B ⟨x, sws, x8, x9, hx, hsl, hsw, rfl, rfl⟩
  refine w_post (fun ρ' B => ∃ (x : O) (sws : List Sw) (x9 x10 x11 : Option D), tpo c x ∧ sws.length ≤ 9 ∧ (∀ w ∈ sws, okS (nf + nt) w) ∧ B = A.set t x ++ [.lst (sws.map Sw.d)] ∧ ρ' = [some (.obj t), some (.int (nf : Int)), some (.int (nt : Int)), some (.int ((nf + nt : Nat) : Int)), some (.int (sz : Int)), some (.int (sp : Int)), some (.int (fi : Int)), some (.obj A.length), x8, x9, x10, x11, none, none, none, none]) (fun K hK => ?_) ?_
  · conv => whnf
    rw [one_lk]
    conv => whnf
    rw [List.length_map]
    refine pk g T hx (by omega) (by omega) fun x cnt hcnt hx => ?_
    conv => whnf
    rw [Int.toNat_natCast]
    refine ⟨by omega, by omega, ?_⟩
    obtain ⟨n0, hn0⟩ : ∃ n0, n0 = sws.length := ⟨_, rfl⟩
    rw [← hn0] at hcnt
    refine loop_i (List.range cnt) (fun (i : Nat) => D.int (i : Int)) (fun i ρ B => ∃ (x : O) (sws : List Sw) (x9 x10 x11 : Option D), tpo c x ∧ sws.length ≤ n0 + i ∧ (∀ w ∈ sws, okS (nf + nt) w) ∧ B = A.set t x ++ [.lst (sws.map Sw.d)] ∧ ρ = [some (.obj t), some (.int (nf : Int)), some (.int (nt : Int)), some (.int ((nf + nt : Nat) : Int)), some (.int (sz : Int)), some (.int (sp : Int)), some (.int (fi : Int)), some (.obj A.length), x8, x9, x10, x11, none, none, none, none]) (rng_nat _) ⟨x, sws, _, _, _, hx, by omega, hsw, rfl, rfl⟩ (fun _ _ _ _ => True.intro) ?_ ?_
    · clear hx hsl hsw
      rintro i hi ρ B k ⟨x, sws, x9, x10, x11, hx, hl, hw, rfl, rfl⟩ hk
      have hi2 : i < cnt := by simpa using hi
      rw [List.getElem_range]
      refine tg1 ?_
      refine w_post (fun ρ' B => ∃ (x : O) (l : Nat), tpo c x ∧ l < nf + nt ∧ B = A.set t x ++ [.lst (sws.map Sw.d)] ∧ ρ' = [some (.obj t), some (.int (nf : Int)), some (.int (nt : Int)), some (.int ((nf + nt : Nat) : Int)), some (.int (sz : Int)), some (.int (sp : Int)), some (.int (fi : Int)), some (.obj A.length), x8, some (.int (l : Int)), some (.int (i : Int)), x11, none, none, none, none]) (fun K hK => ?_) ?_
      · conv => whnf
        refine pk g T hx (by omega) (by omega) fun x l hl hx => ?_
        exact hK _ _ ⟨x, l, hx, by omega, rfl, rfl⟩
      clear hx
      rintro ρ' B ⟨x, l, hx, hl2, rfl, rfl⟩
      refine w_post (fun ρ' B => ∃ (x : O) (r : Nat), tpo c x ∧ r < nf + nt ∧ l ≠ r ∧ B = A.set t x ++ [.lst (sws.map Sw.d)] ∧ ρ' = [some (.obj t), some (.int (nf : Int)), some (.int (nt : Int)), some (.int ((nf + nt : Nat) : Int)), some (.int (sz : Int)), some (.int (sp : Int)), some (.int (fi : Int)), some (.obj A.length), x8, some (.int (l : Int)), some (.int (i : Int)), some (.int (r : Int)), none, none, none, none]) (fun K hK => ?_) ?_
      · conv => whnf
        refine pk g T hx (by omega) (by omega) fun x r hr hx => ?_
        conv => whnf
        refine ⟨by omega, ?_⟩
        have hlr : ∃ r2 : Nat, ((l : Int) + 1 + (r : Int)) % ((nf + nt : Nat) : Int) = (r2 : Int) ∧ r2 < nf + nt ∧ l ≠ r2 := by
          by_cases h : l + 1 + r < nf + nt
          · exact ⟨l + 1 + r, by rw [show (l : Int) + 1 + (r : Int) = ((l + 1 + r : Nat) : Int) by omega, Int.emod_eq_of_lt (by omega) (by omega)], h, by omega⟩
          · refine ⟨l + 1 + r - (nf + nt), ?_, by omega, by omega⟩
            rw [show (l : Int) + 1 + (r : Int) = ((l + 1 + r - (nf + nt) : Nat) : Int) + ((nf + nt : Nat) : Int) by omega, Int.add_emod_right, Int.emod_eq_of_lt (by omega) (by omega)]
        obtain ⟨r2, er, hr2, hne⟩ := hlr
        rw [er]
        exact hK _ _ ⟨x, r2, hx, hr2, hne, rfl, rfl⟩
      clear hx
      rintro ρ' B ⟨x, r, hx, hr, hne, rfl, rfl⟩
      refine app x sws l r _ _ _ _ hx (by omega) rfl rfl rfl rfl rfl (fun _ _ _ h => h) (fun _ _ _ h => h) fun x w hx w1 w2 w3 w4 => ?_
      refine hk _ _ ⟨x, sws ++ [w], _, _, _, hx, by simp; omega, fun v hv => ?_, rfl, rfl⟩
      rcases List.mem_append.mp hv with hv | hv
      · exact hw v hv
      · rw [List.mem_singleton.mp hv]; exact ⟨⟨w1, w2⟩, by omega, by omega, by omega⟩
    · clear hx hsl hsw
      rintro ρ B ⟨x, sws, x9, x10, x11, hx, hl, hw, rfl, rfl⟩
      rw [List.length_range] at hl
      exact hK _ _ ⟨x, sws, _, _, _, hx, by omega, hw, rfl, rfl⟩
  clear hx hsl hsw
  rintro ρ' B ⟨x, sws, x9, x10, x11, hx, hsl, hsw, rfl, rfl⟩
  refine w_post (fun ρ' B => ∃ fs : List Str, fs.length = nf ∧ B = A.set t x ++ [.lst (sws.map Sw.d)] ∧ ρ' = [some (.obj t), some (.int (nf : Int)), some (.int (nt : Int)), some (.int ((nf + nt : Nat) : Int)), some (.int (sz : Int)), some (.int (sp : Int)), some (.int (fi : Int)), some (.obj A.length), x8, x9, x10, x11, some (.ls (fs.map D.str)), none, none, none]) (fun K hK => ?_) ?_
  · conv => whnf
    refine ⟨sz4, .inl ?_⟩
    conv => whnf
    rw [cut_to, show ([D.str "low", .str "high", .str "d", .str "g[1]"] : List D).take nf = (fsL.take nf).map D.str from by show (fsL.map D.str).take nf = _; rw [List.map_take]]
    exact .inl (hK _ _ ⟨_, by rw [List.length_take]; exact Nat.min_eq_left nf2, rfl, rfl⟩)
  rintro ρ' B ⟨fs, hfl, rfl, rfl⟩
  have hmk : ∀ i : Nat, i < 6 → ∃ z : Str, L2.atI [D.str "m", .str "n", .str "o.p", .str "q_2", .str "r[0][3]", .str "s"] (i : Int) = some (.str z) := fun i hi => by
    have : i = 0 ∨ i = 1 ∨ i = 2 ∨ i = 3 ∨ i = 4 ∨ i = 5 := by omega
    rcases this with rfl | rfl | rfl | rfl | rfl | rfl <;> exact ⟨_, rfl⟩
  refine w_post (fun ρ' B => B = A.set t x ++ [.lst (sws.map Sw.d)] ∧ ρ' = [some (.obj t), some (.int (nf : Int)), some (.int (nt : Int)), some (.int ((nf + nt : Nat) : Int)), some (.int (sz : Int)), some (.int (sp : Int)), some (.int (fi : Int)), some (.obj A.length), x8, x9, x10, x11, some (.ls (fs.map D.str)), some (.ls [D.str "m", .str "n", .str "o.p", .str "q_2", .str "r[0][3]", .str "s"]), none, none]) (fun K hK => ?_) ?_
  · conv => whnf
    refine ⟨sz6, .inl ?_⟩
    exact hK _ _ ⟨rfl, rfl⟩
  rintro ρ' B ⟨rfl, rfl⟩
  refine w_post (fun ρ' B => ∃ (x : O) (ts : List (Str × Nat)) (x15 : Option D), tpo c x ∧ ts.length = nt ∧ (∀ b ∈ ts, 1 ≤ b.2 ∧ b.2 ≤ 4) ∧ B = A.set t x ++ [.lst (sws.map Sw.d)] ∧ ρ' = [some (.obj t), some (.int (nf : Int)), some (.int (nt : Int)), some (.int ((nf + nt : Nat) : Int)), some (.int (sz : Int)), some (.int (sp : Int)), some (.int (fi : Int)), some (.obj A.length), x8, x9, x10, x11, some (.ls (fs.map D.str)), some (.ls [D.str "m", .str "n", .str "o.p", .str "q_2", .str "r[0][3]", .str "s"]), some (.ls (ts.map bD)), x15]) (fun K hK => ?_) ?_
  · conv => whnf
    rw [Int.toNat_natCast, rng_nat]
    refine ⟨by omega, by omega, ?_⟩
    refine comp_go (fun i acc B => ∃ (x : O) (ts : List (Str × Nat)), tpo c x ∧ B = A.set t x ++ [.lst (sws.map Sw.d)] ∧ ts.length = i ∧ (∀ b ∈ ts, 1 ≤ b.2 ∧ b.2 ≤ 4) ∧ acc = ts.map bD) ⟨x, [], hx, rfl, rfl, by simp, rfl⟩ (fun _ _ _ _ => True.intro) ?_ ?_
    · clear hx
      rintro i hi acc B k ⟨x, ts, hx, rfl, hts, hsz, rfl⟩ _ hk
      have hi2 : i < nt := by simpa using hi
      rw [List.getElem_map, List.getElem_range]
      obtain ⟨z, ez⟩ := hmk i (by omega)
      conv => whnf
      rw [ez]
      conv => whnf
      refine pk g T hx (by omega) (by omega) fun x r hr hx => ?_
      conv => whnf
      refine ⟨Px.sz2, ?_⟩
      rw [show (1 : Int) + (r : Int) = ((1 + r : Nat) : Int) by omega]
      refine hk _ _ ⟨szL (by simp; omega), x, ts ++ [(z, 1 + r)], hx, rfl, by simp [hts], fun b hb => ?_, by simp [bD]⟩
      rcases List.mem_append.mp hb with hb | hb
      · exact hsz b hb
      · rw [List.mem_singleton.mp hb]; exact ⟨by show 1 ≤ 1 + r; omega, by show 1 + r ≤ 4; omega⟩
    · clear hx
      rintro acc B ⟨x, ts, hx, rfl, hts, hsz, rfl⟩
      exact .inl (hK _ _ ⟨x, ts, _, hx, by simpa using hts, hsz, rfl, rfl⟩)
  clear hx
  rintro ρ' B ⟨x, ts, x15, hx, hts, hsz, rfl, rfl⟩
  conv => whnf
  rw [one_lk]
  conv => whnf
  refine ⟨sz3, ?_⟩
  exact rt_pool T hx (net_pure ⟨fs, ts, sws⟩) (q x ⟨fs, ts, sws⟩ hx ⟨⟨by show 2 ≤ fs.length; omega, by show fs.length ≤ 64; omega, by show ts.length ≤ 128; omega, by show sws.length ≤ 512; omega, hsz, fun s hs => (hsw s hs).st, fun s hs => by
      have := (hsw s hs).en
      show s.l < fs.length + ts.length ∧ s.r < fs.length + ts.length ∧ s.l ≠ s.r
      rw [hfl, hts]; exact this⟩, by show fs.length ≤ 4; omega, by show 1 ≤ ts.length; omega, by show ts.length ≤ 6; omega, hsl⟩)
end
end K02
end TextK02c

section TextK02d
set_option autoImplicit false
set_option maxRecDepth 100000
set_option maxHeartbeats 4000000
/-! K02d: positions and held values. -/
namespace K02
open PySem Px Fl Nt Lw Tp
local macro_rules | `(tactic| walk_at "px") => `(tactic| ((conv => whnf); repeat ((refine And.intro (by first | exact True.intro | exact Px.sz2 | exact Px.sz3 | exact Px.sz1 | exact Px.sz0 | exact Px.sz4 | exact Px.sz5 | exact Px.sz6 | exact Px.sz7 | exact Px.sz8 | exact Px.sz9 | decide) ?_); (conv => whnf))))
def con__law_question : Con := fun ds A E Q => ∃ (t c : Nat) (x : O) (N : Net), ds = [.obj t, N.d] ∧ A[t]? = some x ∧ tpo c x ∧ Tb A t c ∧ smN N ∧ ∀ (y : O) (p h : Nat → Nat), tpo c y → okP N p → okH N h → Q (.tup [.tup (posL N p), .tup (heldL N h)]) (A.set t y)
/-- two lists of one's own -/
theorem d1 {A : Ht} {t : Nat} {x a b : O} : (A.set t x ++ [a, b])[A.length]? = some a := by rw [List.getElem?_append_right (by simp)]; simp
theorem d2 {A : Ht} {t : Nat} {x a b : O} : (A.set t x ++ [a, b])[A.length + 1]? = some b := by rw [List.getElem?_append_right (by simp)]; simp
theorem e1 {A : Ht} {t : Nat} {x a b u : O} : (A.set t x ++ [a, b]).set A.length u = A.set t x ++ [u, b] := by rw [List.set_append_right _ _ (by simp)]; simp
theorem e2 {A : Ht} {t : Nat} {x a b u : O} : (A.set t x ++ [a, b]).set (A.length + 1) u = A.set t x ++ [a, u] := by rw [List.set_append_right _ _ (by simp)]; simp
theorem nL_all {l : List Nat} {n : Nat} (e : l.length = n) : nL l = rl n fun i => .int ((l.getD i 0 : Nat) : Int) := by rw [← e]; exact nL_rl l
section
variable {G : Env'}
theorem b__law_question (g : G.con "_law_pick" = con__law_pick) : Pf G cc__law_question.N ir__law_question con__law_question := by
  rintro ds A E Q ⟨t, c, x, N, rfl, ht0, hx, T, sm, q⟩
  have hsw := sm.sw; have hfs := sm.fs; have hts := sm.ts; have ht1 := sm.t1; have hf2 := sm.ok.f2
  have hnn : N.nN = N.fs.length + N.ts.length := rfl
  refine start_pool ht0 ?_
  refine w_post (fun ρ' B => B = A.set t x ++ [] ∧ ρ' = [some (.obj t), some N.d, some (.int (N.nN : Int)), none, none, none, none, none, none]) (fun K hK => ?_) ?_
  · conv => whnf
    rw [fD_i, tD_i, show (N.fs.length : Int) + (N.ts.length : Int) = (N.nN : Int) by omega]
    exact hK _ _ ⟨rfl, rfl⟩
  rintro ρ' B ⟨rfl, rfl⟩
  refine w_post (fun ρ' B => B = A.set t x ++ [.lst (nL [])] ∧ ρ' = [some (.obj t), some N.d, some (.int (N.nN : Int)), some (.obj A.length), none, none, none, none, none]) (fun K hK => ?_) ?_
  · conv => whnf
    refine ⟨sz0, nl_o ?_⟩
    rw [List.append_nil, List.length_set]
    exact hK _ _ ⟨rfl, rfl⟩
  rintro ρ' B ⟨rfl, rfl⟩
  refine w_post (fun ρ' B => B = A.set t x ++ [.lst (nL []), .lst (nL [0, 1])] ∧ ρ' = [some (.obj t), some N.d, some (.int (N.nN : Int)), some (.obj A.length), some (.obj (A.length + 1)), none, none, none, none]) (fun K hK => ?_) ?_
  · conv => whnf
    refine ⟨sz2, nl_o ?_⟩
    rw [List.append_assoc, show (A.set t x ++ [O.lst (nL [])]).length = A.length + 1 by simp]
    exact hK _ _ ⟨rfl, rfl⟩
  rintro ρ' B ⟨rfl, rfl⟩
  refine w_post (fun ρ' B => ∃ (x : O) (left : Int), tpo c x ∧ B = A.set t x ++ [.lst (nL []), .lst (nL [0, 1])] ∧ ρ' = [some (.obj t), some N.d, some (.int (N.nN : Int)), some (.obj A.length), some (.obj (A.length + 1)), some (.int left), none, none, none]) (fun K hK => ?_) ?_
  · conv => whnf
    refine pk g T hx (by decide) (by decide) fun y r hr hy => ?_
    exact hK _ _ ⟨y, _, hy, rfl, rfl⟩
  clear hx
  rintro ρ' B ⟨x, left, hx, rfl, rfl⟩
  refine w_post (fun ρ' B => ∃ (x : O) (ps hs : List Nat) (x5 x6 x7 x8 : Option D), tpo c x ∧ ps.length = N.sw.length ∧ hs.length = N.nN ∧ (∀ v ∈ ps, v ≤ 2) ∧ (∀ v ∈ hs, v ≤ 2) ∧ hs[0]? = some 0 ∧ hs[1]? = some 1 ∧ (∀ s (h : s < N.sw.length), N.sw[s].kind = "tie" → ps.getD s 0 = 1) ∧ B = A.set t x ++ [.lst (nL ps), .lst (nL hs)] ∧ ρ' = [some (.obj t), some N.d, some (.int (N.nN : Int)), some (.obj A.length), some (.obj (A.length + 1)), x5, x6, x7, x8]) (fun K hK => ?_) ?_
  · conv => whnf
    rw [sD_i, show (N.sw.length : Int) + (N.nN : Int) - 2 = ((N.sw.length + N.nN - 2 : Nat) : Int) by omega, Int.toNat_natCast]
    refine ⟨by omega, by omega, ?_⟩
    refine loop_i (List.range (N.sw.length + N.nN - 2)) (fun (i : Nat) => D.int (i : Int)) (fun i ρ B => ∃ (x : O) (ps hs : List Nat) (left : Int) (x6 x7 x8 : Option D), tpo c x ∧ ps.length = min i N.sw.length ∧ hs.length = 2 + (i - N.sw.length) ∧ (∀ v ∈ ps, v ≤ 2) ∧ (∀ v ∈ hs, v ≤ 2) ∧ hs[0]? = some 0 ∧ hs[1]? = some 1 ∧ (∀ s (h : s < N.sw.length), s < i → N.sw[s].kind = "tie" → ps.getD s 0 = 1) ∧ B = A.set t x ++ [.lst (nL ps), .lst (nL hs)] ∧ ρ = [some (.obj t), some N.d, some (.int (N.nN : Int)), some (.obj A.length), some (.obj (A.length + 1)), some (.int left), x6, x7, x8]) (rng_nat _) ⟨x, [], [0, 1], left, _, _, _, hx, by simp, by simp, by simp, by simp, rfl, rfl, fun s _ z => by omega, rfl, rfl⟩ (fun _ _ _ _ => True.intro) ?_ ?_
    · clear hx
      rintro i hi ρ B k ⟨x, ps, hs, left, x6, x7, x8, hx, lp, lh, bp, bh, h0, h1, tie, rfl, rfl⟩ hk
      have hi2 : i < N.sw.length + N.nN - 2 := by simpa using hi
      rw [List.getElem_range]
      refine tg1 ?_
      refine w_post (fun ρ' B => ∃ (x : O) (v : Nat), tpo c x ∧ v ≤ 2 ∧ B = A.set t x ++ [.lst (nL ps), .lst (nL hs)] ∧ ρ' = [some (.obj t), some N.d, some (.int (N.nN : Int)), some (.obj A.length), some (.obj (A.length + 1)), some (.int left), some (.int (i : Int)), some (.int (v : Int)), x8]) (fun K hK => ?_) ?_
      · conv => whnf
        refine pk g T hx (by decide) (by decide) fun y r hr hy => ?_
        exact hK _ _ ⟨y, r, hy, by omega, rfl, rfl⟩
      clear hx
      rintro ρ' B ⟨x, v, hx, hv, rfl, rfl⟩
      refine w_post (fun ρ' B => ∃ b : Bool, (∀ h : i < N.sw.length, N.sw[i].kind = "tie" → b = true) ∧ B = A.set t x ++ [.lst (nL ps), .lst (nL hs)] ∧ ρ' = [some (.obj t), some N.d, some (.int (N.nN : Int)), some (.obj A.length), some (.obj (A.length + 1)), some (.int left), some (.int (i : Int)), some (.int (v : Int)), some (.bl b)]) (fun K hK => ?_) ?_
      · conv => whnf
        rw [sD_i]
        by_cases z : i < N.sw.length
        · rw [decide_eq_true (by omega : (i : Int) < (N.sw.length : Int))]
          conv => whnf
          rw [L2.atI_nat (sD_at z)]
          conv => whnf
          exact hK _ _ ⟨_, fun _ e => decide_eq_true e, rfl, rfl⟩
        · rw [decide_eq_false (by omega : ¬ (i : Int) < (N.sw.length : Int))]
          exact hK _ _ ⟨false, fun h => absurd h z, rfl, rfl⟩
      rintro ρ' B ⟨b, hb, rfl, rfl⟩
      refine w_post (fun ρ' B => ∃ v : Nat, v ≤ 2 ∧ (b = true → v = 1) ∧ B = A.set t x ++ [.lst (nL ps), .lst (nL hs)] ∧ ρ' = [some (.obj t), some N.d, some (.int (N.nN : Int)), some (.obj A.length), some (.obj (A.length + 1)), some (.int left), some (.int (i : Int)), some (.int (v : Int)), some (.bl b)]) (fun K hK => ?_) ?_
      · conv => whnf
        cases b with
        | true => exact hK _ _ ⟨1, by decide, fun _ => rfl, rfl, rfl⟩
        | false => exact hK _ _ ⟨v, hv, (fun z => by cases z), rfl, rfl⟩
      clear hv
      rintro ρ' B ⟨v, hv, hb2, rfl, rfl⟩
      refine w_post (fun ρ' B => ∃ (x : O) (v : Nat) (left : Int), tpo c x ∧ v ≤ 2 ∧ (b = true → v = 1) ∧ B = A.set t x ++ [.lst (nL ps), .lst (nL hs)] ∧ ρ' = [some (.obj t), some N.d, some (.int (N.nN : Int)), some (.obj A.length), some (.obj (A.length + 1)), some (.int left), some (.int (i : Int)), some (.int (v : Int)), some (.bl b)]) (fun K hK => ?_) ?_
      · conv => whnf
        by_cases z : (v : Int) = 2
        · rw [decide_eq_true z]
          conv => whnf
          have nb : b = true → False := fun e => by have := hb2 e; omega
          by_cases z2 : left - 1 < 0
          · rw [decide_eq_true z2]
            conv => whnf
            refine pk g T hx (by decide) (by decide) fun y r hr hy => ?_
            exact hK _ _ ⟨y, r, _, hy, by omega, fun e => (nb e).elim, rfl, rfl⟩
          · rw [decide_eq_false z2]
            exact hK _ _ ⟨x, v, _, hx, hv, hb2, rfl, rfl⟩
        · rw [decide_eq_false z]
          exact hK _ _ ⟨x, v, _, hx, hv, hb2, rfl, rfl⟩
      clear hx hv hb2
      rintro ρ' B ⟨x, v, left, hx, hv, hb2, rfl, rfl⟩
      conv => whnf
      rw [sD_i]
      have app : ∀ (l : List Nat), (∀ u ∈ l, u ≤ 2) → ∀ u ∈ l ++ [v], u ≤ 2 := fun l hl u hu => by
        rcases List.mem_append.mp hu with hu | hu
        · exact hl u hu
        · rw [List.mem_singleton.mp hu]; exact hv
      by_cases z : i < N.sw.length
      · rw [decide_eq_true (by omega : (i : Int) < (N.sw.length : Int))]
        conv => whnf
        refine ⟨recv_app d1, ?_⟩
        conv => whnf
        rw [d1]
        conv => whnf
        refine ⟨szL (by simp; omega), ?_⟩
        rw [e1, nL_push]
        refine hk _ _ ⟨x, ps ++ [v], hs, left, _, _, _, hx, by simp; omega, by omega, app ps bp, bh, h0, h1, fun s hs' hsi hkd => ?_, rfl, rfl⟩
        by_cases e : s = i
        · subst e
          rw [List.getD_eq_getElem?_getD, List.getElem?_append_right (by omega), show s - ps.length = 0 by omega]
          exact hb2 (hb z hkd)
        · rw [List.getD_eq_getElem?_getD, List.getElem?_append_left (by omega), ← List.getD_eq_getElem?_getD]
          exact tie s hs' (by omega) hkd
      · rw [decide_eq_false (by omega : ¬ (i : Int) < (N.sw.length : Int))]
        conv => whnf
        refine ⟨recv_app d2, ?_⟩
        conv => whnf
        rw [d2]
        conv => whnf
        refine ⟨szL (by simp; omega), ?_⟩
        rw [e2, nL_push]
        refine hk _ _ ⟨x, ps, hs ++ [v], left, _, _, _, hx, by omega, by simp; omega, bp, app hs bh, ?_, ?_, fun s hs' hsi hk => tie s hs' (by omega) hk, rfl, rfl⟩
        · rw [List.getElem?_append_left (List.getElem?_eq_some_iff.mp h0).1]; exact h0
        · rw [List.getElem?_append_left (List.getElem?_eq_some_iff.mp h1).1]; exact h1
    · clear hx
      rintro ρ B ⟨x, ps, hs, left, x6, x7, x8, hx, lp, lh, bp, bh, h0, h1, tie, rfl, rfl⟩
      rw [List.length_range] at lp lh tie
      exact hK _ _ ⟨x, ps, hs, _, _, _, _, hx, by omega, by omega, bp, bh, h0, h1, fun s h k => tie s h (by omega) k, rfl, rfl⟩
  clear hx
  rintro ρ' B ⟨x, ps, hs, x5, x6, x7, x8, hx, lp, lh, bp, bh, h0, h1, tie, rfl, rfl⟩
  conv => whnf
  rw [d1]
  conv => whnf
  rw [d2]
  conv => whnf
  refine ⟨sz2, ?_⟩
  have at2 : ∀ {l : List Nat}, (∀ v ∈ l, v ≤ 2) → ∀ i, l.getD i 0 ≤ 2 := fun {l} hl i => by
    rw [List.getD_eq_getElem?_getD]
    cases e : l[i]? with
    | none => decide
    | some v => exact hl v (List.mem_of_getElem? e)
  have ep : nL ps = posL N fun i => ps.getD i 0 := nL_all lp
  have eh : nL hs = heldL N fun i => hs.getD i 0 := nL_all lh
  rw [ep, eh]
  have pS : pureD (.tup [.tup (posL N fun i => ps.getD i 0), .tup (heldL N fun i => hs.getD i 0)]) = true := by
    show (pureDs (posL N _) && (pureDs (heldL N _) && true)) = true
    rw [show pureDs (posL N fun i => ps.getD i 0) = true from pureDs_rl fun _ _ => rfl, show pureDs (heldL N fun i => hs.getD i 0) = true from pureDs_rl fun _ _ => rfl]; rfl
  exact rt_pool T hx pS (q x _ _ hx ⟨fun s _ => at2 bp s, tie⟩ ⟨fun v _ => at2 bh v, by rw [List.getD_eq_getElem?_getD, h0]; rfl, by rw [List.getD_eq_getElem?_getD, h1]; rfl⟩)
end
end K02
end TextK02d

section TextFl3
set_option autoImplicit false
set_option maxRecDepth 100000
set_option maxHeartbeats 4000000
/-! Fl3: floods by widening, in plain Lean. -/
namespace Fl
open Px Nt
/-- the flood's numbers, by whatever way they were found -/
structure Flo (T : Tk) (f : Nat → Nat) : Prop where
  sound : Sound T.E T.s0 T.fl f
  closed : Closed T.E T.s0 T.fl f
theorem Ans.flo {T : Tk} {f : Nat → Nat} {rb : Nat → Int} (a : Ans T f rb) : Flo T f := ⟨a.sound, a.closed⟩
theorem Flo.eq {T : Tk} {f g : Nat → Nat} (a : Flo T f) (b : Flo T g) : f = g := num_eq a.sound a.closed b.sound b.closed
theorem Reach.st {E : Nat → Nat → Nat → Prop} {s s' fl : Nat → Nat} (h : ∀ v, 0 < s v → fl v ≤ s v → s' v = s v) {l v : Nat} (r : Reach E s fl l v) : Reach E s' fl l v := by
  induction r with
  | @start v a b =>
    rw [← h v a b]
    exact .start (by rw [h v a b]; exact a) (by rw [h v a b]; exact b)
  | step _ e p q ih => exact .step ih e p q
/-- roots below their floor count for nothing -/
theorem Flo.st {n : Nat} {W : Nat → List Way} {s s' fl f : Nat → Nat} (h1 : ∀ v, v < n → 0 < s v → fl v ≤ s v → s' v = s v) (h2 : ∀ v, v < n → 0 < s' v → fl v ≤ s' v → s v = s' v) (a : Flo ⟨n, W, s, fl⟩ f) : Flo ⟨n, W, s', fl⟩ f := by
  have k1 : ∀ v, 0 < (⟨n, W, s, fl⟩ : Tk).s0 v → fl v ≤ (⟨n, W, s, fl⟩ : Tk).s0 v → (⟨n, W, s', fl⟩ : Tk).s0 v = (⟨n, W, s, fl⟩ : Tk).s0 v := by
    intro v p q
    unfold Tk.s0 at p q ⊢
    dsimp only at p q ⊢
    by_cases hv : v < n
    · rw [if_pos hv] at p q ⊢
      rw [if_pos hv]
      exact h1 v hv p q
    · rw [if_neg hv] at p; omega
  refine ⟨fun v hv => (a.sound v hv).st k1, ⟨fun v hv => ?_, a.closed.step⟩⟩
  unfold Tk.s0 at hv ⊢
  dsimp only at hv ⊢
  by_cases h : v < n
  · rw [if_pos h] at hv ⊢
    by_cases z : s' v = 0
    · omega
    · have e := h2 v h (by omega) hv
      have := a.closed.start v
      unfold Tk.s0 at this
      dsimp only at this
      rw [if_pos h] at this
      rw [← e]
      exact this (by rw [e]; exact hv)
  · rw [if_neg h]; omega
def upN (g : Nat → Nat) (b x : Nat) : Nat → Nat := fun u => if u = b then x else g u
/-- one try to widen: from a over a switch of rank r to b -/
def wid (nF : Nat) (fl g : Nat → Nat) (r a b : Nat) : Nat → Nat := if nF ≤ b ∧ fl b ≤ min (g a) r ∧ g b < min (g a) r then upN g b (min (g a) r) else g
def widOk (nF : Nat) (fl g : Nat → Nat) (r a b : Nat) : Prop := nF ≤ b → fl b ≤ min (g a) r → min (g a) r ≤ g b
def sumN (n : Nat) (g : Nat → Nat) : Nat := (rl n g).sum
theorem sumN_up {n : Nat} {g : Nat → Nat} {b x : Nat} (hb : b < n) (h : g b < x) : sumN n g + 1 ≤ sumN n (upN g b x) := by
  have := sum_upd n (upN g b x) g b hb fun u hu => by unfold upN; rw [if_neg hu]
  unfold sumN
  have e : upN g b x b = x := by unfold upN; rw [if_pos rfl]
  omega
/-- what is kept within a turn: from gs to g; ag: something was widened -/
structure Turn' (T : Tk) (nF : Nat) (gs g : Nat → Nat) (ag : Bool) (done : List (Nat × Nat × Nat)) : Prop where
  sound : Sound T.E T.s0 T.fl g
  out : ∀ v, T.n ≤ v → g v = 0
  le : ∀ v, g v ≤ 11
  up : ∀ v, T.s0 v ≤ g v
  no : ag = false → g = gs ∧ ∀ w ∈ done, widOk nF T.fl g w.1 w.2.1 w.2.2
  yes : ag = true → sumN T.n gs + 1 ≤ sumN T.n g
theorem Turn'.begin {T : Tk} {nF : Nat} {g : Nat → Nat} (h1 : Sound T.E T.s0 T.fl g) (h2 : ∀ v, T.n ≤ v → g v = 0) (h3 : ∀ v, g v ≤ 11) (h4 : ∀ v, T.s0 v ≤ g v) : Turn' T nF g g false [] :=
  ⟨h1, h2, h3, h4, fun _ => ⟨rfl, fun w hw => by cases hw⟩, fun h => by cases h⟩
theorem Turn'.stay {T : Tk} {nF : Nat} {gs g : Nat → Nat} {ag : Bool} {done : List (Nat × Nat × Nat)} (h : Turn' T nF gs g ag done) {r a b : Nat} (hn : ¬ (nF ≤ b ∧ T.fl b ≤ min (g a) r ∧ g b < min (g a) r)) : Turn' T nF gs g ag (done ++ [(r, a, b)]) :=
  { h with no := fun e => ⟨(h.no e).1, fun w hw => by
      rcases List.mem_append.mp hw with hw | hw
      · exact (h.no e).2 w hw
      · rw [List.mem_singleton.mp hw]
        intro h1 h2
        exact Nat.le_of_not_lt fun z => hn ⟨h1, h2, z⟩⟩ }
theorem Turn'.move {T : Tk} {nF : Nat} {gs g : Nat → Nat} {ag : Bool} {done : List (Nat × Nat × Nat)} (h : Turn' T nF gs g ag done) {r a b : Nat} (hb : b < T.n) (he : nF ≤ b → T.E a r b) (hc : nF ≤ b ∧ T.fl b ≤ min (g a) r ∧ g b < min (g a) r) : Turn' T nF gs (upN g b (min (g a) r)) true (done ++ [(r, a, b)]) := by
  obtain ⟨h1, h2, h3⟩ := hc
  have hp : 0 < min (g a) r := by omega
  refine ⟨fun v hv => ?_, fun v hv => ?_, fun v => ?_, fun v => ?_, (fun z => by cases z), fun _ => ?_⟩
  · unfold upN at hv ⊢
    by_cases e : v = b
    · rw [if_pos e, e]
      exact .step (h.sound a (by omega)) (he h1) hp h2
    · rw [if_neg e] at hv ⊢
      exact h.sound v hv
  · unfold upN
    rw [if_neg (by omega)]; exact h.out v hv
  · unfold upN
    have := h.le a
    split
    · omega
    · exact h.le v
  · unfold upN
    have := h.up v
    by_cases e : v = b
    · rw [if_pos e]; rw [e] at this ⊢; omega
    · rw [if_neg e]; exact this
  · have s1 := sumN_up (g := g) hb h3
    cases ag with
    | false => rw [← (h.no rfl).1]; exact s1
    | true => have := h.yes rfl; omega
theorem sumN_le {n : Nat} {g : Nat → Nat} {c : Nat} (h : ∀ v, g v ≤ c) : sumN n g ≤ n * c := sum_le n g c fun v _ => h v
/-- the tries of a turn -/
def tries (N : Net) (us : List Nat) : List (Nat × Nat × Nat) := us.flatMap fun s => match N.sw[s]? with | some w => [(4 + w.st, w.l, w.r), (4 + w.st, w.r, w.l)] | none => []
theorem tries_take {N : Net} {us : List Nat} {i : Nat} (h : i < us.length) (hs : us[i] < N.sw.length) : tries N (us.take (i + 1)) = tries N (us.take i) ++ [(4 + N.sw[us[i]].st, N.sw[us[i]].l, N.sw[us[i]].r), (4 + N.sw[us[i]].st, N.sw[us[i]].r, N.sw[us[i]].l)] := by
  unfold tries
  rw [List.take_succ_eq_append_getElem h, List.flatMap_append]
  simp [List.getElem?_eq_getElem hs]
/-- a turn in which nothing was widened: the numbers are the flood -/
theorem Turn'.ends {N : Net} {us : List Nat} {st fl gs g : Nat → Nat} (hus : ∀ s ∈ us, s < N.sw.length) (h : Turn' ⟨N.nN, wy N us, st, fl⟩ N.fs.length gs g false (tries N us)) : Flo ⟨N.nN, wy N us, st, fl⟩ g := by
  refine ⟨h.sound, ⟨fun v _ => h.up v, fun u r v ⟨hu, s, hs⟩ hf => ?_⟩⟩
  obtain ⟨h1, h2, h3, h4, h5⟩ := wy_mem hs
  dsimp only at h1 h2 h3 h4 h5
  have key := (h.no rfl).2
  have mem : ∀ w ∈ [(4 + N.sw[s].st, N.sw[s].l, N.sw[s].r), (4 + N.sw[s].st, N.sw[s].r, N.sw[s].l)], w ∈ tries N us := fun w hw => by
    unfold tries
    rw [List.mem_flatMap]
    exact ⟨s, h2, by rw [List.getElem?_eq_getElem h1]; exact hw⟩
  subst h3
  rcases h4 with ⟨rfl, rfl⟩ | ⟨rfl, rfl⟩
  · exact key _ (mem (4 + N.sw[s].st, N.sw[s].l, N.sw[s].r) (by simp)) h5 hf
  · exact key _ (mem (4 + N.sw[s].st, N.sw[s].r, N.sw[s].l) (by simp)) h5 hf
theorem edge_wy {N : Net} (ok : N.ok) {us : List Nat} {st fl : Nat → Nat} {s : Nat} (h : s ∈ us) (hs : s < N.sw.length) : (N.fs.length ≤ N.sw[s].r → (⟨N.nN, wy N us, st, fl⟩ : Tk).E N.sw[s].l (4 + N.sw[s].st) N.sw[s].r) ∧ (N.fs.length ≤ N.sw[s].l → (⟨N.nN, wy N us, st, fl⟩ : Tk).E N.sw[s].r (4 + N.sw[s].st) N.sw[s].l) := by
  have en := ok.en _ (List.getElem_mem hs)
  obtain ⟨m1, m2⟩ := mem_wy h hs
  exact ⟨fun hc => ⟨en.1, s, m1 hc⟩, fun hc => ⟨en.2.1, s, m2 hc⟩⟩
end Fl
end TextFl3

section TextFl5
set_option autoImplicit false
set_option maxRecDepth 100000
set_option maxHeartbeats 4000000
/-! Fl5: columns of numbers are what they say; floods by equal columns. -/
namespace Fl
open PySem Px Nt Lw
theorem rl_sim {n : Nat} {f : Nat → Nat} (h : n ≤ 65536) : simD 4 (.tup (rl n fun v => .int (f v : Int))) := ⟨by simpa using h, fun x hx => by obtain ⟨i, _, rfl⟩ := rl_mem.mp hx; exact trivial⟩
theorem rl_inj {n : Nat} {f g : Nat → Nat} (h : (rl n fun v => D.int (f v : Int)) = rl n fun v => .int (g v : Int)) {v : Nat} (hv : v < n) : f v = g v := by
  have e := congrArg (fun l => l[v]?) h
  rw [rl_get hv, rl_get hv] at e
  have := D.int.inj (Option.some.inj e)
  omega
theorem nL_inj {l m : List Nat} (h : nL l = nL m) : l = m := by
  have e := congrArg (List.map fun d : D => match d with | .int i => i.toNat | _ => 0) h
  have k : ∀ l : List Nat, (nL l).map (fun d : D => match d with | .int i => i.toNat | _ => 0) = l := fun l => by
    induction l with
    | nil => rfl
    | cons x r ih => show ((x : Int).toNat :: _) = _; rw [ih]; simp
  rw [k, k] at e
  exact e
theorem Flo_fl {n : Nat} {W : Nat → List Way} {s fl fl' f : Nat → Nat} (h : ∀ v, v < n → fl v = fl' v) (hw : ∀ u, u < n → ∀ w ∈ W u, w.2.1 < n) (a : Flo ⟨n, W, s, fl⟩ f) : Flo ⟨n, W, s, fl'⟩ f := by
  have s0n : ∀ v, n ≤ v → (⟨n, W, s, fl⟩ : Tk).s0 v = 0 := fun v hv => by
    unfold Tk.s0
    exact if_neg (by show ¬ v < n; omega)
  have en : ∀ u r v, (⟨n, W, s, fl⟩ : Tk).E u r v → v < n := fun u r v ⟨hu, x, hx⟩ => hw u hu _ hx
  have k : ∀ l v, Reach (⟨n, W, s, fl⟩ : Tk).E (⟨n, W, s, fl⟩ : Tk).s0 fl l v → Reach (⟨n, W, s, fl⟩ : Tk).E (⟨n, W, s, fl⟩ : Tk).s0 fl' l v := by
    intro l v r
    induction r with
    | @start v a b =>
      have hv : v < n := by
        by_cases c : v < n
        · exact c
        · rw [s0n v (by omega)] at a; omega
      exact .start a (by rw [← h v hv]; exact b)
    | step _ e p q ih => exact .step ih e p (by rw [← h _ (en _ _ _ e)]; exact q)
  refine ⟨fun v hv => k _ _ (a.sound v hv), ⟨fun v hv => ?_, fun u r v e hf => ?_⟩⟩
  · by_cases c : v < n
    · exact a.closed.start v (by show fl v ≤ _; rw [h v c]; exact hv)
    · show (⟨n, W, s, fl⟩ : Tk).s0 v ≤ f v
      rw [s0n v (by omega)]; omega
  · exact a.closed.step u r v e (by show fl v ≤ _; rw [h _ (en _ _ _ e)]; exact hf)
/-- floods by equal columns -/
theorem Flo.cols {N : Net} (ok : N.ok) {us : List Nat} (hl : us.length ≤ 512) {st st' fl fl' f : Nat → Nat} (h1 : ∀ v, v < N.nN → st v = st' v) (h2 : ∀ v, v < N.nN → fl v = fl' v) (hs : ∀ v, v < N.nN → st v ≤ 11) (a : Flo ⟨N.nN, wy N us, st, fl⟩ f) : Flo ⟨N.nN, wy N us, st', fl'⟩ f :=
  (Flo_fl h2 (fun u hu w hw => (tk_ok (st := st) (fl := fl) ok hl hs).wn u hu w hw) a).st (fun v hv _ _ => (h1 v hv).symm) fun v hv _ _ => h1 v hv
/-- the numbers behind the nodes do not count -/
theorem up_len {us : List Nat} {n m : Nat} (p : us.Pairwise (· < ·)) (h : ∀ u ∈ us, u < m) (h0 : ∀ u ∈ us, n ≤ u) (hn : n ≤ m) : us.length + n ≤ m := by
  induction us generalizing n with
  | nil => simpa using hn
  | cons u r ih =>
    obtain ⟨p1, p2⟩ := List.pairwise_cons.mp p
    have a := h u (by simp)
    have b := h0 u (by simp)
    have := ih (n := u + 1) p2 (fun w hw => h w (by simp [hw])) (fun w hw => p1 w hw) (by omega)
    simp only [List.length_cons]; omega
end Fl
end TextFl5

section TextNt9
set_option autoImplicit false
set_option maxRecDepth 100000
set_option maxHeartbeats 4000000
/-! Nt9: the response. -/
namespace Nt
open PySem Px Pg Fl
local macro_rules | `(tactic| walk_at "px") => `(tactic| ((conv => whnf); repeat ((refine And.intro (by first | exact True.intro | exact Px.sz2 | exact Px.sz3 | exact Px.sz1 | exact Px.sz0 | exact Px.sz4 | exact Px.sz5 | exact Px.sz6 | exact Px.sz7 | exact Px.sz8 | exact Px.sz9 | decide) ?_); (conv => whnf))))
def respN (N : Net) (h z o : Nat → Nat) (v : Nat) : Nat := if v < N.fs.length then h v else if z v = 0 then 1 else if o v = 0 then 0 else 2
def con_response : Con := fun ds A E Q => ∃ (N : Net) (d e : D), ds = [N.d, d, e] ∧ N.ok ∧ pureD d = true ∧ pureD e = true ∧ (isPos N d = false → E (nu "positions") A) ∧ (isPos N d = true → isHel N.nN e = false → E (nu "held") A) ∧
  ∀ p h f rb z rz o ro, d = .tup (posL N p) → okP N p → e = .tup (heldL N h) → okH N h → Ans (firmT N p) f rb → Ans (mayT N p h 0 f) z rz → Ans (mayT N p h 1 f) o ro → Q (.tup (rl N.nN fun v => .int (respN N h z o v : Int))) A
section
variable {G : Env'}
theorem lkA {A : Ht} {o : O} : (A ++ [o])[A.length]? = some o := List.getElem?_concat_length
theorem setA {A : Ht} {o u : O} : (A ++ [o]).set A.length u = A ++ [u] := by rw [List.set_append_right _ _ (by simp)]; simp
theorem ixnA {l : List D} {v : Nat} (h : v < l.length) : L2.ixN l.length (v : Int) = some v := by unfold L2.ixN; rw [if_pos (by omega), if_pos (by omega)]; simp
theorem b_response (n1 : G.fds "NotUsable" = (["word", "at"] : List Str)) (g1 : G.con "is_positions" = con_is_positions) (g2 : G.con "is_held" = con_is_held) (g4 : G.con "likely_ways" = con_likely_ways) (g5 : G.con "root_ranks" = con_root_ranks) (g6 : G.con "firm_ranks" = con_firm_ranks) (g7 : G.con "flooded" = con_flooded) : Pf G N_response ir_response con_response := by
  rintro ds A E Q ⟨N, d, e, rfl, ok, pd, pe, q1, q2, q4⟩
  refine w_if (!isPos N d) (fun K hK => varK_of (pure_nonX pd) (use g1 ⟨N, d, rfl, ok, pd, hK⟩)) (fun hc => ?_) (fun hc => ?_)
  · refine ⟨by rw [n1]; rfl, Nat.succ_pos _, ?_⟩
    rw [n1]
    exact .inl (q1 (by simpa using hc))
  have hp : isPos N d = true := by simpa using hc
  refine w_if (!isHel N.nN e) (fun K hK => varK_of (pure_nonX pe) (use g2 ⟨N, e, rfl, ok, pe, hK⟩)) (fun hc => ?_) (fun hc => ?_)
  · refine ⟨by rw [n1]; rfl, Nat.succ_pos _, ?_⟩
    rw [n1]
    exact .inl (q2 hp (by simpa using hc))
  have hh : isHel N.nN e = true := by simpa using hc
  obtain ⟨p, rfl, okp⟩ := pos_iff.mp hp
  obtain ⟨h, rfl, okh⟩ := (held_iff ok).mp hh
  have hnn : N.nN = N.fs.length + N.ts.length := rfl
  have hn : N.nN ≤ 400 := (firmT_ok ok p).nl
  refine use g6 ⟨N, p, rfl, ok, fun f rb a => ?_⟩
  refine use g4 ⟨N, p, rfl, ok, ?_⟩
  refine use g5 ⟨N, h, 0, rfl, ok, ?_⟩
  refine use g7 ⟨mayT N p h 0 f, _, _, rfl, .inl rfl, .inl rfl, mayT_ok ok p h 0 f, fun z rz az => ?_⟩
  refine use g5 ⟨N, h, 1, rfl, ok, ?_⟩
  refine use g7 ⟨mayT N p h 1 f, _, _, rfl, .inl rfl, .inl rfl, mayT_ok ok p h 1 f, fun o ro ao => ?_⟩
  have qq := q4 p h f rb z rz o ro rfl okp rfl okh a az ao
  have ze : ∀ v, v < N.nN → L2.atI (rl N.nN fun v => D.int (z v : Int)) (v : Int) = some (.int (z v : Int)) := fun v hv => L2.atI_nat (rl_get hv)
  have oe : ∀ v, v < N.nN → L2.atI (rl N.nN fun v => D.int (o v : Int)) (v : Int) = some (.int (o v : Int)) := fun v hv => L2.atI_nat (rl_get hv)
  have e1 : (mayT N p h 0 f).n = N.nN := rfl
  have e2 : (mayT N p h 1 f).n = N.nN := rfl
  walk_at "px"
  refine .inr ?_
  conv => whnf
  rw [fD_i, show ((heldL N h).length : Int) = (N.nN : Int) by simp [heldL]]
  refine ⟨⟨by omega, by omega, by omega, by omega⟩, ?_⟩
  rw [show ((N.nN : Int) - (N.fs.length : Int)).toNat = N.ts.length by omega]
  refine loop_i (List.range N.ts.length) (fun (i : Nat) => D.int ((N.fs.length : Int) + (i : Int))) (fun i ρ A' => A' = A ++ [.lst (rl N.nN fun v => .int ((if v < N.fs.length + i then respN N h z o v else h v : Nat) : Int))] ∧ ∃ x6 x9, ρ = [some N.d, some (.tup (posL N p)), some (.tup (heldL N h)), some (.ls (rl N.nN fun v => .int (f v : Int))), some (.ls (rl N.nN fun v => .ls ((wy N (likelyN N p) v).map wD))), some (.ls (rl N.nN fun v => .int (z v : Int))), x6, some (.ls (rl N.nN fun v => .int (o v : Int))), some (.obj A.length), x9]) rfl ⟨?_, _, _, rfl⟩ (fun _ _ _ _ => True.intro) ?_ ?_
  · congr 3
    unfold heldL
    exact rl_congr fun v _ => by
      by_cases c : v < N.fs.length
      · rw [if_pos (by omega)]; unfold respN; rw [if_pos c]
      · rw [if_neg (by omega)]
  · rintro i hi ρ A1 k ⟨rfl, x6, x9, rfl⟩ hk
    have hi2 : i < N.ts.length := by simpa using hi
    have hv : N.fs.length + i < N.nN := by omega
    rw [List.getElem_range, show (N.fs.length : Int) + (i : Int) = ((N.fs.length + i : Nat) : Int) by omega]
    have fin : ∀ y : Nat, respN N h z o (N.fs.length + i) = y → setD (.obj A.length) (.int ((N.fs.length + i : Nat) : Int)) (.int (y : Int)) (A ++ [.lst (rl N.nN fun v => .int ((if v < N.fs.length + i then respN N h z o v else h v : Nat) : Int))]) (fun A4 => k [some N.d, some (.tup (posL N p)), some (.tup (heldL N h)), some (.ls (rl N.nN fun v => .int (f v : Int))), some (.ls (rl N.nN fun v => .ls ((wy N (likelyN N p) v).map wD))), some (.ls (rl N.nN fun v => .int (z v : Int))), x6, some (.ls (rl N.nN fun v => .int (o v : Int))), some (.obj A.length), some (.int ((N.fs.length + i : Nat) : Int))] A4) := by
      intro y hy
      refine q_set lkA (by simpa using hv) ?_
      rw [setA, rl_set]
      refine hk _ _ ⟨?_, _, _, rfl⟩
      congr 3
      exact rl_congr fun v _ => by
        by_cases c : v = N.fs.length + i
        · rw [if_pos c, if_pos (by omega), c, hy]
        · rw [if_neg c]
          by_cases c2 : v < N.fs.length + i
          · rw [if_pos c2, if_pos (by omega)]
          · rw [if_neg c2, if_neg (by omega)]
    have nf : ¬ N.fs.length + i < N.fs.length := by omega
    conv => whnf
    rw [ze _ hv]
    conv => whnf
    by_cases c : z (N.fs.length + i) = 0
    · rw [decide_eq_true (by omega : (z (N.fs.length + i) : Int) = 0)]
      exact fin 1 (by unfold respN; rw [if_neg nf, if_pos c])
    · rw [decide_eq_false (by omega : ¬ (z (N.fs.length + i) : Int) = 0)]
      conv => whnf
      rw [oe _ hv]
      conv => whnf
      by_cases c2 : o (N.fs.length + i) = 0
      · rw [decide_eq_true (by omega : (o (N.fs.length + i) : Int) = 0)]
        exact fin 0 (by unfold respN; rw [if_neg nf, if_neg c, if_pos c2])
      · rw [decide_eq_false (by omega : ¬ (o (N.fs.length + i) : Int) = 0)]
        exact fin 2 (by unfold respN; rw [if_neg nf, if_neg c, if_neg c2])
  · rintro ρ A1 ⟨rfl, x6, x9, rfl⟩
    rw [List.length_range]
    conv => whnf
    rw [lkA]
    refine rt_pure (pureDs_rl fun _ _ => rfl) ?_
    rw [show (rl N.nN fun v => D.int ((if v < N.fs.length + N.ts.length then respN N h z o v else h v : Nat) : Int)) = rl N.nN fun v => .int (respN N h z o v : Int) from rl_congr fun v hv => by rw [if_pos (by omega)]]
    exact qq
end
end Nt
end TextNt9

section TextFl7
set_option autoImplicit false
set_option maxRecDepth 100000
set_option maxHeartbeats 4000000
/-! Fl7: what floods of a net keep: floors, bounds, never both nought, what becomes known. -/
namespace Fl
open PySem Px Nt Lw
theorem Reach.le {E : Nat → Nat → Nat → Prop} {s fl : Nat → Nat} {c : Nat} (h : ∀ v, s v ≤ c) {l v : Nat} (r : Reach E s fl l v) : l ≤ c := by
  induction r with
  | start => exact h _
  | step _ _ _ _ ih => omega
theorem Flo.le {T : Tk} {f : Nat → Nat} {c : Nat} (a : Flo T f) (h : ∀ v, v < T.n → T.st v ≤ c) (v : Nat) : f v ≤ c := by
  by_cases z : f v = 0
  · omega
  · refine (a.sound v z).le fun v => ?_
    unfold Tk.s0
    split
    · rename_i hv; exact h v hv
    · omega
theorem Flo.floor {T : Tk} {f : Nat → Nat} (a : Flo T f) {v : Nat} (h : f v ≠ 0) : T.fl v ≤ f v := (a.sound v h).floor
theorem firm_le {N : Net} (ok : N.ok) {p f : Nat → Nat} (a : Flo (firmT N p) f) (v : Nat) : f v ≤ 11 := a.le (fun v hv => rkN_le ok hv) v
theorem may_le {N : Net} (ok : N.ok) {p h f m : Nat → Nat} {w : Nat} (a : Flo (mayT N p h w f) m) (v : Nat) : m v ≤ 11 := a.le (fun v hv => root_le ok hv) v
theorem firm_pos {N : Net} (ok : N.ok) {p f : Nat → Nat} (a : Flo (firmT N p) f) {v : Nat} (hv : v < N.nN) : 0 < f v := by
  have e : (firmT N p).s0 v = rkN N v := by
    have : (firmT N p).s0 v = if v < N.nN then rkN N v else 0 := rfl
    rw [this, if_pos hv]
  have := a.closed.start v (Nat.zero_le _)
  have h : 0 < rkN N v := by
    unfold rkN
    split
    · omega
    · have h3 : v - N.fs.length < N.ts.length := by unfold Net.nN at hv; omega
      rw [List.getElem?_eq_getElem h3]
      exact (ok.sz _ (List.getElem_mem h3)).1
  omega
/-- a tank is either likely 0 or likely 1 -/
theorem may_some {N : Net} (ok : N.ok) {p h f z o : Nat → Nat} {rb : Nat → Int} (okp : okP N p) (okh : okH N h) (a : Ans (firmT N p) f rb) (hz : Flo (mayT N p h 0 f) z) (ho : Flo (mayT N p h 1 f) o) {v : Nat} (hv : v < N.nN) : f v ≤ z v ∨ f v ≤ o v := by
  obtain ⟨ord, par⟩ := a.par
  have key : ∀ n v, v < N.nN → ord v ≤ n → f v ≤ z v ∨ f v ≤ o v := by
    intro n
    induction n with
    | zero =>
      intro v hv hn
      have fv := firm_pos ok a.flo hv
      rcases par v (by omega) with ⟨_, e⟩ | ⟨u, r, s, _, _, _, _, _, lt⟩
      · have e : rkN N v = f v := e
        have hv2 := okh.le v hv
        by_cases c : h v = 1
        · right
          have := ho.closed.start v
          have e2 : (mayT N p h 1 f).s0 v = f v := by
            show (if v < N.nN then rootN N h 1 v else 0) = f v
            rw [if_pos hv]; unfold rootN; rw [if_pos (.inl c), e]
          rw [e2] at this
          exact this (Nat.le_refl _)
        · left
          have := hz.closed.start v
          have e2 : (mayT N p h 0 f).s0 v = f v := by
            show (if v < N.nN then rootN N h 0 v else 0) = f v
            rw [if_pos hv]; unfold rootN; rw [if_pos (by omega), e]
          rw [e2] at this
          exact this (Nat.le_refl _)
      · omega
    | succ n ih =>
      intro v hv hn
      have fv := firm_pos ok a.flo hv
      rcases par v (by omega) with ⟨_, e⟩ | ⟨u, r, s, _, hu, hw, hu0, ef, lt⟩
      · by_cases c : ord v ≤ n
        · exact ih v hv c
        · have e : rkN N v = f v := e
          have hv2 := okh.le v hv
          by_cases c : h v = 1
          · right
            have := ho.closed.start v
            have e2 : (mayT N p h 1 f).s0 v = f v := by
              show (if v < N.nN then rootN N h 1 v else 0) = f v
              rw [if_pos hv]; unfold rootN; rw [if_pos (.inl c), e]
            rw [e2] at this
            exact this (Nat.le_refl _)
          · left
            have := hz.closed.start v
            have e2 : (mayT N p h 0 f).s0 v = f v := by
              show (if v < N.nN then rootN N h 0 v else 0) = f v
              rw [if_pos hv]; unfold rootN; rw [if_pos (by omega), e]
            rw [e2] at this
            exact this (Nat.le_refl _)
      · have hw2 : ∀ w, (mayT N p h w f).E u r v := fun w => by
          refine ⟨hu, s, ?_⟩
          obtain ⟨s2, hs2, hm⟩ := List.mem_flatMap.mp hw
          obtain ⟨y1, y2⟩ := List.mem_filter.mp hs2
          have y2 := of_decide_eq_true y2
          exact List.mem_flatMap.mpr ⟨s2, List.mem_filter.mpr ⟨y1, by rw [y2]; rfl⟩, hm⟩
        rcases ih u hu (by omega) with q | q
        · left
          have := hz.closed.step u r v (hw2 0)
          have c : (mayT N p h 0 f).fl v = f v := rfl
          rw [c] at this
          have := this (by omega)
          omega
        · right
          have := ho.closed.step u r v (hw2 1)
          have c : (mayT N p h 1 f).fl v = f v := rfl
          rw [c] at this
          have := this (by omega)
          omega
  exact key (ord v) v hv (Nat.le_refl _)
/-- more is known -/
structure More (N : Net) (p h p2 h2 : Nat → Nat) : Prop where
  p : ∀ s, s < N.sw.length → p s < 2 → p2 s = p s
  h : ∀ v, v < N.nN → h v < 2 → h2 v = h v
theorem firm_more {N : Net} {p h p2 h2 f f2 : Nat → Nat} (m : More N p h p2 h2) (a : Flo (firmT N p) f) (b : Flo (firmT N p2) f2) (v : Nat) : f v ≤ f2 v := by
  have k : ∀ l u, Reach (firmT N p).E (firmT N p).s0 (firmT N p).fl l u → Reach (firmT N p2).E (firmT N p2).s0 (firmT N p2).fl l u := by
    intro l u r
    induction r with
    | start a b => exact .start a b
    | @step l u r w _ e hp hq ih =>
      obtain ⟨hu, s, hs⟩ := e
      refine .step ih ⟨hu, s, ?_⟩ hp hq
      obtain ⟨s2, hs2, hm⟩ := List.mem_flatMap.mp hs
      obtain ⟨y1, y2⟩ := List.mem_filter.mp hs2
      have y2 := of_decide_eq_true y2
      exact List.mem_flatMap.mpr ⟨s2, List.mem_filter.mpr ⟨y1, decide_eq_true (by rw [m.p s2 (List.mem_range.mp y1) (by omega)]; exact y2)⟩, hm⟩
  by_cases z : f v = 0
  · omega
  · exact b.closed.bound (k _ _ (a.sound v z))
theorem may_more {N : Net} {p h p2 h2 f f2 z z2 : Nat → Nat} {w : Nat} (okh : okH N h) (hw : w ≤ 1) (okp : okP N p) (m : More N p h p2 h2) (hf : ∀ v, f v ≤ f2 v) (a : Flo (mayT N p h w f) z) (b : Flo (mayT N p2 h2 w f2) z2) (v : Nat) : z2 v ≤ z v := by
  have k : ∀ l u, Reach (mayT N p2 h2 w f2).E (mayT N p2 h2 w f2).s0 (mayT N p2 h2 w f2).fl l u → Reach (mayT N p h w f).E (mayT N p h w f).s0 (mayT N p h w f).fl l u := by
    intro l u r
    induction r with
    | @start u a b =>
      have a' : 0 < (if u < N.nN then rootN N h2 w u else 0) := a
      have b' : f2 u ≤ (if u < N.nN then rootN N h2 w u else 0) := b
      by_cases hu : u < N.nN
      · rw [if_pos hu] at a' b'
        have e2 : h2 u = w ∨ h2 u = 2 := by
          unfold rootN at a'
          split at a'
          · assumption
          · omega
        have e1 : h u = w ∨ h u = 2 := by
          have := okh.le u hu
          by_cases c : h u < 2
          · have := m.h u hu c; omega
          · omega
        have e : (mayT N p2 h2 w f2).s0 u = (mayT N p h w f).s0 u := by
          show (if u < N.nN then rootN N h2 w u else 0) = (if u < N.nN then rootN N h w u else 0)
          rw [if_pos hu, if_pos hu]
          unfold rootN
          rw [if_pos e2, if_pos e1]
        rw [e] at a b ⊢
        exact .start a (Nat.le_trans (hf u) b)
      · rw [if_neg hu] at a'; omega
    | @step l u r w2 _ e hp hq ih =>
      obtain ⟨hu, s, hs⟩ := e
      refine .step ih ⟨hu, s, ?_⟩ hp (Nat.le_trans (hf _) hq)
      obtain ⟨s2, hs2, hm⟩ := List.mem_flatMap.mp hs
      obtain ⟨y1, y2⟩ := List.mem_filter.mp hs2
      simp only [Bool.not_eq_true', decide_eq_false_iff_not] at y2
      exact List.mem_flatMap.mpr ⟨s2, List.mem_filter.mpr ⟨y1, by
        simp only [Bool.not_eq_true', decide_eq_false_iff_not]
        exact fun q => y2 (by rw [m.p s2 (List.mem_range.mp y1) (by omega)]; exact q)⟩, hm⟩
  by_cases q : z2 v = 0
  · omega
  · exact a.closed.bound (k _ _ (b.sound v q))
/-- a known response stays -/
theorem resp_more {N : Net} (ok : N.ok) {p h p2 h2 f f2 z z2 o o2 : Nat → Nat} {rb2 : Nat → Int} (okp : okP N p) (okh : okH N h) (okp2 : okP N p2) (okh2 : okH N h2) (m : More N p h p2 h2) (hf : Flo (firmT N p) f) (hf2 : Ans (firmT N p2) f2 rb2) (hz : Flo (mayT N p h 0 f) z) (hz2 : Flo (mayT N p2 h2 0 f2) z2) (ho : Flo (mayT N p h 1 f) o) (ho2 : Flo (mayT N p2 h2 1 f2) o2) {v : Nat} (hv : v < N.nN) (hn : respN N h z o v ≠ 2) : respN N h2 z2 o2 v = respN N h z o v := by
  have ff := fun v => firm_more m hf hf2.flo v
  have mz := may_more okh (by decide) okp m ff hz hz2 v
  have mo := may_more okh (by decide) okp m ff ho ho2 v
  have some2 := may_some ok okp2 okh2 hf2 hz2 ho2 hv
  have fp := firm_pos ok hf2.flo hv
  unfold respN at hn ⊢
  by_cases c : v < N.fs.length
  · rw [if_pos c] at hn ⊢
    rw [if_pos c]
    exact m.h v hv (by have := okh.le v hv; omega)
  · rw [if_neg c] at hn ⊢
    rw [if_neg c]
    by_cases c1 : z v = 0
    · rw [if_pos c1, if_pos (by omega)]
    · rw [if_neg c1] at hn ⊢
      by_cases c2 : o v = 0
      · rw [if_pos c2]
        rw [if_neg (by omega), if_pos (by omega)]
      · rw [if_neg c2] at hn; omega
end Fl
end TextFl7

section TextNt10
set_option autoImplicit false
set_option maxRecDepth 100000
set_option maxHeartbeats 4000000
/-! Nt10: calls of the program's defs about nets with good arguments. -/
namespace Nt
open PySem Px Fl Lw
theorem pos_ok {N : Net} {p : Nat → Nat} (h : okP N p) : isPos N (.tup (posL N p)) = true := pos_iff.mpr ⟨p, rfl, h⟩
theorem hel_ok {N : Net} (ok : N.ok) {h : Nat → Nat} (o : okH N h) : isHel N.nN (.tup (heldL N h)) = true := (held_iff ok).mpr ⟨h, rfl, o⟩
theorem knw_ok {v : Nat} (h : v ≤ 1) : isKnw (.int (v : Int)) = true := knw_iff.mpr ⟨v, rfl, h⟩
theorem pos_pure {N : Net} {p : Nat → Nat} : pureD (.tup (posL N p)) = true := pureDs_rl fun _ _ => rfl
theorem hel_pure {N : Net} {h : Nat → Nat} : pureD (.tup (heldL N h)) = true := pureDs_rl fun _ _ => rfl
theorem posL_inj {N : Net} {p p' : Nat → Nat} (e : D.tup (posL N p) = .tup (posL N p')) : ∀ s, s < N.sw.length → p s = p' s := fun s hs => rl_inj (D.tup.inj e) hs
theorem heldL_inj {N : Net} {h h' : Nat → Nat} (e : D.tup (heldL N h) = .tup (heldL N h')) : ∀ v, v < N.nN → h v = h' v := fun s hs => rl_inj (D.tup.inj e) hs
theorem firmT_eq {N : Net} {p p' : Nat → Nat} (i : ∀ s, s < N.sw.length → p s = p' s) : firmT N p' = firmT N p := by
  have c1 : closedN N p' = closedN N p := List.filter_congr fun s hs => by rw [i s (List.mem_range.mp hs)]
  unfold firmT; rw [c1]
theorem likely_eq {N : Net} {p p' : Nat → Nat} (i : ∀ s, s < N.sw.length → p s = p' s) : likelyN N p' = likelyN N p := List.filter_congr fun s hs => by rw [i s (List.mem_range.mp hs)]
theorem mayT_flo {N : Net} {p p' h h' f m : Nat → Nat} {w : Nat} (i : ∀ s, s < N.sw.length → p s = p' s) (j : ∀ v, v < N.nN → h v = h' v) (a : Flo (mayT N p' h' w f) m) : Flo (mayT N p h w f) m := by
  unfold mayT at a ⊢
  rw [likely_eq i] at a
  refine a.st (fun v hv _ _ => ?_) fun v hv _ _ => ?_
  · unfold rootN; rw [j v hv]
  · unfold rootN; rw [j v hv]
theorem firm_use {N : Net} (ok : N.ok) {p : Nat → Nat} (okp : okP N p) {A : Ht} {E Q : D → Ht → Prop} (q : ∀ f rb, Ans (firmT N p) f rb → Q (.tup (rl N.nN fun v => .int (f v : Int))) A) : con_firm [N.d, .tup (posL N p)] A E Q :=
  ⟨N, _, rfl, ok, pos_pure, fun z => (by rw [pos_ok okp] at z; cases z), fun p' f rb e _ a => q f rb (by rw [firmT_eq (posL_inj e)] at a; exact a)⟩
theorem may_use {N : Net} (ok : N.ok) {p h : Nat → Nat} {w : Nat} (okp : okP N p) (okh : okH N h) (hw : w ≤ 1) {A : Ht} {E Q : D → Ht → Prop} (q : ∀ f rb m, Ans (firmT N p) f rb → Flo (mayT N p h w f) m → Q (.tup (rl N.nN fun v => .int (m v : Int))) A) : con_may [N.d, .tup (posL N p), .tup (heldL N h), .int (w : Int)] A E Q :=
  ⟨N, _, _, _, rfl, ok, pos_pure, hel_pure, rfl, fun z => (by rw [pos_ok okp] at z; cases z), fun _ z => (by rw [hel_ok ok okh] at z; cases z), fun _ _ z => (by rw [knw_ok hw] at z; cases z), fun p' h' w' f rb m rb2 y1 _ y2 _ y3 _ a b => by
    have i := posL_inj y1
    have j := heldL_inj y2
    have e3 := D.int.inj y3
    have e4 : w' = w := by omega
    subst e4
    rw [firmT_eq i] at a
    exact q f rb m a (mayT_flo i j b.flo)⟩
theorem resp_use {N : Net} (ok : N.ok) {p h : Nat → Nat} (okp : okP N p) (okh : okH N h) {A : Ht} {E Q : D → Ht → Prop} (q : ∀ f rb z o, Ans (firmT N p) f rb → Flo (mayT N p h 0 f) z → Flo (mayT N p h 1 f) o → Q (.tup (rl N.nN fun v => .int (respN N h z o v : Int))) A) : con_response [N.d, .tup (posL N p), .tup (heldL N h)] A E Q :=
  ⟨N, _, _, rfl, ok, pos_pure, hel_pure, fun z => (by rw [pos_ok okp] at z; cases z), fun _ z => (by rw [hel_ok ok okh] at z; cases z), fun p' h' f rb z rz o ro y1 _ y2 _ a az ao => by
    have i := posL_inj y1
    have j := heldL_inj y2
    rw [firmT_eq i] at a
    have qq := q f rb z o a (mayT_flo i j az.flo) (mayT_flo i j ao.flo)
    rw [show (rl N.nN fun v => D.int (respN N h' z o v : Int)) = rl N.nN fun v => .int (respN N h z o v : Int) from rl_congr fun v hv => by unfold respN; rw [j v hv]]
    exact qq⟩
theorem flood_use {N : Net} (ok : N.ok) {us : List Nat} {st fl f : Nat → Nat} (up : us.Pairwise (· < ·)) (lt : ∀ s ∈ us, s < N.sw.length) (hst : ∀ v, v < N.nN → st v ≤ 11) (hfl : ∀ v, v < N.nN → fl v ≤ 12) (hf : Flo ⟨N.nN, wy N us, st, fl⟩ f) {A : Ht} {E Q : D → Ht → Prop} (q : Q (.tup (rl N.nN fun v => .int (f v : Int))) A) : con_flood [N.d, .tup (nL us), .tup (rl N.nN fun v => .int (st v : Int)), .tup (rl N.nN fun v => .int (fl v : Int))] A E Q := by
  have hul := up_len (n := 0) up lt (fun _ _ => Nat.zero_le _) (Nat.zero_le _)
  have hsl := ok.sl
  have l1 : (isLot (.tup (nL us)) && allSw N.sw.length (.tup (nL us))) = true := by rw [lot_up up, allSw_nat.mpr lt]; rfl
  have l2 : isLev N.nN 11 (.tup (rl N.nN fun v => .int (st v : Int))) = true := lev_iff.mpr ⟨_, rfl, hst⟩
  have l3 : isLev N.nN 12 (.tup (rl N.nN fun v => .int (fl v : Int))) = true := lev_iff.mpr ⟨_, rfl, hfl⟩
  refine ⟨N, _, _, _, rfl, ok, pure_nL, pureDs_rl fun _ _ => rfl, pureDs_rl fun _ _ => rfl, szN (by simp; omega), fun z => (by rw [l1] at z; cases z), fun _ z => (by rw [l2] at z; cases z), fun _ _ z => (by rw [l3] at z; cases z), fun us' st' fl' r' rb _ y1 y2 y3 y4 y5 y6 a => ?_⟩
  have x1 := nL_inj (D.tup.inj y1)
  have x3 : ∀ v, v < N.nN → st v = st' v := fun v hv => rl_inj (D.tup.inj y3) hv
  have x4 : ∀ v, v < N.nN → fl v = fl' v := fun v hv => rl_inj (D.tup.inj y4) hv
  have b := a.flo
  rw [← x1] at b
  have c := Flo.cols ok (by omega) (fun v hv => (x3 v hv).symm) (fun v hv => (x4 v hv).symm) y5 b
  rw [c.eq hf]
  exact q
theorem closed_up {N : Net} {p : Nat → Nat} : (closedN N p).Pairwise (· < ·) := List.pairwise_lt_range.filter _
theorem likely_up {N : Net} {p : Nat → Nat} : (likelyN N p).Pairwise (· < ·) := List.pairwise_lt_range.filter _
theorem closed_lt {N : Net} {p : Nat → Nat} : ∀ s ∈ closedN N p, s < N.sw.length := fun s hs => List.mem_range.mp (List.mem_filter.mp hs).1
theorem likely_lt {N : Net} {p : Nat → Nat} : ∀ s ∈ likelyN N p, s < N.sw.length := fun s hs => List.mem_range.mp (List.mem_filter.mp hs).1
theorem sim_row {n m : Nat} {f : Nat → Nat} (h : m ≤ 65536) : simD (n + 2) (.tup (rl m fun v => .int (f v : Int))) := ⟨by simpa using h, fun x hx => by obtain ⟨i, _, rfl⟩ := rl_mem.mp hx; exact trivial⟩
end Nt
end TextNt10

section TextFl8
set_option autoImplicit false
set_option maxRecDepth 100000
set_option maxHeartbeats 4000000
/-! Fl8: a net's part answers as the net; floods by turns, counted. -/
namespace Fl
open PySem Px Nt Lw
theorem top_of (P : Nat → Prop) : ∀ c, (∀ l, P l → l ≤ c) → ∃ m, (m ≠ 0 → P m) ∧ ∀ l, P l → l ≤ m
  | 0, h => ⟨0, fun h => absurd rfl h, h⟩
  | c + 1, h => by
    by_cases p : P (c + 1)
    · exact ⟨c + 1, fun _ => p, h⟩
    · refine top_of P c fun l hl => ?_
      have := h l hl
      rcases Nat.lt_or_eq_of_le this with q | q
      · omega
      · subst q; exact absurd hl p
section
variable {E : Nat → Nat → Nat → Prop} {s fl f : Nat → Nat}
theorem flo_ex {c : Nat} (h : ∀ v, s v ≤ c) : ∃ f, Sound E s fl f ∧ Closed E s fl f := by
  have ex : ∀ v, ∃ m, (m ≠ 0 → Reach E s fl m v) ∧ ∀ l, Reach E s fl l v → l ≤ m := fun v => top_of _ c fun l r => r.le h
  refine ⟨fun v => (ex v).choose, fun v hv => (ex v).choose_spec.1 hv, ⟨fun v hv => ?_, fun u r v e hf => ?_⟩⟩
  · by_cases z : s v = 0
    · omega
    · exact (ex v).choose_spec.2 _ (.start (by omega) hv)
  · by_cases z : min ((ex u).choose) r = 0
    · omega
    · exact (ex v).choose_spec.2 _ (.step ((ex u).choose_spec.1 (by omega)) e (by omega) hf)
/-- how many of the first nodes have not their number yet -/
def lack (f g : Nat → Nat) : Nat → Nat
  | 0 => 0
  | n + 1 => lack f g n + if g n = f n then 0 else 1
theorem lack_le {g : Nat → Nat} : ∀ n, lack f g n ≤ n
  | 0 => Nat.le_refl _
  | n + 1 => by have := lack_le (g := g) n; unfold lack; split <;> omega
theorem lack_zero {g : Nat → Nat} : ∀ {n}, lack f g n = 0 → ∀ v, v < n → g v = f v
  | 0, _, v, hv => by omega
  | n + 1, h, v, hv => by
    unfold lack at h
    split at h
    · rename_i e
      rcases Nat.lt_or_eq_of_le (Nat.le_of_lt_succ hv) with q | q
      · exact lack_zero (by omega) v q
      · rw [q]; exact e
    · omega
theorem lack_congr {g g' : Nat → Nat} : ∀ {n}, (∀ v, v < n → g v = g' v) → lack f g n = lack f g' n
  | 0, _ => rfl
  | n + 1, h => by unfold lack; rw [lack_congr fun v hv => h v (by omega), h n (by omega)]
theorem lack_mono {g g' : Nat → Nat} (h : ∀ v, g v = f v → g' v = f v) : ∀ n, lack f g' n ≤ lack f g n
  | 0 => Nat.le_refl _
  | n + 1 => by
    have := lack_mono h n
    unfold lack
    by_cases e : g n = f n
    · rw [if_pos e, if_pos (h n e)]; omega
    · rw [if_neg e]; split <;> omega
theorem lack_lt {g g' : Nat → Nat} (h : ∀ v, g v = f v → g' v = f v) {w : Nat} (hw : g w ≠ f w) (hw' : g' w = f w) : ∀ n, w < n → lack f g' n < lack f g n
  | 0, q => by omega
  | n + 1, q => by
    unfold lack
    by_cases e : w = n
    · subst e
      have := lack_mono h w
      rw [if_neg hw, if_pos hw']; omega
    · have := lack_lt h hw hw' n (by omega)
      by_cases e : g n = f n
      · rw [if_pos e, if_pos (h n e)]; omega
      · rw [if_neg e]; split <;> omega
theorem lack_pos {g : Nat → Nat} : ∀ {n}, lack f g n ≠ 0 → ∃ v, v < n ∧ g v ≠ f v
  | 0, h => absurd rfl h
  | n + 1, h => by
    unfold lack at h
    by_cases e : g n = f n
    · rw [if_pos e] at h
      obtain ⟨v, hv, hn⟩ := lack_pos (by omega)
      exact ⟨v, by omega, hn⟩
    · exact ⟨n, by omega, e⟩
/-- a turn over all ways gives one node more its number -/
theorem turn_lt {g g' : Nat → Nat} {n c : Nat} (so : Sound E s fl f) (cl : Closed E s fl f) (hs : ∀ v, s v ≤ c) (he : ∀ u r v, E u r v → u < n ∧ v < n) (h0 : ∀ v, fl v ≤ s v → s v ≤ g v) (h1 : ∀ v, g v ≤ g' v) (h2 : ∀ v, g' v ≤ f v)
    (h3 : ∀ u r v, E u r v → fl v ≤ min (g u) r → min (g u) r ≤ g' v) (hl : lack f g n ≠ 0) : lack f g' n < lack f g n := by
  obtain ⟨m, hm1, hm2⟩ := top_of (fun l => ∃ w, w < n ∧ g w ≠ f w ∧ f w = l) c (by
    rintro l ⟨w, hw, hne, rfl⟩
    by_cases z : f w = 0
    · omega
    · exact (so w z).le hs)
  have gf : ∀ v, g v ≤ f v := fun v => Nat.le_trans (h1 v) (h2 v)
  have keep : ∀ v, g v = f v → g' v = f v := fun v e => by have := h1 v; have := h2 v; omega
  obtain ⟨v0, hv0, hne0⟩ := lack_pos hl
  have b0 := hm2 (f v0) ⟨v0, hv0, hne0, rfl⟩
  have hm : m ≠ 0 := fun z => by have := gf v0; omega
  obtain ⟨w, hw, hne, ew⟩ := hm1 hm
  have key : ∀ {l v : Nat}, Reach E s fl l v → m ≤ l → v < n → g v ≠ f v → ∃ x, x < n ∧ g x ≠ f x ∧ g' x = f x := fun r => by
    induction r with
    | @start v p q =>
      intro hl hv hn
      have a := h0 v q
      have b := hm2 (f v) ⟨v, hv, hn, rfl⟩
      have := gf v
      omega
    | @step l u r v ru e p q ih =>
      intro hl hv hn
      by_cases d : g u = f u
      · have a := cl.bound ru
        rw [← d] at a
        have a2 : min l r ≤ min (g u) r := Nat.le_min.mpr ⟨Nat.le_trans (Nat.min_le_left _ _) a, Nat.min_le_right _ _⟩
        have b := h3 u r v e (Nat.le_trans q a2)
        have b2 := hm2 (f v) ⟨v, hv, hn, rfl⟩
        have b3 := h2 v
        have b4 : m ≤ g' v := Nat.le_trans hl (Nat.le_trans a2 b)
        exact ⟨v, hv, hn, Nat.le_antisymm b3 (Nat.le_trans b2 b4)⟩
      · exact ih (Nat.le_trans hl (Nat.min_le_left _ _)) (he u r v e).1 d
  obtain ⟨x, hx, hxn, hxe⟩ := key (so w (by omega)) (by omega) hw hne
  exact lack_lt keep hxn hxe n hx
end
theorem Flo.ex {T : Tk} (h : ∀ v, v < T.n → T.st v ≤ 11) : ∃ f, Flo T f := by
  obtain ⟨f, a, b⟩ := flo_ex (E := T.E) (s := T.s0) (fl := T.fl) (c := 11) fun v => by
    unfold Tk.s0
    split
    · rename_i hv; exact h v hv
    · omega
  exact ⟨f, a, b⟩
/-- σ lays T' into T so that T' has all ways into its nodes -/
structure Emb (T T' : Tk) (σ : Nat → Nat) : Prop where
  lt : ∀ v, v < T'.n → σ v < T.n
  st : ∀ v, v < T'.n → T'.st v = T.st (σ v)
  fl : ∀ v, v < T'.n → T'.fl v = T.fl (σ v)
  wn : ∀ u r v, T'.E u r v → v < T'.n
  to : ∀ u r v, T'.E u r v → T.E (σ u) r (σ v)
  fro : ∀ u r v, v < T'.n → T.E u r (σ v) → ∃ u', u' < T'.n ∧ σ u' = u ∧ T'.E u' r v
theorem Emb.eq {T T' : Tk} {σ : Nat → Nat} (e : Emb T T' σ) {f f' : Nat → Nat} (a : Flo T f) (b : Flo T' f') {v : Nat} (hv : v < T'.n) : f' v = f (σ v) := by
  have s1 : ∀ v, v < T'.n → T'.s0 v = T.s0 (σ v) := fun v hv => by unfold Tk.s0; rw [if_pos hv, if_pos (e.lt v hv)]; exact e.st v hv
  have k1 : ∀ {l v : Nat}, Reach T'.E T'.s0 T'.fl l v → v < T'.n → Reach T.E T.s0 T.fl l (σ v) := fun r => by
    induction r with
    | @start v p q =>
      intro hv
      rw [s1 v hv] at p q ⊢
      exact .start p (by rw [← e.fl v hv]; exact q)
    | @step l u r v _ ed p q ih => intro hv; exact .step (ih ed.1) (e.to u r v ed) p (by rw [← e.fl v hv]; exact q)
  have k2 : ∀ {l w : Nat}, Reach T.E T.s0 T.fl l w → ∀ v, v < T'.n → σ v = w → Reach T'.E T'.s0 T'.fl l v := fun r => by
    induction r with
    | @start w p q =>
      rintro v hv rfl
      rw [← s1 v hv] at p q ⊢
      exact .start p (by rw [e.fl v hv]; exact q)
    | @step l u r w _ ed p q ih =>
      rintro v hv rfl
      obtain ⟨u', hu', eu, e'⟩ := e.fro u r v hv ed
      exact .step (ih u' hu' eu) e' p (by rw [e.fl v hv]; exact q)
  refine Nat.le_antisymm ?_ ?_
  · by_cases z : f' v = 0
    · omega
    · exact a.closed.bound (k1 (b.sound v z) hv)
  · by_cases z : f (σ v) = 0
    · omega
    · exact b.closed.bound (k2 (a.sound _ z) v hv rfl)
/-- the ways of a net -/
theorem E_iff {N : Net} (ok : N.ok) {us : List Nat} {st fl : Nat → Nat} {u r v : Nat} : (⟨N.nN, wy N us, st, fl⟩ : Tk).E u r v ↔ ∃ s, ∃ (hs : s < N.sw.length), s ∈ us ∧ r = 4 + N.sw[s].st ∧ ((N.sw[s].l = u ∧ N.sw[s].r = v) ∨ (N.sw[s].r = u ∧ N.sw[s].l = v)) ∧ N.fs.length ≤ v := by
  constructor
  · rintro ⟨hu, s, hs⟩
    obtain ⟨h1, h2, h3, h4, h5⟩ := wy_mem hs
    exact ⟨s, h1, h2, h3, h4, h5⟩
  · rintro ⟨s, hs, h2, rfl, h4, h5⟩
    have e := edge_wy ok (st := st) (fl := fl) h2 hs
    rcases h4 with ⟨rfl, rfl⟩ | ⟨rfl, rfl⟩
    · exact e.1 h5
    · exact e.2 h5
/-- N' is the part of N that σ tells: its feeds and some tanks, with all switches that end at these tanks -/
structure SubN (N : Net) (p h : Nat → Nat) (N' : Net) (p' h' : Nat → Nat) (σ : Nat → Nat) : Prop where
  f : N'.fs.length = N.fs.length
  lt : ∀ v, v < N'.nN → σ v < N.nN
  feed : ∀ v, v < N.fs.length → σ v = v
  tank : ∀ v, v < N'.nN → N.fs.length ≤ v → N.fs.length ≤ σ v
  inj : ∀ v w, v < N'.nN → w < N'.nN → σ v = σ w → v = w
  size : ∀ v, v < N'.nN → N.fs.length ≤ v → rkN N' v = rkN N (σ v)
  held : ∀ v, v < N'.nN → h' v = h (σ v)
  sw1 : ∀ s' (hs' : s' < N'.sw.length), ∃ s, ∃ (hs : s < N.sw.length), N'.sw[s'].st = N.sw[s].st ∧ p' s' = p s ∧ ((N.sw[s].l = σ N'.sw[s'].l ∧ N.sw[s].r = σ N'.sw[s'].r) ∨ (N.sw[s].r = σ N'.sw[s'].l ∧ N.sw[s].l = σ N'.sw[s'].r))
  sw2 : ∀ s (hs : s < N.sw.length), ∀ v, v < N'.nN → N.fs.length ≤ v → (N.sw[s].l = σ v ∨ N.sw[s].r = σ v) → ∃ s', ∃ (hs' : s' < N'.sw.length), N'.sw[s'].st = N.sw[s].st ∧ p' s' = p s ∧ ((N.sw[s].l = σ N'.sw[s'].l ∧ N.sw[s].r = σ N'.sw[s'].r) ∨ (N.sw[s].r = σ N'.sw[s'].l ∧ N.sw[s].l = σ N'.sw[s'].r))
def selN (N : Net) (p : Nat → Nat) (P : Nat → Bool) : List Nat := (List.range N.sw.length).filter fun s => P (p s)
theorem mem_sel {N : Net} {p : Nat → Nat} {P : Nat → Bool} {s : Nat} : s ∈ selN N p P ↔ s < N.sw.length ∧ P (p s) = true := by
  unfold selN; rw [List.mem_filter, List.mem_range]
theorem SubN.emb {N N' : Net} {p h p' h' σ : Nat → Nat} (b : SubN N p h N' p' h' σ) (ok : N.ok) (ok' : N'.ok) {P : Nat → Bool} {st fl st' fl' : Nat → Nat} (e1 : ∀ v, v < N'.nN → st' v = st (σ v)) (e2 : ∀ v, v < N'.nN → fl' v = fl (σ v)) :
    Emb ⟨N.nN, wy N (selN N p P), st, fl⟩ ⟨N'.nN, wy N' (selN N' p' P), st', fl'⟩ σ where
  lt := b.lt
  st := e1
  fl := e2
  wn u r v e := by
    obtain ⟨s, hs, _, _, h4, _⟩ := (E_iff ok').mp e
    have en := ok'.en _ (List.getElem_mem hs)
    show v < N'.nN
    rcases h4 with ⟨_, rfl⟩ | ⟨_, rfl⟩
    · exact en.2.1
    · exact en.1
  to u r v e := by
    obtain ⟨s', hs', h2, h3, h4, h5⟩ := (E_iff ok').mp e
    have en := ok'.en _ (List.getElem_mem hs')
    obtain ⟨s, hs, est, ep, ends⟩ := b.sw1 s' hs'
    refine (E_iff ok).mpr ⟨s, hs, mem_sel.mpr ⟨hs, by rw [← ep]; exact (mem_sel.mp h2).2⟩, by rw [← est]; exact h3, ?_, ?_⟩
    · rcases h4 with ⟨rfl, rfl⟩ | ⟨rfl, rfl⟩
      · rcases ends with ⟨a, c⟩ | ⟨a, c⟩
        · exact .inl ⟨a, c⟩
        · exact .inr ⟨a, c⟩
      · rcases ends with ⟨a, c⟩ | ⟨a, c⟩
        · exact .inr ⟨c, a⟩
        · exact .inl ⟨c, a⟩
    · rw [b.f] at h5
      refine b.tank v ?_ h5
      rcases h4 with ⟨_, rfl⟩ | ⟨_, rfl⟩
      · exact en.2.1
      · exact en.1
  fro u r v hv e := by
    have hv : v < N'.nN := hv
    obtain ⟨s, hs, h2, h3, h4, h5⟩ := (E_iff ok).mp e
    have hF : N.fs.length ≤ v := Nat.le_of_not_lt fun c => by rw [b.feed v c] at h5; omega
    obtain ⟨s', hs', est, ep, ends⟩ := b.sw2 s hs v hv hF (by rcases h4 with ⟨_, q⟩ | ⟨_, q⟩ <;> simp [q])
    have en := ok'.en _ (List.getElem_mem hs')
    have m : s' ∈ selN N' p' P := mem_sel.mpr ⟨hs', by rw [ep]; exact (mem_sel.mp h2).2⟩
    have fin : ∀ u', ((N'.sw[s'].l = u' ∧ N'.sw[s'].r = v) ∨ (N'.sw[s'].r = u' ∧ N'.sw[s'].l = v)) → (⟨N'.nN, wy N' (selN N' p' P), st', fl'⟩ : Tk).E u' r v := fun u' q => (E_iff ok').mpr ⟨s', hs', m, by rw [est]; exact h3, q, by rw [b.f]; exact hF⟩
    rcases h4 with ⟨q1, q2⟩ | ⟨q1, q2⟩
    · rcases ends with ⟨a, c⟩ | ⟨a, c⟩
      · have ev := b.inj _ v en.2.1 hv (by rw [← c, q2])
        exact ⟨_, en.1, by rw [← a, q1], fin _ (.inl ⟨rfl, ev⟩)⟩
      · have ev := b.inj _ v en.1 hv (by rw [← a, q2])
        exact ⟨_, en.2.1, by rw [← c, q1], fin _ (.inr ⟨rfl, ev⟩)⟩
    · rcases ends with ⟨a, c⟩ | ⟨a, c⟩
      · have ev := b.inj _ v en.1 hv (by rw [← a, q2])
        exact ⟨_, en.2.1, by rw [← c, q1], fin _ (.inr ⟨rfl, ev⟩)⟩
      · have ev := b.inj _ v en.2.1 hv (by rw [← c, q2])
        exact ⟨_, en.1, by rw [← a, q1], fin _ (.inl ⟨rfl, ev⟩)⟩
section
variable {N N' : Net} {p h p' h' σ f f' z z' o o' : Nat → Nat}
theorem SubN.rk (b : SubN N p h N' p' h' σ) {v : Nat} (hv : v < N'.nN) : rkN N' v = rkN N (σ v) := by
  by_cases c : v < N.fs.length
  · rw [b.feed v c]; unfold rkN; rw [b.f, if_pos c, if_pos c]
  · exact b.size v hv (by omega)
theorem SubN.firm (b : SubN N p h N' p' h' σ) (ok : N.ok) (ok' : N'.ok) (hf : Flo (firmT N p) f) (hf' : Flo (firmT N' p') f') {v : Nat} (hv : v < N'.nN) : f' v = f (σ v) :=
  (b.emb ok ok' (P := fun x => decide (x = 1)) (fun v hv => b.rk hv) (fun v hv => rfl)).eq hf hf' hv
theorem SubN.may (b : SubN N p h N' p' h' σ) (ok : N.ok) (ok' : N'.ok) (hf : Flo (firmT N p) f) (hf' : Flo (firmT N' p') f') {w : Nat} (hz : Flo (mayT N p h w f) z) (hz' : Flo (mayT N' p' h' w f') z') {v : Nat} (hv : v < N'.nN) : z' v = z (σ v) :=
  (b.emb ok ok' (P := fun x => !decide (x = 0)) (st := rootN N h w) (fl := f) (st' := rootN N' h' w) (fl' := f') (fun v hv => by unfold rootN; rw [b.held v hv, b.rk hv]) (fun v hv => b.firm ok ok' hf hf' hv)).eq hz hz' hv
theorem SubN.resp (b : SubN N p h N' p' h' σ) (hz : ∀ v, v < N'.nN → z' v = z (σ v)) (ho : ∀ v, v < N'.nN → o' v = o (σ v)) {v : Nat} (hv : v < N'.nN) : respN N' h' z' o' v = respN N h z o (σ v) := by
  unfold respN
  by_cases c : v < N.fs.length
  · rw [b.f, b.feed v c, if_pos c, if_pos c, b.held v hv, b.feed v c]
  · have := b.tank v hv (by omega)
    rw [b.f, if_neg c, if_neg (show ¬ σ v < N.fs.length by omega), hz v hv, ho v hv]
/-- a node that no way leads to -/
theorem Flo.lone {T : Tk} {f : Nat → Nat} (a : Flo T f) {v : Nat} (hv : v < T.n) (h : ∀ u r, ¬ T.E u r v) (c : T.fl v ≤ T.st v ∨ T.st v = 0) : f v = T.st v := by
  have e : T.s0 v = T.st v := if_pos hv
  refine Nat.le_antisymm ?_ ?_
  · by_cases z : f v = 0
    · omega
    · have := a.sound v z
      generalize f v = l at this
      cases this with
      | start p q => omega
      | step _ ed => exact absurd ed (h _ _)
  · rcases c with c | c
    · have := a.closed.start v (by omega); omega
    · omega
/-- a feed, or a tank that no switch touches -/
theorem lone_vals (ok : N.ok) (okh : okH N h) (hf : Flo (firmT N p) f) (hz : Flo (mayT N p h 0 f) z) (ho : Flo (mayT N p h 1 f) o) {v : Nat} (hv : v < N.nN) (c : v < N.fs.length ∨ ∀ s (hs : s < N.sw.length), (N.sw[s].l = v ∨ N.sw[s].r = v) → p s = 0) :
    f v = rkN N v ∧ z v = (if h v = 1 then 0 else rkN N v) ∧ o v = (if h v = 0 then 0 else rkN N v) ∧ respN N h z o v = h v := by
  have no : ∀ (P : Nat → Bool) (st fl : Nat → Nat), P 0 = false → ∀ u r, ¬ (⟨N.nN, wy N (selN N p P), st, fl⟩ : Tk).E u r v := fun P st fl hP u r e => by
    obtain ⟨s, hs, h2, h3, h4, h5⟩ := (E_iff ok).mp e
    rcases c with c | c
    · omega
    · have := c s hs (by rcases h4 with ⟨_, q⟩ | ⟨_, q⟩ <;> simp [q])
      have h2 := (mem_sel.mp h2).2
      rw [this, hP] at h2
      cases h2
  have h1 := okh.le v hv
  have r0 : 0 < rkN N v := by
    unfold rkN
    split
    · omega
    · have h3 : v - N.fs.length < N.ts.length := by unfold Net.nN at hv; omega
      rw [List.getElem?_eq_getElem h3]
      exact (ok.sz _ (List.getElem_mem h3)).1
  have ef : f v = rkN N v := hf.lone hv (no (fun x => decide (x = 1)) _ _ rfl) (.inl (Nat.zero_le _))
  have ez : z v = rootN N h 0 v := hz.lone hv (no (fun x => !decide (x = 0)) _ _ rfl) (by
    show f v ≤ rootN N h 0 v ∨ rootN N h 0 v = 0
    unfold rootN
    split
    · left; omega
    · right; rfl)
  have eo : o v = rootN N h 1 v := ho.lone hv (no (fun x => !decide (x = 0)) _ _ rfl) (by
    show f v ≤ rootN N h 1 v ∨ rootN N h 1 v = 0
    unfold rootN
    split
    · left; omega
    · right; rfl)
  have ez2 : z v = (if h v = 1 then 0 else rkN N v) := by
    rw [ez]; unfold rootN
    by_cases q : h v = 1
    · rw [if_pos q, if_neg (by omega)]
    · rw [if_neg q, if_pos (by omega)]
  have eo2 : o v = (if h v = 0 then 0 else rkN N v) := by
    rw [eo]; unfold rootN
    by_cases q : h v = 0
    · rw [if_pos q, if_neg (by omega)]
    · rw [if_neg q, if_pos (by omega)]
  refine ⟨ef, ez2, eo2, ?_⟩
  unfold respN
  rw [ez2, eo2]
  split
  · rfl
  · have h3 : h v = 0 ∨ h v = 1 ∨ h v = 2 := by omega
    have rn : rkN N v ≠ 0 := by omega
    rcases h3 with e | e | e <;> rw [e] <;> simp [rn]
end
end Fl
end TextFl8

section TextFl9
set_option autoImplicit false
set_option maxRecDepth 100000
set_option maxHeartbeats 4000000
/-! Fl9: the response as a function; readings; the spread as the least state that rests above the beginning. -/
namespace Fl
open PySem Px Nt Lw
section
variable {N : Net} {p h p2 h2 f f2 z z2 o o2 : Nat → Nat}
/-- a tank is either likely 0 or likely 1, by the flood alone -/
theorem flo_some (ok : N.ok) (okp : okP N p) (okh : okH N h) (a : Flo (firmT N p) f) (hz : Flo (mayT N p h 0 f) z) (ho : Flo (mayT N p h 1 f) o) : ∀ v, v < N.nN → f v ≤ z v ∨ f v ≤ o v := by
  have en : ∀ u r v, (firmT N p).E u r v → u < N.nN ∧ v < N.nN := fun u r v e => by
    obtain ⟨s, hs, _, _, h4, _⟩ := (E_iff ok (us := closedN N p)).mp e
    have en := ok.en _ (List.getElem_mem hs)
    rcases h4 with ⟨rfl, rfl⟩ | ⟨rfl, rfl⟩
    · exact ⟨en.1, en.2.1⟩
    · exact ⟨en.2.1, en.1⟩
  have lk : ∀ w u r v, (firmT N p).E u r v → (mayT N p h w f).E u r v := fun w u r v e => by
    obtain ⟨s, hs, h2, h3, h4, h5⟩ := (E_iff ok (us := closedN N p)).mp e
    have y := of_decide_eq_true (List.mem_filter.mp h2).2
    exact (E_iff ok (us := likelyN N p)).mpr ⟨s, hs, List.mem_filter.mpr ⟨List.mem_range.mpr hs, by rw [y]; rfl⟩, h3, h4, h5⟩
  have inner : ∀ K : Nat, (∀ u, u < N.nN → K < f u → f u ≤ z u ∨ f u ≤ o u) → ∀ {l v : Nat}, Reach (firmT N p).E (firmT N p).s0 (firmT N p).fl l v → v < N.nN → l = f v → K ≤ f v → f v ≤ z v ∨ f v ≤ o v := fun K H l v r => by
    induction r with
    | @start v p1 q1 =>
      intro hv e _
      have e : rkN N v = f v := by
        have : (firmT N p).s0 v = rkN N v := if_pos hv
        rw [← this]; exact e
      have hv2 := okh.le v hv
      by_cases c : h v = 1
      · right
        have := ho.closed.start v
        have e2 : (mayT N p h 1 f).s0 v = f v := by
          show (if v < N.nN then rootN N h 1 v else 0) = f v
          rw [if_pos hv]; unfold rootN; rw [if_pos (.inl c), e]
        rw [e2] at this
        exact this (Nat.le_refl _)
      · left
        have := hz.closed.start v
        have e2 : (mayT N p h 0 f).s0 v = f v := by
          show (if v < N.nN then rootN N h 0 v else 0) = f v
          rw [if_pos hv]; unfold rootN; rw [if_pos (by omega), e]
        rw [e2] at this
        exact this (Nat.le_refl _)
    | @step l u r v ru e p1 q1 ih =>
      intro hv el hK
      have hu := (en u r v e).1
      have lu := a.closed.bound ru
      have pu : f u ≤ z u ∨ f u ≤ o u := by
        by_cases c : K < f u
        · exact H u hu c
        · exact ih hu (by omega) (by omega)
      rcases pu with q | q
      · left
        have := hz.closed.step u r v (lk 0 u r v e)
        have c : (mayT N p h 0 f).fl v = f v := rfl
        rw [c] at this
        have := this (by omega)
        omega
      · right
        have := ho.closed.step u r v (lk 1 u r v e)
        have c : (mayT N p h 1 f).fl v = f v := rfl
        rw [c] at this
        have := this (by omega)
        omega
  have outer : ∀ d K, 12 - K ≤ d → ∀ v, v < N.nN → K ≤ f v → f v ≤ z v ∨ f v ≤ o v := by
    intro d
    induction d with
    | zero =>
      intro K hd v hv hK
      have := firm_le ok a v
      omega
    | succ d ih =>
      intro K hd v hv hK
      by_cases c : f v = 0
      · omega
      · exact inner K (fun u hu hk => ih (K + 1) (by omega) u hu hk) (a.sound v c) hv rfl hK
  exact fun v hv => outer 12 0 (by omega) v hv (Nat.zero_le _)
theorem resp_mono (ok : N.ok) (okp : okP N p) (okh : okH N h) (okp2 : okP N p2) (okh2 : okH N h2) (m : More N p h p2 h2) (hf : Flo (firmT N p) f) (hf2 : Flo (firmT N p2) f2) (hz : Flo (mayT N p h 0 f) z) (hz2 : Flo (mayT N p2 h2 0 f2) z2) (ho : Flo (mayT N p h 1 f) o) (ho2 : Flo (mayT N p2 h2 1 f2) o2) {v : Nat} (hv : v < N.nN) (hn : respN N h z o v ≠ 2) : respN N h2 z2 o2 v = respN N h z o v := by
  have ff := fun v => firm_more m hf hf2 v
  have mz := may_more okh (by decide) okp m ff hz hz2 v
  have mo := may_more okh (by decide) okp m ff ho ho2 v
  have some2 := flo_some ok okp2 okh2 hf2 hz2 ho2 v hv
  have fp := firm_pos ok hf2 hv
  unfold respN at hn ⊢
  by_cases c : v < N.fs.length
  · rw [if_pos c] at hn ⊢
    rw [if_pos c]
    exact m.h v hv (by have := okh.le v hv; omega)
  · rw [if_neg c] at hn ⊢
    rw [if_neg c]
    by_cases c1 : z v = 0
    · rw [if_pos c1, if_pos (by omega)]
    · rw [if_neg c1] at hn ⊢
      by_cases c2 : o v = 0
      · rw [if_pos c2]
        rw [if_neg (by omega), if_pos (by omega)]
      · rw [if_neg c2] at hn; omega
/-- what the net tells -/
def Told (N : Net) (p h r : Nat → Nat) : Prop := ∃ f z o, Flo (firmT N p) f ∧ Flo (mayT N p h 0 f) z ∧ Flo (mayT N p h 1 f) o ∧ r = respN N h z o
noncomputable def rspN (N : Net) (p h : Nat → Nat) : Nat → Nat := Classical.epsilon (Told N p h)
theorem told_ex (ok : N.ok) (p h : Nat → Nat) : ∃ r, Told N p h r := by
  obtain ⟨f, hf⟩ := Flo.ex (T := firmT N p) fun v hv => rkN_le ok hv
  obtain ⟨z, hz⟩ := Flo.ex (T := mayT N p h 0 f) fun v hv => root_le ok hv
  obtain ⟨o, ho⟩ := Flo.ex (T := mayT N p h 1 f) fun v hv => root_le ok hv
  exact ⟨_, f, z, o, hf, hz, ho, rfl⟩
theorem told_rsp (ok : N.ok) (p h : Nat → Nat) : Told N p h (rspN N p h) := Classical.epsilon_spec (told_ex ok p h)
theorem rsp_of (ok : N.ok) (hf : Flo (firmT N p) f) (hz : Flo (mayT N p h 0 f) z) (ho : Flo (mayT N p h 1 f) o) : respN N h z o = rspN N p h := by
  obtain ⟨f', z', o', hf', hz', ho', e⟩ := told_rsp ok p h
  rw [hf'.eq hf] at hz' ho'
  rw [e, hz'.eq hz, ho'.eq ho]
theorem rsp_le (ok : N.ok) (okh : okH N h) {v : Nat} (hv : v < N.nN) : rspN N p h v ≤ 2 := by
  obtain ⟨f, z, o, _, _, _, e⟩ := told_rsp ok p h
  rw [e]
  unfold respN
  have := okh.le v hv
  split
  · exact this
  · split
    · omega
    · split <;> omega
theorem rsp_feed (ok : N.ok) {v : Nat} (hv : v < N.fs.length) : rspN N p h v = h v := by
  obtain ⟨f, z, o, _, _, _, e⟩ := told_rsp ok p h
  rw [e]
  unfold respN
  rw [if_pos hv]
theorem rsp_okH (ok : N.ok) (okh : okH N h) : okH N (rspN N p h) := by
  have f2 := ok.f2
  exact ⟨fun v hv => rsp_le ok okh hv, by rw [rsp_feed ok (by omega)]; exact okh.low, by rw [rsp_feed ok (by omega)]; exact okh.high⟩
/-- the greater state is told the same, or 2 -/
theorem rsp_mono (ok : N.ok) (okp : okP N p) (okh : okH N h) (okp2 : okP N p2) (okh2 : okH N h2) (m : More N p h p2 h2) {v : Nat} (hv : v < N.nN) : rspN N p h v = 2 ∨ rspN N p h v = rspN N p2 h2 v := by
  obtain ⟨f, z, o, hf, hz, ho, e⟩ := told_rsp ok p h
  obtain ⟨f', z', o', hf', hz', ho', e'⟩ := told_rsp ok p2 h2
  by_cases c : respN N h z o v = 2
  · left; rw [e]; exact c
  · right
    rw [e, e']
    exact (resp_mono ok okp okh okp2 okh2 m hf hf' hz hz' ho ho' hv c).symm
end
/-- gates that are nodes -/
def gOk (N : Net) : Prop := ∀ w ∈ N.sw, w.kind ≠ "tie" → 0 ≤ w.gate ∧ w.gate < (N.nN : Int)
def fl2 (v : Nat) : Nat := if v = 2 then 2 else 1 - v
def rdW (h : Nat → Nat) (w : Sw) : Nat := if w.kind = "tie" then 1 else if w.kind = "zero" then fl2 (h w.gate.toNat) else h w.gate.toNat
/-- the readings -/
def rdN (N : Net) (h : Nat → Nat) (s : Nat) : Nat := match N.sw[s]? with | some w => rdW h w | none => 0
def jn (f g : Nat → Nat) (v : Nat) : Nat := if f v = g v then f v else 2
/-- the second is above the first, to n -/
def Abv (n : Nat) (f g : Nat → Nat) : Prop := ∀ v, v < n → g v = 2 ∨ g v = f v
theorem Abv.refl (n : Nat) (f : Nat → Nat) : Abv n f f := fun _ _ => .inr rfl
theorem Abv.trans {n : Nat} {f g k : Nat → Nat} (a : Abv n f g) (b : Abv n g k) : Abv n f k := fun v hv => by
  rcases b v hv with q | q
  · exact .inl q
  · rcases a v hv with q2 | q2
    · exact .inl (q.trans q2)
    · exact .inr (q.trans q2)
theorem abv_jn (n : Nat) (f g : Nat → Nat) : Abv n f (jn f g) := fun v _ => by
  unfold jn
  split
  · exact .inr rfl
  · exact .inl rfl
theorem abv_jn2 (n : Nat) (f g : Nat → Nat) : Abv n g (jn f g) := fun v _ => by
  unfold jn
  split
  · rename_i e; exact .inr e
  · exact .inl rfl
theorem jn_least {n : Nat} {f g k : Nat → Nat} (a : Abv n f k) (b : Abv n g k) : Abv n (jn f g) k := fun v hv => by
  unfold jn
  rcases a v hv with q | q
  · exact .inl q
  · rcases b v hv with q2 | q2
    · exact .inl q2
    · right; rw [if_pos (by omega)]; exact q
theorem Abv.more {N : Net} {p h p2 h2 : Nat → Nat} (a : Abv N.sw.length p2 p) (b : Abv N.nN h2 h) : More N p h p2 h2 :=
  ⟨fun s hs c => by rcases a s hs with q | q <;> omega, fun v hv c => by rcases b v hv with q | q <;> omega⟩
section
variable {N : Net} {p h : Nat → Nat}
theorem rd_mono (g : gOk N) {h2 : Nat → Nat} (a : Abv N.nN h h2) : Abv N.sw.length (rdN N h) (rdN N h2) := fun s hs => by
  unfold rdN
  rw [List.getElem?_eq_getElem hs]
  unfold rdW fl2
  dsimp only
  by_cases c : N.sw[s].kind = "tie"
  · right; rw [if_pos c, if_pos c]
  · have gg := g _ (List.getElem_mem hs) c
    have hb := a N.sw[s].gate.toNat (by omega)
    rw [if_neg c, if_neg c]
    split
    · split
      · exact .inl rfl
      · rcases hb with q | q
        · omega
        · rename_i c2; right; rw [q]; rw [q] at c2; rw [if_neg c2]
    · exact hb
theorem rd_okP (g : gOk N) (okh : okH N h) : okP N (rdN N h) := by
  refine ⟨fun s hs => ?_, fun s hs c => ?_⟩
  · unfold rdN
    rw [List.getElem?_eq_getElem hs]
    unfold rdW fl2
    dsimp only
    split
    · omega
    · rename_i c
      have gg := g _ (List.getElem_mem hs) c
      have := okh.le N.sw[s].gate.toNat (by omega)
      split
      · split <;> omega
      · exact this
  · unfold rdN
    rw [List.getElem?_eq_getElem hs]
    unfold rdW
    dsimp only
    rw [if_pos c]
theorem jn_okP {q : Nat → Nat} (a : okP N p) (b : okP N q) : okP N (jn p q) := by
  refine ⟨fun s hs => ?_, fun s hs c => ?_⟩
  · have := a.le s hs
    unfold jn
    split <;> omega
  · unfold jn
    rw [a.tie s hs c, b.tie s hs c, if_pos rfl]
theorem jn_okH {q : Nat → Nat} (a : okH N h) (b : okH N q) : okH N (jn h q) := by
  refine ⟨fun s hs => ?_, ?_, ?_⟩
  · have := a.le s hs
    unfold jn
    split <;> omega
  · unfold jn; rw [a.low, b.low, if_pos rfl]
  · unfold jn; rw [a.high, b.high, if_pos rfl]
/-- above its own readings and responses -/
structure Rests (N : Net) (p h : Nat → Nat) : Prop where
  rp : Abv N.sw.length (rdN N h) p
  rh : Abv N.nN (rspN N p h) h
/-- the least such state above a given one -/
structure Least (N : Net) (p0 h0 p h : Nat → Nat) : Prop where
  okp : okP N p
  okh : okH N h
  ap : Abv N.sw.length p0 p
  ah : Abv N.nN h0 h
  rest : Rests N p h
  lt : ∀ q g, okP N q → okH N g → Abv N.sw.length p0 q → Abv N.nN h0 g → Rests N q g → Abv N.sw.length p q ∧ Abv N.nN h g
theorem Least.eq {p0 h0 q g : Nat → Nat} (a : Least N p0 h0 p h) (b : Least N p0 h0 q g) : (∀ s, s < N.sw.length → p s = q s) ∧ ∀ v, v < N.nN → h v = g v := by
  obtain ⟨x1, x2⟩ := a.lt q g b.okp b.okh b.ap b.ah b.rest
  obtain ⟨y1, y2⟩ := b.lt p h a.okp a.okh a.ap a.ah a.rest
  exact ⟨fun s hs => by rcases x1 s hs with e | e <;> rcases y1 s hs with e2 | e2 <;> omega, fun v hv => by rcases x2 v hv with e | e <;> rcases y2 v hv with e2 | e2 <;> omega⟩
/-- on the way to the spread -/
structure Clm (N : Net) (p0 h0 p h : Nat → Nat) : Prop where
  okp : okP N p
  okh : okH N h
  ap : Abv N.sw.length p0 p
  ah : Abv N.nN h0 h
  lt : ∀ q g, okP N q → okH N g → Abv N.sw.length p0 q → Abv N.nN h0 g → Rests N q g → Abv N.sw.length p q ∧ Abv N.nN h g
theorem Clm.stop {p0 h0 : Nat → Nat} (a : Clm N p0 h0 p h) (r : Rests N p h) : Least N p0 h0 p h := ⟨a.okp, a.okh, a.ap, a.ah, r, a.lt⟩
theorem Clm.start (a : okP N p) (b : okH N h) : Clm N p h p h := ⟨a, b, Abv.refl _ _, Abv.refl _ _, fun _ _ _ _ x y _ => ⟨x, y⟩⟩
/-- any state between is on the way -/
theorem Clm.up (ok : N.ok) (g : gOk N) {p0 h0 p2 h2 : Nat → Nat} (a : Clm N p0 h0 p h) (o1 : okP N p2) (o2 : okH N h2) (x1 : Abv N.sw.length p p2) (x2 : Abv N.nN h h2) (y1 : Abv N.sw.length p2 (jn p (rdN N h))) (y2 : ∀ q g2, okP N q → okH N g2 → Abv N.sw.length p2 q → Abv N.nN h g2 → Rests N q g2 → Abv N.nN h2 g2) : Clm N p0 h0 p2 h2 := by
  refine ⟨o1, o2, a.ap.trans x1, a.ah.trans x2, fun q g2 k1 k2 k3 k4 k5 => ?_⟩
  obtain ⟨z1, z2⟩ := a.lt q g2 k1 k2 k3 k4 k5
  have w1 : Abv N.sw.length (jn p (rdN N h)) q := jn_least z1 ((rd_mono g z2).trans k5.rp)
  have w2 := y1.trans w1
  exact ⟨w2, y2 q g2 k1 k2 w2 z2 k5⟩
/-- one round of the spread -/
theorem Clm.round (ok : N.ok) (g : gOk N) {p0 h0 : Nat → Nat} (a : Clm N p0 h0 p h) : Clm N p0 h0 (jn p (rdN N h)) (jn h (rspN N (jn p (rdN N h)) h)) := by
  have o1 := jn_okP a.okp (rd_okP g a.okh)
  refine a.up ok g o1 (jn_okH a.okh (rsp_okH ok a.okh)) (abv_jn _ _ _) (abv_jn _ _ _) (Abv.refl _ _) fun q g2 k1 k2 w2 z2 k5 => ?_
  refine jn_least z2 (Abv.trans (fun v hv => ?_) k5.rh)
  exact rsp_mono ok k1 k2 o1 a.okh (Abv.more w2 z2) hv
theorem rsp_congr (ok : N.ok) {p' h' : Nat → Nat} (i : ∀ s, s < N.sw.length → p s = p' s) (j : ∀ v, v < N.nN → h v = h' v) {v : Nat} (hv : v < N.nN) : rspN N p h v = rspN N p' h' v := by
  obtain ⟨f, z, o, hf, hz, ho, e⟩ := told_rsp ok p' h'
  rw [firmT_eq i] at hf
  have e2 := rsp_of ok hf (mayT_flo i j hz) (mayT_flo i j ho)
  rw [e, ← e2]
  unfold respN
  rw [j v hv]
theorem Rests.of (ok : N.ok) (e1 : ∀ s, s < N.sw.length → jn p (rdN N h) s = p s) (e2 : ∀ v, v < N.nN → jn h (rspN N (jn p (rdN N h)) h) v = h v) : Rests N p h := by
  refine ⟨fun s hs => ?_, fun v hv => ?_⟩
  · rw [← e1 s hs]; exact abv_jn2 _ _ _ s hs
  · have := abv_jn2 N.nN h (rspN N (jn p (rdN N h)) h) v hv
    rw [e2 v hv] at this
    rw [rsp_congr ok e1 (fun _ _ => rfl) hv] at this
    exact this
end
end Fl
end TextFl9

section TextFl16
set_option autoImplicit false
set_option maxRecDepth 100000
set_option maxHeartbeats 4000000
/-! Fl16: what is told is the join over all ways to fill what is unknown. -/
namespace Fl
open PySem Px Nt Lw
/-- nothing is unknown -/
structure Kn (N : Net) (p h : Nat → Nat) : Prop where
  p : ∀ s, s < N.sw.length → p s ≤ 1
  h : ∀ u, u < N.nN → h u ≤ 1
/-- a filling -/
structure Fil (N : Net) (p h p2 h2 : Nat → Nat) : Prop where
  more : More N p h p2 h2
  kn : Kn N p2 h2
section
variable {N : Net} {p h p2 h2 f f2 m m2 z o z2 o2 : Nat → Nat} {v : Nat}
theorem Fil.okP (okp : okP N p) (F : Fil N p h p2 h2) : okP N p2 := ⟨fun s hs => by have := F.kn.p s hs; omega, fun s hs c => by rw [F.more.p s hs (by rw [okp.tie s hs c]; decide)]; exact okp.tie s hs c⟩
theorem Fil.okH (ok : N.ok) (okh : okH N h) (F : Fil N p h p2 h2) : okH N h2 := by
  have f2 := ok.f2
  have nn : N.nN = N.fs.length + N.ts.length := rfl
  exact ⟨fun u hu => by have := F.kn.h u hu; omega, by rw [F.more.h 0 (by omega) (by rw [okh.low]; decide)]; exact okh.low, by rw [F.more.h 1 (by omega) (by rw [okh.high]; decide)]; exact okh.high⟩
/-- an edge of the switches us -/
def Eg (N : Net) (us : List Nat) (u r w : Nat) : Prop := ∃ s, ∃ (hs : s < N.sw.length), s ∈ us ∧ r = 4 + N.sw[s].st ∧ ((N.sw[s].l = u ∧ N.sw[s].r = w) ∨ (N.sw[s].r = u ∧ N.sw[s].l = w)) ∧ N.fs.length ≤ w
theorem firm_s0 {u : Nat} (hu : u < N.nN) : (firmT N p).s0 u = rkN N u := if_pos hu
theorem may_s0 {u : Nat} (hu : u < N.nN) : (mayT N p h v f).s0 u = rootN N h v u := if_pos hu
/-- roads by which the flood comes as strong as it can -/
inductive Gd (N : Net) (p : Nat → Nat) (s0 m f : Nat → Nat) : Nat → List Nat → Prop
  | root {u : Nat} : m u ≠ 0 → s0 u = m u → f u ≤ m u → Gd N p s0 m f u []
  | step {w u s : Nat} {S : List Nat} (hs : s < N.sw.length) : Gd N p s0 m f w S → s ∈ likelyN N p → ((N.sw[s].l = w ∧ N.sw[s].r = u) ∨ (N.sw[s].r = w ∧ N.sw[s].l = u)) → N.fs.length ≤ u → m u = min (m w) (4 + N.sw[s].st) → f u ≤ m u → m u ≠ 0 → Gd N p s0 m f u (s :: S)
theorem Gd.fl {s0 : Nat → Nat} {u : Nat} {S : List Nat} (g : Gd N p s0 m f u S) : f u ≤ m u := by cases g <;> assumption
theorem Gd.ends {s0 : Nat → Nat} {u : Nat} {S : List Nat} (g : Gd N p s0 m f u S) : ∀ s ∈ S, ∃ hs : s < N.sw.length, f N.sw[s].l ≤ m N.sw[s].l ∧ f N.sw[s].r ≤ m N.sw[s].r := by
  induction g with
  | root _ _ _ => intro s hs; cases hs
  | @step w u s S hs gw _ he _ _ hf _ ih =>
    intro t ht
    rcases List.mem_cons.mp ht with rfl | ht
    · refine ⟨hs, ?_⟩
      have := gw.fl
      rcases he with ⟨e1, e2⟩ | ⟨e1, e2⟩
      · rw [e1, e2]; exact ⟨this, hf⟩
      · rw [e1, e2]; exact ⟨hf, this⟩
    · exact ih t ht
theorem good (ok : N.ok) (hm : Flo (mayT N p h v f) m) : ∀ u, m u ≠ 0 → ∃ S, Gd N p (mayT N p h v f).s0 m f u S := by
  have inner : ∀ K : Nat, (∀ u, K < m u → ∃ S, Gd N p (mayT N p h v f).s0 m f u S) → ∀ {l u : Nat}, Reach (mayT N p h v f).E (mayT N p h v f).s0 (mayT N p h v f).fl l u → l = m u → K ≤ m u → ∃ S, Gd N p (mayT N p h v f).s0 m f u S := fun K H l u r => by
    induction r with
    | @start u p1 q1 =>
      intro e _
      exact ⟨[], .root (by omega) e (by rw [← e]; exact q1)⟩
    | @step l w r u rw' e p1 q1 ih =>
      intro el hK
      have lw := hm.closed.bound rw'
      have q1 : f u ≤ min l r := q1
      have cl := hm.closed.step w r u e (show f u ≤ min (m w) r by omega)
      obtain ⟨S, g⟩ : ∃ S, Gd N p (mayT N p h v f).s0 m f w S := by
        by_cases c : K < m w
        · exact H w c
        · exact ih (by omega) (by omega)
      obtain ⟨s, hs, h1, h2, h3, h4⟩ := (E_iff ok (us := likelyN N p)).mp e
      subst h2
      exact ⟨s :: S, .step hs g h1 h3 h4 (by omega) (by omega) (by omega)⟩
  have outer : ∀ d K, 12 - K ≤ d → ∀ u, K ≤ m u → m u ≠ 0 → ∃ S, Gd N p (mayT N p h v f).s0 m f u S := by
    intro d
    induction d with
    | zero =>
      intro K hd u hK hu
      have := may_le ok hm u
      omega
    | succ d ih =>
      intro K hd u hK hu
      exact inner K (fun w hw => ih (K + 1) (by omega) w (by omega) (by omega)) (hm.sound u hu) rfl hK
  exact fun u hu => outer 12 0 (by omega) u (Nat.zero_le _) hu
def fillP (p : Nat → Nat) (S : List Nat) (s : Nat) : Nat := if p s = 2 then (if s ∈ S then 1 else 0) else p s
def fillH (h : Nat → Nat) (v u : Nat) : Nat := if h u = 2 then v else h u
theorem fill_fil (okp : okP N p) (okh : okH N h) (hv : v ≤ 1) (S : List Nat) : Fil N p h (fillP p S) (fillH h v) :=
  ⟨⟨fun s hs c => if_neg (by omega), fun u hu c => if_neg (by omega)⟩, ⟨fun s hs => by
    have := okp.le s hs
    unfold fillP
    split
    · split <;> omega
    · omega, fun u hu => by
    have := okh.le u hu
    unfold fillH
    split <;> omega⟩⟩
/-- where a value may come to, there is a filling that brings it there -/
theorem fill_ex (ok : N.ok) (okp : okP N p) (okh : okH N h) (hf : Flo (firmT N p) f) (hm : Flo (mayT N p h v f) m) (hv : v ≤ 1) {k : Nat} (hk : m k ≠ 0) : ∃ p2 h2, Fil N p h p2 h2 ∧ ∀ f2 m2, Flo (firmT N p2) f2 → Flo (mayT N p2 h2 v f2) m2 → m2 k ≠ 0 := by
  obtain ⟨S, gk⟩ := good ok hm k hk
  refine ⟨fillP p S, fillH h v, fill_fil okp okh hv S, fun g m2 hg hm2 => ?_⟩
  have ends := gk.ends
  -- the likely edges
  have lik : ∀ s (hs : s < N.sw.length) u w, p s ≠ 0 → ((N.sw[s].l = u ∧ N.sw[s].r = w) ∨ (N.sw[s].r = u ∧ N.sw[s].l = w)) → N.fs.length ≤ w → f w ≤ min (m u) (4 + N.sw[s].st) → min (m u) (4 + N.sw[s].st) ≤ m w := fun s hs u w hp he hw hl =>
    hm.closed.step u _ w ((E_iff ok (us := likelyN N p)).mpr ⟨s, hs, List.mem_filter.mpr ⟨List.mem_range.mpr hs, by simpa using hp⟩, rfl, he, hw⟩) hl
  have top : ∀ {l u : Nat}, Reach (firmT N (fillP p S)).E (firmT N (fillP p S)).s0 (firmT N (fillP p S)).fl l u → l ≤ f u ∨ l ≤ m u := fun {l u} r => by
    induction r with
    | @start u p1 q1 =>
      left
      have := hf.closed.start u (Nat.zero_le _)
      exact this
    | @step l u r w _ e p1 q1 ih =>
      obtain ⟨s, hs, h1, h2, h3, h4⟩ := (E_iff ok (us := closedN N (fillP p S))).mp e
      subst h2
      have c1 := of_decide_eq_true (List.mem_filter.mp h1).2
      unfold fillP at c1
      by_cases c2 : p s = 2
      · rw [if_pos c2] at c1
        have hS : s ∈ S := by
          by_cases z : s ∈ S
          · exact z
          · rw [if_neg z] at c1; omega
        obtain ⟨_, e1, e2⟩ := ends s hS
        have fu : f u ≤ m u := by
          rcases h3 with ⟨rfl, rfl⟩ | ⟨rfl, rfl⟩
          · exact e1
          · exact e2
        have := lik s hs u w (by omega) h3 h4
        by_cases z : f w ≤ min (m u) (4 + N.sw[s].st)
        · have := this z; omega
        · left; omega
      · rw [if_neg c2] at c1
        have e2 : (firmT N p).E u (4 + N.sw[s].st) w := (E_iff ok (us := closedN N p)).mpr ⟨s, hs, List.mem_filter.mpr ⟨List.mem_range.mpr hs, decide_eq_true c1⟩, rfl, h3, h4⟩
        have z1 := hf.closed.step u _ w e2 (Nat.zero_le _)
        have := lik s hs u w (by omega) h3 h4
        rcases ih with q | q
        · left; omega
        · by_cases z : f w ≤ min (m u) (4 + N.sw[s].st)
          · have := this z; omega
          · left; omega
  have gle : ∀ u, f u ≤ m u → g u ≤ m u := fun u hu => by
    by_cases z : g u = 0
    · omega
    · have := top (hg.sound u z)
      omega
  have go : ∀ {u : Nat} {S' : List Nat}, Gd N p (mayT N p h v f).s0 m f u S' → (∀ s ∈ S', s ∈ S) → Reach (mayT N (fillP p S) (fillH h v) v g).E (mayT N (fillP p S) (fillH h v) v g).s0 (mayT N (fillP p S) (fillH h v) v g).fl (m u) u := fun {u S'} gu => by
    induction gu with
    | @root u a b c =>
      intro _
      have b' : (if u < N.nN then rootN N h v u else 0) = m u := b
      have hu : u < N.nN := Classical.byContradiction fun z => by rw [if_neg z] at b'; omega
      rw [if_pos hu] at b'
      have e : (mayT N (fillP p S) (fillH h v) v g).s0 u = m u := by
        rw [may_s0 hu]
        unfold rootN at b' ⊢
        by_cases c1 : h u = v ∨ h u = 2
        · rw [if_pos c1] at b'
          rw [if_pos (by
            left
            unfold fillH
            split
            · rfl
            · omega)]
          exact b'
        · rw [if_neg c1] at b'; omega
      rw [← e]
      exact .start (by rw [e]; omega) (by rw [e]; exact gle u c)
    | @step w u s S' hs gw h1 he h4 em hf' hz ih =>
      intro sub
      have := ih fun t ht => sub t (List.mem_cons_of_mem _ ht)
      have hS := sub s (List.mem_cons_self ..)
      have hp : p s ≠ 0 := by simpa using (List.mem_filter.mp h1).2
      have e : (mayT N (fillP p S) (fillH h v) v g).E w (4 + N.sw[s].st) u := (E_iff ok (us := likelyN N (fillP p S))).mpr ⟨s, hs, List.mem_filter.mpr ⟨List.mem_range.mpr hs, by
        have : fillP p S s ≠ 0 := by
          unfold fillP
          rw [if_pos hS]
          split
          · decide
          · exact hp
        simpa using this⟩, rfl, he, h4⟩
      rw [em]
      exact .step this e (by omega) (by show g u ≤ _; rw [← em]; exact gle u hf')
  have := hm2.closed.bound (go gk fun s hs => hs)
  omega
/-- a value among what is told -/
def inc (x v : Nat) : Prop := x = v ∨ x = 2
theorem inc_ext {x y : Nat} (hx : x ≤ 2) (hy : y ≤ 2) (e : ∀ v, v ≤ 1 → (inc x v ↔ inc y v)) : x = y := by
  have e0 := e 0 (by decide)
  have e1 := e 1 (by decide)
  unfold inc at e0 e1
  omega
/-- what is told of a tank, by the tables -/
theorem inc_rsp (ok : N.ok) (okp : okP N p) (okh : okH N h) (hf : Flo (firmT N p) f) (hv : v ≤ 1) (hm : Flo (mayT N p h v f) m) {u : Nat} (hu : u < N.nN) (hF : N.fs.length ≤ u) : inc (rspN N p h u) v ↔ m u ≠ 0 := by
  obtain ⟨f', z, o, hf', hz, ho, e⟩ := told_rsp ok p h
  have ef := hf'.eq hf
  subst ef
  have some2 := flo_some ok okp okh hf' hz ho u hu
  have fp := firm_pos ok hf' hu
  rw [e]
  unfold inc respN
  rw [if_neg (by omega)]
  have v2 : v = 0 ∨ v = 1 := by omega
  rcases v2 with rfl | rfl
  · rw [hm.eq hz]
    split
    · rename_i c; constructor <;> intro <;> omega
    · split <;> (constructor <;> intro <;> omega)
  · rw [hm.eq ho]
    split
    · rename_i c; constructor <;> intro <;> omega
    · split <;> (constructor <;> intro <;> omega)
/-- what is told is the join over all fillings -/
theorem inc_fill (ok : N.ok) (okp : okP N p) (okh : okH N h) (hv : v ≤ 1) {u : Nat} (hu : u < N.nN) : inc (rspN N p h u) v ↔ ∃ p2 h2, Fil N p h p2 h2 ∧ inc (rspN N p2 h2 u) v := by
  by_cases hF : N.fs.length ≤ u
  · obtain ⟨f, hf⟩ := Flo.ex (T := firmT N p) fun v hv => rkN_le ok hv
    obtain ⟨m, hm⟩ := Flo.ex (T := mayT N p h v f) fun v hv => root_le ok hv
    rw [inc_rsp ok okp okh hf hv hm hu hF]
    constructor
    · intro hk
      obtain ⟨p2, h2, F, all⟩ := fill_ex ok okp okh hf hm hv hk
      refine ⟨p2, h2, F, ?_⟩
      obtain ⟨f2, hf2⟩ := Flo.ex (T := firmT N p2) fun v hv => rkN_le ok hv
      obtain ⟨m2, hm2⟩ := Flo.ex (T := mayT N p2 h2 v f2) fun v hv => root_le ok hv
      exact (inc_rsp ok (F.okP okp) (F.okH ok okh) hf2 hv hm2 hu hF).mpr (all f2 m2 hf2 hm2)
    · rintro ⟨p2, h2, F, hi⟩
      obtain ⟨f2, hf2⟩ := Flo.ex (T := firmT N p2) fun v hv => rkN_le ok hv
      obtain ⟨m2, hm2⟩ := Flo.ex (T := mayT N p2 h2 v f2) fun v hv => root_le ok hv
      have h3 := (inc_rsp ok (F.okP okp) (F.okH ok okh) hf2 hv hm2 hu hF).mp hi
      have := may_more okh hv okp F.more (fun v => firm_more F.more hf hf2 v) hm hm2 u
      omega
  · rw [rsp_feed ok (by omega)]
    constructor
    · intro hi
      refine ⟨_, _, fill_fil okp okh hv [], ?_⟩
      rw [rsp_feed ok (by omega)]
      unfold inc at hi ⊢
      unfold fillH
      left
      split <;> omega
    · rintro ⟨p2, h2, F, hi⟩
      rw [rsp_feed ok (by omega)] at hi
      have := F.kn.h u hu
      have o2 := okh.le u hu
      unfold inc at hi ⊢
      by_cases c : h u < 2
      · have := F.more.h u hu c; omega
      · right; omega
end
end Fl
end TextFl16

section TextFl17
set_option autoImplicit false
set_option maxRecDepth 100000
set_option maxHeartbeats 4000000
/-! Fl17: a net of which all is known: merging by strengths tells what the floods tell. -/
namespace Fl
open PySem Px Nt Lw
structure Km (N : Net) (p h f : Nat → Nat) (m : Nat → Nat → Nat) : Prop where
  ok : N.ok
  okp : okP N p
  okh : okH N h
  kn : Kn N p h
  hf : Flo (firmT N p) f
  hm : ∀ v, v ≤ 1 → Flo (mayT N p h v f) (m v)
theorem Km.ex {N : Net} {p h : Nat → Nat} (ok : N.ok) (okp : okP N p) (okh : okH N h) (kn : Kn N p h) : ∃ f m, Km N p h f m := by
  obtain ⟨f, hf⟩ := Flo.ex (T := firmT N p) fun v hv => rkN_le ok hv
  have hx : ∀ w, ∃ m, Flo (mayT N p h w f) m := fun w => Flo.ex (T := mayT N p h w f) fun v hv => root_le ok hv
  exact ⟨f, fun w => Classical.choose (hx w), ok, okp, okh, kn, hf, fun w _ => Classical.choose_spec (hx w)⟩
/-- the ends of a switch, in either sequence -/
def Ends (N : Net) (s a b : Nat) : Prop := ∃ hs : s < N.sw.length, (N.sw[s].l = a ∧ N.sw[s].r = b) ∨ (N.sw[s].r = a ∧ N.sw[s].l = b)
def sgN (N : Net) (s : Nat) : Nat := match N.sw[s]? with | some w => w.st | none => 0
theorem sgN_at {N : Net} {s : Nat} (hs : s < N.sw.length) : sgN N s = N.sw[s].st := by unfold sgN; rw [List.getElem?_eq_getElem hs]
theorem Ends.symm {N : Net} {s a b : Nat} (e : Ends N s a b) : Ends N s b a := by
  obtain ⟨hs, h⟩ := e
  exact ⟨hs, h.elim (fun z => .inr ⟨z.2, z.1⟩) fun z => .inl ⟨z.2, z.1⟩⟩
theorem Ends.lt {N : Net} (ok : N.ok) {s a b : Nat} (e : Ends N s a b) : a < N.nN ∧ b < N.nN ∧ a ≠ b := by
  obtain ⟨hs, h⟩ := e
  have en := ok.en _ (List.getElem_mem hs)
  rcases h with ⟨rfl, rfl⟩ | ⟨rfl, rfl⟩
  · exact en
  · exact ⟨en.2.1, en.1, en.2.2.symm⟩
theorem Ends.st {N : Net} (ok : N.ok) {s a b : Nat} (e : Ends N s a b) : 1 ≤ sgN N s ∧ sgN N s ≤ 6 := by
  obtain ⟨hs, _⟩ := e
  rw [sgN_at hs]
  exact ok.st _ (List.getElem_mem hs)
section
variable {N : Net} {p h f : Nat → Nat} {m : Nat → Nat → Nat} (K : Km N p h f m)
include K
theorem Km.firmE {u r w : Nat} (e : (firmT N p).E u r w) : ∃ s, Ends N s u w ∧ p s = 1 ∧ r = 4 + sgN N s ∧ N.fs.length ≤ w := by
  obtain ⟨s, hs, h1, h2, h3, h4⟩ := (E_iff K.ok (us := closedN N p)).mp e
  exact ⟨s, ⟨hs, h3⟩, of_decide_eq_true (List.mem_filter.mp h1).2, by rw [sgN_at hs]; exact h2, h4⟩
theorem Km.mayE {v u r w : Nat} (e : (mayT N p h v f).E u r w) : ∃ s, Ends N s u w ∧ p s = 1 ∧ r = 4 + sgN N s ∧ N.fs.length ≤ w := by
  obtain ⟨s, hs, h1, h2, h3, h4⟩ := (E_iff K.ok (us := likelyN N p)).mp e
  have c : p s ≠ 0 := by simpa using (List.mem_filter.mp h1).2
  have := K.kn.p s hs
  exact ⟨s, ⟨hs, h3⟩, by omega, by rw [sgN_at hs]; exact h2, h4⟩
theorem Km.edge {s a b : Nat} (e : Ends N s a b) (hp : p s = 1) (hb : N.fs.length ≤ b) : min (f a) (4 + sgN N s) ≤ f b := by
  obtain ⟨hs, h3⟩ := e
  rw [sgN_at hs]
  exact K.hf.closed.step a _ b ((E_iff K.ok (us := closedN N p)).mpr ⟨s, hs, List.mem_filter.mpr ⟨List.mem_range.mpr hs, decide_eq_true hp⟩, rfl, h3, hb⟩) (Nat.zero_le _)
theorem Km.top {v : Nat} {l u : Nat} (r : Reach (mayT N p h v f).E (mayT N p h v f).s0 (mayT N p h v f).fl l u) : l ≤ f u := by
  induction r with
  | @start u a b =>
    have a' : 0 < (if u < N.nN then rootN N h v u else 0) := a
    have hu : u < N.nN := Classical.byContradiction fun z => by rw [if_neg z] at a'; omega
    rw [may_s0 hu]
    have := K.hf.closed.start u (Nat.zero_le _)
    rw [firm_s0 hu] at this
    unfold rootN
    split <;> omega
  | @step l w r u _ e a b ih =>
    obtain ⟨s, e1, e2, rfl, e4⟩ := K.mayE e
    have := K.edge e1 e2 e4
    omega
theorem Km.eq {v u : Nat} (hv : v ≤ 1) (hu : m v u ≠ 0) : m v u = f u := by
  have r := (K.hm v hv).sound u hu
  have a := K.top r
  have b : f u ≤ m v u := r.floor
  omega
theorem Km.pass {v s a b : Nat} (hv : v ≤ 1) (e : Ends N s a b) (hp : p s = 1) (hb : N.fs.length ≤ b) (ha : m v a ≠ 0) (hl : f b ≤ min (f a) (4 + sgN N s)) : m v b ≠ 0 := by
  have ea := K.eq hv ha
  have lt := e.lt K.ok
  have fp := firm_pos K.ok K.hf lt.2.1
  obtain ⟨hs, h3⟩ := e
  rw [sgN_at hs] at hl
  have := (K.hm v hv).closed.step a _ b ((E_iff K.ok (us := likelyN N p)).mpr ⟨s, hs, List.mem_filter.mpr ⟨List.mem_range.mpr hs, by rw [hp]; rfl⟩, rfl, h3, hb⟩) (show f b ≤ _ by rw [ea]; exact hl)
  omega
theorem Km.feed {u : Nat} (hu : u < N.fs.length) : f u = 11 := by
  have nn : N.nN = N.fs.length + N.ts.length := rfl
  have := K.hf.closed.start u (Nat.zero_le _)
  rw [firm_s0 (by omega)] at this
  have rk : rkN N u = 11 := by unfold rkN; rw [if_pos hu]
  have := firm_le K.ok K.hf u
  omega
theorem Km.rk_tank {u : Nat} (hF : N.fs.length ≤ u) (hu : u < N.nN) : 1 ≤ rkN N u ∧ rkN N u ≤ 4 := by
  have nn : N.nN = N.fs.length + N.ts.length := rfl
  have ht : u - N.fs.length < N.ts.length := by omega
  have := K.ok.sz _ (List.getElem_mem ht)
  unfold rkN
  rw [if_neg (by omega), List.getElem?_eq_getElem ht]
  exact this
theorem Km.tank {u : Nat} (hF : N.fs.length ≤ u) (hu : u < N.nN) : f u ≤ 10 := by
  have go : ∀ {l u : Nat}, Reach (firmT N p).E (firmT N p).s0 (firmT N p).fl l u → N.fs.length ≤ u → u < N.nN → l ≤ 10 := fun {l u} r => by
    cases r with
    | start a b =>
      intro h1 h2
      have := K.rk_tank h1 h2
      rw [firm_s0 h2]; omega
    | step r e a b =>
      intro h1 h2
      obtain ⟨s, e1, e2, rfl, e4⟩ := K.firmE e
      have := e1.st K.ok
      omega
  exact go (K.hf.sound u (by have := firm_pos K.ok K.hf hu; omega)) hF hu
theorem Km.isTank {u : Nat} (hu : f u ≤ 10) : N.fs.length ≤ u := Classical.byContradiction fun z => by
  have := K.feed (show u < N.fs.length by omega)
  omega
/-- what is told, by the floods -/
theorem Km.inc {v u : Nat} (hv : v ≤ 1) (hu : u < N.nN) : Fl.inc (rspN N p h u) v ↔ m v u ≠ 0 := by
  by_cases hF : N.fs.length ≤ u
  · exact inc_rsp K.ok K.okp K.okh K.hf hv (K.hm v hv) hu hF
  · have hF : u < N.fs.length := by omega
    rw [rsp_feed K.ok hF]
    have hh := K.kn.h u hu
    have rk : rkN N u = 11 := by unfold rkN; rw [if_pos hF]
    constructor
    · intro hi
      have e : h u = v := by unfold Fl.inc at hi; omega
      have := (K.hm v hv).closed.start u
      rw [may_s0 hu] at this
      unfold rootN at this
      rw [if_pos (.inl e), rk] at this
      have := this (by have := K.feed hF; show f u ≤ 11; omega)
      omega
    · intro hm
      have r := (K.hm v hv).sound u hm
      have key : ∀ {l w : Nat}, Reach (mayT N p h v f).E (mayT N p h v f).s0 (mayT N p h v f).fl l w → w = u → h u = v := fun {l w} r => by
        cases r with
        | start a b =>
          intro e
          subst e
          rw [may_s0 hu] at a
          unfold rootN at a
          split at a
          · omega
          · omega
        | step r e a b =>
          intro ew
          obtain ⟨s, e1, e2, e3, e4⟩ := K.mayE e
          omega
      exact .inl (key r rfl)
theorem Km.some {u : Nat} (hu : u < N.nN) : m 0 u ≠ 0 ∨ m 1 u ≠ 0 := by
  have a := flo_some K.ok K.okp K.okh K.hf (K.hm 0 (by decide)) (K.hm 1 (by decide)) u hu
  have := firm_pos K.ok K.hf hu
  omega
end
/-- marks of heaps: those of one mark are alike; Pr: the switches that have been looked at; U: nodes above it are fixed -/
structure Mst (N : Net) (p f : Nat → Nat) (m : Nat → Nat → Nat) (U : Nat) (Pr : Nat → Prop) (mk : Nat → Nat) : Prop where
  same : ∀ a b, a < N.nN → b < N.nN → mk a = mk b → f a = f b ∧ ∀ v, v ≤ 1 → (m v a ≠ 0 ↔ m v b ≠ 0)
  adj : ∀ s a b, Ends N s a b → Pr s → p s = 1 → f a ≤ U → f b ≤ U → mk a = mk b
section
variable {N : Net} {p h f : Nat → Nat} {m : Nat → Nat → Nat} {U : Nat} {Pr : Nat → Prop} {mk : Nat → Nat}
theorem Mst.init {N : Net} {p f : Nat → Nat} {m : Nat → Nat → Nat} (ok : N.ok) (U : Nat) : Mst N p f m U (fun s => 7 ≤ sgN N s) (fun u => u) :=
  ⟨fun a b _ _ e => by subst e; exact ⟨rfl, fun _ _ => Iff.rfl⟩, fun s a b e z => by have := e.st ok; omega⟩
theorem Mst.weak (M : Mst N p f m U Pr mk) {U' : Nat} {Pr' : Nat → Prop} (hU : U' ≤ U) (hP : ∀ s, s < N.sw.length → Pr' s → Pr s) : Mst N p f m U' Pr' mk :=
  ⟨M.same, fun s a b e z hp h1 h2 => M.adj s a b e (hP s e.choose z) hp (by omega) (by omega)⟩
/-- a switch of which an end is fixed -/
theorem Mst.skip (M : Mst N p f m U Pr mk) {s a b : Nat} (e : Ends N s a b) (hn : U < f a ∨ U < f b ∨ mk a = mk b) : Mst N p f m U (fun t => Pr t ∨ t = s) mk :=
  ⟨M.same, fun t x y e2 z hp h1 h2 => by
    rcases z with z | rfl
    · exact M.adj t x y e2 z hp h1 h2
    · obtain ⟨hs, e⟩ := e
      obtain ⟨_, e2⟩ := e2
      rcases e with ⟨rfl, rfl⟩ | ⟨rfl, rfl⟩ <;> rcases e2 with ⟨rfl, rfl⟩ | ⟨rfl, rfl⟩ <;> rcases hn with q | q | q <;> first | omega | exact q | exact q.symm⟩
/-- two heaps become one -/
theorem Mst.unite (K : Km N p h f m) (M : Mst N p f m U Pr mk) {s a b : Nat} (e : Ends N s a b) (hp : p s = 1) (ha : f a ≤ U) (hb : f b ≤ U) (hU : U ≤ 4 + sgN N s) : Mst N p f m U (fun t => Pr t ∨ t = s) (fun u => if mk u = mk b then mk a else mk u) := by
  have st := e.st K.ok
  have lt := e.lt K.ok
  have tb := K.isTank (u := b) (by omega)
  have ta := K.isTank (u := a) (by omega)
  have e1 := K.edge e hp tb
  have e2 := K.edge e.symm hp ta
  have fab : f a = f b := by omega
  have ab : ∀ v, v ≤ 1 → (m v a ≠ 0 ↔ m v b ≠ 0) := fun v hv => ⟨fun z => K.pass hv e hp tb z (by omega), fun z => K.pass hv e.symm hp ta z (by omega)⟩
  have same : ∀ x y, x < N.nN → y < N.nN → (if mk x = mk b then mk a else mk x) = (if mk y = mk b then mk a else mk y) → f x = f y ∧ ∀ v, v ≤ 1 → (m v x ≠ 0 ↔ m v y ≠ 0) := fun x y hx hy he => by
    by_cases c1 : mk x = mk b
    · have q1 := M.same x b hx lt.2.1 c1
      rw [if_pos c1] at he
      by_cases c2 : mk y = mk b
      · exact M.same x y hx hy (by omega)
      · rw [if_neg c2] at he
        have q2 := M.same a y lt.1 hy he
        exact ⟨by omega, fun v hv => (q1.2 v hv).trans ((ab v hv).symm.trans (q2.2 v hv))⟩
    · rw [if_neg c1] at he
      by_cases c2 : mk y = mk b
      · rw [if_pos c2] at he
        have q1 := M.same x a hx lt.1 he
        have q2 := M.same y b hy lt.2.1 c2
        exact ⟨by omega, fun v hv => (q1.2 v hv).trans ((ab v hv).trans (q2.2 v hv).symm)⟩
      · rw [if_neg c2] at he
        exact M.same x y hx hy he
  refine ⟨same, fun t x y e9 z hp2 h1 h2 => ?_⟩
  rcases z with z | rfl
  · rw [M.adj t x y e9 z hp2 h1 h2]
  · obtain ⟨hs, e⟩ := e
    obtain ⟨_, e9⟩ := e9
    rcases e with ⟨rfl, rfl⟩ | ⟨rfl, rfl⟩ <;> rcases e9 with ⟨rfl, rfl⟩ | ⟨rfl, rfl⟩ <;> (rw [if_pos rfl]; split <;> rfl)
/-- what a fixed node tells its neighbour -/
theorem tell_sound (K : Km N p h f m) {F s i o : Nat} (e : Ends N s i o) (hp : p s = 1) (hs : sgN N s = F) (hi : f i ≤ 4 + F) (ho : 4 + F < f o) : f i = 4 + F ∧ ∀ v, v ≤ 1 → m v o ≠ 0 → m v i ≠ 0 := by
  have st := e.st K.ok
  have ti := K.isTank (u := i) (by omega)
  have e2 := K.edge e.symm hp ti
  rw [hs] at e2
  exact ⟨by omega, fun v hv z => K.pass hv e.symm hp ti z (by rw [hs]; omega)⟩
theorem tell_all (K : Km N p h f m) {F : Nat} (hF : 1 ≤ F) (hF6 : F ≤ 6) (M : Mst N p f m (4 + F) (fun s => F ≤ sgN N s) mk) {v u : Nat} (hv : v ≤ 1) (hu : f u = 4 + F) (hm : m v u ≠ 0) : ∃ s i o, Ends N s i o ∧ p s = 1 ∧ sgN N s = F ∧ f i ≤ 4 + F ∧ mk i = mk u ∧ 4 + F < f o ∧ m v o ≠ 0 := by
  have go : ∀ {l u : Nat}, Reach (mayT N p h v f).E (mayT N p h v f).s0 (mayT N p h v f).fl l u → f u = 4 + F → ∃ s i o, Ends N s i o ∧ p s = 1 ∧ sgN N s = F ∧ f i ≤ 4 + F ∧ mk i = mk u ∧ 4 + F < f o ∧ m v o ≠ 0 := fun {l u} r => by
    induction r with
    | @start u a b =>
      intro hfu
      have b' : f u ≤ (mayT N p h v f).s0 u := b
      have a' : 0 < (if u < N.nN then rootN N h v u else 0) := a
      have hu : u < N.nN := Classical.byContradiction fun z => by rw [if_neg z] at a'; omega
      rw [may_s0 hu] at b'
      have tu := K.isTank (u := u) (by omega)
      have := K.rk_tank tu hu
      unfold rootN at b'
      split at b' <;> omega
    | @step l w r u rw' e a b ih =>
      intro hfu
      obtain ⟨s, e1, e2, rfl, e4⟩ := K.mayE e
      have b' : f u ≤ min l (4 + sgN N s) := b
      have lw := K.top rw'
      have fw : f w ≤ l := rw'.floor
      have mw : m v w ≠ 0 := by
        have := (K.hm v hv).closed.bound rw'
        have := rw'.pos
        omega
      by_cases c : f w ≤ 4 + F
      · obtain ⟨s2, i, o, q1, q2, q3, q4, q5, q6⟩ := ih (by omega)
        exact ⟨s2, i, o, q1, q2, q3, q4, by rw [q5]; exact M.adj s w u e1 (by omega) e2 c (by omega), q6⟩
      · have ed := K.edge e1 e2 e4
        exact ⟨s, u, w, e1.symm, e2, by omega, by omega, rfl, by omega, mw⟩
  exact go ((K.hm v hv).sound u hm) hu
/-- heaps that nothing drives -/
theorem heap_le (K : Km N p h f m) (M : Mst N p f m U Pr mk) {u j : Nat} (hu : u < N.nN) (hj : j < N.nN) (e : mk j = mk u) : rkN N j ≤ f u := by
  have := (M.same j u hj hu e).1
  have z := K.hf.closed.start j (Nat.zero_le _)
  rw [firm_s0 hj] at z
  omega
theorem heap_sound (K : Km N p h f m) (M : Mst N p f m U Pr mk) {u j v : Nat} (hv : v ≤ 1) (hu : u < N.nN) (hj : j < N.nN) (e : mk j = mk u) (hr : rkN N j = f u) (hh : h j = v) : m v u ≠ 0 := by
  have q := M.same j u hj hu e
  have z := (K.hm v hv).closed.start j
  rw [may_s0 hj] at z
  unfold rootN at z
  rw [if_pos (.inl hh)] at z
  have z := z (by show f j ≤ rkN N j; omega)
  have := firm_pos K.ok K.hf hj
  exact (q.2 v hv).mp (by omega)
theorem heap_all (K : Km N p h f m) (M : Mst N p f m 4 (fun s => 1 ≤ sgN N s) mk) {u v : Nat} (hv : v ≤ 1) (hu : f u ≤ 4) (hm : m v u ≠ 0) : ∃ j, j < N.nN ∧ N.fs.length ≤ j ∧ mk j = mk u ∧ rkN N j = f u ∧ h j = v := by
  have go : ∀ {l u : Nat}, Reach (mayT N p h v f).E (mayT N p h v f).s0 (mayT N p h v f).fl l u → f u ≤ 4 → ∃ j, j < N.nN ∧ N.fs.length ≤ j ∧ mk j = mk u ∧ rkN N j = f u ∧ h j = v := fun {l u} r => by
    induction r with
    | @start u a b =>
      intro hfu
      have b' : f u ≤ (mayT N p h v f).s0 u := b
      have a' : 0 < (if u < N.nN then rootN N h v u else 0) := a
      have hu : u < N.nN := Classical.byContradiction fun z => by rw [if_neg z] at a'; omega
      rw [may_s0 hu] at b'
      rw [if_pos hu] at a'
      have tu := K.isTank (u := u) (by omega)
      have kh := K.kn.h u hu
      have z := K.hf.closed.start u (Nat.zero_le _)
      rw [firm_s0 hu] at z
      unfold rootN at a' b'
      split at a'
      · rename_i c
        rw [if_pos c] at b'
        exact ⟨u, hu, tu, rfl, by omega, by omega⟩
      · omega
    | @step l w r u rw' e a b ih =>
      intro hfu
      obtain ⟨s, e1, e2, rfl, e4⟩ := K.mayE e
      have st := e1.st K.ok
      have b' : f u ≤ min l (4 + sgN N s) := b
      have lw := K.top rw'
      have fw : f w ≤ l := rw'.floor
      have ed := K.edge e1 e2 e4
      obtain ⟨j, q1, q2, q3, q4, q5⟩ := ih (by omega)
      exact ⟨j, q1, q2, by rw [q3]; exact M.adj s w u e1 st.1 e2 (by omega) hfu, by omega, q5⟩
  exact go ((K.hm v hv).sound u hm) hu
theorem inc_jn {a b v : Nat} (ha : a ≤ 2) (hb : b ≤ 2) (hv : v ≤ 1) : inc (if a = b then a else 2) v ↔ inc a v ∨ inc b v := by
  unfold inc
  split <;> omega
end
end Fl
end TextFl17

section TextFl18
set_option autoImplicit false
set_option maxRecDepth 100000
set_option maxHeartbeats 4000000
/-! Fl18: one lap of merging; heaps that nothing drives. -/
namespace Fl
open PySem Px Nt Lw
/-- what a heap is told at this strength -/
def Lap (N : Net) (p h f : Nat → Nat) (F : Nat) (mk : Nat → Nat) (k v : Nat) : Prop := ∃ s i o, Ends N s i o ∧ p s = 1 ∧ sgN N s = F ∧ f i ≤ 4 + F ∧ 4 + F < f o ∧ mk i = k ∧ v = rspN N p h o
/-- what is fixed so far -/
noncomputable def fx (N : Net) (p h f : Nat → Nat) (U u : Nat) : Option Nat := if f u ≤ U then none else some (rspN N p h u)
/-- values joined, by marks -/
structure Jn (P : Nat → Nat → Prop) (fq : Nat → Option Nat) : Prop where
  no : ∀ k, fq k = none → ∀ v, ¬ P k v
  le : ∀ k v, fq k = some v → v ≤ 2
  inc : ∀ k v, fq k = some v → ∀ w, w ≤ 1 → (inc v w ↔ ∃ y, P k y ∧ Fl.inc y w)
section
variable {N : Net} {p h f : Nat → Nat} {m : Nat → Nat → Nat} {F : Nat} {mk : Nat → Nat}
theorem lap_at (K : Km N p h f m) (hF : 1 ≤ F) (hF6 : F ≤ 6) (M : Mst N p f m (4 + F) (fun s => F ≤ sgN N s) mk) {u v : Nat} (hu : u < N.nN) (L : Lap N p h f F mk (mk u) v) : f u = 4 + F ∧ ∀ w, w ≤ 1 → inc v w → m w u ≠ 0 := by
  obtain ⟨s, i, o, e, hp, hs, hi, ho, hm, rfl⟩ := L
  have lt := e.lt K.ok
  have t := tell_sound K e hp hs hi ho
  have q := M.same i u lt.1 hu hm
  exact ⟨by omega, fun w hw z => (q.2 w hw).mp (t.2 w hw ((K.inc hw lt.2.1).mp z))⟩
theorem lap_inc (K : Km N p h f m) (hF : 1 ≤ F) (hF6 : F ≤ 6) (M : Mst N p f m (4 + F) (fun s => F ≤ sgN N s) mk) {u w : Nat} (hu : u < N.nN) (hw : w ≤ 1) (hfu : f u = 4 + F) (hm : m w u ≠ 0) : ∃ v, Lap N p h f F mk (mk u) v ∧ inc v w := by
  obtain ⟨s, i, o, e, hp, hs, hi, he, ho, ho2⟩ := tell_all K hF hF6 M hw hfu hm
  exact ⟨_, ⟨s, i, o, e, hp, hs, hi, ho, he, rfl⟩, (K.inc hw (e.lt K.ok).2.1).mpr ho2⟩
/-- the lap fixes what it must -/
theorem lap_fx (K : Km N p h f m) (hF : 1 ≤ F) (hF6 : F ≤ 6) (M : Mst N p f m (4 + F) (fun s => F ≤ sgN N s) mk) {fq : Nat → Option Nat} (J : Jn (Lap N p h f F mk) fq) {u : Nat} (hu : u < N.nN) : fx N p h f (3 + F) u = if f u ≤ 4 + F then fq (mk u) else some (rspN N p h u) := by
  unfold fx
  by_cases c : f u ≤ 4 + F
  · rw [if_pos c]
    cases e : fq (mk u) with
    | none =>
      by_cases c2 : f u ≤ 3 + F
      · rw [if_pos c2]
      · have hfu : f u = 4 + F := by omega
        rcases K.some hu with q | q
        · obtain ⟨v, L, _⟩ := lap_inc K hF hF6 M hu (by decide) hfu q
          exact (J.no _ e v L).elim
        · obtain ⟨v, L, _⟩ := lap_inc K hF hF6 M hu (by decide) hfu q
          exact (J.no _ e v L).elim
    | some v =>
      have le := J.le _ _ e
      have ji := J.inc _ _ e
      have v01 : inc v 0 ∨ inc v 1 := by unfold inc; omega
      obtain ⟨y, L⟩ : ∃ y, Lap N p h f F mk (mk u) y := by
        rcases v01 with q | q
        · obtain ⟨y, L, _⟩ := (ji 0 (by decide)).mp q; exact ⟨y, L⟩
        · obtain ⟨y, L, _⟩ := (ji 1 (by decide)).mp q; exact ⟨y, L⟩
      have hfu := (lap_at K hF hF6 M hu L).1
      rw [if_neg (by omega)]
      congr 1
      refine inc_ext (rsp_le K.ok K.okh hu) le fun w hw => ?_
      rw [K.inc hw hu, ji w hw]
      constructor
      · exact fun q => lap_inc K hF hF6 M hu hw hfu q
      · rintro ⟨y, L, q⟩
        exact (lap_at K hF hF6 M hu L).2 w hw q
  · rw [if_neg c, if_neg (by omega)]
/-- one value more is told -/
theorem Jn.add {P : Nat → Nat → Prop} {fq : Nat → Option Nat} (J : Jn P fq) {k v : Nat} (hv : v ≤ 2) : Jn (fun a b => P a b ∨ (a = k ∧ b = v)) (fun a => if a = k then some (match fq k with | none => v | some x => if x = v then x else 2) else fq a) := by
  refine ⟨fun a e b hb => ?_, fun a x e => ?_, fun a x e w hw => ?_⟩
  · by_cases c : a = k
    · rw [if_pos c] at e; cases e
    · rw [if_neg c] at e
      rcases hb with hb | hb
      · exact J.no a e b hb
      · exact c hb.1
  · by_cases c : a = k
    · rw [if_pos c] at e
      cases eq : fq k with
      | none => rw [eq] at e; cases e; exact hv
      | some y =>
        rw [eq] at e
        cases e
        dsimp only
        split
        · exact J.le _ _ eq
        · decide
    · rw [if_neg c] at e; exact J.le _ _ e
  · by_cases c : a = k
    · subst c
      rw [if_pos rfl] at e
      cases eq : fq a with
      | none =>
        rw [eq] at e
        cases e
        constructor
        · exact fun q => ⟨v, .inr ⟨rfl, rfl⟩, q⟩
        · rintro ⟨y, (z | ⟨_, rfl⟩), q⟩
          · exact (J.no _ eq y z).elim
          · exact q
      | some y =>
        rw [eq] at e
        cases e
        dsimp only
        have ji := J.inc _ _ eq w hw
        rw [inc_jn (J.le _ _ eq) hv hw, ji]
        constructor
        · rintro (⟨z, a1, a2⟩ | q)
          · exact ⟨z, .inl a1, a2⟩
          · exact ⟨v, .inr ⟨rfl, rfl⟩, q⟩
        · rintro ⟨z, (a1 | ⟨_, rfl⟩), a2⟩
          · exact .inl ⟨z, a1, a2⟩
          · exact .inr a2
    · rw [if_neg c] at e
      rw [J.inc _ _ e w hw]
      constructor
      · rintro ⟨z, a1, a2⟩; exact ⟨z, .inl a1, a2⟩
      · rintro ⟨z, (a1 | ⟨q, _⟩), a2⟩
        · exact ⟨z, a1, a2⟩
        · exact (c q).elim
theorem Jn.nil : Jn (fun _ _ => False) (fun _ => none) := ⟨fun _ _ _ h => h, (fun _ _ e => by cases e), (fun _ _ e => by cases e)⟩
theorem Jn.congr {P P' : Nat → Nat → Prop} {fq : Nat → Option Nat} (J : Jn P fq) (e : ∀ a b, P a b ↔ P' a b) : Jn P' fq := by
  have : P = P' := funext fun a => funext fun b => propext (e a b)
  rw [← this]; exact J
/-- a heap that nothing drives: the greatest size in it -/
theorem heap_most (K : Km N p h f m) (M : Mst N p f m 4 (fun s => 1 ≤ sgN N s) mk) {u : Nat} (hu : u < N.nN) (hf4 : f u ≤ 4) {x : Nat} (h1 : ∃ j, j < N.nN ∧ N.fs.length ≤ j ∧ mk j = mk u ∧ rkN N j = x) (h2 : ∀ j, j < N.nN → N.fs.length ≤ j → mk j = mk u → rkN N j ≤ x) : x = f u := by
  obtain ⟨j, a1, a2, a3, a4⟩ := h1
  have le := heap_le K M hu a1 a3
  obtain ⟨j2, b1, b2, b3, b4, _⟩ : ∃ j, j < N.nN ∧ N.fs.length ≤ j ∧ mk j = mk u ∧ rkN N j = f u ∧ True := by
    rcases K.some hu with q | q
    · obtain ⟨j, c1, c2, c3, c4, _⟩ := heap_all K M (by decide) hf4 q; exact ⟨j, c1, c2, c3, c4, trivial⟩
    · obtain ⟨j, c1, c2, c3, c4, _⟩ := heap_all K M (by decide) hf4 q; exact ⟨j, c1, c2, c3, c4, trivial⟩
  have := h2 j2 b1 b2 b3
  omega
/-- the values that are kept -/
theorem heap_kept (K : Km N p h f m) (M : Mst N p f m 4 (fun s => 1 ≤ sgN N s) mk) {u : Nat} (hu : u < N.nN) (hf4 : f u ≤ 4) {w : Nat} (hw : w ≤ 1) : inc (rspN N p h u) w ↔ ∃ j, j < N.nN ∧ N.fs.length ≤ j ∧ mk j = mk u ∧ rkN N j = f u ∧ h j = w := by
  rw [K.inc hw hu]
  constructor
  · exact fun q => heap_all K M hw hf4 q
  · rintro ⟨j, c1, _, c3, c4, c5⟩
    exact heap_sound K M hw hu c1 c3 c4 c5
end
end Fl
end TextFl18

section TextK02e
set_option autoImplicit false
set_option maxRecDepth 100000
set_option maxHeartbeats 8000000
/-! K02e: merging by strengths, as the law does it. -/
namespace K02
open PySem Px Fl Nt Lw Tp
local macro_rules | `(tactic| walk_at "px") => `(tactic| ((conv => whnf); repeat ((refine And.intro (by first | exact True.intro | exact Px.sz2 | exact Px.sz3 | exact Px.sz1 | exact Px.sz0 | exact Px.sz4 | exact Px.sz5 | exact Px.sz6 | exact Px.sz7 | exact Px.sz8 | exact Px.sz9 | decide) ?_); (conv => whnf))))
def con__law_settled : Con := fun ds A E Q => ∃ (N : Net) (p h : Nat → Nat), ds = [N.d, .ls (posL N p), .ls (heldL N h)] ∧ smN N ∧ okP N p ∧ okH N h ∧ Kn N p h ∧ Q (.ls (rl N.nN fun u => .int (rspN N p h u : Int))) A
def oD : Option Nat → D
  | some v => .int (v : Int)
  | none => .non
def tdL (N : Net) (td : Nat → Option Nat) : List D := rl N.nN fun u => oD (td u)
def mkL (N : Net) (mk : Nat → Nat) : List D := rl N.nN fun u => .int (mk u : Int)
def swD (N : Net) (k : Nat) : D := match N.sw[k]? with | some w => w.d | none => .non
theorem swD_at {N : Net} {k : Nat} (h : k < N.sw.length) : swD N k = N.sw[k].d := by unfold swD; rw [List.getElem?_eq_getElem h]
theorem isN {N : Net} {p h f : Nat → Nat} {U u : Nat} : isNonD (oD (fx N p h f U u)) = decide (f u ≤ U) := by
  unfold fx
  by_cases c : f u ≤ U
  · rw [if_pos c, decide_eq_true c]; rfl
  · rw [if_neg c, decide_eq_false c]; rfl
theorem td_at {N : Net} {td : Nat → Option Nat} {u : Nat} (h : u < N.nN) : L2.atI (tdL N td) (u : Int) = some (oD (td u)) := L2.atI_nat (rl_get h)
theorem mk_at {N : Net} {mk : Nat → Nat} {u : Nat} (h : u < N.nN) : L2.atI (mkL N mk) (u : Int) = some (.int (mk u : Int)) := L2.atI_nat (rl_get h)
theorem td_len {N : Net} {td : Nat → Option Nat} : (tdL N td).length = N.nN := rl_len
theorem lookK_put : ∀ (kvs : List (L2.Key × D)) (k : L2.Key) (d : D) (k' : L2.Key), lookK (putK kvs k d) k' = if k' = k then some d else lookK kvs k'
  | [], k, d, k' => by
    show (if k = k' then some d else none) = if k' = k then some d else none
    by_cases c : k = k'
    · rw [if_pos c, if_pos c.symm]
    · rw [if_neg c, if_neg fun e => c e.symm]
  | (j, e) :: r, k, d, k' => by
    unfold putK
    by_cases c : j = k
    · rw [if_pos c]
      show (if j = k' then some d else lookK r k') = if k' = k then some d else (if j = k' then some e else lookK r k')
      by_cases c2 : k' = k
      · rw [if_pos c2, if_pos (by rw [c, c2])]
      · rw [if_neg c2, if_neg fun z => c2 (by rw [← c, z]), if_neg fun z => c2 (by rw [← c, z])]
    · rw [if_neg c]
      show (if j = k' then some e else lookK (putK r k d) k') = if k' = k then some d else (if j = k' then some e else lookK r k')
      rw [lookK_put r k d k']
      by_cases c2 : k' = k
      · rw [if_pos c2, if_neg fun z => c (by rw [z, c2]), if_pos c2]
      · rw [if_neg c2, if_neg c2]
theorem put_len : ∀ (kvs : List (L2.Key × D)) (k : L2.Key) (d : D), (putK kvs k d).length ≤ kvs.length + 1
  | [], _, _ => Nat.le_refl _
  | (j, e) :: r, k, d => by
    unfold putK
    split
    · simp
    · have := put_len r k d
      simp only [List.length_cons]; omega
/-- the dict of what the heaps are told -/
def DR (fd : List (L2.Key × D)) (fq : Nat → Option Nat) : Prop := ∀ k : Nat, lookK fd (.inl (k : Int)) = (fq k).map (fun (v : Nat) => D.int (v : Int))
theorem DR.put {fd : List (L2.Key × D)} {fq : Nat → Option Nat} (R : DR fd fq) (k v : Nat) : DR (putK fd (.inl (k : Int)) (.int (v : Int))) (fun a => if a = k then some v else fq a) := fun a => by
  rw [lookK_put]
  show _ = Option.map _ (if a = k then some v else fq a)
  by_cases c : a = k
  · rw [if_pos c, if_pos (by rw [c])]; rfl
  · rw [if_neg c, if_neg (by intro e; exact c (by have := Sum.inl.inj e; omega))]; exact R a
theorem appT {A L : Ht} {o : O} : (A ++ o :: L)[A.length]? = some o := by rw [List.getElem?_append_right (Nat.le_refl _)]; simp
theorem setT {A L : Ht} {o u : O} : (A ++ o :: L).set A.length u = A ++ u :: L := by rw [List.set_append_right _ _ (Nat.le_refl _)]; simp
theorem upT {B : Ht} {n : Nat} {o u : O} (h : B[n]? = some u) : (B ++ [o])[n]? = some u := by rw [List.getElem?_append_left (List.getElem?_eq_some_iff.mp h).1]; exact h
theorem tg2 {i j : Nat} {d e : D} {ρ : Rho} {K : Rho → Prop} (h : K ((ρ.set i (some d)).set j (some e))) : tgD (.tup (.cons (.name i) (.cons (.name j) .nil))) (.tup [d, e]) ρ K := h
theorem ints_map {α : Type} (g : α → Int) : ∀ l : List α, intsD (l.map fun x => .int (g x)) = some (l.map g)
  | [] => rfl
  | x :: r => by simp only [List.map_cons, intsD, ints_map g r, Option.map_some]
section
variable {G : Env'}
def lapB : Iss := match ir__law_settled with | .cons _ (.cons _ (.cons _ (.cons _ (.cons (.fr _ _ b) _)))) => b | _ => .nil
def endB : Iss := match ir__law_settled with | .cons _ (.cons _ (.cons _ (.cons _ (.cons _ r)))) => r | _ => .nil
/-- one lap -/
theorem lap {N : Net} {p h f : Nat → Nat} {m : Nat → Nat → Nat} (K : Km N p h f m) (sm : smN N) {A L : Ht} {i : Nat} (hi : i < 6) {mk : Nat → Nat} {D0 : Dn} {x6 x9 x10 x11 x12 x13 x14 x15 x16 x17 x18 x19 x20 : Option D}
    (M : Mst N p f m (10 - i) (fun s => 7 - i ≤ sgN N s) mk)
    (hk : ∀ (mk : Nat → Nat) (L : Ht) (x6 x8 x9 x10 x11 x12 x13 x14 x15 x16 x17 x18 x19 x20 : Option D), Mst N p f m (10 - (i + 1)) (fun s => 7 - (i + 1) ≤ sgN N s) mk → D0.nx [some N.d, some (.ls (posL N p)), some (.ls (heldL N h)), some (.int (N.fs.length : Int)), some (.int (N.nN : Int)), some (.ls (mkL N mk)), x6, some (.obj A.length), x8, x9, x10, x11, x12, x13, x14, x15, x16, x17, x18, x19, x20] (A ++ .lst (tdL N (fx N p h f (10 - (i + 1)))) :: L)) :
    wSs G lapB D0 [some N.d, some (.ls (posL N p)), some (.ls (heldL N h)), some (.int (N.fs.length : Int)), some (.int (N.nN : Int)), some (.ls (mkL N mk)), x6, some (.obj A.length), some (.int (i : Int)), x9, x10, x11, x12, x13, x14, x15, x16, x17, x18, x19, x20] (A ++ .lst (tdL N (fx N p h f (10 - i))) :: L) := by
  have hsw := sm.sw; have hfs := sm.fs; have hts := sm.ts
  have hnn : N.nN = N.fs.length + N.ts.length := rfl
  obtain ⟨F, hF⟩ : ∃ F, F = 6 - i := ⟨_, rfl⟩
  rw [show 10 - i = 4 + F by omega, show 7 - i = F + 1 by omega] at M
  rw [show 10 - i = 4 + F by omega]
  rw [show 10 - (i + 1) = 3 + F by omega, show 7 - (i + 1) = F by omega] at hk
  generalize hB0 : A ++ O.lst (tdL N (fx N p h f (4 + F))) :: L = B0
  have hT0 : B0[A.length]? = some (.lst (tdL N (fx N p h f (4 + F)))) := by rw [← hB0]; exact appT
  have lA0 : A.length < B0.length := (List.getElem?_eq_some_iff.mp hT0).1
  -- the rows of this strength
  refine w_post (fun ρ' B => B = B0 ++ [.lst []] ∧ ρ' = [some N.d, some (.ls (posL N p)), some (.ls (heldL N h)), some (.int (N.fs.length : Int)), some (.int (N.nN : Int)), some (.ls (mkL N mk)), x6, some (.obj A.length), some (.int (i : Int)), some (.obj B0.length), x10, x11, x12, x13, x14, x15, x16, x17, x18, x19, x20]) (fun K hK => ?_) ?_
  · conv => whnf
    refine ⟨sz0, nl_o ?_⟩
    exact hK _ _ ⟨rfl, rfl⟩
  rintro ρ' B ⟨rfl, rfl⟩
  let qf : Nat → Bool := fun k => decide (p k = 1) && decide (sgN N k = F)
  refine w_post (fun ρ' B => ∃ x10, B = B0 ++ [.lst (((List.range N.sw.length).filter qf).map (swD N))] ∧ ρ' = [some N.d, some (.ls (posL N p)), some (.ls (heldL N h)), some (.int (N.fs.length : Int)), some (.int (N.nN : Int)), some (.ls (mkL N mk)), x6, some (.obj A.length), some (.int (i : Int)), some (.obj B0.length), x10, x11, x12, x13, x14, x15, x16, x17, x18, x19, x20]) (fun K hK => ?_) ?_
  · conv => whnf
    rw [sD_i, Int.toNat_natCast]
    refine ⟨by omega, by omega, ?_⟩
    refine loop_i (List.range N.sw.length) (fun (k : Nat) => D.int (k : Int)) (fun j ρ' B => ∃ x10, B = B0 ++ [.lst ((((List.range N.sw.length).take j).filter qf).map (swD N))] ∧ ρ' = [some N.d, some (.ls (posL N p)), some (.ls (heldL N h)), some (.int (N.fs.length : Int)), some (.int (N.nN : Int)), some (.ls (mkL N mk)), x6, some (.obj A.length), some (.int (i : Int)), some (.obj B0.length), x10, x11, x12, x13, x14, x15, x16, x17, x18, x19, x20]) (rng_nat _) ⟨x10, rfl, rfl⟩ (fun _ _ _ _ => True.intro) ?_ ?_
    · rintro j hj ρ B k0 ⟨x10, rfl, rfl⟩ hk0
      have hj2 : j < N.sw.length := by simpa using hj
      rw [List.take_succ_eq_append_getElem hj, List.filter_append] at hk0
      rw [List.getElem_range] at hk0 ⊢
      refine tg1 ?_
      have stay : qf j = false → ∀ x10, k0 [some N.d, some (.ls (posL N p)), some (.ls (heldL N h)), some (.int (N.fs.length : Int)), some (.int (N.nN : Int)), some (.ls (mkL N mk)), x6, some (.obj A.length), some (.int (i : Int)), some (.obj B0.length), x10, x11, x12, x13, x14, x15, x16, x17, x18, x19, x20] (B0 ++ [.lst ((((List.range N.sw.length).take j).filter qf).map (swD N))]) := fun z x10 => hk0 _ _ ⟨x10, by rw [List.filter_cons_of_neg (by rw [z]; decide)]; simp, rfl⟩
      have ql : (((List.range N.sw.length).take j).filter qf).length ≤ 9 := Nat.le_trans (List.length_filter_le _ _) (by rw [List.length_take, List.length_range]; omega)
      conv => whnf
      rw [show L2.atI (posL N p) (j : Int) = some (.int (p j : Int)) from L2.atI_nat (rl_get hj2)]
      conv => whnf
      by_cases c1 : p j = 1
      · rw [decide_eq_true (by omega : (p j : Int) = 1)]
        conv => whnf
        rw [L2.atI_nat (sD_at hj2)]
        conv => whnf
        by_cases c2 : sgN N j = F
        · rw [decide_eq_true (by rw [sgN_at hj2] at c2; omega : (N.sw[j].st : Int) = 6 - (i : Int))]
          conv => whnf
          refine ⟨recv_app lk1, ?_⟩
          conv => whnf
          rw [L2.atI_nat (sD_at hj2)]
          conv => whnf
          rw [lk1]
          conv => whnf
          refine ⟨szL (by rw [List.length_map]; omega), ?_⟩
          rw [set1]
          exact hk0 _ _ ⟨_, by rw [List.filter_cons_of_pos (by show (decide _ && decide _) = true; rw [decide_eq_true c1, decide_eq_true c2]; rfl), List.filter_nil, List.map_append, List.map_cons, swD_at hj2]; rfl, rfl⟩
        · rw [decide_eq_false (by rw [sgN_at hj2] at c2; omega : ¬ (N.sw[j].st : Int) = 6 - (i : Int))]
          exact stay (by show (decide _ && decide _) = false; rw [decide_eq_false c2, Bool.and_false]) _
      · rw [decide_eq_false (by omega : ¬ (p j : Int) = 1)]
        exact stay (by show (decide _ && decide _) = false; rw [decide_eq_false c1, Bool.false_and]) _
    · rintro ρ B ⟨x10, rfl, rfl⟩
      rw [List.take_length]
      exact hK _ _ ⟨x10, rfl, rfl⟩
  rintro ρ' B ⟨x10, rfl, rfl⟩
  have hks : ∀ k ∈ (List.range N.sw.length).filter qf, k < N.sw.length ∧ p k = 1 ∧ sgN N k = F := fun k hk => by
    obtain ⟨h1, h2⟩ := List.mem_filter.mp hk
    have h2 : (decide (p k = 1) && decide (sgN N k = F)) = true := h2
    rw [Bool.and_eq_true] at h2
    exact ⟨List.mem_range.mp h1, of_decide_eq_true h2.1, of_decide_eq_true h2.2⟩
  have ksh : ∀ k, k < N.sw.length → p k = 1 → sgN N k = F → k ∈ (List.range N.sw.length).filter qf := fun k h1 h2 h3 => List.mem_filter.mpr ⟨List.mem_range.mpr h1, by show (decide _ && decide _) = true; rw [decide_eq_true h2, decide_eq_true h3]; rfl⟩
  have ksl : ((List.range N.sw.length).filter qf).length ≤ 9 := Nat.le_trans (List.length_filter_le _ _) (by rw [List.length_range]; exact hsw)
  generalize (List.range N.sw.length).filter qf = ks at hks ksh ksl
  clear qf
  generalize hB1 : B0 ++ [O.lst (ks.map (swD N))] = B1
  have hT1 : B1[A.length]? = some (.lst (tdL N (fx N p h f (4 + F)))) := by rw [← hB1]; exact upT hT0
  have hN1 : B1[B0.length]? = some (.lst (ks.map (swD N))) := by rw [← hB1]; exact lk1
  have ends : ∀ s (hs : s < N.sw.length), Ends N s N.sw[s].l N.sw[s].r := fun s hs => ⟨hs, .inl ⟨rfl, rfl⟩⟩
  -- heaps are joined
  refine w_post (fun ρ' B => ∃ mk x11 x12 x13 x14, Mst N p f m (4 + F) (fun s => F ≤ sgN N s) mk ∧ B = B1 ∧ ρ' = [some N.d, some (.ls (posL N p)), some (.ls (heldL N h)), some (.int (N.fs.length : Int)), some (.int (N.nN : Int)), some (.ls (mkL N mk)), x6, some (.obj A.length), some (.int (i : Int)), some (.obj B0.length), x10, x11, x12, x13, x14, x15, x16, x17, x18, x19, x20]) (fun K' hK => ?_) ?_
  · conv => whnf
    rw [hN1]
    conv => whnf
    refine loop_i ks (swD N) (fun j ρ' B => ∃ mk x11 x12 x13 x14, Mst N p f m (4 + F) (fun s => F + 1 ≤ sgN N s ∨ s ∈ ks.take j) mk ∧ B = B1 ∧ ρ' = [some N.d, some (.ls (posL N p)), some (.ls (heldL N h)), some (.int (N.fs.length : Int)), some (.int (N.nN : Int)), some (.ls (mkL N mk)), x6, some (.obj A.length), some (.int (i : Int)), some (.obj B0.length), x10, x11, x12, x13, x14, x15, x16, x17, x18, x19, x20]) rfl ⟨mk, x11, x12, x13, x14, M.weak (Nat.le_refl _) (fun s _ z => by simpa using z), rfl, rfl⟩ (fun _ _ _ ⟨_, _, _, _, _, _, e, _⟩ => by rw [e]; exact hN1) ?_ ?_
    · clear M mk
      rintro j hj ρ B k0 ⟨mk, x11, x12, x13, x14, M, rfl, rfl⟩ hk0
      obtain ⟨hs, hp, hst⟩ := hks _ (List.getElem_mem hj)
      have tk := List.take_succ_eq_append_getElem hj
      generalize hsj : ks[j] = s at hs hp hst tk ⊢
      rw [swD_at hs]
      have en := sm.ok.en _ (List.getElem_mem hs)
      refine tg1 ?_
      refine w_if (decide (f N.sw[s].l ≤ 4 + F) && decide (f N.sw[s].r ≤ 4 + F)) (fun K2 hK2 => ?_) (fun hc => ?_) (fun hc => ?_)
      · conv => whnf
        rw [hT1]
        conv => whnf
        rw [td_at en.1]
        conv => whnf
        rw [isN]
        cases c1 : decide (f N.sw[s].l ≤ 4 + F) with
        | false => rw [c1] at hK2; exact hK2
        | true =>
          rw [c1] at hK2
          conv => whnf
          rw [hT1]
          conv => whnf
          rw [td_at en.2.1]
          conv => whnf
          rw [isN]
          exact hK2
      · rw [Bool.and_eq_true] at hc
        have M2 := (M.unite K (ends s hs) hp (of_decide_eq_true hc.1) (of_decide_eq_true hc.2) (by omega)).weak (Nat.le_refl (4 + F)) (Pr' := fun t => F + 1 ≤ sgN N t ∨ t ∈ ks.take (j + 1)) (fun t _ z => by
          rw [tk, List.mem_append, List.mem_singleton] at z
          rcases z with z | z | z
          · exact .inl (.inl z)
          · exact .inl (.inr z)
          · exact .inr z)
        conv => whnf
        rw [mk_at en.2.1]
        conv => whnf
        rw [mk_at en.1]
        conv => whnf
        refine ⟨sz2, ?_⟩
        conv => whnf
        refine comp_m (List.range N.nN) (fun (u : Nat) => D.int (mk u : Int)) (fun u => D.int ((if mk u = mk N.sw[s].r then mk N.sw[s].l else mk u : Nat) : Int)) rfl True.intro (szN (by simp; omega)) (fun u hu K2 hK2 => ?_) ?_
        · conv => whnf
          by_cases z : mk u = mk N.sw[s].r
          · rw [decide_eq_true (by omega : (mk u : Int) = (mk N.sw[s].r : Int))]
            rw [if_pos z] at hK2
            exact hK2
          · rw [decide_eq_false (by omega : ¬ (mk u : Int) = (mk N.sw[s].r : Int))]
            rw [if_neg z] at hK2
            exact hK2
        · refine nl_v ?_
          exact hk0 _ _ ⟨_, _, _, _, _, M2, rfl, rfl⟩
      · have M2 := (M.skip (ends s hs) (by
          by_cases c : f N.sw[s].l ≤ 4 + F
          · rw [decide_eq_true c, Bool.true_and] at hc
            have := of_decide_eq_false hc
            right; left; omega
          · left; omega)).weak (Nat.le_refl (4 + F)) (Pr' := fun t => F + 1 ≤ sgN N t ∨ t ∈ ks.take (j + 1)) (fun t _ z => by
          rw [tk, List.mem_append, List.mem_singleton] at z
          rcases z with z | z | z
          · exact .inl (.inl z)
          · exact .inl (.inr z)
          · exact .inr z)
        exact hk0 _ _ ⟨_, _, _, _, _, M2, rfl, rfl⟩
    · clear M mk
      rintro ρ B ⟨mk, x11, x12, x13, x14, M, rfl, rfl⟩
      refine hK _ _ ⟨mk, _, _, _, _, ⟨M.same, fun s a b e z hp h1 h2 => M.adj s a b e ?_ hp h1 h2⟩, rfl, rfl⟩
      by_cases c : F + 1 ≤ sgN N s
      · exact .inl c
      · right
        rw [List.take_length]
        exact ksh s e.choose hp (by omega)
  clear M mk
  rintro ρ' B ⟨mk, x11, x12, x13, x14, M, rfl, rfl⟩
  -- what each heap is told
  refine w_post (fun ρ' B' => B' = B ++ [.dic []] ∧ ρ' = [some N.d, some (.ls (posL N p)), some (.ls (heldL N h)), some (.int (N.fs.length : Int)), some (.int (N.nN : Int)), some (.ls (mkL N mk)), x6, some (.obj A.length), some (.int (i : Int)), some (.obj B0.length), x10, x11, x12, x13, x14, some (.obj B.length), x16, x17, x18, x19, x20]) (fun K hK => hK _ _ ⟨rfl, rfl⟩) ?_
  rintro ρ' B' ⟨rfl, rfl⟩
  refine w_post (fun ρ' B' => ∃ fd fq x11 x14 x16 x17, DR fd fq ∧ Jn (Lap N p h f F mk) fq ∧ B' = B ++ [.dic fd] ∧ ρ' = [some N.d, some (.ls (posL N p)), some (.ls (heldL N h)), some (.int (N.fs.length : Int)), some (.int (N.nN : Int)), some (.ls (mkL N mk)), x6, some (.obj A.length), some (.int (i : Int)), some (.obj B0.length), x10, x11, x12, x13, x14, some (.obj B.length), x16, x17, x18, x19, x20]) (fun K' hK => ?_) ?_
  · conv => whnf
    rw [upT hN1]
    conv => whnf
    refine loop_i ks (swD N) (fun j ρ' B' => ∃ fd fq x11 x14 x16 x17, DR fd fq ∧ fd.length ≤ 2 * j ∧ Jn (fun a v => ∃ s ∈ ks.take j, ∃ i o, Ends N s i o ∧ f i ≤ 4 + F ∧ 4 + F < f o ∧ mk i = a ∧ v = rspN N p h o) fq ∧ B' = B ++ [.dic fd] ∧ ρ' = [some N.d, some (.ls (posL N p)), some (.ls (heldL N h)), some (.int (N.fs.length : Int)), some (.int (N.nN : Int)), some (.ls (mkL N mk)), x6, some (.obj A.length), some (.int (i : Int)), some (.obj B0.length), x10, x11, x12, x13, x14, some (.obj B.length), x16, x17, x18, x19, x20]) rfl ⟨[], fun _ => none, x11, x14, x16, x17, fun _ => rfl, Nat.le_refl _, Jn.nil.congr fun a b => by simp, rfl, rfl⟩ (fun _ _ _ ⟨_, _, _, _, _, _, _, _, _, e, _⟩ => by rw [e]; exact upT hN1) ?_ ?_
    · rintro j hj ρ B' k0 ⟨fd, fq, x11, x14, x16, x17, R, lf, J, rfl, rfl⟩ hk0
      obtain ⟨hs, hp, hst⟩ := hks _ (List.getElem_mem hj)
      have tk := List.take_succ_eq_append_getElem hj
      generalize hsj : ks[j] = s at hs hp hst tk ⊢
      rw [swD_at hs]
      have en := sm.ok.en _ (List.getElem_mem hs)
      refine tg1 ?_
      conv => whnf
      refine ⟨sz2, ?_⟩
      conv => whnf
      refine ⟨sz2, ?_⟩
      conv => whnf
      refine ⟨sz2, .inl ?_⟩
      refine loop_i [(N.sw[s].l, N.sw[s].r), (N.sw[s].r, N.sw[s].l)] (fun q => D.tup [.int (q.1 : Int), .int (q.2 : Int)]) (fun j2 ρ' B' => ∃ fd fq x14 x16 x17, DR fd fq ∧ fd.length ≤ 2 * j + j2 ∧ Jn (fun a v => (∃ s ∈ ks.take j, ∃ i o, Ends N s i o ∧ f i ≤ 4 + F ∧ 4 + F < f o ∧ mk i = a ∧ v = rspN N p h o) ∨ ∃ q ∈ [(N.sw[s].l, N.sw[s].r), (N.sw[s].r, N.sw[s].l)].take j2, f q.2 ≤ 4 + F ∧ 4 + F < f q.1 ∧ mk q.2 = a ∧ v = rspN N p h q.1) fq ∧ B' = B ++ [.dic fd] ∧ ρ' = [some N.d, some (.ls (posL N p)), some (.ls (heldL N h)), some (.int (N.fs.length : Int)), some (.int (N.nN : Int)), some (.ls (mkL N mk)), x6, some (.obj A.length), some (.int (i : Int)), some (.obj B0.length), x10, some N.sw[s].d, x12, x13, x14, some (.obj B.length), x16, x17, x18, x19, x20]) rfl ⟨fd, fq, x14, x16, x17, R, by omega, J.congr fun a b => by simp, rfl, rfl⟩ (fun _ _ _ _ => True.intro) ?_ ?_
      · clear R lf J fd fq
        rintro j2 hj2 ρ B' k1 ⟨fd, fq, x14, x16, x17, R, lf, J, rfl, rfl⟩ hk1
        have hq : [(N.sw[s].l, N.sw[s].r), (N.sw[s].r, N.sw[s].l)][j2].1 < N.nN ∧ [(N.sw[s].l, N.sw[s].r), (N.sw[s].r, N.sw[s].l)][j2].2 < N.nN := by
          have : j2 = 0 ∨ j2 = 1 := by simp only [List.length_cons, List.length_nil] at hj2; omega
          rcases this with rfl | rfl
          · exact ⟨en.1, en.2.1⟩
          · exact ⟨en.2.1, en.1⟩
        have tk2 := List.take_succ_eq_append_getElem hj2
        have hj3 : j2 < 2 := hj2
        have hj4 : j < 9 := by omega
        generalize [(N.sw[s].l, N.sw[s].r), (N.sw[s].r, N.sw[s].l)][j2] = q at hq tk2 ⊢
        rw [tk2] at hk1
        clear hj2
        refine tg2 ?_
        have hTd : ∀ {fd}, (B ++ [O.dic fd])[A.length]? = some (.lst (tdL N (fx N p h f (4 + F)))) := fun {fd} => upT hT1
        refine w_if (decide (4 + F < f q.1) && decide (f q.2 ≤ 4 + F)) (fun K2 hK2 => ?_) (fun hc => ?_) (fun hc => ?_)
        · conv => whnf
          rw [hTd]
          conv => whnf
          rw [td_at hq.1]
          conv => whnf
          rw [isN, show (!decide (f q.1 ≤ 4 + F)) = decide (4 + F < f q.1) by
            by_cases z : f q.1 ≤ 4 + F
            · rw [decide_eq_true z, decide_eq_false (by omega)]; rfl
            · rw [decide_eq_false z, decide_eq_true (by omega)]; rfl]
          cases c1 : decide (4 + F < f q.1) with
          | false => rw [c1] at hK2; exact hK2
          | true =>
            rw [c1] at hK2
            conv => whnf
            rw [hTd]
            conv => whnf
            rw [td_at hq.2]
            conv => whnf
            rw [isN]
            exact hK2
        · rw [Bool.and_eq_true] at hc
          have h1 := of_decide_eq_true hc.1
          have h2 := of_decide_eq_true hc.2
          have J2 := (J.add (k := mk q.2) (v := rspN N p h q.1) (rsp_le K.ok K.okh hq.1)).congr (P' := fun a v => (∃ s ∈ ks.take j, ∃ i o, Ends N s i o ∧ f i ≤ 4 + F ∧ 4 + F < f o ∧ mk i = a ∧ v = rspN N p h o) ∨ ∃ q' ∈ [(N.sw[s].l, N.sw[s].r), (N.sw[s].r, N.sw[s].l)].take j2 ++ [q], f q'.2 ≤ 4 + F ∧ 4 + F < f q'.1 ∧ mk q'.2 = a ∧ v = rspN N p h q'.1) fun a b => by
            constructor
            · rintro ((z | ⟨q', z1, z2⟩) | ⟨z1, z2⟩)
              · exact .inl z
              · exact .inr ⟨q', List.mem_append_left _ z1, z2⟩
              · exact .inr ⟨q, by simp, h2, h1, z1.symm, z2⟩
            · rintro (z | ⟨q', z1, z2⟩)
              · exact .inl (.inl z)
              · rcases List.mem_append.mp z1 with z1 | z1
                · exact .inl (.inr ⟨q', z1, z2⟩)
                · rw [List.mem_singleton.mp z1] at z2
                  exact .inr ⟨z2.2.2.1.symm, z2.2.2.2⟩
          have told1 : oD (fx N p h f (4 + F) q.1) = .int (rspN N p h q.1 : Int) := by unfold fx; rw [if_neg (by omega)]; rfl
          conv => whnf
          rw [mk_at hq.2]
          conv => whnf
          rw [lk1]
          conv => whnf
          rw [R (mk q.2)]
          cases eq : fq (mk q.2) with
          | none =>
            conv => whnf
            rw [hTd]
            conv => whnf
            rw [td_at hq.1, told1]
            conv => whnf
            rw [lk1]
            conv => whnf
            refine ⟨szL (by omega), ?_⟩
            rw [set1]
            rw [eq] at J2
            exact hk1 _ _ ⟨_, _, _, _, _, R.put _ _, Nat.le_trans (put_len _ _ _) (by omega), J2, rfl, rfl⟩
          | some y =>
            rw [eq] at J2
            conv => whnf
            rw [lk1]
            conv => whnf
            rw [R (mk q.2), eq]
            conv => whnf
            rw [hTd]
            conv => whnf
            rw [td_at hq.1, told1]
            conv => whnf
            by_cases z : y = rspN N p h q.1
            · rw [decide_eq_true (by omega : (y : Int) = (rspN N p h q.1 : Int))]
              have J3 := J2
              dsimp only at J3
              rw [if_pos z] at J3
              refine hk1 _ _ ⟨fd, _, _, _, _, ?_, by omega, J3, rfl, rfl⟩
              intro a
              dsimp only
              by_cases c : a = mk q.2
              · rw [if_pos c, c, R, eq]
              · rw [if_neg c]; exact R a
            · rw [decide_eq_false (by omega : ¬ (y : Int) = (rspN N p h q.1 : Int))]
              have J3 := J2
              dsimp only at J3
              rw [if_neg z] at J3
              conv => whnf
              rw [lk1]
              conv => whnf
              refine ⟨szL (by omega), ?_⟩
              rw [set1]
              exact hk1 _ _ ⟨_, _, _, _, _, R.put _ 2, Nat.le_trans (put_len _ _ _) (by omega), J3, rfl, rfl⟩
        · refine hk1 _ _ ⟨fd, fq, _, _, _, R, by omega, J.congr fun a b => ?_, rfl, rfl⟩
          have nq : ¬ (f q.2 ≤ 4 + F ∧ 4 + F < f q.1) := fun z => by rw [decide_eq_true z.1, decide_eq_true z.2] at hc; cases hc
          constructor
          · rintro (z | ⟨q', z1, z2⟩)
            · exact .inl z
            · exact .inr ⟨q', List.mem_append_left _ z1, z2⟩
          · rintro (z | ⟨q', z1, z2⟩)
            · exact .inl z
            · rcases List.mem_append.mp z1 with z1 | z1
              · exact .inr ⟨q', z1, z2⟩
              · rw [List.mem_singleton.mp z1] at z2
                exact (nq ⟨z2.1, z2.2.1⟩).elim
      · clear R lf J fd fq
        rintro ρ B' ⟨fd, fq, x14, x16, x17, R, lf, J, rfl, rfl⟩
        refine hk0 _ _ ⟨fd, fq, _, _, _, _, R, by simp only [List.length_cons, List.length_nil] at lf; omega, J.congr fun a b => ?_, rfl, rfl⟩
        rw [tk, List.take_length]
        constructor
        · rintro (⟨t, z1, z2⟩ | ⟨q, z1, z2, z3, z4, z5⟩)
          · exact ⟨t, List.mem_append_left _ z1, z2⟩
          · refine ⟨s, by simp, q.2, q.1, ?_, z2, z3, z4, z5⟩
            simp only [List.mem_cons, List.not_mem_nil, or_false] at z1
            rcases z1 with rfl | rfl
            · exact (ends s hs).symm
            · exact ends s hs
        · rintro ⟨t, z1, i2, o2, z2, z3, z4, z5, z6⟩
          rcases List.mem_append.mp z1 with z1 | z1
          · exact .inl ⟨t, z1, i2, o2, z2, z3, z4, z5, z6⟩
          · rw [List.mem_singleton.mp z1] at z2
            refine .inr ⟨(o2, i2), ?_, z3, z4, z5, z6⟩
            obtain ⟨_, z2⟩ := z2
            rcases z2 with ⟨rfl, rfl⟩ | ⟨rfl, rfl⟩ <;> simp
    · rintro ρ B' ⟨fd, fq, x11, x14, x16, x17, R, lf, J, rfl, rfl⟩
      refine hK _ _ ⟨fd, fq, _, _, _, _, R, J.congr fun a b => ?_, rfl, rfl⟩
      rw [List.take_length]
      constructor
      · rintro ⟨s, z1, i2, o2, z2, z3⟩
        obtain ⟨y1, y2, y3⟩ := hks s z1
        exact ⟨s, i2, o2, z2, y2, y3, z3⟩
      · rintro ⟨s, i2, o2, z2, y2, y3, z3⟩
        exact ⟨s, ksh s z2.choose y2 y3, i2, o2, z2, z3⟩
  rintro ρ' B' ⟨fd, fq, x11, x14, x16, x17, R, J, rfl, rfl⟩
  -- and so it is fixed
  have st6 : 1 ≤ F ∧ F ≤ 6 := by omega
  obtain ⟨L2, hL2⟩ : ∃ L2, B ++ [O.dic fd] = A ++ .lst (tdL N (fx N p h f (4 + F))) :: L2 := ⟨L ++ [.lst (ks.map (swD N))] ++ [.dic fd], by rw [← hB1, ← hB0]; simp⟩
  have hD : ∀ o : O, (A ++ o :: L2)[B.length]? = some (.dic fd) := fun o => by
    rw [← setT (o := .lst (tdL N (fx N p h f (4 + F)))), ← hL2, List.getElem?_set_ne (by have := (List.getElem?_eq_some_iff.mp hT1).1; omega)]
    exact lk1
  rw [hL2]
  conv => whnf
  rw [Int.toNat_natCast]
  refine ⟨by omega, by omega, ?_⟩
  refine loop_i (List.range N.nN) (fun (u : Nat) => D.int (u : Int)) (fun j ρ' B' => ∃ x6, B' = A ++ .lst (tdL N fun u => if u < j then fx N p h f (3 + F) u else fx N p h f (4 + F) u) :: L2 ∧ ρ' = [some N.d, some (.ls (posL N p)), some (.ls (heldL N h)), some (.int (N.fs.length : Int)), some (.int (N.nN : Int)), some (.ls (mkL N mk)), x6, some (.obj A.length), some (.int (i : Int)), some (.obj B0.length), x10, x11, x12, x13, x14, some (.obj B.length), x16, x17, x18, x19, x20]) (rng_nat _) ⟨x6, by simp, rfl⟩ (fun _ _ _ _ => True.intro) ?_ ?_
  · rintro u hu ρ B' k0 ⟨x6, rfl, rfl⟩ hk0
    have hu2 : u < N.nN := by simpa using hu
    rw [List.getElem_range]
    have lf := lap_fx K st6.1 st6.2 M J hu2
    have sel : ∀ {x : Nat → Option Nat} {y : Nat → Option Nat}, (if u < u then x u else y u) = y u := fun {x y} => if_neg (by omega)
    have stay : fx N p h f (3 + F) u = fx N p h f (4 + F) u → (tdL N fun v => if v < u then fx N p h f (3 + F) v else fx N p h f (4 + F) v) = tdL N fun v => if v < u + 1 then fx N p h f (3 + F) v else fx N p h f (4 + F) v := fun e => rl_congr fun v hv => congrArg oD <| by
      dsimp only
      by_cases c : v < u
      · rw [if_pos c, if_pos (by omega)]
      · by_cases c2 : v = u
        · subst c2; rw [if_neg c, if_pos (by omega), e]
        · rw [if_neg c, if_neg (by omega)]
    refine tg1 ?_
    conv => whnf
    rw [appT]
    conv => whnf
    rw [td_at hu2, sel]
    conv => whnf
    rw [isN]
    by_cases c1 : f u ≤ 4 + F
    · rw [decide_eq_true c1]
      rw [if_pos c1] at lf
      conv => whnf
      rw [mk_at hu2]
      conv => whnf
      rw [hD]
      conv => whnf
      rw [R (mk u)]
      cases eq : fq (mk u) with
      | none =>
        rw [eq] at lf
        rw [stay (by rw [lf]; unfold fx; rw [if_pos c1])]
        exact hk0 _ _ ⟨_, rfl, rfl⟩
      | some y =>
        rw [eq] at lf
        conv => whnf
        rw [mk_at hu2]
        conv => whnf
        rw [hD]
        conv => whnf
        rw [R (mk u), eq]
        conv => whnf
        rw [appT]
        conv => whnf
        rw [ixn (by rw [td_len]; exact hu2)]
        conv => whnf
        rw [setT]
        refine hk0 _ _ ⟨_, ?_, rfl⟩
        congr 3
        have hn : ∀ v, v < N.nN → (tdL N fun v => if v < u then fx N p h f (3 + F) v else fx N p h f (4 + F) v)[v]? = some (oD (if v < u then fx N p h f (3 + F) v else fx N p h f (4 + F) v)) := fun v hv => rl_get hv
        apply List.ext_getElem?
        intro v
        by_cases hv : v < N.nN
        · rw [show (tdL N fun v => if v < u + 1 then fx N p h f (3 + F) v else fx N p h f (4 + F) v)[v]? = some (oD (if v < u + 1 then fx N p h f (3 + F) v else fx N p h f (4 + F) v)) from rl_get hv]
          by_cases c2 : u = v
          · subst c2
            rw [List.getElem?_set_self (by rw [td_len]; exact hu2), if_pos (by omega), lf]; rfl
          · rw [List.getElem?_set_ne c2, hn v hv]
            by_cases c3 : v < u
            · rw [if_pos c3, if_pos (by omega)]
            · rw [if_neg c3, if_neg (by omega)]
        · rw [List.getElem?_eq_none (by rw [List.length_set, td_len]; omega), List.getElem?_eq_none (by rw [td_len]; omega)]
    · rw [decide_eq_false c1]
      rw [if_neg c1] at lf
      rw [stay (by rw [lf]; unfold fx; rw [if_neg c1])]
      exact hk0 _ _ ⟨_, rfl, rfl⟩
  · rintro ρ B' ⟨x6, rfl, rfl⟩
    rw [List.length_range, show (tdL N fun u => if u < N.nN then fx N p h f (3 + F) u else fx N p h f (4 + F) u) = tdL N (fx N p h f (3 + F)) from rl_congr fun u hu => congrArg oD (if_pos hu)]
    exact hk mk L2 _ _ _ _ _ _ _ _ _ _ _ _ _ _ (M.weak (by omega) fun _ _ z => z)
end
end K02
end TextK02e

section TextK02f
set_option autoImplicit false
set_option maxRecDepth 100000
set_option maxHeartbeats 8000000
/-! K02f: merging, whole. -/
namespace K02
open PySem Px Fl Nt Lw Tp
local macro_rules | `(tactic| walk_at "px") => `(tactic| ((conv => whnf); repeat ((refine And.intro (by first | exact True.intro | exact Px.sz2 | exact Px.sz3 | exact Px.sz1 | exact Px.sz0 | exact Px.sz4 | exact Px.sz5 | exact Px.sz6 | exact Px.sz7 | exact Px.sz8 | exact Px.sz9 | decide) ?_); (conv => whnf))))
section
variable {G : Env'}
theorem b__law_settled : Pf G cc__law_settled.N ir__law_settled con__law_settled := by
  rintro ds A E Q ⟨N, p, h, rfl, sm, okp, okh, kn, q⟩
  obtain ⟨f, m, K⟩ := Km.ex sm.ok okp okh kn
  have hsw := sm.sw; have hfs := sm.fs; have hts := sm.ts
  have hnn : N.nN = N.fs.length + N.ts.length := rfl
  refine w_post (fun ρ' B => B = A ∧ ρ' = [some N.d, some (.ls (posL N p)), some (.ls (heldL N h)), some (.int (N.fs.length : Int)), none, none, none, none, none, none, none, none, none, none, none, none, none, none, none, none, none]) (fun K hK => ?_) ?_
  · conv => whnf
    rw [fD_i]
    exact hK _ _ ⟨rfl, rfl⟩
  rintro ρ' B ⟨rfl, rfl⟩
  refine w_post (fun ρ' B' => B' = B ∧ ρ' = [some N.d, some (.ls (posL N p)), some (.ls (heldL N h)), some (.int (N.fs.length : Int)), some (.int (N.nN : Int)), none, none, none, none, none, none, none, none, none, none, none, none, none, none, none, none]) (fun K hK => ?_) ?_
  · conv => whnf
    rw [show ((heldL N h).length : Int) = (N.nN : Int) by simp [heldL]]
    exact hK _ _ ⟨rfl, rfl⟩
  rintro ρ' B' ⟨eB, rfl⟩
  rw [eB]
  clear eB B'
  generalize B = A at q ⊢
  refine w_post (fun ρ' B => ∃ x6, B = A ∧ ρ' = [some N.d, some (.ls (posL N p)), some (.ls (heldL N h)), some (.int (N.fs.length : Int)), some (.int (N.nN : Int)), some (.ls (mkL N fun u => u)), x6, none, none, none, none, none, none, none, none, none, none, none, none, none, none]) (fun K hK => ?_) ?_
  · conv => whnf
    rw [Int.toNat_natCast, rng_nat]
    refine ⟨by omega, by omega, ?_⟩
    refine comp_m (List.range N.nN) (fun (u : Nat) => D.int (u : Int)) (fun (u : Nat) => D.int (u : Int)) rfl True.intro (szN (by simp; omega)) (fun u hu k hk => hk) ?_
    exact nl_v (hK _ _ ⟨_, rfl, rfl⟩)
  rintro ρ' B ⟨x6, rfl, rfl⟩
  refine w_post (fun ρ' B' => ∃ x6, B' = B ++ [.lst (tdL N (fx N p h f 10))] ∧ ρ' = [some N.d, some (.ls (posL N p)), some (.ls (heldL N h)), some (.int (N.fs.length : Int)), some (.int (N.nN : Int)), some (.ls (mkL N fun u => u)), x6, some (.obj B.length), none, none, none, none, none, none, none, none, none, none, none, none, none]) (fun K2 hK => ?_) ?_
  · conv => whnf
    rw [Int.toNat_natCast, rng_nat]
    refine ⟨by omega, by omega, ?_⟩
    refine comp_m (List.range N.nN) (fun (u : Nat) => D.int (u : Int)) (fun u => oD (fx N p h f 10 u)) rfl True.intro (szN (by simp; omega)) (fun u hu k hk => ?_) ?_
    · have hu2 := List.mem_range.mp hu
      conv => whnf
      by_cases c : u < N.fs.length
      · rw [decide_eq_true (by omega : (u : Int) < (N.fs.length : Int))]
        conv => whnf
        rw [show L2.atI (heldL N h) (u : Int) = some (.int (h u : Int)) from L2.atI_nat (rl_get hu2)]
        have e : oD (fx N p h f 10 u) = .int (h u : Int) := by
          unfold fx
          rw [if_neg (by have := K.feed c; omega), rsp_feed K.ok c]; rfl
        rw [e] at hk
        exact hk
      · rw [decide_eq_false (by omega : ¬ (u : Int) < (N.fs.length : Int))]
        have e : oD (fx N p h f 10 u) = .non := by
          unfold fx
          rw [if_pos (K.tank (by omega) hu2)]; rfl
        rw [e] at hk
        exact hk
    · exact nl_o (hK _ _ ⟨_, rfl, rfl⟩)
  rintro ρ' B' ⟨x6, rfl, rfl⟩
  generalize B = A at q ⊢
  -- six laps
  refine w_post (fun ρ' B => ∃ mk L x6 x8 x9 x10 x11 x12 x13 x14 x15 x16 x17 x18 x19 x20, Mst N p f m 4 (fun s => 1 ≤ sgN N s) mk ∧ B = A ++ .lst (tdL N (fx N p h f 4)) :: L ∧ ρ' = [some N.d, some (.ls (posL N p)), some (.ls (heldL N h)), some (.int (N.fs.length : Int)), some (.int (N.nN : Int)), some (.ls (mkL N mk)), x6, some (.obj A.length), x8, x9, x10, x11, x12, x13, x14, x15, x16, x17, x18, x19, x20]) (fun K2 hK => ?_) ?_
  · conv => whnf
    refine ⟨by decide, by decide, ?_⟩
    refine loop_i (List.range 6) (fun (i : Nat) => D.int (i : Int)) (fun i ρ B => ∃ mk L x6 x8 x9 x10 x11 x12 x13 x14 x15 x16 x17 x18 x19 x20, Mst N p f m (10 - i) (fun s => 7 - i ≤ sgN N s) mk ∧ B = A ++ .lst (tdL N (fx N p h f (10 - i))) :: L ∧ ρ = [some N.d, some (.ls (posL N p)), some (.ls (heldL N h)), some (.int (N.fs.length : Int)), some (.int (N.nN : Int)), some (.ls (mkL N mk)), x6, some (.obj A.length), x8, x9, x10, x11, x12, x13, x14, x15, x16, x17, x18, x19, x20]) (rng_nat 6) ⟨_, [], _, _, _, _, _, _, _, _, _, _, _, _, _, _, Mst.init K.ok 10, rfl, rfl⟩ (fun _ _ _ _ => True.intro) ?_ ?_
    · rintro i hi ρ B k0 ⟨mk, L, x6, x8, x9, x10, x11, x12, x13, x14, x15, x16, x17, x18, x19, x20, M, rfl, rfl⟩ hk0
      have hi2 : i < 6 := by simpa using hi
      rw [List.getElem_range]
      refine tg1 ?_
      exact lap K sm hi2 M fun mk L x6 x8 x9 x10 x11 x12 x13 x14 x15 x16 x17 x18 x19 x20 M => hk0 _ _ ⟨mk, L, _, _, _, _, _, _, _, _, _, _, _, _, _, _, M, rfl, rfl⟩
    · rintro ρ B ⟨mk, L, x6, x8, x9, x10, x11, x12, x13, x14, x15, x16, x17, x18, x19, x20, M, rfl, rfl⟩
      exact hK _ _ ⟨mk, L, _, _, _, _, _, _, _, _, _, _, _, _, _, _, M, rfl, rfl⟩
  rintro ρ' B' ⟨mk, L, x6, x8, x9, x10, x11, x12, x13, x14, x15, x16, x17, x18, x19, x20, M, rfl, rfl⟩
  -- the heaps that nothing drives
  refine w_post (fun ρ' B => ∃ x6 x8 x9 x10 x11 x12 x13 x14 x15 x16 x17 x18 x19 x20, B = A ++ .lst (tdL N fun u => some (rspN N p h u)) :: L ∧ ρ' = [some N.d, some (.ls (posL N p)), some (.ls (heldL N h)), some (.int (N.fs.length : Int)), some (.int (N.nN : Int)), some (.ls (mkL N mk)), x6, some (.obj A.length), x8, x9, x10, x11, x12, x13, x14, x15, x16, x17, x18, x19, x20]) (fun K2 hK => ?_) ?_
  · conv => whnf
    rw [show (N.nN : Int) - (N.fs.length : Int) = (N.ts.length : Int) by omega, Int.toNat_natCast, rng_map']
    refine ⟨⟨by omega, by omega, by omega, by omega⟩, ?_⟩
    have fxf : ∀ u, u < N.fs.length → fx N p h f 4 u = some (rspN N p h u) := fun u hu => by
      unfold fx
      rw [if_neg (by have := K.feed hu; omega)]
    refine loop_i (List.range N.ts.length) (fun (j : Nat) => D.int ((N.fs.length + j : Nat) : Int)) (fun j ρ B => ∃ x6 x8 x9 x10 x11 x12 x13 x14 x15 x16 x17 x18 x19 x20, B = A ++ .lst (tdL N fun u => if u < N.fs.length + j then some (rspN N p h u) else fx N p h f 4 u) :: L ∧ ρ = [some N.d, some (.ls (posL N p)), some (.ls (heldL N h)), some (.int (N.fs.length : Int)), some (.int (N.nN : Int)), some (.ls (mkL N mk)), x6, some (.obj A.length), x8, x9, x10, x11, x12, x13, x14, x15, x16, x17, x18, x19, x20]) rfl ⟨_, _, _, _, _, _, _, _, _, _, _, _, _, _, by
      congr 3
      exact rl_congr fun u hu => congrArg oD (by
        dsimp only
        split
        · rename_i c; exact fxf u (by omega)
        · rfl), rfl⟩ (fun _ _ _ _ => True.intro) ?_ ?_
    · rintro j hj ρ B k0 ⟨x6, x8, x9, x10, x11, x12, x13, x14, x15, x16, x17, x18, x19, x20, rfl, rfl⟩ hk0
      have hj2 : j < N.ts.length := by simpa using hj
      rw [List.getElem_range]
      have hu : N.fs.length + j < N.nN := by omega
      refine tg1 ?_
      have sel : ∀ {x : Nat → Option Nat} {y : Nat → Option Nat}, (if N.fs.length + j < N.fs.length + j then x (N.fs.length + j) else y (N.fs.length + j)) = y (N.fs.length + j) := fun {x y} => if_neg (by omega)
      have nxt : (tdL N fun u => if u < N.fs.length + j then some (rspN N p h u) else fx N p h f 4 u).set (N.fs.length + j) (.int (rspN N p h (N.fs.length + j) : Int)) = tdL N fun u => if u < N.fs.length + (j + 1) then some (rspN N p h u) else fx N p h f 4 u := by
        apply List.ext_getElem?
        intro v
        by_cases hv : v < N.nN
        · rw [show (tdL N fun u => if u < N.fs.length + (j + 1) then some (rspN N p h u) else fx N p h f 4 u)[v]? = some (oD (if v < N.fs.length + (j + 1) then some (rspN N p h v) else fx N p h f 4 v)) from rl_get hv]
          by_cases c2 : N.fs.length + j = v
          · subst c2
            rw [List.getElem?_set_self (by rw [td_len]; exact hu), if_pos (by omega)]; rfl
          · rw [List.getElem?_set_ne c2, show (tdL N fun u => if u < N.fs.length + j then some (rspN N p h u) else fx N p h f 4 u)[v]? = some (oD (if v < N.fs.length + j then some (rspN N p h v) else fx N p h f 4 v)) from rl_get hv]
            by_cases c3 : v < N.fs.length + j
            · rw [if_pos c3, if_pos (by omega)]
            · rw [if_neg c3, if_neg (by omega)]
        · rw [List.getElem?_eq_none (by rw [List.length_set, td_len]; omega), List.getElem?_eq_none (by rw [td_len]; omega)]
      by_cases c1 : f (N.fs.length + j) ≤ 4
      · conv => whnf
        rw [appT]
        conv => whnf
        rw [td_at hu, if_neg (Nat.lt_irrefl _)]
        conv => whnf
        rw [isN, decide_eq_true c1]
        -- the mates
        let mt : List Nat := (List.range N.ts.length).filter fun i => decide (mk (N.fs.length + i) = mk (N.fs.length + j))
        have hmt : ∀ i, i ∈ mt ↔ i < N.ts.length ∧ mk (N.fs.length + i) = mk (N.fs.length + j) := fun i => by
          show i ∈ (List.range N.ts.length).filter _ ↔ _
          rw [List.mem_filter, List.mem_range, decide_eq_true_eq]
        have mtl : mt.length ≤ 6 := Nat.le_trans (List.length_filter_le _ _) (by rw [List.length_range]; exact hts)
        refine w_post (fun ρ' B => ∃ x10, B = A ++ .lst (tdL N fun u => if u < N.fs.length + j then some (rspN N p h u) else fx N p h f 4 u) :: L ∧ ρ' = [some N.d, some (.ls (posL N p)), some (.ls (heldL N h)), some (.int (N.fs.length : Int)), some (.int (N.nN : Int)), some (.ls (mkL N mk)), some (.int ((N.fs.length + j : Nat) : Int)), some (.obj A.length), x8, x9, x10, x11, x12, x13, x14, x15, x16, x17, some (.ls (mt.map fun i => .int ((N.fs.length + i : Nat) : Int))), x19, x20]) (fun K3 hK3 => ?_) ?_
        · conv => whnf
          rw [show (N.nN : Int) - (N.fs.length : Int) = (N.ts.length : Int) by omega, Int.toNat_natCast, rng_map']
          refine ⟨⟨by omega, by omega, by omega, by omega⟩, ?_⟩
          refine comp_f (List.range N.ts.length) (fun (i : Nat) => D.int ((N.fs.length + i : Nat) : Int)) (fun i => decide (mk (N.fs.length + i) = mk (N.fs.length + j))) (fun (i : Nat) => D.int ((N.fs.length + i : Nat) : Int)) rfl True.intro (szN (by simp; omega)) (fun i hi k h1 h2 => ?_) ?_
          · have hi2 := List.mem_range.mp hi
            conv => whnf
            rw [mk_at (by omega)]
            conv => whnf
            rw [mk_at hu]
            conv => whnf
            by_cases c : mk (N.fs.length + i) = mk (N.fs.length + j)
            · rw [decide_eq_true (by omega : (mk (N.fs.length + i) : Int) = (mk (N.fs.length + j) : Int))]
              exact h1 (decide_eq_true c)
            · rw [decide_eq_false (by omega : ¬ (mk (N.fs.length + i) : Int) = (mk (N.fs.length + j) : Int))]
              exact h2 (decide_eq_false c)
          · exact nl_v (hK3 _ _ ⟨_, rfl, rfl⟩)
        clear_value mt
        rintro ρ' B ⟨x10, rfl, rfl⟩
        have hj3 : j ∈ mt := (hmt j).mpr ⟨hj2, rfl⟩
        have tsz : ∀ i, i < N.ts.length → ∃ nm : Str, L2.atI N.tD (i : Int) = some (.tup [.str nm, .int (rkN N (N.fs.length + i) : Int)]) := fun i hi => ⟨N.ts[i].1, by
          rw [L2.atI_nat (tD_at hi)]
          unfold rkN
          rw [if_neg (by omega), show N.fs.length + i - N.fs.length = i by omega, List.getElem?_eq_getElem hi]⟩
        -- the greatest size
        refine w_post (fun ρ' B => ∃ x10, B = A ++ .lst (tdL N fun u => if u < N.fs.length + j then some (rspN N p h u) else fx N p h f 4 u) :: L ∧ ρ' = [some N.d, some (.ls (posL N p)), some (.ls (heldL N h)), some (.int (N.fs.length : Int)), some (.int (N.nN : Int)), some (.ls (mkL N mk)), some (.int ((N.fs.length + j : Nat) : Int)), some (.obj A.length), x8, x9, x10, x11, x12, x13, x14, x15, x16, x17, some (.ls (mt.map fun i => .int ((N.fs.length + i : Nat) : Int))), some (.int (f (N.fs.length + j) : Int)), x20]) (fun K3 hK3 => ?_) ?_
        · conv => whnf
          refine comp_m mt (fun i => .int ((N.fs.length + i : Nat) : Int)) (fun i => D.int (rkN N (N.fs.length + i) : Int)) rfl True.intro (szN (by omega)) (fun i hi k hk => ?_) ?_
          · have hi2 := ((hmt i).mp hi).1
            obtain ⟨nm, e⟩ := tsz i hi2
            conv => whnf
            rw [show ((N.fs.length + i : Nat) : Int) - (N.fs.length : Int) = (i : Int) by omega, e]
            exact hk
          · refine nl_v ?_
            conv => whnf
            rw [show (mt.map fun i => D.int (rkN N (N.fs.length + i) : Int)) = mt.map fun i => D.int ((fun i => (rkN N (N.fs.length + i) : Int)) i) from rfl, ints_map]
            refine ⟨by rw [List.length_map]; exact List.length_pos_of_mem hj3, fun mx hmem hmax => ?_⟩
            obtain ⟨i0, hi0, rfl⟩ := List.mem_map.mp hmem
            have hi1 := (hmt i0).mp hi0
            have em : rkN N (N.fs.length + i0) = f (N.fs.length + j) := heap_most K M hu c1 ⟨N.fs.length + i0, by omega, by omega, hi1.2, rfl⟩ fun j2 b1 b2 b3 => by
              have := hmax (rkN N j2 : Int) (List.mem_map.mpr ⟨j2 - N.fs.length, (hmt _).mpr ⟨by omega, by rw [show N.fs.length + (j2 - N.fs.length) = j2 by omega]; exact b3⟩, by rw [show N.fs.length + (j2 - N.fs.length) = j2 by omega]⟩)
              omega
            rw [em]
            exact hK3 _ _ ⟨_, rfl, rfl⟩
        clear x10
        rintro ρ' B ⟨x10, rfl, rfl⟩
        -- what is kept
        refine w_post (fun ρ' B => ∃ (kl : List Nat) (x10 : Option D), (∀ w, w ≤ 1 → (w ∈ kl ↔ inc (rspN N p h (N.fs.length + j)) w)) ∧ (∀ w ∈ kl, w ≤ 1) ∧ B = A ++ .lst (tdL N fun u => if u < N.fs.length + j then some (rspN N p h u) else fx N p h f 4 u) :: L ∧ ρ' = [some N.d, some (.ls (posL N p)), some (.ls (heldL N h)), some (.int (N.fs.length : Int)), some (.int (N.nN : Int)), some (.ls (mkL N mk)), some (.int ((N.fs.length + j : Nat) : Int)), some (.obj A.length), x8, x9, x10, x11, x12, x13, x14, x15, x16, x17, some (.ls (mt.map fun i => .int ((N.fs.length + i : Nat) : Int))), some (.int (f (N.fs.length + j) : Int)), some (.ls (nL kl))]) (fun K3 hK3 => ?_) ?_
        · conv => whnf
          refine comp_f mt (fun i => .int ((N.fs.length + i : Nat) : Int)) (fun i => decide (rkN N (N.fs.length + i) = f (N.fs.length + j))) (fun i => D.int (h (N.fs.length + i) : Int)) rfl True.intro (szN (by omega)) (fun i hi k h1 h2 => ?_) ?_
          · have hi2 := ((hmt i).mp hi).1
            obtain ⟨nm, e⟩ := tsz i hi2
            conv => whnf
            rw [show ((N.fs.length + i : Nat) : Int) - (N.fs.length : Int) = (i : Int) by omega, e]
            conv => whnf
            by_cases c : rkN N (N.fs.length + i) = f (N.fs.length + j)
            · rw [decide_eq_true (by omega : (rkN N (N.fs.length + i) : Int) = (f (N.fs.length + j) : Int))]
              conv => whnf
              rw [show L2.atI (heldL N h) ((N.fs.length + i : Nat) : Int) = some (.int (h (N.fs.length + i) : Int)) from L2.atI_nat (rl_get (by omega))]
              exact h1 (decide_eq_true c)
            · rw [decide_eq_false (by omega : ¬ (rkN N (N.fs.length + i) : Int) = (f (N.fs.length + j) : Int))]
              exact h2 (decide_eq_false c)
          · refine nl_v (hK3 _ _ ⟨(mt.filter fun i => decide (rkN N (N.fs.length + i) = f (N.fs.length + j))).map fun i => h (N.fs.length + i), x10, fun w hw => ?_, fun w hw => ?_, rfl, ?_⟩)
            · rw [heap_kept K M hu c1 hw, List.mem_map]
              constructor
              · rintro ⟨i, hi, e⟩
                obtain ⟨z1, z2⟩ := List.mem_filter.mp hi
                have z3 := (hmt i).mp z1
                exact ⟨N.fs.length + i, by omega, by omega, z3.2, of_decide_eq_true z2, e⟩
              · rintro ⟨j2, b1, b2, b3, b4, b5⟩
                have e : N.fs.length + (j2 - N.fs.length) = j2 := by omega
                exact ⟨j2 - N.fs.length, List.mem_filter.mpr ⟨(hmt _).mpr ⟨by omega, by rw [e]; exact b3⟩, decide_eq_true (by rw [e]; exact b4)⟩, by rw [e]; exact b5⟩
            · obtain ⟨i, hi, rfl⟩ := List.mem_map.mp hw
              exact kn.h _ (by have := ((hmt i).mp (List.mem_filter.mp hi).1).1; omega)
            · rw [show nL ((mt.filter fun i => decide (rkN N (N.fs.length + i) = f (N.fs.length + j))).map fun i => h (N.fs.length + i)) = (mt.filter fun i => decide (rkN N (N.fs.length + i) = f (N.fs.length + j))).map fun i => D.int (h (N.fs.length + i) : Int) by simp]
              rfl
        clear x10
        rintro ρ' B ⟨kl, x10, hkl, hk1, rfl, rfl⟩
        have rle := rsp_le (p := p) K.ok K.okh hu
        have kne : kl ≠ [] := by
          intro e
          have i0 := hkl 0 (by decide)
          have i1 := hkl 1 (by decide)
          subst e
          simp only [List.not_mem_nil, false_iff] at i0 i1
          unfold inc at i0 i1
          omega
        have kl0 : 0 < kl.length := List.length_pos_iff.mpr kne
        conv => whnf
        rw [ints_nL]
        refine ⟨by simpa using kl0, fun mn hn1 hn2 => ?_⟩
        conv => whnf
        rw [ints_nL]
        refine ⟨by simpa using kl0, fun mx hx1 hx2 => ?_⟩
        obtain ⟨a, ha, rfl⟩ := List.mem_map.mp hn1
        obtain ⟨b, hb, rfl⟩ := List.mem_map.mp hx1
        have lo : ∀ y ∈ kl, a ≤ y := fun y hy => by have := hn2 (y : Int) (List.mem_map.mpr ⟨y, hy, rfl⟩); omega
        have up : ∀ y ∈ kl, y ≤ b := fun y hy => by have := hx2 (y : Int) (List.mem_map.mpr ⟨y, hy, rfl⟩); omega
        have ha1 := hk1 a ha
        have hb1 := hk1 b hb
        have fin : k0 [some N.d, some (.ls (posL N p)), some (.ls (heldL N h)), some (.int (N.fs.length : Int)), some (.int (N.nN : Int)), some (.ls (mkL N mk)), some (.int ((N.fs.length + j : Nat) : Int)), some (.obj A.length), x8, x9, x10, x11, x12, x13, x14, x15, x16, x17, some (.ls (mt.map fun i => .int ((N.fs.length + i : Nat) : Int))), some (.int (f (N.fs.length + j) : Int)), some (.ls (nL kl))] (A ++ .lst (tdL N fun u => if u < N.fs.length + (j + 1) then some (rspN N p h u) else fx N p h f 4 u) :: L) := hk0 _ _ ⟨_, _, _, _, _, _, _, _, _, _, _, _, _, _, rfl, rfl⟩
        conv => whnf
        by_cases c : a = b
        · rw [decide_eq_true (by omega : (a : Int) = (b : Int))]
          have e0 : kl[0] = a := by
            have := lo _ (List.getElem_mem kl0)
            have := up _ (List.getElem_mem kl0)
            omega
          have er : rspN N p h (N.fs.length + j) = a := inc_ext rle (by omega) fun w hw => by
            rw [← hkl w hw]
            constructor
            · intro z
              have := lo w z
              have := up w z
              exact .inl (by omega)
            · intro z
              unfold inc at z
              have : a = w := by omega
              rw [← this]; exact ha
          conv => whnf
          rw [show L2.atI (nL kl) 0 = some (.int (kl[0] : Int)) from L2.atI_nat (j := 0) (nL_get kl0)]
          conv => whnf
          rw [appT]
          conv => whnf
          rw [ixn (by rw [td_len]; exact hu)]
          conv => whnf
          rw [setT, e0, ← er, nxt]
          exact fin
        · rw [decide_eq_false (by omega : ¬ (a : Int) = (b : Int))]
          have er : rspN N p h (N.fs.length + j) = 2 := by
            have i0 := hkl 0 (by decide)
            have i1 := hkl 1 (by decide)
            have lab : a ≤ b := up a ha
            rw [show a = 0 by omega] at ha
            rw [show b = 1 by omega] at hb
            have q0 := i0.mp ha
            have q1 := i1.mp hb
            unfold inc at q0 q1
            omega
          conv => whnf
          rw [appT]
          conv => whnf
          rw [ixn (by rw [td_len]; exact hu)]
          conv => whnf
          rw [setT]
          rw [er] at nxt
          rw [show (D.int 2 : D) = .int ((2 : Nat) : Int) from rfl, nxt]
          exact fin
      · conv => whnf
        rw [appT]
        conv => whnf
        rw [td_at hu, if_neg (Nat.lt_irrefl _)]
        conv => whnf
        rw [isN, decide_eq_false c1]
        refine hk0 _ _ ⟨_, _, _, _, _, _, _, _, _, _, _, _, _, _, ?_, rfl⟩
        congr 3
        refine rl_congr fun u hu => congrArg oD ?_
        dsimp only
        by_cases c2 : u < N.fs.length + j
        · rw [if_pos c2, if_pos (by omega)]
        · by_cases c3 : u = N.fs.length + j
          · subst c3
            rw [if_neg c2, if_pos (by omega)]
            unfold fx
            rw [if_neg c1]
          · rw [if_neg c2, if_neg (by omega)]
    · rintro ρ B ⟨x6, x8, x9, x10, x11, x12, x13, x14, x15, x16, x17, x18, x19, x20, rfl, rfl⟩
      refine hK _ _ ⟨_, _, _, _, _, _, _, _, _, _, _, _, _, _, ?_, rfl⟩
      rw [List.length_range]
      congr 3
      exact rl_congr fun u hu => congrArg oD (if_pos (by omega))
  rintro ρ' B ⟨x6, x8, x9, x10, x11, x12, x13, x14, x15, x16, x17, x18, x19, x20, rfl, rfl⟩
  conv => whnf
  refine rt_list (l := rl N.nN fun u => .int (rspN N p h u : Int)) appT (Nat.le_refl _) (pureDs_rl fun _ _ => rfl) q
end
end K02
end TextK02f

section TextK02g
set_option autoImplicit false
set_option maxRecDepth 100000
set_option maxHeartbeats 4000000
/-! K02g: all fillings; what is told, joined over them. -/
namespace K02
open PySem Px Fl Nt Lw Tp
local macro_rules | `(tactic| walk_at "px") => `(tactic| ((conv => whnf); repeat ((refine And.intro (by first | exact True.intro | exact Px.sz2 | exact Px.sz3 | exact Px.sz1 | exact Px.sz0 | exact Px.sz4 | exact Px.sz5 | exact Px.sz6 | exact Px.sz7 | exact Px.sz8 | exact Px.sz9 | decide) ?_); (conv => whnf))))
abbrev PH := (Nat → Nat) × (Nat → Nat)
def fD (N : Net) (q : PH) : D := .tup [.ls (posL N q.1), .ls (heldL N q.2)]
structure All (N : Net) (p h : Nat → Nat) (fs : List PH) : Prop where
  ne : fs ≠ []
  len : fs.length ≤ 524288
  fil : ∀ q ∈ fs, Fil N p h q.1 q.2
  all : ∀ p2 h2, Fil N p h p2 h2 → ∃ q ∈ fs, (∀ s, s < N.sw.length → q.1 s = p2 s) ∧ ∀ v, v < N.nN → q.2 v = h2 v
def con__law_fillings : Con := fun ds A E Q => ∃ (N : Net) (p h : Nat → Nat), ds = [.tup (posL N p), .tup (heldL N h)] ∧ smN N ∧ okP N p ∧ okH N h ∧ ∀ fs : List PH, All N p h fs → Q (.ls (fs.map (fD N))) A
def con__law_told : Con := fun ds A E Q => ∃ (N : Net) (p h : Nat → Nat), ds = [N.d, .tup (posL N p), .tup (heldL N h)] ∧ smN N ∧ okP N p ∧ okH N h ∧ Q (.ls (rl N.nN fun u => .int (rspN N p h u : Int))) A
def con__law_is_number : Con := fun ds A E Q => ∃ i : Int, ds = [.int i] ∧ Q (.bl true) A
def con__law_same_values : Con := fun ds A E Q => ∃ (n : Nat) (f : Nat → Nat), ds = [.tup (rl n fun u => .int (f u : Int)), .ls (rl n fun u => .int (f u : Int))] ∧ n ≤ 65536 ∧ Q (.bl true) A
/-- a value put at one place -/
def ud (g : Nat → Nat) (k x i : Nat) : Nat := if i = k then x else g i
theorem rl_ud {T k x : Nat} {g : Nat → Nat} (hk : k < T) : (rl T fun i => D.int (g i : Int)).take k ++ [D.int (x : Int)] ++ (rl T fun i => D.int (g i : Int)).drop (k + 1) = rl T fun i => D.int (ud g k x i : Int) := by
  have lt : ((rl T fun i => D.int (g i : Int)).take k).length = k := by rw [List.length_take, rl_len]; omega
  apply List.ext_getElem?
  intro i
  by_cases hi : i < T
  · rw [show (rl T fun i => D.int (ud g k x i : Int))[i]? = some (.int (ud g k x i : Int)) from rl_get hi]
    unfold ud
    by_cases c : i = k
    · subst c
      rw [List.append_assoc, List.getElem?_append_right (by omega), lt, Nat.sub_self, if_pos rfl]; rfl
    · rw [if_neg c]
      by_cases c2 : i < k
      · rw [List.append_assoc, List.getElem?_append_left (by omega), List.getElem?_take_of_lt c2, rl_get hi]
      · rw [List.getElem?_append_right (by simp; omega), List.getElem?_drop]
        have e : ((rl T fun i => D.int (g i : Int)).take k ++ [D.int (x : Int)]).length = k + 1 := by simp; omega
        rw [e, show k + 1 + (i - (k + 1)) = i by omega, rl_get hi]
  · rw [List.getElem?_eq_none (by simp; omega), List.getElem?_eq_none (by simp; omega)]
theorem rl_app {S n : Nat} {F H : Nat → D} : rl S F ++ rl n H = rl (S + n) fun i => if i < S then F i else H (i - S) := by
  apply List.ext_getElem?
  intro i
  by_cases hi : i < S + n
  · rw [show (rl (S + n) fun i => if i < S then F i else H (i - S))[i]? = some (if i < S then F i else H (i - S)) from rl_get hi]
    by_cases c : i < S
    · rw [List.getElem?_append_left (by simpa using c), rl_get c, if_pos c]
    · rw [List.getElem?_append_right (by simpa using c), rl_len, rl_get (by omega), if_neg c]
  · rw [List.getElem?_eq_none (by simp; omega), List.getElem?_eq_none (by simp; omega)]
theorem rl_take {T S : Nat} {F : Nat → D} (h : S ≤ T) : (rl T F).take S = rl S F := by
  apply List.ext_getElem?
  intro i
  by_cases hi : i < S
  · rw [List.getElem?_take_of_lt hi, rl_get (by omega), rl_get hi]
  · rw [List.getElem?_eq_none (by simp; omega), List.getElem?_eq_none (by simp; omega)]
theorem rl_drop {S n : Nat} {F : Nat → D} : (rl (S + n) F).drop S = rl n fun i => F (S + i) := by
  apply List.ext_getElem?
  intro i
  rw [List.getElem?_drop]
  by_cases hi : i < n
  · rw [rl_get (by omega), rl_get hi]
  · rw [List.getElem?_eq_none (by simp; omega), List.getElem?_eq_none (by simp; omega)]
/-- the rows after j places -/
structure Rw (T j : Nat) (g0 : Nat → Nat) (gs : List (Nat → Nat)) : Prop where
  ne : gs ≠ []
  len : gs.length ≤ 2 ^ j
  kn : ∀ g ∈ gs, ∀ i, i < j → i < T → g i ≤ 1
  old : ∀ g ∈ gs, ∀ i, i < T → g0 i ≠ 2 → g i = g0 i
  rest : ∀ g ∈ gs, ∀ i, j ≤ i → i < T → g i = g0 i
  all : ∀ e : Nat → Nat, (∀ i, i < T → e i ≤ 1) → (∀ i, i < T → g0 i ≠ 2 → e i = g0 i) → ∃ g ∈ gs, ∀ i, i < j → i < T → g i = e i
theorem Rw.keep {T j : Nat} {g0 : Nat → Nat} {gs : List (Nat → Nat)} (R : Rw T j g0 gs) (hj : j < T) (h2 : g0 j ≤ 1) : Rw T (j + 1) g0 gs := by
  refine ⟨R.ne, Nat.le_trans R.len (Nat.pow_le_pow_right (by decide) (by omega)), fun g hg i hi hT => ?_, R.old, fun g hg i hi hT => R.rest g hg i (by omega) hT, fun e e1 e2 => ?_⟩
  · by_cases c : i = j
    · subst c; rw [R.rest g hg i (Nat.le_refl _) hT]; exact h2
    · exact R.kn g hg i (by omega) hT
  · obtain ⟨g, hg, h⟩ := R.all e e1 e2
    refine ⟨g, hg, fun i hi hT => ?_⟩
    by_cases c : i = j
    · subst c; rw [R.rest g hg i (Nat.le_refl _) hT, e2 i hT (by omega)]
    · exact h i (by omega) hT
theorem Rw.two {T j : Nat} {g0 : Nat → Nat} {gs : List (Nat → Nat)} (R : Rw T j g0 gs) (hj : j < T) (h2 : g0 j = 2) : Rw T (j + 1) g0 (gs.map (fun g => ud g j 0) ++ gs.map (fun g => ud g j 1)) := by
  have mem : ∀ g, g ∈ gs.map (fun g => ud g j 0) ++ gs.map (fun g => ud g j 1) → ∃ g' ∈ gs, ∃ x, x ≤ 1 ∧ g = ud g' j x := fun g hg => by
    rcases List.mem_append.mp hg with hg | hg
    · obtain ⟨g', h1, h2⟩ := List.mem_map.mp hg; exact ⟨g', h1, 0, by decide, h2.symm⟩
    · obtain ⟨g', h1, h2⟩ := List.mem_map.mp hg; exact ⟨g', h1, 1, by decide, h2.symm⟩
  refine ⟨fun e => ?_, ?_, fun g hg i hi hT => ?_, fun g hg i hT h => ?_, fun g hg i hi hT => ?_, fun e e1 e2 => ?_⟩
  · have := R.ne
    cases gs with
    | nil => exact this rfl
    | cons a r => simp at e
  · have := R.len
    simp only [List.length_append, List.length_map]
    rw [Nat.pow_succ]; omega
  · obtain ⟨g', h1, x, hx, rfl⟩ := mem g hg
    unfold ud
    split
    · exact hx
    · exact R.kn g' h1 i (by omega) hT
  · obtain ⟨g', h1, x, hx, rfl⟩ := mem g hg
    unfold ud
    rw [if_neg (by intro z; rw [z] at h; exact h h2)]
    exact R.old g' h1 i hT h
  · obtain ⟨g', h1, x, hx, rfl⟩ := mem g hg
    unfold ud
    rw [if_neg (by omega)]
    exact R.rest g' h1 i (by omega) hT
  · obtain ⟨g, hg, h⟩ := R.all e e1 e2
    refine ⟨ud g j (e j), ?_, fun i hi hT => ?_⟩
    · have := e1 j hj
      have z : e j = 0 ∨ e j = 1 := by omega
      rcases z with z | z
      · rw [z]; exact List.mem_append_left _ (List.mem_map.mpr ⟨g, hg, rfl⟩)
      · rw [z]; exact List.mem_append_right _ (List.mem_map.mpr ⟨g, hg, rfl⟩)
    · unfold ud
      by_cases c : i = j
      · rw [if_pos c, c]
      · rw [if_neg c]; exact h i (by omega) hT
section
variable {G : Env'}
theorem b__law_fillings : Pf G cc__law_fillings.N ir__law_fillings con__law_fillings := by
  rintro ds A E Q ⟨N, p, h, rfl, sm, okp, okh, q⟩
  have hsw := sm.sw; have hfs := sm.fs; have hts := sm.ts
  have hnn : N.nN = N.fs.length + N.ts.length := rfl
  obtain ⟨T, hT⟩ : ∃ T, T = N.sw.length + N.nN := ⟨_, rfl⟩
  let g0 : Nat → Nat := fun i => if i < N.sw.length then p i else h (i - N.sw.length)
  have hg0 : posL N p ++ heldL N h = rl T fun i => .int (g0 i : Int) := by
    unfold posL heldL
    rw [rl_app, hT]
    refine rl_congr fun i hi => ?_
    show _ = D.int ((if i < N.sw.length then p i else h (i - N.sw.length) : Nat) : Int)
    split <;> rfl
  have g02 : ∀ i, i < T → g0 i ≤ 2 := fun i hi => by
    show (if i < N.sw.length then p i else h (i - N.sw.length)) ≤ 2
    split
    · exact okp.le i (by omega)
    · exact okh.le _ (by omega)
  have gp : ∀ s, s < N.sw.length → g0 s = p s := fun s hs => if_pos hs
  have gh : ∀ v, g0 (N.sw.length + v) = h v := fun v => by
    show (if N.sw.length + v < N.sw.length then p _ else h (N.sw.length + v - N.sw.length)) = _
    rw [if_neg (by omega), Nat.add_sub_cancel_left]
  clear_value g0
  let rD : (Nat → Nat) → D := fun g => .ls (rl T fun i => .int (g i : Int))
  refine w_post (fun ρ' B => B = A ∧ ρ' = [some (.tup (posL N p)), some (.tup (heldL N h)), some (.ls ([g0].map rD)), none, none, none]) (fun K hK => ?_) ?_
  · conv => whnf
    refine .inl ?_
    conv => whnf
    refine .inl ?_
    conv => whnf
    refine ⟨szN (by simp [posL, heldL]; omega), .inl ?_⟩
    rw [hg0]
    conv => whnf
    refine ⟨sz1, .inl ?_⟩
    exact hK _ _ ⟨rfl, rfl⟩
  rintro ρ' B ⟨rfl, rfl⟩
  have T17 : T ≤ 19 := by omega
  have p17 : ∀ j, j ≤ 19 → 2 ^ j ≤ 524288 := fun j hj => Nat.le_trans (Nat.pow_le_pow_right (by decide) hj) (by decide)
  have sl24 : ∀ {n : Nat}, n ≤ 1048576 → n < PySem.sizeLine := fun {n} hn => by rw [PySem.sizeLine_eq]; omega
  -- a row, a value put at one place
  have row1 : ∀ (gs : List (Nat → Nat)) (j x : Nat) (B : Ht) (ρ : Rho) (e : Ie) (K : List D → Ht → Prop), gs.length ≤ 524288 → j < T → (∀ (B : Ht) (X Q : D → Ht → Prop) (g : Nat → Nat), Q (.ls [.int (x : Int)]) B → wE G e (List.set (wipeD ρ [5]) 5 (some (rD g))) B X Q) → ρ[3]? = some (some (.int (j : Int))) → ρ.length = 6 → K (gs.map fun g => rD (ud g j x)) B →
      compD (fun _ => True) (fun d A2 k => match bindT (.name 5) d (wipeD ρ [5]) with
        | some ρ2 => wTo G .no ρ2 A2 (fun _ _ => False) fun c A3 => if c = true then wE G (.bin .Add (.bin .Add (.sl (.var 5) .no (.so (.var 3))) e) (.sl (.var 5) (.so (.bin .Add (.var 3) (.cst (.int 1)))) .no)) ρ2 A3 (fun _ _ => False) fun y A4 => k (some y) A4 else k none A3
        | none => False) K (gs.map rD) [] B := by
    intro gs j x B ρ e K hl hj he h3 hρ hK
    refine comp_m gs rD (fun g => rD (ud g j x)) rfl True.intro (Nat.le_of_lt (sl24 (by omega))) (fun g hg k hk => ?_) hK
    have hr3 : (List.set (wipeD ρ [5]) 5 (some (rD g)))[3]? = some (some (.int (j : Int))) := by
      rw [List.getElem?_set_ne (by decide)]
      show (ρ.set 5 none)[3]? = _
      rw [List.getElem?_set_ne (by decide)]; exact h3
    have hr5 : (List.set (wipeD ρ [5]) 5 (some (rD g)))[5]? = some (some (rD g)) := by
      rw [List.getElem?_set_self (by show 5 < (ρ.set 5 none).length; rw [List.length_set]; omega)]
    conv => whnf
    rw [hr5]
    conv => whnf
    rw [hr3]
    conv => whnf
    rw [cut_to' (n := j) rfl]
    refine .inl ?_
    refine he _ _ _ g ?_
    conv => whnf
    refine ⟨Nat.le_of_lt (sl24 (by simp; omega)), .inl ?_⟩
    conv => whnf
    rw [hr5]
    conv => whnf
    rw [hr3]
    conv => whnf
    rw [cut_fr (n := j + 1) (by simp)]
    refine .inl ?_
    conv => whnf
    refine ⟨Nat.le_of_lt (sl24 (by simp; omega)), .inl ?_⟩
    rw [rl_ud hj]
    exact hk
  refine w_post (fun ρ' B' => ∃ gs x3 x4, Rw T T g0 gs ∧ B' = B ∧ ρ' = [some (.tup (posL N p)), some (.tup (heldL N h)), some (.ls (gs.map rD)), x3, x4, none]) (fun K hK => ?_) ?_
  · conv => whnf
    rw [rl_len, Int.toNat_natCast]
    refine ⟨by omega, by omega, ?_⟩
    refine loop_i (List.range T) (fun (i : Nat) => D.int (i : Int)) (fun j ρ' B' => ∃ gs x3 x4, Rw T j g0 gs ∧ B' = B ∧ ρ' = [some (.tup (posL N p)), some (.tup (heldL N h)), some (.ls (gs.map rD)), x3, x4, none]) (rng_nat _) ⟨[g0], none, none, ⟨by simp, by simp, fun _ _ i hi => by omega, fun g hg i _ _ => by rw [List.mem_singleton.mp hg], fun g hg i _ _ => by rw [List.mem_singleton.mp hg], fun e _ _ => ⟨g0, by simp, fun i hi => by omega⟩⟩, rfl, rfl⟩ (fun _ _ _ _ => True.intro) ?_ ?_
    · rintro j hj ρ B' k0 ⟨gs, x3, x4, R, rfl, rfl⟩ hk0
      have hj2 : j < T := by simpa using hj
      rw [List.getElem_range]
      have gl : gs.length ≤ 524288 := Nat.le_trans R.len (p17 j (by omega))
      refine tg1 ?_
      obtain ⟨g1, gr, eg⟩ : ∃ g1 gr, gs = g1 :: gr := by
        have := R.ne
        cases gs with
        | nil => exact (this rfl).elim
        | cons a r => exact ⟨a, r, rfl⟩
      have hd : g1 j = g0 j := R.rest g1 (by rw [eg]; simp) j (Nat.le_refl _) hj2
      have ix0 : L2.atI (gs.map rD) 0 = some (rD g1) := by rw [eg]; exact L2.atI_nat (j := 0) rfl
      conv => whnf
      rw [ix0]
      conv => whnf
      rw [show L2.atI (rl T fun i => D.int (g1 i : Int)) (j : Int) = some (.int (g1 j : Int)) from L2.atI_nat (rl_get hj2)]
      conv => whnf
      by_cases c : g0 j = 2
      · rw [decide_eq_true (by omega : (g1 j : Int) = 2)]
        refine w_post (fun ρ' B => B = B' ∧ ρ' = [some (.tup (posL N p)), some (.tup (heldL N h)), some (.ls (gs.map rD)), some (.int (j : Int)), some (.ls (gs.map fun g => rD (ud g j 0))), none]) (fun K2 hK2 => ?_) ?_
        · refine row1 gs j 0 B' [some (.tup (posL N p)), some (.tup (heldL N h)), some (.ls (gs.map rD)), some (.int (j : Int)), x4, none] (.lst (.cons (.cst (.int 0)) .nil)) _ gl hj2 (fun B X Q g h => ⟨sz1, .inl h⟩) rfl rfl ?_
          exact .inl (hK2 _ _ ⟨rfl, rfl⟩)
        rintro ρ' B ⟨rfl, rfl⟩
        conv => whnf
        refine row1 gs j 1 B [some (.tup (posL N p)), some (.tup (heldL N h)), some (.ls (gs.map rD)), some (.int (j : Int)), some (.ls (gs.map fun g => rD (ud g j 0))), none] (.lst (.cons (.cst (.int 1)) .nil)) _ gl hj2 (fun B X Q g h => ⟨sz1, .inl h⟩) rfl rfl ?_
        refine .inl ?_
        conv => whnf
        refine ⟨Nat.le_of_lt (sl24 (by simp; omega)), .inl ?_⟩
        refine hk0 _ _ ⟨gs.map (fun g => ud g j 0) ++ gs.map (fun g => ud g j 1), some (.int (j : Int)), some (.ls (gs.map fun g => rD (ud g j 0))), R.two hj2 c, rfl, ?_⟩
        rw [List.map_append, List.map_map, List.map_map]
        rfl
      · rw [decide_eq_false (by omega : ¬ (g1 j : Int) = 2)]
        have := g02 j hj2
        exact hk0 _ _ ⟨gs, _, _, R.keep hj2 (by omega), rfl, rfl⟩
    · rintro ρ B' ⟨gs, x3, x4, R, rfl, rfl⟩
      rw [List.length_range] at R
      exact hK _ _ ⟨gs, _, _, R, rfl, rfl⟩
  rintro ρ' B' ⟨gs, x3, x4, R, rfl, rfl⟩
  have gl : gs.length ≤ 524288 := Nat.le_trans R.len (p17 T (by omega))
  let ph : (Nat → Nat) → PH := fun g => (g, fun v => g (N.sw.length + v))
  conv => whnf
  refine comp_m gs rD (fun g => fD N (ph g)) rfl True.intro (Nat.le_of_lt (sl24 (by omega))) (fun g hg k hk => ?_) ?_
  · conv => whnf
    rw [show ((posL N p).length : Int) = (N.sw.length : Int) by simp [posL], cut_to' (n := N.sw.length) rfl, rl_take (by omega)]
    refine .inl ?_
    conv => whnf
    rw [show ((posL N p).length : Int) = (N.sw.length : Int) by simp [posL], cut_fr (n := N.sw.length) rfl, hT, rl_drop]
    refine .inl ?_
    conv => whnf
    exact ⟨sz2, hk⟩
  · refine .inl ?_
    have hq := q (gs.map ph) ⟨by simpa using R.ne, by simpa using gl, fun x hx => ?_, fun p2 h2 F => ?_⟩
    · rw [List.map_map] at hq
      exact .inl hq
    · obtain ⟨g, hg, rfl⟩ := List.mem_map.mp hx
      refine ⟨⟨fun s hs c => ?_, fun v hv c => ?_⟩, ⟨fun s hs => R.kn g hg s (by omega) (by omega), fun v hv => R.kn g hg _ (by omega) (by omega)⟩⟩
      · show g s = p s
        rw [R.old g hg s (by omega) (by rw [gp s hs]; omega), gp s hs]
      · show g (N.sw.length + v) = h v
        rw [R.old g hg _ (by omega) (by rw [gh v]; omega), gh v]
    · obtain ⟨g, hg, e⟩ := R.all (fun i => if i < N.sw.length then p2 i else h2 (i - N.sw.length)) (fun i hi => by
        split
        · exact F.kn.p i (by omega)
        · exact F.kn.h _ (by omega)) fun i hi h2' => by
        by_cases c : i < N.sw.length
        · rw [if_pos c, gp i c]
          have := okp.le i c
          rw [gp i c] at h2'
          exact F.more.p i c (by omega)
        · obtain ⟨v, rfl⟩ : ∃ v, i = N.sw.length + v := ⟨i - N.sw.length, by omega⟩
          rw [if_neg c, gh v, Nat.add_sub_cancel_left]
          rw [gh v] at h2'
          have := okh.le v (by omega)
          exact F.more.h v (by omega) (by omega)
      refine ⟨ph g, List.mem_map.mpr ⟨g, hg, rfl⟩, fun s hs => ?_, fun v hv => ?_⟩
      · have := e s (by omega) (by omega)
        rw [if_pos hs] at this
        exact this
      · have := e (N.sw.length + v) (by omega) (by omega)
        rw [if_neg (by omega), Nat.add_sub_cancel_left] at this
        exact this
theorem b__law_told (g : G.con "_law_fillings" = con__law_fillings) (g2 : G.con "_law_settled" = con__law_settled) : Pf G cc__law_told.N ir__law_told con__law_told := by
  rintro ds A E Q ⟨N, p, h, rfl, sm, okp, okh, q⟩
  have hfs := sm.fs; have hts := sm.ts
  have hnn : N.nN = N.fs.length + N.ts.length := rfl
  refine w_post (fun ρ' B => B = A ∧ ρ' = [some N.d, some (.tup (posL N p)), some (.tup (heldL N h)), some .non, none, none, none, none]) (fun K hK => hK _ _ ⟨rfl, rfl⟩) ?_
  rintro ρ' B ⟨rfl, rfl⟩
  refine w_post (fun ρ' B' => ∃ x4 x5 x6 x7, B' = B ∧ ρ' = [some N.d, some (.tup (posL N p)), some (.tup (heldL N h)), some (.ls (rl N.nN fun u => .int (rspN N p h u : Int))), x4, x5, x6, x7]) (fun K hK => ?_) ?_
  · conv => whnf
    refine use g ⟨N, p, h, rfl, sm, okp, okh, fun fs al => ?_⟩
    conv => whnf
    refine loop_i fs (fD N) (fun i ρ' B' => ∃ (td : Nat → Nat) (x4 x5 x6 x7 : Option D), (0 < i → ∀ u, u < N.nN → td u ≤ 2 ∧ ∀ w, w ≤ 1 → (inc (td u) w ↔ ∃ q ∈ fs.take i, inc (rspN N q.1 q.2 u) w)) ∧ B' = B ∧ ρ' = [some N.d, some (.tup (posL N p)), some (.tup (heldL N h)), some (if i = 0 then .non else .ls (rl N.nN fun u => .int (td u : Int))), x4, x5, x6, x7]) rfl ⟨fun _ => 0, none, none, none, none, fun z => by omega, rfl, rfl⟩ (fun _ _ _ _ => True.intro) ?_ ?_
    · rintro i hi ρ B' k0 ⟨td, x4, x5, x6, x7, htd, rfl, rfl⟩ hk0
      have F := al.fil _ (List.getElem_mem hi)
      have tk := List.take_succ_eq_append_getElem hi
      rw [tk] at hk0
      generalize fs[i] = q1 at F tk hk0 ⊢
      have rle : ∀ u, u < N.nN → rspN N q1.1 q1.2 u ≤ 2 := fun u hu => rsp_le sm.ok (F.okH sm.ok okh) hu
      refine tg2 ?_
      refine w_post (fun ρ' B => B = B' ∧ ρ' = [some N.d, some (.tup (posL N p)), some (.tup (heldL N h)), some (if i = 0 then .non else .ls (rl N.nN fun u => .int (td u : Int))), some (.ls (posL N q1.1)), some (.ls (heldL N q1.2)), some (.ls (rl N.nN fun u => .int (rspN N q1.1 q1.2 u : Int))), x7]) (fun K2 hK2 => ?_) ?_
      · exact use g2 ⟨N, q1.1, q1.2, rfl, sm, F.okP okp, F.okH sm.ok okh, F.kn, hK2 _ _ ⟨rfl, rfl⟩⟩
      rintro ρ' B ⟨rfl, rfl⟩
      refine w_post (fun ρ' B' => ∃ td : Nat → Nat, (∀ u, u < N.nN → td u ≤ 2 ∧ ∀ w, w ≤ 1 → (inc (if rspN N q1.1 q1.2 u = td u then rspN N q1.1 q1.2 u else 2) w ↔ ∃ q ∈ fs.take i ++ [q1], inc (rspN N q.1 q.2 u) w)) ∧ B' = B ∧ ρ' = [some N.d, some (.tup (posL N p)), some (.tup (heldL N h)), some (.ls (rl N.nN fun u => .int (td u : Int))), some (.ls (posL N q1.1)), some (.ls (heldL N q1.2)), some (.ls (rl N.nN fun u => .int (rspN N q1.1 q1.2 u : Int))), x7]) (fun K2 hK2 => ?_) ?_
      · by_cases c : i = 0
        · subst c
          refine hK2 _ _ ⟨rspN N q1.1 q1.2, fun u hu => ⟨rle u hu, fun w hw => ?_⟩, rfl, rfl⟩
          rw [if_pos rfl]
          simp
        · rw [if_neg c]
          refine hK2 _ _ ⟨td, fun u hu => ⟨(htd (by omega) u hu).1, fun w hw => ?_⟩, rfl, rfl⟩
          have hh := htd (by omega) u hu
          rw [inc_jn (rle u hu) hh.1 hw, hh.2 w hw]
          constructor
          · rintro (z | ⟨q, z1, z2⟩)
            · exact ⟨q1, by simp, z⟩
            · exact ⟨q, List.mem_append_left _ z1, z2⟩
          · rintro ⟨q, z1, z2⟩
            rcases List.mem_append.mp z1 with z1 | z1
            · exact .inr ⟨q, z1, z2⟩
            · rw [List.mem_singleton.mp z1] at z2; exact .inl z2
      clear htd td
      rintro ρ' B' ⟨td, htd, rfl, rfl⟩
      conv => whnf
      rw [rl_len, Int.toNat_natCast, rng_nat]
      refine ⟨by omega, by omega, ?_⟩
      refine comp_m (List.range N.nN) (fun (u : Nat) => D.int (u : Int)) (fun u => D.int ((if rspN N q1.1 q1.2 u = td u then rspN N q1.1 q1.2 u else 2 : Nat) : Int)) rfl True.intro (szN (by simp; omega)) (fun u hu k hk => ?_) ?_
      · have hu2 := List.mem_range.mp hu
        have a1 : L2.atI (rl N.nN fun u => D.int (rspN N q1.1 q1.2 u : Int)) (u : Int) = some (.int (rspN N q1.1 q1.2 u : Int)) := L2.atI_nat (rl_get hu2)
        have a2 : L2.atI (rl N.nN fun u => D.int (td u : Int)) (u : Int) = some (.int (td u : Int)) := L2.atI_nat (rl_get hu2)
        conv => whnf
        rw [a1]
        conv => whnf
        rw [a2]
        conv => whnf
        by_cases c : rspN N q1.1 q1.2 u = td u
        · rw [decide_eq_true (by omega : (rspN N q1.1 q1.2 u : Int) = (td u : Int))]
          conv => whnf
          rw [a1]
          rw [if_pos c] at hk
          exact hk
        · rw [decide_eq_false (by omega : ¬ (rspN N q1.1 q1.2 u : Int) = (td u : Int))]
          rw [if_neg c] at hk
          exact hk
      · refine nl_v (hk0 _ _ ⟨fun u => if rspN N q1.1 q1.2 u = td u then rspN N q1.1 q1.2 u else 2, some (.ls (posL N q1.1)), some (.ls (heldL N q1.2)), some (.ls (rl N.nN fun u => .int (rspN N q1.1 q1.2 u : Int))), x7, fun _ u hu => ⟨?_, (htd u hu).2⟩, rfl, ?_⟩)
        · have := rle u hu
          dsimp only
          split <;> omega
        · rw [if_neg (by omega)]; rfl
    · rintro ρ B' ⟨td, x4, x5, x6, x7, htd, rfl, rfl⟩
      have l0 : 0 < fs.length := List.length_pos_iff.mpr al.ne
      rw [List.take_length] at htd
      refine hK _ _ ⟨x4, x5, x6, x7, rfl, ?_⟩
      rw [if_neg (by omega)]
      rw [show (rl N.nN fun u => D.int (td u : Int)) = rl N.nN fun u => D.int (rspN N p h u : Int) from rl_congr fun u hu => by
        have hh := htd l0 u hu
        have e : td u = rspN N p h u := inc_ext hh.1 (rsp_le sm.ok okh hu) fun w hw => by
          rw [hh.2 w hw, inc_fill sm.ok okp okh hw hu]
          constructor
          · rintro ⟨q, z1, z2⟩
            exact ⟨q.1, q.2, al.fil q z1, z2⟩
          · rintro ⟨p2, h2, F, z⟩
            obtain ⟨q, z1, z2, z3⟩ := al.all p2 h2 F
            exact ⟨q, z1, by rw [rsp_congr sm.ok z2 z3 hu]; exact z⟩
        rw [e]]
  rintro ρ' B' ⟨x4, x5, x6, x7, rfl, rfl⟩
  exact .inl q
theorem b__law_is_number : Pf G cc__law_is_number.N ir__law_is_number con__law_is_number := by
  rintro ds A E Q ⟨i, rfl, q⟩
  walk_at "px"
  exact .inl q
theorem b__law_same_values (g : G.con "_law_is_number" = con__law_is_number) : Pf G cc__law_same_values.N ir__law_same_values con__law_same_values := by
  rintro ds A E Q ⟨n, f, rfl, hn, q⟩
  have at1 : ∀ u, u < n → L2.atI (rl n fun u => D.int (f u : Int)) (u : Int) = some (.int (f u : Int)) := fun u hu => L2.atI_nat (rl_get hu)
  refine w_if false (fun K hK => ?_) (fun z => by cases z) (fun _ => ?_)
  · conv => whnf
    rw [rl_len, decide_eq_true rfl]
    exact hK
  conv => whnf
  rw [rl_len, Int.toNat_natCast]
  refine ⟨by omega, by omega, ?_⟩
  refine loop_i (List.range n) (fun (i : Nat) => D.int (i : Int)) (fun i ρ B => B = A ∧ ∃ x2, ρ = [some (.tup (rl n fun u => .int (f u : Int))), some (.ls (rl n fun u => .int (f u : Int))), x2]) (rng_nat _) ⟨rfl, _, rfl⟩ (fun _ _ _ _ => True.intro) ?_ ?_
  · rintro i hi ρ B k ⟨rfl, x2, rfl⟩ hk
    have hi2 : i < n := by simpa using hi
    rw [List.getElem_range]
    refine tg1 ?_
    refine w_if false (fun K hK => ?_) (fun z => by cases z) (fun _ => hk _ _ ⟨rfl, _, rfl⟩)
    conv => whnf
    rw [at1 i hi2]
    conv => whnf
    refine use g ⟨_, rfl, ?_⟩
    conv => whnf
    rw [at1 i hi2]
    conv => whnf
    rw [at1 i hi2]
    conv => whnf
    rw [decide_eq_true rfl]
    exact hK
  · rintro ρ B ⟨rfl, x2, rfl⟩
    exact .inl q
end
end K02
end TextK02g

section TextK02h
set_option autoImplicit false
set_option maxRecDepth 100000
set_option maxHeartbeats 4000000
/-! K02h: the law. -/
namespace K02
open PySem Px Fl Nt Lw Tp
local macro_rules | `(tactic| walk_at "px") => `(tactic| ((conv => whnf); repeat ((refine And.intro (by first | exact True.intro | exact Px.sz2 | exact Px.sz3 | exact Px.sz1 | exact Px.sz0 | exact Px.sz4 | exact Px.sz5 | exact Px.sz6 | exact Px.sz7 | exact Px.sz8 | exact Px.sz9 | decide) ?_); (conv => whnf))))
def con_law : Con := fun ds A E Q => ∃ ns : List Int, ds = [.rol (iL ns)] ∧ ns.length ≤ 63 ∧ ∀ A', Q (.bl true) A'
section
variable {G : Env'}
theorem b_law (g0 : G.con "_law_tape" = con__law_tape) (g1 : G.con "_law_net" = con__law_net) (g2 : G.con "_law_question" = con__law_question) (g3 : G.con "_law_told" = con__law_told) (g4 : G.con "response" = con_response) (g5 : G.con "_law_same_values" = con__law_same_values) (g6 : G.con "_law_fillings" = con__law_fillings) (g7 : G.con "_law_settled" = con__law_settled) (g8 : G.con "may" = con_may) (g9 : G.con "_law_is_number" = con__law_is_number) : Pf G cc_law.N ir_law con_law := by
  rintro ds A E Q ⟨ns, rfl, hl, q⟩
  refine use g0 ⟨ns, rfl, hl, fun o x hx hc => ?_⟩
  have at1 : ∀ {x : O}, (A ++ [o, x])[A.length + 1]? = some x := fun {x} => by rw [List.getElem?_append_right (by omega)]; simp
  have at0 : ∀ {x : O}, (A ++ [o, x])[A.length]? = some o := fun {x} => by rw [List.getElem?_append_right (by omega)]; simp
  have st1 : ∀ {x y : O}, (A ++ [o, x]).set (A.length + 1) y = A ++ [o, y] := fun {x y} => by rw [List.set_append_right _ _ (by omega)]; simp
  have T : ∀ {x : O}, Tb (A ++ [o, x]) (A.length + 1) A.length := fun {x} => ⟨by omega, by simp, by
    obtain ⟨cells, rfl, h⟩ := hc
    exact ⟨cells, at0, h⟩⟩
  refine use g1 ⟨_, _, x, rfl, at1, hx, T, fun x N hx sm => ?_⟩
  rw [st1]
  refine use g2 ⟨_, _, x, N, rfl, at1, hx, T, sm, fun x p h hx okp okh => ?_⟩
  rw [st1]
  generalize A ++ [o, x] = B
  have hfs := sm.fs; have hts := sm.ts
  have hnn : N.nN = N.fs.length + N.ts.length := rfl
  have ok := sm.ok
  conv => whnf
  refine use g3 ⟨N, p, h, rfl, sm, okp, okh, ?_⟩
  have resp : ∀ (p h : Nat → Nat) (E' Q' : D → Ht → Prop), okP N p → okH N h → Q' (.tup (rl N.nN fun u => .int (rspN N p h u : Int))) B → con_response [N.d, .tup (posL N p), .tup (heldL N h)] B E' Q' := fun p h E' Q' okp okh hq => resp_use ok okp okh fun f rb z o a az ao => by
    rw [show (rl N.nN fun v => D.int (respN N h z o v : Int)) = rl N.nN fun u => .int (rspN N p h u : Int) from rl_congr fun v hv => by rw [rsp_of ok a.flo az ao]]
    exact hq
  refine w_if false (fun K hK => ?_) (fun z => by cases z) (fun _ => ?_)
  · conv => whnf
    refine use g4 (resp p h _ _ okp okh ?_)
    conv => whnf
    exact use g5 ⟨N.nN, rspN N p h, rfl, by omega, hK⟩
  have tdE : ∀ u, u < N.nN → L2.atI (rl N.nN fun u => D.int (rspN N p h u : Int)) (u : Int) = some (.int (rspN N p h u : Int)) := fun u hu => L2.atI_nat (rl_get hu)
  refine w_post (fun ρ' B' => ∃ x6 x7 x8, B' = B ∧ ρ' = [some (.rol (iL ns)), some (.obj (A.length + 1)), some N.d, some (.tup (posL N p)), some (.tup (heldL N h)), some (.ls (rl N.nN fun u => .int (rspN N p h u : Int))), x6, x7, x8, none, none, none]) (fun K hK => ?_) ?_
  · conv => whnf
    refine use g6 ⟨N, p, h, rfl, sm, okp, okh, fun fs al => ?_⟩
    conv => whnf
    refine loop_i fs (fD N) (fun _ ρ' B' => ∃ x6 x7 x8, B' = B ∧ ρ' = [some (.rol (iL ns)), some (.obj (A.length + 1)), some N.d, some (.tup (posL N p)), some (.tup (heldL N h)), some (.ls (rl N.nN fun u => .int (rspN N p h u : Int))), x6, x7, x8, none, none, none]) rfl ⟨_, _, _, rfl, rfl⟩ (fun _ _ _ _ => True.intro) ?_ ?_
    · rintro i hi ρ B' k ⟨x6, x7, x8, rfl, rfl⟩ hk
      have F := al.fil _ (List.getElem_mem hi)
      generalize fs[i] = q1 at F ⊢
      refine tg2 ?_
      refine use g7 ⟨N, q1.1, q1.2, rfl, sm, F.okP okp, F.okH ok okh, F.kn, ?_⟩
      refine w_if false (fun K2 hK2 => ?_) (fun z => by cases z) (fun _ => hk _ _ ⟨_, _, _, rfl, rfl⟩)
      conv => whnf
      refine use g4 (resp q1.1 q1.2 _ _ (F.okP okp) (F.okH ok okh) ?_)
      conv => whnf
      exact use g5 ⟨N.nN, rspN N q1.1 q1.2, rfl, by omega, hK2⟩
    · rintro ρ B' ⟨x6, x7, x8, rfl, rfl⟩
      exact hK _ _ ⟨_, _, _, rfl, rfl⟩
  rintro ρ' B' ⟨x6, x7, x8, rfl, rfl⟩
  refine w_post (fun ρ' B => ∃ x9 x10 x11, B = B' ∧ ρ' = [some (.rol (iL ns)), some (.obj (A.length + 1)), some N.d, some (.tup (posL N p)), some (.tup (heldL N h)), some (.ls (rl N.nN fun u => .int (rspN N p h u : Int))), x6, x7, x8, x9, x10, x11]) (fun K hK => ?_) ?_
  · conv => whnf
    refine ⟨by decide, by decide, ?_⟩
    refine loop_i (List.range 2) (fun (i : Nat) => D.int (i : Int)) (fun _ ρ' B => ∃ x9 x10 x11, B = B' ∧ ρ' = [some (.rol (iL ns)), some (.obj (A.length + 1)), some N.d, some (.tup (posL N p)), some (.tup (heldL N h)), some (.ls (rl N.nN fun u => .int (rspN N p h u : Int))), x6, x7, x8, x9, x10, x11]) (rng_nat 2) ⟨_, _, _, rfl, rfl⟩ (fun _ _ _ _ => True.intro) ?_ ?_
    · rintro w hw ρ B k ⟨x9, x10, x11, rfl, rfl⟩ hk
      have hw1 : w ≤ 1 := by have : w < 2 := by simpa using hw
                             omega
      rw [List.getElem_range]
      refine tg1 ?_
      refine use g8 (may_use ok okp okh hw1 fun f rb m a hm => ?_)
      have mi : ∀ u, u < N.nN → N.fs.length ≤ u → (inc (rspN N p h u) w ↔ m u ≠ 0) := fun u hu hF => inc_rsp ok okp okh a.flo hw1 hm hu hF
      have mE : ∀ u, u < N.nN → L2.atI (rl N.nN fun v => D.int (m v : Int)) (u : Int) = some (.int (m u : Int)) := fun u hu => L2.atI_nat (rl_get hu)
      refine w_if false (fun K2 hK2 => ?_) (fun z => by cases z) (fun _ => ?_)
      · conv => whnf
        rw [rl_len, rl_len, decide_eq_true rfl]
        exact hK2
      conv => whnf
      rw [fD_i, rl_len, show (N.nN : Int) - (N.fs.length : Int) = (N.ts.length : Int) by omega, Int.toNat_natCast, rng_map']
      refine ⟨⟨by omega, by omega, by omega, by omega⟩, ?_⟩
      refine loop_i (List.range N.ts.length) (fun (j : Nat) => D.int ((N.fs.length + j : Nat) : Int)) (fun _ ρ' B' => ∃ x11, B' = B ∧ ρ' = [some (.rol (iL ns)), some (.obj (A.length + 1)), some N.d, some (.tup (posL N p)), some (.tup (heldL N h)), some (.ls (rl N.nN fun u => .int (rspN N p h u : Int))), x6, x7, x8, some (.int (w : Int)), some (.tup (rl N.nN fun v => .int (m v : Int))), x11]) rfl ⟨_, rfl, rfl⟩ (fun _ _ _ _ => True.intro) ?_ ?_
      · rintro j hj ρ B' k2 ⟨x11, rfl, rfl⟩ hk2
        have hj2 : j < N.ts.length := by simpa using hj
        rw [List.getElem_range]
        have hu : N.fs.length + j < N.nN := by omega
        have mu := mi _ hu (by omega)
        have rle := rsp_le (p := p) ok okh hu
        refine tg1 ?_
        refine w_if false (fun K2 hK2 => ?_) (fun z => by cases z) (fun _ => ?_)
        · conv => whnf
          rw [mE _ hu]
          conv => whnf
          exact use g9 ⟨_, rfl, hK2⟩
        refine w_if false (fun K2 hK2 => ?_) (fun z => by cases z) (fun _ => hk2 _ _ ⟨_, rfl, rfl⟩)
        conv => whnf
        rw [mE _ hu]
        conv => whnf
        rw [tdE _ hu]
        conv => whnf
        have e : (m (N.fs.length + j) = 0) ↔ ((rspN N p h (N.fs.length + j) : Int) = 1 - (w : Int)) := by
          unfold inc at mu
          omega
        by_cases c : m (N.fs.length + j) = 0
        · rw [decide_eq_true (by omega : (m (N.fs.length + j) : Int) = 0), decide_eq_true (e.mp c)]
          exact ⟨rfl, rfl, hK2⟩
        · rw [decide_eq_false (by omega : ¬ (m (N.fs.length + j) : Int) = 0), decide_eq_false (fun z => c (e.mpr z))]
          exact ⟨rfl, rfl, hK2⟩
      · rintro ρ B' ⟨x11, rfl, rfl⟩
        exact hk _ _ ⟨_, _, _, rfl, rfl⟩
    · rintro ρ B ⟨x9, x10, x11, rfl, rfl⟩
      exact hK _ _ ⟨_, _, _, rfl, rfl⟩
  rintro ρ' B ⟨x9, x10, x11, rfl, rfl⟩
  exact .inl (q _)
end
end K02
end TextK02h

section TextPx22g
set_option autoImplicit false
set_option maxRecDepth 100000
set_option maxHeartbeats 4000000
/-! Px22g: the law's own def, run where no repr is under way (retraces the library's rule for a def and its head of a law, with what is known of the guards kept). -/
namespace Px
open PySem PySem.Spec PyProof.Rows L2
/-- a def that keeps its promise where no repr is under way -/
structure FnG (P : Program) (w : World) (K : PySem.W.Frag) (mg : Str → Option Value) (base : Heap) (CX : CXT) (k : Nat) (f : Addr) (fd : FuncData) (ps : List Str) (sp : Sp) : Prop where
  run : ∀ (A : Around) (out : List Env) (s : Shared) (H : Hp) (args : Args) (us : List Value) (vs : List V) (Q : VK) (E : XK), A.guards = some [] → Room k A → Env0 P w K mg base A out s H → BindsTo s fd args (ps.zip us) → Vals vs us → sp vs H Q E →
    codeAny (model P w) A (.call (.ref f) args) (CR CX out P w H s Q E) s
theorem fnG_of {CX : CXT} {P : Program} {w : World} {K : PySem.W.Frag} {mg : Str → Option Value} {base : Heap} {k : Nat} {f : Addr} {name qual : Str} {params : Arguments} {body : List Stmt} {scope : Scope} {dV kV doc pm cdv ct oc : Value} {an od : Option Addr}
    {osl : Array (Option Value)} {N ps : List Str} {sp : Sp} (at_ : K.lookup f = some ⟨oc, od, .func (PySem.W.fnOf name qual params body scope dV kV doc pm an cdv ct), osl⟩) (code : PySem.W.codeIn K cdv qual = true) (S : FnScope N ps scope) (ln : ∀ vs H Q E, sp vs H Q E → vs.length = ps.length)
    (bd : ∀ (A : Around) (out : List Env) (s : Shared) (H : Hp) (vs : List V) (Q : VK) (E : XK), A.guards = some [] → Room k (A.deeper (envOfC qual scope s.heap.objs.size f cdv)) → sp vs H Q E → ∃ t, PSs (cxOf CX P w K mg base N qual scope f cdv A out s H E) body t ∧ t { nx := fun _ H' => Q .non H', rt := Q } (start N vs) H) :
    FnG P w K mg base CX (k + 1) f (PySem.W.fnOf name qual params body scope dV kV doc pm an cdv ct) ps sp := by
  refine ⟨fun A out s H args us vs Q E gd room env bnd rv hs => ?_⟩
  have there : ∀ b o, base.get? b = some o → s.heap.get? b = some o := fun b o e => (env.bs b o e).1
  have KX : K.In s.heap := env.mod.kin.keeps there
  have kinds : ∀ y ∈ ps.zip us, scope.names.lookup y.1 = some .local ∨ (scope.names.lookup y.1 = some .cell ∧ ((cellsFrom (s.heap.objs.size + 1) scope.names []).lookup y.1).isSome = true) := by
    rintro ⟨n, v⟩ hy
    exact (S.par n (List.of_mem_zip hy).1).imp id fun c => ⟨c, PySem.W.cellsFrom_some _ _ _ (.inl c)⟩
  refine codeAny_call_function room.depth (KX _ _ at_) rfl S.co S.gen rfl (PySem.W.codeRec_of KX code) (bnd _ _ _ _ ?_)
  refine wpAny_newFunctionEnv_cells S.kind kinds fun env1 e1 s1 x => ?_
  subst e1
  refine ⟨(env.mod.nolimit.keeps there).keeps x.toInCall.keep, codeAny_func ?_⟩
  obtain ⟨t, ht, hq⟩ := bd A out s H vs Q E gd (room.deeper _) hs
  have I := inv_start (CX := CX) (E := E) S room.hd env (ln _ _ _ _ hs) rv x
  refine wpAny_mono (ht.run [] s1 (start N vs) H _ I hq) (fun fl s' done => ?_) fun e s' z => z
  cases fl with
  | brk => exact done.elim fun _ z => z.elim fun _ z => z.2.elim
  | cont => exact done.elim fun _ z => z.elim fun _ z => z.2.elim
  | next =>
    obtain ⟨σ1, H1, J, z⟩ := done
    exact ⟨.non, H1, J.os, J.bare, J.base, J.hok, rfl, z⟩
  | ret u =>
    obtain ⟨v, σ1, H1, J, r1, z⟩ := done
    exact ⟨v, H1, J.os, J.bare, J.base, J.hok, r1, z⟩
/-- the script's object: a list of numbers, not written -/
def scrO (vs : List Value) : Obj := { cls := .type "list", data := .seq vs.toArray }
section
variable {P : Program} {w : World} {K : PySem.W.Frag} {mg mb : Str → Option Value} {CX : CXT} {k : Nat} {fa a : Addr} {fd : FuncData} {x : Str} {sp : Sp} {s1 : Shared} {vs : List Value} {ns : List Int}
theorem headG_at (KX : K.In s1.heap) (n1 : s1.heap.Ns mainGlobals mg) (n2 : s1.heap.Ns builtinsNs mb) (n3 : ∀ x : Str, x ≠ "__name__" → mb x = bootBuiltins x) (n4 : s1.heap.NoLimit) (g0 : s1.gens = #[]) (sa : s1.heap.get? a = some (scrO vs)) (room : Room k callerA)
    (F : ∀ base : Heap, K.In base → base.Ns mainGlobals mg → FnG P w K mg base CX k fa fd [x] sp) (bnd : ∀ (s : Shared) (u : Value), BindsTo s fd ⟨[u], []⟩ [(x, u)]) (cx : ∀ H e s', CX [] H s1 (fun _ _ _ => False) e s' → False)
    {H : Hp} (only : L2.Only H) (hs : sp [.ref a] H (fun v _ => v = .bl true) fun _ _ _ => False) (hok : HOk P w H s1.heap) (one : ∀ b, H b ≠ none → b = a) (own : H a ≠ none → K.lookup a = none) :
    codeAny (model P w) callerA (.call (.ref fa) ⟨[.ref a], []⟩) (fun r s' => r = .ok (.ret (.bool true)) ∧ OldK s1.heap s'.heap ∧ s'.os = s1.os ∧ AllBare s'.gens) s1 := by
  have dictN : ∀ {b : Addr} {o : Obj} {es : Array DictEntry} {ep : Nat}, s1.heap.get? b = some o → o.data = .dict es ep → H b = none := by
    intro b o es ep e d
    refine Classical.byContradiction fun c => ?_
    cases one b c
    rw [sa] at e
    cases e
    cases (show Data.seq vs.toArray _ = Data.dict es ep from d)
  have ns2 : ∀ {b : Addr} {m : Str → Option Value}, s1.heap.Ns b m → (hidT s1.heap H).Ns b m := by
    rintro b m ⟨o, es, ep, e, d, r⟩
    exact ⟨o, es, ep, hidT_get e (dictN e d), d, r⟩
  have KB : K.In (hidT s1.heap H) := by
    intro b o e
    refine hidT_get (KX b o e) (Classical.byContradiction fun c => ?_)
    have eb := one b c
    subst eb
    rw [own c] at e
    cases e
  obtain ⟨mc, l1, l2⟩ := n4
  have env : Env0 P w K mg (hidT s1.heap H) callerA [] s1 H :=
    { frames := rfl, mod := ⟨KB, ns2 n1, ⟨mb, ns2 n2, n3⟩, mc, ns2 l1, l2⟩, bs := fun _ _ e => of_hidT e, bsz := Nat.le_of_eq (hidT_size _ _), funs := trivial, frf := (fun b z => by cases (show b ∈ ([] : List Addr) from z)), hok := hok, bare := .of_eq g0 }
  refine codeAny_mono ((F _ KB (ns2 n1)).run callerA [] s1 H ⟨[.ref a], []⟩ [.ref a] [.ref a] _ _ rfl room env (bnd s1 (.ref a)) (.cons rfl .nil) hs) fun r s' done => ?_
  rcases r with e | fl
  · exact (cx H e s' done).elim
  rcases fl with _ | _ | _ | u
  · exact done.elim
  · exact done.elim
  · exact done.elim
  obtain ⟨v, H', os, bare, un, hok', r1, z⟩ := done
  cases (show v = .bl true from z)
  cases (show u = Value.bool true from r1)
  refine ⟨rfl, OldK.of_keep fun b o e => ?_, os, bare⟩
  rcases only b with q | ⟨ob, xs, q⟩
  · exact un.keep b o e q (fun z => by cases (show b ∈ ([] : List Addr) from z)) (by simp)
  · have f1 := (hok b _ q).1
    have f2 := (hok' b _ (un.frzs b ob _ q)).1
    rw [f1] at e
    cases e
    exact f2
theorem headG (KX : K.In s1.heap) (n1 : s1.heap.Ns mainGlobals mg) (n2 : s1.heap.Ns builtinsNs mb) (n3 : ∀ x : Str, x ≠ "__name__" → mb x = bootBuiltins x) (n4 : s1.heap.NoLimit) (g0 : s1.gens = #[]) (sa : s1.heap.get? a = some (scrO vs)) (hi : IntsAre vs ns) (hl : ns.length ≤ sizeLine) (room : Room k callerA)
    (F : ∀ base : Heap, K.In base → base.Ns mainGlobals mg → FnG P w K mg base CX k fa fd [x] sp) (bnd : ∀ (s : Shared) (u : Value), BindsTo s fd ⟨[u], []⟩ [(x, u)]) (hsp : ∀ H : Hp, L2.Only H → SqL K H a (ns.map V.int) → sp [.ref a] H (fun v _ => v = .bl true) fun _ _ _ => False) (cx : ∀ H e s', CX [] H s1 (fun _ _ _ => False) e s' → False) :
    codeAny (model P w) callerA (.call (.ref fa) ⟨[.ref a], []⟩) (fun r s' => r = .ok (.ret (.bool true)) ∧ OldK s1.heap s'.heap ∧ s'.os = s1.os ∧ AllBare s'.gens) s1 := by
  have rv := vals_ints hi
  cases kl : K.lookup a with
  | some o =>
    have e := KX a o kl
    rw [sa] at e
    cases e
    have nothing : L2.Only fun _ => none := fun _ => .inl rfl
    have sq : SqL K (fun _ => none) a (ns.map V.int) := .inr ⟨_, vs.toArray, _, kl, rfl, rfl, rfl, by simpa [hi.length] using hl, by simpa using rv⟩
    refine headG_at KX n1 n2 n3 n4 g0 sa room F bnd cx nothing (hsp _ nothing sq) (fun b u z => ?_) (fun b z => absurd rfl z) (fun z => absurd rfl z)
    cases (show (none : Option HO) = some u from z)
  | none =>
    let H : Hp := fun b => if b = a then some (.frz (scrO vs) (.lst (ns.map V.int))) else none
    have ha : H a = some (.frz (scrO vs) (.lst (ns.map V.int))) := if_pos rfl
    have hn : ∀ b, b ≠ a → H b = none := fun b h => if_neg h
    have only : L2.Only H := fun b => by
      by_cases h : b = a
      · subst h; exact .inr ⟨_, _, ha⟩
      · exact .inl (hn b h)
    refine headG_at KX n1 n2 n3 n4 g0 sa room F bnd cx only (hsp _ only (.inl (.inr ⟨_, ha⟩))) (fun b u z => ?_) (fun b z => Classical.byContradiction fun h => z (hn b h)) fun _ => kl
    by_cases h : b = a
    · subst h
      rw [ha] at z
      cases z
      exact ⟨sa, by rw [List.length_map]; exact hl, vs, _, rv, sa⟩
    · rw [hn b h] at z
      cases z
end
section
variable {P : Program} {w : World} {K : PySem.W.Frag} {mg : Str → Option Value} {base : Heap} {T : Tab} {G : Env'} {lv : Nat} {c : CC}
theorem fn_soundG {x qual : Str} {st : Stmt} {f : Addr} {fd : FuncData} {n : Nat} {ir : Iss} {ps : List Str} {con : Con} (F : Fun K x qual st f fd) (C : Callees P w K mg base T G lv c) (h2 : 2 ≤ lv) (hc : cSs c n (defBody st) = some ir) (hh : c.hot = false) (hx : c.exv = none) (hb : c.blk = none) (hsc : c.sc = defScope st)
    (S : FnScope c.N ps (defScope st)) (hcon : ∀ ds A E Q, ds.length = ps.length → con ds A E Q → conOf G c.N ir ds A E Q) : FnG P w K mg base (L2N.CX P w) (lv + 1) f fd ps (spD K T con ps.length) := by
  obtain ⟨oc, od, kV, doc, pm, an, cdv, ct, osl, rfl, lk, hcd⟩ := F.ex
  refine fnG_of lk hcd S (fun vs H Q E h => h.1) fun A outer s H vs Q E gd hr h => ⟨_, pss_fz ((sd_stmts n (callees_snd C h2 hh hx hb S.nd hsc S.kind hr fun _ => gd)).2.1 _ ir hc), ?_⟩
  obtain ⟨hl, μ, A0, ds, E', Q', hr0, rd, q, hq, he⟩ := h
  exact ⟨μ, _, A0, _, start_rel rd, hr0, fit_start hr0 hq he, hcon ds A0 E' Q' (by rw [rd.length, hl]) q⟩
end
theorem walkG {l : PySem.W.OpenLaw} {n lv : Nat} {q : Program} {loose : List Str} {XP : (Str → Option Value) → Heap → Prop} {YP : World → Heap → Prop} {d : DefRec} {K : Params → PySem.W.Frag} {con : Con} {x : Str} (hn : l.most = some n) (hn2 : n ≤ sizeLine) (hdf : d.params.defaults = []) (hr : Room lv callerA)
    (hY : ∀ (w : World) (h : Heap), YP w h → (K w.params).In h) (hcon : ∀ ns : List Int, ns.length ≤ n → con [.rol (ns.map .int)] [] (fun _ _ => False) (fun d _ => d = .bl true))
    (F : ∀ (w : World) (mg : Str → Option Value) (fa : Addr) (h : Heap), (K w.params).In h → h.Ns mainGlobals mg → mg d.name = some (.ref fa) →
      ∃ (T : Tab) (fd : FuncData), (∀ (s : Shared) (u : Value), BindsTo s fd ⟨[u], []⟩ [(x, u)]) ∧ ∀ base : Heap, (K w.params).In base → base.Ns mainGlobals mg → FnG l.prog w (K w.params) mg base (L2N.CX l.prog w) lv fa fd [x] (spD (K w.params) T con 1)) :
    PySem.W.WalkO q loose XP YP l.row.toRowW d [] (fun f vs => PySem.call f vs) := by
  refine Att.attach_call hn hdf fun w s0 s1 mg mb fa o pm cd doc a vs ns G0 Y ho hd hcd hmg hobj hints hlen hg => ?_
  have KX := hY w _ Y
  obtain ⟨T, fd, hb, hF⟩ := F w mg fa _ KX G0.T.g hmg
  exact headG KX G0.T.g G0.T.b G0.T.builtins G0.T.nolimit hg hobj hints (Nat.le_trans hlen hn2) hr hF hb (fun H hO hS => law_sp hO hS (hcon ns hlen)) fun H e s' z => no_cx z
end Px
end TextPx22g

section TextK02z
set_option autoImplicit false
set_option maxRecDepth 100000
set_option maxHeartbeats 8000000
namespace K02
open PySem PySem.Spec PyProof.Rows L2 Px Fl Nt Lw Tp
theorem sc_is_integer : FnScope cc_is_integer.N ["thing"] (defScope st_is_integer) := ⟨rfl, rfl, rfl, by decide +kernel, rfl, by decide +kernel, by decide +kernel⟩
theorem sc_is_value : FnScope cc_is_value.N ["thing"] (defScope st_is_value) := ⟨rfl, rfl, rfl, by decide +kernel, rfl, by decide +kernel, by decide +kernel⟩
theorem sc_is_known : FnScope cc_is_known.N ["thing"] (defScope st_is_known) := ⟨rfl, rfl, rfl, by decide +kernel, rfl, by decide +kernel, by decide +kernel⟩
theorem sc_node_ranks : FnScope cc_node_ranks.N ["net"] (defScope st_node_ranks) := ⟨rfl, rfl, rfl, by decide +kernel, rfl, by decide +kernel, by decide +kernel⟩
theorem sc_ways_out : FnScope cc_ways_out.N ["net", "usable"] (defScope st_ways_out) := ⟨rfl, rfl, rfl, by decide +kernel, rfl, by decide +kernel, by decide +kernel⟩
theorem sc_flooded : FnScope cc_flooded.N ["ways", "starts", "floors"] (defScope st_flooded) := ⟨rfl, rfl, rfl, by decide +kernel, rfl, by decide +kernel, by decide +kernel⟩
theorem sc_is_positions : FnScope cc_is_positions.N ["net", "thing"] (defScope st_is_positions) := ⟨rfl, rfl, rfl, by decide +kernel, rfl, by decide +kernel, by decide +kernel⟩
theorem sc__begins_as_held : FnScope cc__begins_as_held.N ["thing", "many"] (defScope st__begins_as_held) := ⟨rfl, rfl, rfl, by decide +kernel, rfl, by decide +kernel, by decide +kernel⟩
theorem sc_is_held : FnScope cc_is_held.N ["net", "thing"] (defScope st_is_held) := ⟨rfl, rfl, rfl, by decide +kernel, rfl, by decide +kernel, by decide +kernel⟩
theorem sc_firm_ranks : FnScope cc_firm_ranks.N ["net", "positions"] (defScope st_firm_ranks) := ⟨rfl, rfl, rfl, by decide +kernel, rfl, by decide +kernel, by decide +kernel⟩
theorem sc_likely_ways : FnScope cc_likely_ways.N ["net", "positions"] (defScope st_likely_ways) := ⟨rfl, rfl, rfl, by decide +kernel, rfl, by decide +kernel, by decide +kernel⟩
theorem sc_root_ranks : FnScope cc_root_ranks.N ["net", "held", "value"] (defScope st_root_ranks) := ⟨rfl, rfl, rfl, by decide +kernel, rfl, by decide +kernel, by decide +kernel⟩
theorem sc_may : FnScope cc_may.N ["net", "positions", "held", "value"] (defScope st_may) := ⟨rfl, rfl, rfl, by decide +kernel, rfl, by decide +kernel, by decide +kernel⟩
theorem sc_response : FnScope cc_response.N ["net", "positions", "held"] (defScope st_response) := ⟨rfl, rfl, rfl, by decide +kernel, rfl, by decide +kernel, by decide +kernel⟩
theorem sc__law_tape : FnScope cc__law_tape.N ["_law_script"] (defScope st__law_tape) := ⟨rfl, rfl, rfl, by decide +kernel, rfl, by decide +kernel, by decide +kernel⟩
theorem sc__law_pick : FnScope cc__law_pick.N ["_law_tape_here", "_law_many"] (defScope st__law_pick) := ⟨rfl, rfl, rfl, by decide +kernel, rfl, by decide +kernel, by decide +kernel⟩
theorem sc__law_switch : FnScope cc__law_switch.N ["_law_tape_here", "_law_nodes", "_law_strength", "_law_left", "_law_right"] (defScope st__law_switch) := ⟨rfl, rfl, rfl, by decide +kernel, rfl, by decide +kernel, by decide +kernel⟩
theorem sc__law_net : FnScope cc__law_net.N ["_law_tape_here"] (defScope st__law_net) := ⟨rfl, rfl, rfl, by decide +kernel, rfl, by decide +kernel, by decide +kernel⟩
theorem sc__law_question : FnScope cc__law_question.N ["_law_tape_here", "_law_net_here"] (defScope st__law_question) := ⟨rfl, rfl, rfl, by decide +kernel, rfl, by decide +kernel, by decide +kernel⟩
theorem sc__law_settled : FnScope cc__law_settled.N ["_law_net_here", "_law_positions", "_law_held"] (defScope st__law_settled) := ⟨rfl, rfl, rfl, by decide +kernel, rfl, by decide +kernel, by decide +kernel⟩
theorem sc__law_fillings : FnScope cc__law_fillings.N ["_law_positions", "_law_held"] (defScope st__law_fillings) := ⟨rfl, rfl, rfl, by decide +kernel, rfl, by decide +kernel, by decide +kernel⟩
theorem sc__law_told : FnScope cc__law_told.N ["_law_net_here", "_law_positions", "_law_held"] (defScope st__law_told) := ⟨rfl, rfl, rfl, by decide +kernel, rfl, by decide +kernel, by decide +kernel⟩
theorem sc__law_is_number : FnScope cc__law_is_number.N ["_law_found"] (defScope st__law_is_number) := ⟨rfl, rfl, rfl, by decide +kernel, rfl, by decide +kernel, by decide +kernel⟩
theorem sc__law_same_values : FnScope cc__law_same_values.N ["_law_found", "_law_due"] (defScope st__law_same_values) := ⟨rfl, rfl, rfl, by decide +kernel, rfl, by decide +kernel, by decide +kernel⟩
theorem sc_law : FnScope cc_law.N ["_law_script"] (defScope st_law) := ⟨rfl, rfl, rfl, by decide +kernel, rfl, by decide +kernel, by decide +kernel⟩
structure Pure (G : Env') : Prop where
  is_integer : ∀ (ds : List D) (A : Ht) (E Q : D → Ht → Prop), ds.length = 1 → con_is_integer ds A E Q → conOf G cc_is_integer.N ir_is_integer ds A E Q
  is_value : ∀ (ds : List D) (A : Ht) (E Q : D → Ht → Prop), ds.length = 1 → con_is_value ds A E Q → conOf G cc_is_value.N ir_is_value ds A E Q
  is_known : ∀ (ds : List D) (A : Ht) (E Q : D → Ht → Prop), ds.length = 1 → con_is_known ds A E Q → conOf G cc_is_known.N ir_is_known ds A E Q
  node_ranks : ∀ (ds : List D) (A : Ht) (E Q : D → Ht → Prop), ds.length = 1 → con_node_ranks ds A E Q → conOf G cc_node_ranks.N ir_node_ranks ds A E Q
  ways_out : ∀ (ds : List D) (A : Ht) (E Q : D → Ht → Prop), ds.length = 2 → con_ways_out ds A E Q → conOf G cc_ways_out.N ir_ways_out ds A E Q
  flooded : ∀ (ds : List D) (A : Ht) (E Q : D → Ht → Prop), ds.length = 3 → con_flooded ds A E Q → conOf G cc_flooded.N ir_flooded ds A E Q
  is_positions : ∀ (ds : List D) (A : Ht) (E Q : D → Ht → Prop), ds.length = 2 → con_is_positions ds A E Q → conOf G cc_is_positions.N ir_is_positions ds A E Q
  _begins_as_held : ∀ (ds : List D) (A : Ht) (E Q : D → Ht → Prop), ds.length = 2 → con__begins_as_held ds A E Q → conOf G cc__begins_as_held.N ir__begins_as_held ds A E Q
  is_held : ∀ (ds : List D) (A : Ht) (E Q : D → Ht → Prop), ds.length = 2 → con_is_held ds A E Q → conOf G cc_is_held.N ir_is_held ds A E Q
  firm_ranks : ∀ (ds : List D) (A : Ht) (E Q : D → Ht → Prop), ds.length = 2 → con_firm_ranks ds A E Q → conOf G cc_firm_ranks.N ir_firm_ranks ds A E Q
  likely_ways : ∀ (ds : List D) (A : Ht) (E Q : D → Ht → Prop), ds.length = 2 → con_likely_ways ds A E Q → conOf G cc_likely_ways.N ir_likely_ways ds A E Q
  root_ranks : ∀ (ds : List D) (A : Ht) (E Q : D → Ht → Prop), ds.length = 3 → con_root_ranks ds A E Q → conOf G cc_root_ranks.N ir_root_ranks ds A E Q
  may : ∀ (ds : List D) (A : Ht) (E Q : D → Ht → Prop), ds.length = 4 → con_may ds A E Q → conOf G cc_may.N ir_may ds A E Q
  response : ∀ (ds : List D) (A : Ht) (E Q : D → Ht → Prop), ds.length = 3 → con_response ds A E Q → conOf G cc_response.N ir_response ds A E Q
  _law_tape : ∀ (ds : List D) (A : Ht) (E Q : D → Ht → Prop), ds.length = 1 → con__law_tape ds A E Q → conOf G cc__law_tape.N ir__law_tape ds A E Q
  _law_pick : ∀ (ds : List D) (A : Ht) (E Q : D → Ht → Prop), ds.length = 2 → con__law_pick ds A E Q → conOf G cc__law_pick.N ir__law_pick ds A E Q
  _law_switch : ∀ (ds : List D) (A : Ht) (E Q : D → Ht → Prop), ds.length = 5 → con__law_switch ds A E Q → conOf G cc__law_switch.N ir__law_switch ds A E Q
  _law_net : ∀ (ds : List D) (A : Ht) (E Q : D → Ht → Prop), ds.length = 1 → con__law_net ds A E Q → conOf G cc__law_net.N ir__law_net ds A E Q
  _law_question : ∀ (ds : List D) (A : Ht) (E Q : D → Ht → Prop), ds.length = 2 → con__law_question ds A E Q → conOf G cc__law_question.N ir__law_question ds A E Q
  _law_settled : ∀ (ds : List D) (A : Ht) (E Q : D → Ht → Prop), ds.length = 3 → con__law_settled ds A E Q → conOf G cc__law_settled.N ir__law_settled ds A E Q
  _law_fillings : ∀ (ds : List D) (A : Ht) (E Q : D → Ht → Prop), ds.length = 2 → con__law_fillings ds A E Q → conOf G cc__law_fillings.N ir__law_fillings ds A E Q
  _law_told : ∀ (ds : List D) (A : Ht) (E Q : D → Ht → Prop), ds.length = 3 → con__law_told ds A E Q → conOf G cc__law_told.N ir__law_told ds A E Q
  _law_is_number : ∀ (ds : List D) (A : Ht) (E Q : D → Ht → Prop), ds.length = 1 → con__law_is_number ds A E Q → conOf G cc__law_is_number.N ir__law_is_number ds A E Q
  _law_same_values : ∀ (ds : List D) (A : Ht) (E Q : D → Ht → Prop), ds.length = 2 → con__law_same_values ds A E Q → conOf G cc__law_same_values.N ir__law_same_values ds A E Q
  law : ∀ (ds : List D) (A : Ht) (E Q : D → Ht → Prop), ds.length = 1 → con_law ds A E Q → conOf G cc_law.N ir_law ds A E Q
def conL : List (Str × Con) := [(("is_integer" : Str), con_is_integer), (("is_value" : Str), con_is_value), (("is_known" : Str), con_is_known), (("node_ranks" : Str), con_node_ranks), (("ways_out" : Str), con_ways_out), (("flooded" : Str), con_flooded), (("is_positions" : Str), con_is_positions), (("_begins_as_held" : Str), con__begins_as_held), (("is_held" : Str), con_is_held), (("firm_ranks" : Str), con_firm_ranks), (("likely_ways" : Str), con_likely_ways), (("root_ranks" : Str), con_root_ranks), (("may" : Str), con_may), (("response" : Str), con_response), (("_law_tape" : Str), con__law_tape), (("_law_pick" : Str), con__law_pick), (("_law_switch" : Str), con__law_switch), (("_law_net" : Str), con__law_net), (("_law_question" : Str), con__law_question), (("_law_settled" : Str), con__law_settled), (("_law_fillings" : Str), con__law_fillings), (("_law_told" : Str), con__law_told), (("_law_is_number" : Str), con__law_is_number), (("_law_same_values" : Str), con__law_same_values), (("law" : Str), con_law)]
def GG : Env' := { con := fun f => (conL.lookup f).getD fun _ _ _ _ => False, ct := fun x => if x = "FEED_RANK" then some (.int 11) else if x = "RANK_BELOW_STRENGTHS" then some (.int 4) else none, sub := fun a b => (decide (a = "NotUsable") && (decide (b = "NotUsable") || decide (b = "UseError") || decide (b = "OhmError") || decide (b = "ValueError") || decide (b = "Exception") || decide (b = "BaseException"))), fds := fun x => if x = "NotUsable" then ["word", "at"] else [] }
abbrev si_NotUsable : Stmt := inClass (top 3) 0
abbrev rssA : List (Str × Nat) := [("NotUsable", 2)]
abbrev exsA : List Str := []
abbrev fldA : List Str := ["at", "word"]
abbrev ctsA : List Str := ["FEED_RANK", "RANK_BELOW_STRENGTHS"]
theorem gok_none : True := trivial
theorem all_mk {P : Program} {w : World} {K : PySem.W.Frag} {h : Heap} {mg : Str → Option Value} {fa : Addr} (pu : Pure GG) (X : K.In h) (G0 : h.Ns mainGlobals mg) (hfa : mg "law" = some (.ref fa))
    {f0 : Addr} {od0 an0 : Option Addr} {sl0 : Array (Option Value)} {oc0 kV0 dc0 pm0 cd0 ct0 : Value}
    {f1 : Addr} {od1 an1 : Option Addr} {sl1 : Array (Option Value)} {oc1 kV1 dc1 pm1 cd1 ct1 : Value}
    {f2 : Addr} {od2 an2 : Option Addr} {sl2 : Array (Option Value)} {oc2 kV2 dc2 pm2 cd2 ct2 : Value}
    {f3 : Addr} {od3 an3 : Option Addr} {sl3 : Array (Option Value)} {oc3 kV3 dc3 pm3 cd3 ct3 : Value}
    {f4 : Addr} {od4 an4 : Option Addr} {sl4 : Array (Option Value)} {oc4 kV4 dc4 pm4 cd4 ct4 : Value}
    {f5 : Addr} {od5 an5 : Option Addr} {sl5 : Array (Option Value)} {oc5 kV5 dc5 pm5 cd5 ct5 : Value}
    {f6 : Addr} {od6 an6 : Option Addr} {sl6 : Array (Option Value)} {oc6 kV6 dc6 pm6 cd6 ct6 : Value}
    {f7 : Addr} {od7 an7 : Option Addr} {sl7 : Array (Option Value)} {oc7 kV7 dc7 pm7 cd7 ct7 : Value}
    {f8 : Addr} {od8 an8 : Option Addr} {sl8 : Array (Option Value)} {oc8 kV8 dc8 pm8 cd8 ct8 : Value}
    {f9 : Addr} {od9 an9 : Option Addr} {sl9 : Array (Option Value)} {oc9 kV9 dc9 pm9 cd9 ct9 : Value}
    {f10 : Addr} {od10 an10 : Option Addr} {sl10 : Array (Option Value)} {oc10 kV10 dc10 pm10 cd10 ct10 : Value}
    {f11 : Addr} {od11 an11 : Option Addr} {sl11 : Array (Option Value)} {oc11 kV11 dc11 pm11 cd11 ct11 : Value}
    {f12 : Addr} {od12 an12 : Option Addr} {sl12 : Array (Option Value)} {oc12 kV12 dc12 pm12 cd12 ct12 : Value}
    {f13 : Addr} {od13 an13 : Option Addr} {sl13 : Array (Option Value)} {oc13 kV13 dc13 pm13 cd13 ct13 : Value}
    {f14 : Addr} {od14 an14 : Option Addr} {sl14 : Array (Option Value)} {oc14 kV14 dc14 pm14 cd14 ct14 : Value}
    {f15 : Addr} {od15 an15 : Option Addr} {sl15 : Array (Option Value)} {oc15 kV15 dc15 pm15 cd15 ct15 : Value}
    {f16 : Addr} {od16 an16 : Option Addr} {sl16 : Array (Option Value)} {oc16 kV16 dc16 pm16 cd16 ct16 : Value}
    {f17 : Addr} {od17 an17 : Option Addr} {sl17 : Array (Option Value)} {oc17 kV17 dc17 pm17 cd17 ct17 : Value}
    {f18 : Addr} {od18 an18 : Option Addr} {sl18 : Array (Option Value)} {oc18 kV18 dc18 pm18 cd18 ct18 : Value}
    {f19 : Addr} {od19 an19 : Option Addr} {sl19 : Array (Option Value)} {oc19 kV19 dc19 pm19 cd19 ct19 : Value}
    {f20 : Addr} {od20 an20 : Option Addr} {sl20 : Array (Option Value)} {oc20 kV20 dc20 pm20 cd20 ct20 : Value}
    {f21 : Addr} {od21 an21 : Option Addr} {sl21 : Array (Option Value)} {oc21 kV21 dc21 pm21 cd21 ct21 : Value}
    {f22 : Addr} {od22 an22 : Option Addr} {sl22 : Array (Option Value)} {oc22 kV22 dc22 pm22 cd22 ct22 : Value}
    {f23 : Addr} {od23 an23 : Option Addr} {sl23 : Array (Option Value)} {oc23 kV23 dc23 pm23 cd23 ct23 : Value}
    {f24 : Addr} {od24 an24 : Option Addr} {sl24 : Array (Option Value)} {oc24 kV24 dc24 pm24 cd24 ct24 : Value}
    {tk0 : Tok}
    {tk1 : Tok}
    {CNotUsable : Addr}
    {nmNotUsable qqNotUsable : Str} {NNotUsable : Addr} {bsNotUsable bmNotUsable : List Value} {snNotUsable : List Str} {subNotUsable : List Value} {abNotUsable : Bool} {colNotUsable : Option Bool} {ddNotUsable : Option Addr} {m0NotUsable m1NotUsable m2NotUsable m3NotUsable m5NotUsable : Option Value} {iNotUsable : Addr} {iodNotUsable ianNotUsable : Option Addr} {islNotUsable : Array (Option Value)} {iocNotUsable ikVNotUsable idcNotUsable ipmNotUsable icdNotUsable ictNotUsable : Value}
    (a0 : PySem.W.nsIn K mainGlobals "is_integer" = some (some (.ref f0)))
    (l0 : K.lookup f0 = some ⟨oc0, od0, .func (PySem.W.fnOf "is_integer" "is_integer" (defArgs st_is_integer) (defBody st_is_integer) (defScope st_is_integer) .none kV0 dc0 pm0 an0 cd0 ct0), sl0⟩)
    (c0 : PySem.W.codeIn K cd0 "is_integer" = true)
    (k0 : PySem.W.keepIn K (.ref f0) = true)
    (a1 : PySem.W.nsIn K mainGlobals "is_value" = some (some (.ref f1)))
    (l1 : K.lookup f1 = some ⟨oc1, od1, .func (PySem.W.fnOf "is_value" "is_value" (defArgs st_is_value) (defBody st_is_value) (defScope st_is_value) .none kV1 dc1 pm1 an1 cd1 ct1), sl1⟩)
    (c1 : PySem.W.codeIn K cd1 "is_value" = true)
    (k1 : PySem.W.keepIn K (.ref f1) = true)
    (a2 : PySem.W.nsIn K mainGlobals "is_known" = some (some (.ref f2)))
    (l2 : K.lookup f2 = some ⟨oc2, od2, .func (PySem.W.fnOf "is_known" "is_known" (defArgs st_is_known) (defBody st_is_known) (defScope st_is_known) .none kV2 dc2 pm2 an2 cd2 ct2), sl2⟩)
    (c2 : PySem.W.codeIn K cd2 "is_known" = true)
    (k2 : PySem.W.keepIn K (.ref f2) = true)
    (a3 : PySem.W.nsIn K mainGlobals "node_ranks" = some (some (.ref f3)))
    (l3 : K.lookup f3 = some ⟨oc3, od3, .func (PySem.W.fnOf "node_ranks" "node_ranks" (defArgs st_node_ranks) (defBody st_node_ranks) (defScope st_node_ranks) .none kV3 dc3 pm3 an3 cd3 ct3), sl3⟩)
    (c3 : PySem.W.codeIn K cd3 "node_ranks" = true)
    (k3 : PySem.W.keepIn K (.ref f3) = true)
    (a4 : PySem.W.nsIn K mainGlobals "ways_out" = some (some (.ref f4)))
    (l4 : K.lookup f4 = some ⟨oc4, od4, .func (PySem.W.fnOf "ways_out" "ways_out" (defArgs st_ways_out) (defBody st_ways_out) (defScope st_ways_out) .none kV4 dc4 pm4 an4 cd4 ct4), sl4⟩)
    (c4 : PySem.W.codeIn K cd4 "ways_out" = true)
    (k4 : PySem.W.keepIn K (.ref f4) = true)
    (a5 : PySem.W.nsIn K mainGlobals "flooded" = some (some (.ref f5)))
    (l5 : K.lookup f5 = some ⟨oc5, od5, .func (PySem.W.fnOf "flooded" "flooded" (defArgs st_flooded) (defBody st_flooded) (defScope st_flooded) .none kV5 dc5 pm5 an5 cd5 ct5), sl5⟩)
    (c5 : PySem.W.codeIn K cd5 "flooded" = true)
    (k5 : PySem.W.keepIn K (.ref f5) = true)
    (a6 : PySem.W.nsIn K mainGlobals "is_positions" = some (some (.ref f6)))
    (l6 : K.lookup f6 = some ⟨oc6, od6, .func (PySem.W.fnOf "is_positions" "is_positions" (defArgs st_is_positions) (defBody st_is_positions) (defScope st_is_positions) .none kV6 dc6 pm6 an6 cd6 ct6), sl6⟩)
    (c6 : PySem.W.codeIn K cd6 "is_positions" = true)
    (k6 : PySem.W.keepIn K (.ref f6) = true)
    (a7 : PySem.W.nsIn K mainGlobals "_begins_as_held" = some (some (.ref f7)))
    (l7 : K.lookup f7 = some ⟨oc7, od7, .func (PySem.W.fnOf "_begins_as_held" "_begins_as_held" (defArgs st__begins_as_held) (defBody st__begins_as_held) (defScope st__begins_as_held) .none kV7 dc7 pm7 an7 cd7 ct7), sl7⟩)
    (c7 : PySem.W.codeIn K cd7 "_begins_as_held" = true)
    (k7 : PySem.W.keepIn K (.ref f7) = true)
    (a8 : PySem.W.nsIn K mainGlobals "is_held" = some (some (.ref f8)))
    (l8 : K.lookup f8 = some ⟨oc8, od8, .func (PySem.W.fnOf "is_held" "is_held" (defArgs st_is_held) (defBody st_is_held) (defScope st_is_held) .none kV8 dc8 pm8 an8 cd8 ct8), sl8⟩)
    (c8 : PySem.W.codeIn K cd8 "is_held" = true)
    (k8 : PySem.W.keepIn K (.ref f8) = true)
    (a9 : PySem.W.nsIn K mainGlobals "firm_ranks" = some (some (.ref f9)))
    (l9 : K.lookup f9 = some ⟨oc9, od9, .func (PySem.W.fnOf "firm_ranks" "firm_ranks" (defArgs st_firm_ranks) (defBody st_firm_ranks) (defScope st_firm_ranks) .none kV9 dc9 pm9 an9 cd9 ct9), sl9⟩)
    (c9 : PySem.W.codeIn K cd9 "firm_ranks" = true)
    (k9 : PySem.W.keepIn K (.ref f9) = true)
    (a10 : PySem.W.nsIn K mainGlobals "likely_ways" = some (some (.ref f10)))
    (l10 : K.lookup f10 = some ⟨oc10, od10, .func (PySem.W.fnOf "likely_ways" "likely_ways" (defArgs st_likely_ways) (defBody st_likely_ways) (defScope st_likely_ways) .none kV10 dc10 pm10 an10 cd10 ct10), sl10⟩)
    (c10 : PySem.W.codeIn K cd10 "likely_ways" = true)
    (k10 : PySem.W.keepIn K (.ref f10) = true)
    (a11 : PySem.W.nsIn K mainGlobals "root_ranks" = some (some (.ref f11)))
    (l11 : K.lookup f11 = some ⟨oc11, od11, .func (PySem.W.fnOf "root_ranks" "root_ranks" (defArgs st_root_ranks) (defBody st_root_ranks) (defScope st_root_ranks) .none kV11 dc11 pm11 an11 cd11 ct11), sl11⟩)
    (c11 : PySem.W.codeIn K cd11 "root_ranks" = true)
    (k11 : PySem.W.keepIn K (.ref f11) = true)
    (a12 : PySem.W.nsIn K mainGlobals "may" = some (some (.ref f12)))
    (l12 : K.lookup f12 = some ⟨oc12, od12, .func (PySem.W.fnOf "may" "may" (defArgs st_may) (defBody st_may) (defScope st_may) .none kV12 dc12 pm12 an12 cd12 ct12), sl12⟩)
    (c12 : PySem.W.codeIn K cd12 "may" = true)
    (k12 : PySem.W.keepIn K (.ref f12) = true)
    (a13 : PySem.W.nsIn K mainGlobals "response" = some (some (.ref f13)))
    (l13 : K.lookup f13 = some ⟨oc13, od13, .func (PySem.W.fnOf "response" "response" (defArgs st_response) (defBody st_response) (defScope st_response) .none kV13 dc13 pm13 an13 cd13 ct13), sl13⟩)
    (c13 : PySem.W.codeIn K cd13 "response" = true)
    (k13 : PySem.W.keepIn K (.ref f13) = true)
    (a14 : PySem.W.nsIn K mainGlobals "_law_tape" = some (some (.ref f14)))
    (l14 : K.lookup f14 = some ⟨oc14, od14, .func (PySem.W.fnOf "_law_tape" "_law_tape" (defArgs st__law_tape) (defBody st__law_tape) (defScope st__law_tape) .none kV14 dc14 pm14 an14 cd14 ct14), sl14⟩)
    (c14 : PySem.W.codeIn K cd14 "_law_tape" = true)
    (k14 : PySem.W.keepIn K (.ref f14) = true)
    (a15 : PySem.W.nsIn K mainGlobals "_law_pick" = some (some (.ref f15)))
    (l15 : K.lookup f15 = some ⟨oc15, od15, .func (PySem.W.fnOf "_law_pick" "_law_pick" (defArgs st__law_pick) (defBody st__law_pick) (defScope st__law_pick) .none kV15 dc15 pm15 an15 cd15 ct15), sl15⟩)
    (c15 : PySem.W.codeIn K cd15 "_law_pick" = true)
    (k15 : PySem.W.keepIn K (.ref f15) = true)
    (a16 : PySem.W.nsIn K mainGlobals "_law_switch" = some (some (.ref f16)))
    (l16 : K.lookup f16 = some ⟨oc16, od16, .func (PySem.W.fnOf "_law_switch" "_law_switch" (defArgs st__law_switch) (defBody st__law_switch) (defScope st__law_switch) .none kV16 dc16 pm16 an16 cd16 ct16), sl16⟩)
    (c16 : PySem.W.codeIn K cd16 "_law_switch" = true)
    (k16 : PySem.W.keepIn K (.ref f16) = true)
    (a17 : PySem.W.nsIn K mainGlobals "_law_net" = some (some (.ref f17)))
    (l17 : K.lookup f17 = some ⟨oc17, od17, .func (PySem.W.fnOf "_law_net" "_law_net" (defArgs st__law_net) (defBody st__law_net) (defScope st__law_net) .none kV17 dc17 pm17 an17 cd17 ct17), sl17⟩)
    (c17 : PySem.W.codeIn K cd17 "_law_net" = true)
    (k17 : PySem.W.keepIn K (.ref f17) = true)
    (a18 : PySem.W.nsIn K mainGlobals "_law_question" = some (some (.ref f18)))
    (l18 : K.lookup f18 = some ⟨oc18, od18, .func (PySem.W.fnOf "_law_question" "_law_question" (defArgs st__law_question) (defBody st__law_question) (defScope st__law_question) .none kV18 dc18 pm18 an18 cd18 ct18), sl18⟩)
    (c18 : PySem.W.codeIn K cd18 "_law_question" = true)
    (k18 : PySem.W.keepIn K (.ref f18) = true)
    (a19 : PySem.W.nsIn K mainGlobals "_law_settled" = some (some (.ref f19)))
    (l19 : K.lookup f19 = some ⟨oc19, od19, .func (PySem.W.fnOf "_law_settled" "_law_settled" (defArgs st__law_settled) (defBody st__law_settled) (defScope st__law_settled) .none kV19 dc19 pm19 an19 cd19 ct19), sl19⟩)
    (c19 : PySem.W.codeIn K cd19 "_law_settled" = true)
    (k19 : PySem.W.keepIn K (.ref f19) = true)
    (a20 : PySem.W.nsIn K mainGlobals "_law_fillings" = some (some (.ref f20)))
    (l20 : K.lookup f20 = some ⟨oc20, od20, .func (PySem.W.fnOf "_law_fillings" "_law_fillings" (defArgs st__law_fillings) (defBody st__law_fillings) (defScope st__law_fillings) .none kV20 dc20 pm20 an20 cd20 ct20), sl20⟩)
    (c20 : PySem.W.codeIn K cd20 "_law_fillings" = true)
    (k20 : PySem.W.keepIn K (.ref f20) = true)
    (a21 : PySem.W.nsIn K mainGlobals "_law_told" = some (some (.ref f21)))
    (l21 : K.lookup f21 = some ⟨oc21, od21, .func (PySem.W.fnOf "_law_told" "_law_told" (defArgs st__law_told) (defBody st__law_told) (defScope st__law_told) .none kV21 dc21 pm21 an21 cd21 ct21), sl21⟩)
    (c21 : PySem.W.codeIn K cd21 "_law_told" = true)
    (k21 : PySem.W.keepIn K (.ref f21) = true)
    (a22 : PySem.W.nsIn K mainGlobals "_law_is_number" = some (some (.ref f22)))
    (l22 : K.lookup f22 = some ⟨oc22, od22, .func (PySem.W.fnOf "_law_is_number" "_law_is_number" (defArgs st__law_is_number) (defBody st__law_is_number) (defScope st__law_is_number) .none kV22 dc22 pm22 an22 cd22 ct22), sl22⟩)
    (c22 : PySem.W.codeIn K cd22 "_law_is_number" = true)
    (k22 : PySem.W.keepIn K (.ref f22) = true)
    (a23 : PySem.W.nsIn K mainGlobals "_law_same_values" = some (some (.ref f23)))
    (l23 : K.lookup f23 = some ⟨oc23, od23, .func (PySem.W.fnOf "_law_same_values" "_law_same_values" (defArgs st__law_same_values) (defBody st__law_same_values) (defScope st__law_same_values) .none kV23 dc23 pm23 an23 cd23 ct23), sl23⟩)
    (c23 : PySem.W.codeIn K cd23 "_law_same_values" = true)
    (k23 : PySem.W.keepIn K (.ref f23) = true)
    (a24 : PySem.W.nsIn K mainGlobals "law" = some (some (.ref f24)))
    (l24 : K.lookup f24 = some ⟨oc24, od24, .func (PySem.W.fnOf "law" "law" (defArgs st_law) (defBody st_law) (defScope st_law) .none kV24 dc24 pm24 an24 cd24 ct24), sl24⟩)
    (c24 : PySem.W.codeIn K cd24 "law" = true)
    (k24 : PySem.W.keepIn K (.ref f24) = true)
    (b0 : PySem.W.nsIn K mainGlobals "len" = some none)
    (b1 : PySem.W.nsIn K mainGlobals "int" = some none)
    (b2 : PySem.W.nsIn K mainGlobals "abs" = some none)
    (b3 : PySem.W.nsIn K mainGlobals "min" = some none)
    (b4 : PySem.W.nsIn K mainGlobals "max" = some none)
    (b5 : PySem.W.nsIn K mainGlobals "tuple" = some none)
    (b6 : PySem.W.nsIn K mainGlobals "list" = some none)
    (b7 : PySem.W.nsIn K mainGlobals "str" = some none)
    (b8 : PySem.W.nsIn K mainGlobals "sorted" = some none)
    (b9 : PySem.W.nsIn K mainGlobals "sum" = some none)
    (b10 : PySem.W.nsIn K mainGlobals "all" = some none)
    (b11 : PySem.W.nsIn K mainGlobals "any" = some none)
    (b12 : PySem.W.nsIn K mainGlobals "bool" = some none)
    (b13 : PySem.W.nsIn K mainGlobals "dict" = some none)
    (b14 : PySem.W.nsIn K mainGlobals "isinstance" = some none)
    (b15 : PySem.W.nsIn K mainGlobals "range" = some none)
    (b16 : PySem.W.nsIn K mainGlobals "enumerate" = some none)
    (b17 : PySem.W.nsIn K mainGlobals "zip" = some none)
    (b18 : PySem.W.nsIn K mainGlobals "reversed" = some none)
    (b19 : PySem.W.nsIn K mainGlobals "set" = some none)
    (b20 : PySem.W.nsIn K mainGlobals "repr" = some none)
    (v0 : PySem.W.nsIn K mainGlobals "FEED_RANK" = some (some (.int 11 tk0)))
    (v1 : PySem.W.nsIn K mainGlobals "RANK_BELOW_STRENGTHS" = some (some (.int 4 tk1)))
    (sn : PySem.W.specialIn K (.builtin "object.__class__") "__get__" = some (some (.builtin "getset_descriptor.__get__")))
    (st : PySem.W.takesIn K (.builtin "object.__class__") = some true)
    (aCNotUsable : PySem.W.nsIn K mainGlobals "NotUsable" = some (some (.ref CNotUsable)))
    (xLNotUsable : K.lookup CNotUsable = some (excClassObj nmNotUsable qqNotUsable CNotUsable NNotUsable bsNotUsable bmNotUsable true snNotUsable subNotUsable abNotUsable colNotUsable ddNotUsable m0NotUsable m1NotUsable m2NotUsable m3NotUsable m5NotUsable "ValueError.__new__"))
    (rvNotUsable : PySem.HandSPX.refsVE bmNotUsable = true)
    (saNotUsable : PySem.W.findIn K (.ref CNotUsable) "__setattr__" = some (some (.builtin "object.__setattr__")))
    (gaNotUsable : PySem.W.findIn K (.ref CNotUsable) "__getattribute__" = some (some (.builtin "BaseException.__getattribute__")))
    (ggNotUsable : PySem.W.findIn K (.ref CNotUsable) "__getattr__" = some none)
    (noNotUsableat : PySem.W.findIn K (.ref CNotUsable) "at" = some none)
    (noNotUsableword : PySem.W.findIn K (.ref CNotUsable) "word" = some none)
    (inNotUsable : PySem.W.findIn K (.ref CNotUsable) "__init__" = some (some (.ref iNotUsable)))
    (tiNotUsable : PySem.W.typeIn K (.ref iNotUsable) = some (.type "function"))
    (liNotUsable : K.lookup iNotUsable = some ⟨iocNotUsable, iodNotUsable, .func (PySem.W.fnOf "__init__" "NotUsable.__init__" (defArgs si_NotUsable) (defBody si_NotUsable) (defScope si_NotUsable) .none ikVNotUsable idcNotUsable ipmNotUsable ianNotUsable icdNotUsable ictNotUsable), islNotUsable⟩)
    (ciNotUsable : PySem.W.codeIn K icdNotUsable "NotUsable.__init__" = true)
    (kiNotUsable : PySem.W.keepIn K (.ref iNotUsable) = true)
    (kCNotUsable : PySem.W.keepIn K (.ref CNotUsable) = true)
    (eCNotUsable : PySem.W.subIn K (.ref CNotUsable) (.type "BaseException") = some true)
    (tCNotUsable : PySem.W.typeIn K (.ref CNotUsable) = some (.type "type"))
    (hCNotUsable : PySem.W.hasDictIn K CNotUsable = true)
    (clNotUsable : PySem.W.findIn K (.ref CNotUsable) "__class__" = some (some (.builtin "object.__class__")))
    (moNotUsable : PySem.W.mroIn K CNotUsable (.type "object") = some true)
    : ∃ (T : Tab) (fd : FuncData), (∀ (s : Shared) (u : Value), BindsTo s fd ⟨[u], []⟩ [("_law_script", u)]) ∧ ∀ base : Heap, K.In base → base.Ns mainGlobals mg → FnOk P w K mg base (L2N.CX P w) 27 fa fd ["_law_script"] (spD K T con_law 1) := by
  let T : Tab := fun x => if x = "NotUsable" then some (CNotUsable, ["word", "at"]) else none
  have F0 := fun_mk (st := st_is_integer) l0 c0 k0
  have F1 := fun_mk (st := st_is_value) l1 c1 k1
  have F2 := fun_mk (st := st_is_known) l2 c2 k2
  have F3 := fun_mk (st := st_node_ranks) l3 c3 k3
  have F4 := fun_mk (st := st_ways_out) l4 c4 k4
  have F5 := fun_mk (st := st_flooded) l5 c5 k5
  have F6 := fun_mk (st := st_is_positions) l6 c6 k6
  have F7 := fun_mk (st := st__begins_as_held) l7 c7 k7
  have F8 := fun_mk (st := st_is_held) l8 c8 k8
  have F9 := fun_mk (st := st_firm_ranks) l9 c9 k9
  have F10 := fun_mk (st := st_likely_ways) l10 c10 k10
  have F11 := fun_mk (st := st_root_ranks) l11 c11 k11
  have F12 := fun_mk (st := st_may) l12 c12 k12
  have F13 := fun_mk (st := st_response) l13 c13 k13
  have F14 := fun_mk (st := st__law_tape) l14 c14 k14
  have F15 := fun_mk (st := st__law_pick) l15 c15 k15
  have F16 := fun_mk (st := st__law_switch) l16 c16 k16
  have F17 := fun_mk (st := st__law_net) l17 c17 k17
  have F18 := fun_mk (st := st__law_question) l18 c18 k18
  have F19 := fun_mk (st := st__law_settled) l19 c19 k19
  have F20 := fun_mk (st := st__law_fillings) l20 c20 k20
  have F21 := fun_mk (st := st__law_told) l21 c21 k21
  have F22 := fun_mk (st := st__law_is_number) l22 c22 k22
  have F23 := fun_mk (st := st__law_same_values) l23 c23 k23
  have F24 := fun_mk (st := st_law) l24 c24 k24
  have m0 := PySem.W.mg_of X G0 a0
  have m1 := PySem.W.mg_of X G0 a1
  have m2 := PySem.W.mg_of X G0 a2
  have m3 := PySem.W.mg_of X G0 a3
  have m4 := PySem.W.mg_of X G0 a4
  have m5 := PySem.W.mg_of X G0 a5
  have m6 := PySem.W.mg_of X G0 a6
  have m7 := PySem.W.mg_of X G0 a7
  have m8 := PySem.W.mg_of X G0 a8
  have m9 := PySem.W.mg_of X G0 a9
  have m10 := PySem.W.mg_of X G0 a10
  have m11 := PySem.W.mg_of X G0 a11
  have m12 := PySem.W.mg_of X G0 a12
  have m13 := PySem.W.mg_of X G0 a13
  have m14 := PySem.W.mg_of X G0 a14
  have m15 := PySem.W.mg_of X G0 a15
  have m16 := PySem.W.mg_of X G0 a16
  have m17 := PySem.W.mg_of X G0 a17
  have m18 := PySem.W.mg_of X G0 a18
  have m19 := PySem.W.mg_of X G0 a19
  have m20 := PySem.W.mg_of X G0 a20
  have m21 := PySem.W.mg_of X G0 a21
  have m22 := PySem.W.mg_of X G0 a22
  have m23 := PySem.W.mg_of X G0 a23
  have m24 := PySem.W.mg_of X G0 a24
  have e := hfa.symm.trans m24
  cases e
  refine ⟨T, PySem.W.fnOf "law" "law" (defArgs st_law) (defBody st_law) (defScope st_law) .none kV24 dc24 pm24 an24 cd24 ct24, fun s u => BindsTo.of_eq rfl, fun base hb1 hb2 => ?_⟩
  have oxNotUsable : OexC K CNotUsable := ⟨⟨_, _, _, _, _, _, _, _, _, _, _, _, _, _, _, xLNotUsable, rvNotUsable⟩, saNotUsable, eCNotUsable, tCNotUsable, kCNotUsable⟩
  have FiNotUsable := fun_mk (st := si_NotUsable) liNotUsable ciNotUsable kiNotUsable
  have in1NotUsable : FnOk P w K mg base CX0 1 iNotUsable _ ["self", "word", "at"] (spInit CNotUsable ["word", "at"]) := ini2 oxNotUsable noNotUsableword noNotUsableat (by decide) liNotUsable ciNotUsable ⟨rfl, rfl, rfl, by decide +kernel, rfl, by decide +kernel, by decide +kernel⟩ (by decide) (by decide) (by decide)
  have ecNotUsable : EclOk P w K mg base T "NotUsable" ["word", "at"] := ⟨CNotUsable, iNotUsable, _, _, rfl, PySem.W.mg_of X G0 aCNotUsable, oxNotUsable, inNotUsable, tiNotUsable, in1NotUsable, FiNotUsable.binds (ps := ["self", "word", "at"]) fun _ _ _ _ _ _ us hl => match us, hl with | [_, _, _], _ => rfl⟩
  have gl : Globs P w K mg base T GG exsA rssA fldA ctsA := by
    refine ⟨fun x hx => ?_, fun x hx => ?_, fun x k e => ?_, fun cn ca ks e => ?_, fun t ht => ?_⟩
    · simp only [blNames, List.mem_cons, List.not_mem_nil, or_false] at hx
      rcases hx with rfl | rfl | rfl | rfl | rfl | rfl | rfl | rfl | rfl | rfl | rfl | rfl | rfl | rfl | rfl | rfl | rfl | rfl | rfl | rfl | rfl
      · exact PySem.W.mg_none_of X G0 b0
      · exact PySem.W.mg_none_of X G0 b1
      · exact PySem.W.mg_none_of X G0 b2
      · exact PySem.W.mg_none_of X G0 b3
      · exact PySem.W.mg_none_of X G0 b4
      · exact PySem.W.mg_none_of X G0 b5
      · exact PySem.W.mg_none_of X G0 b6
      · exact PySem.W.mg_none_of X G0 b7
      · exact PySem.W.mg_none_of X G0 b8
      · exact PySem.W.mg_none_of X G0 b9
      · exact PySem.W.mg_none_of X G0 b10
      · exact PySem.W.mg_none_of X G0 b11
      · exact PySem.W.mg_none_of X G0 b12
      · exact PySem.W.mg_none_of X G0 b13
      · exact PySem.W.mg_none_of X G0 b14
      · exact PySem.W.mg_none_of X G0 b15
      · exact PySem.W.mg_none_of X G0 b16
      · exact PySem.W.mg_none_of X G0 b17
      · exact PySem.W.mg_none_of X G0 b18
      · exact PySem.W.mg_none_of X G0 b19
      · exact PySem.W.mg_none_of X G0 b20
    · simp only [ctsA, List.mem_cons, List.not_mem_nil, or_false] at hx
      rcases hx with rfl | rfl
      · exact ⟨_, _, .int 11, rfl, PySem.W.mg_of X G0 v0, ⟨_, rfl⟩, fun μ H => to_int⟩
      · exact ⟨_, _, .int 4, rfl, PySem.W.mg_of X G0 v1, ⟨_, rfl⟩, fun μ H => to_int⟩
    · have e2 := lookup_mem e
      simp only [rssA, List.mem_cons, Prod.mk.injEq, List.not_mem_nil, or_false] at e2
      rcases e2 with ⟨rfl, rfl⟩
      · exact ⟨ecNotUsable, rfl⟩
    · have e2 : T cn = some (ca, ks) := e
      simp only [T] at e2
      by_cases hNotUsable : cn = "NotUsable"
      · rw [if_pos hNotUsable] at e2
        cases e2
        refine ⟨⟨gaNotUsable, ggNotUsable, eCNotUsable, hCNotUsable⟩, ⟨gaNotUsable, ggNotUsable, eCNotUsable, hCNotUsable, clNotUsable, sn, st, moNotUsable⟩, fun f hf => ?_⟩
        simp only [fldA, List.mem_cons, List.not_mem_nil, or_false] at hf
        rcases hf with rfl | rfl
        · exact noNotUsableat
        · exact noNotUsableword
      rw [if_neg hNotUsable] at e2
      cases e2
    · simp [exsA] at ht
  have K0 : Known P w K mg base T GG 2 [] := known_nil
  have H0 : KnownH P w K mg base T GG 2 [] := knownH_nil
  have bd0 := (F0.binds (ps := ["thing"]) fun _ _ _ _ _ _ us hl => match us, hl with | [_], _ => rfl)
  have K1 := fn_step (kw := []) K0 H0 gl F0 m0 (by decide) cs_is_integer rfl rfl rfl rfl (by decide +kernel) sc_is_integer (pu.is_integer) bd0 no_kw
  have H1 := H0.up (Nat.le_succ _)
  have bd1 := (F1.binds (ps := ["thing"]) fun _ _ _ _ _ _ us hl => match us, hl with | [_], _ => rfl)
  have K2 := fn_step (kw := []) K1 H1 gl F1 m1 (by decide) cs_is_value rfl rfl rfl rfl (by decide +kernel) sc_is_value (pu.is_value) bd1 no_kw
  have H2 := H1.up (Nat.le_succ _)
  have bd2 := (F2.binds (ps := ["thing"]) fun _ _ _ _ _ _ us hl => match us, hl with | [_], _ => rfl)
  have K3 := fn_step (kw := []) K2 H2 gl F2 m2 (by decide) cs_is_known rfl rfl rfl rfl (by decide +kernel) sc_is_known (pu.is_known) bd2 no_kw
  have H3 := H2.up (Nat.le_succ _)
  have bd3 := (F3.binds (ps := ["net"]) fun _ _ _ _ _ _ us hl => match us, hl with | [_], _ => rfl)
  have K4 := fn_step (kw := []) K3 H3 gl F3 m3 (by decide) cs_node_ranks rfl rfl rfl rfl (by decide +kernel) sc_node_ranks (pu.node_ranks) bd3 no_kw
  have H4 := H3.up (Nat.le_succ _)
  have bd4 := (F4.binds (ps := ["net", "usable"]) fun _ _ _ _ _ _ us hl => match us, hl with | [_, _], _ => rfl)
  have K5 := fn_step (kw := []) K4 H4 gl F4 m4 (by decide) cs_ways_out rfl rfl rfl rfl (by decide +kernel) sc_ways_out (pu.ways_out) bd4 no_kw
  have H5 := H4.up (Nat.le_succ _)
  have bd5 := (F5.binds (ps := ["ways", "starts", "floors"]) fun _ _ _ _ _ _ us hl => match us, hl with | [_, _, _], _ => rfl)
  have K6 := fn_step (kw := []) K5 H5 gl F5 m5 (by decide) cs_flooded rfl rfl rfl rfl (by decide +kernel) sc_flooded (pu.flooded) bd5 no_kw
  have H6 := H5.up (Nat.le_succ _)
  have bd6 := (F6.binds (ps := ["net", "thing"]) fun _ _ _ _ _ _ us hl => match us, hl with | [_, _], _ => rfl)
  have K7 := fn_step (kw := []) K6 H6 gl F6 m6 (by decide) cs_is_positions rfl rfl rfl rfl (by decide +kernel) sc_is_positions (pu.is_positions) bd6 no_kw
  have H7 := H6.up (Nat.le_succ _)
  have bd7 := (F7.binds (ps := ["thing", "many"]) fun _ _ _ _ _ _ us hl => match us, hl with | [_, _], _ => rfl)
  have K8 := fn_step (kw := []) K7 H7 gl F7 m7 (by decide) cs__begins_as_held rfl rfl rfl rfl (by decide +kernel) sc__begins_as_held (pu._begins_as_held) bd7 no_kw
  have H8 := H7.up (Nat.le_succ _)
  have bd8 := (F8.binds (ps := ["net", "thing"]) fun _ _ _ _ _ _ us hl => match us, hl with | [_, _], _ => rfl)
  have K9 := fn_step (kw := []) K8 H8 gl F8 m8 (by decide) cs_is_held rfl rfl rfl rfl (by decide +kernel) sc_is_held (pu.is_held) bd8 no_kw
  have H9 := H8.up (Nat.le_succ _)
  have bd9 := (F9.binds (ps := ["net", "positions"]) fun _ _ _ _ _ _ us hl => match us, hl with | [_, _], _ => rfl)
  have K10 := fn_step (kw := []) K9 H9 gl F9 m9 (by decide) cs_firm_ranks rfl rfl rfl rfl (by decide +kernel) sc_firm_ranks (pu.firm_ranks) bd9 no_kw
  have H10 := H9.up (Nat.le_succ _)
  have bd10 := (F10.binds (ps := ["net", "positions"]) fun _ _ _ _ _ _ us hl => match us, hl with | [_, _], _ => rfl)
  have K11 := fn_step (kw := []) K10 H10 gl F10 m10 (by decide) cs_likely_ways rfl rfl rfl rfl (by decide +kernel) sc_likely_ways (pu.likely_ways) bd10 no_kw
  have H11 := H10.up (Nat.le_succ _)
  have bd11 := (F11.binds (ps := ["net", "held", "value"]) fun _ _ _ _ _ _ us hl => match us, hl with | [_, _, _], _ => rfl)
  have K12 := fn_step (kw := []) K11 H11 gl F11 m11 (by decide) cs_root_ranks rfl rfl rfl rfl (by decide +kernel) sc_root_ranks (pu.root_ranks) bd11 no_kw
  have H12 := H11.up (Nat.le_succ _)
  have bd12 := (F12.binds (ps := ["net", "positions", "held", "value"]) fun _ _ _ _ _ _ us hl => match us, hl with | [_, _, _, _], _ => rfl)
  have K13 := fn_step (kw := []) K12 H12 gl F12 m12 (by decide) cs_may rfl rfl rfl rfl (by decide +kernel) sc_may (pu.may) bd12 no_kw
  have H13 := H12.up (Nat.le_succ _)
  have bd13 := (F13.binds (ps := ["net", "positions", "held"]) fun _ _ _ _ _ _ us hl => match us, hl with | [_, _, _], _ => rfl)
  have K14 := fn_step (kw := []) K13 H13 gl F13 m13 (by decide) cs_response rfl rfl rfl rfl (by decide +kernel) sc_response (pu.response) bd13 no_kw
  have H14 := H13.up (Nat.le_succ _)
  have bd14 := (F14.binds (ps := ["_law_script"]) fun _ _ _ _ _ _ us hl => match us, hl with | [_], _ => rfl)
  have K15 := fn_step (kw := []) K14 H14 gl F14 m14 (by decide) cs__law_tape rfl rfl rfl rfl (by decide +kernel) sc__law_tape (pu._law_tape) bd14 no_kw
  have H15 := H14.up (Nat.le_succ _)
  have bd15 := (F15.binds (ps := ["_law_tape_here", "_law_many"]) fun _ _ _ _ _ _ us hl => match us, hl with | [_, _], _ => rfl)
  have K16 := fn_step (kw := []) K15 H15 gl F15 m15 (by decide) cs__law_pick rfl rfl rfl rfl (by decide +kernel) sc__law_pick (pu._law_pick) bd15 no_kw
  have H16 := H15.up (Nat.le_succ _)
  have bd16 := (F16.binds (ps := ["_law_tape_here", "_law_nodes", "_law_strength", "_law_left", "_law_right"]) fun _ _ _ _ _ _ us hl => match us, hl with | [_, _, _, _, _], _ => rfl)
  have K17 := fn_step (kw := []) K16 H16 gl F16 m16 (by decide) cs__law_switch rfl rfl rfl rfl (by decide +kernel) sc__law_switch (pu._law_switch) bd16 no_kw
  have H17 := H16.up (Nat.le_succ _)
  have bd17 := (F17.binds (ps := ["_law_tape_here"]) fun _ _ _ _ _ _ us hl => match us, hl with | [_], _ => rfl)
  have K18 := fn_step (kw := []) K17 H17 gl F17 m17 (by decide) cs__law_net rfl rfl rfl rfl (by decide +kernel) sc__law_net (pu._law_net) bd17 no_kw
  have H18 := H17.up (Nat.le_succ _)
  have bd18 := (F18.binds (ps := ["_law_tape_here", "_law_net_here"]) fun _ _ _ _ _ _ us hl => match us, hl with | [_, _], _ => rfl)
  have K19 := fn_step (kw := []) K18 H18 gl F18 m18 (by decide) cs__law_question rfl rfl rfl rfl (by decide +kernel) sc__law_question (pu._law_question) bd18 no_kw
  have H19 := H18.up (Nat.le_succ _)
  have bd19 := (F19.binds (ps := ["_law_net_here", "_law_positions", "_law_held"]) fun _ _ _ _ _ _ us hl => match us, hl with | [_, _, _], _ => rfl)
  have K20 := fn_step (kw := []) K19 H19 gl F19 m19 (by decide) cs__law_settled rfl rfl rfl rfl (by decide +kernel) sc__law_settled (pu._law_settled) bd19 no_kw
  have H20 := H19.up (Nat.le_succ _)
  have bd20 := (F20.binds (ps := ["_law_positions", "_law_held"]) fun _ _ _ _ _ _ us hl => match us, hl with | [_, _], _ => rfl)
  have K21 := fn_step (kw := []) K20 H20 gl F20 m20 (by decide) cs__law_fillings rfl rfl rfl rfl (by decide +kernel) sc__law_fillings (pu._law_fillings) bd20 no_kw
  have H21 := H20.up (Nat.le_succ _)
  have bd21 := (F21.binds (ps := ["_law_net_here", "_law_positions", "_law_held"]) fun _ _ _ _ _ _ us hl => match us, hl with | [_, _, _], _ => rfl)
  have K22 := fn_step (kw := []) K21 H21 gl F21 m21 (by decide) cs__law_told rfl rfl rfl rfl (by decide +kernel) sc__law_told (pu._law_told) bd21 no_kw
  have H22 := H21.up (Nat.le_succ _)
  have bd22 := (F22.binds (ps := ["_law_found"]) fun _ _ _ _ _ _ us hl => match us, hl with | [_], _ => rfl)
  have K23 := fn_step (kw := []) K22 H22 gl F22 m22 (by decide) cs__law_is_number rfl rfl rfl rfl (by decide +kernel) sc__law_is_number (pu._law_is_number) bd22 no_kw
  have H23 := H22.up (Nat.le_succ _)
  have bd23 := (F23.binds (ps := ["_law_found", "_law_due"]) fun _ _ _ _ _ _ us hl => match us, hl with | [_, _], _ => rfl)
  have K24 := fn_step (kw := []) K23 H23 gl F23 m23 (by decide) cs__law_same_values rfl rfl rfl rfl (by decide +kernel) sc__law_same_values (pu._law_same_values) bd23 no_kw
  have H24 := H23.up (Nat.le_succ _)
  exact fn_sound F24 (mk_callees K24 H24 gl (by decide +kernel)) (by decide) cs_law rfl rfl rfl rfl sc_law (pu.law)
theorem gk0 : GG.con "is_integer" = con_is_integer := by kernel_rfl
theorem gk1 : GG.ct "FEED_RANK" = some (.int 11) := by kernel_rfl
theorem gk2 : GG.ct "RANK_BELOW_STRENGTHS" = some (.int 4) := by kernel_rfl
theorem gk3 : GG.con "is_value" = con_is_value := by kernel_rfl
theorem gk4 : GG.con "_begins_as_held" = con__begins_as_held := by kernel_rfl
theorem gk5 : GG.con "node_ranks" = con_node_ranks := by kernel_rfl
theorem gk6 : GG.con "ways_out" = con_ways_out := by kernel_rfl
theorem gk7 : GG.con "flooded" = con_flooded := by kernel_rfl
theorem gk8 : GG.fds "NotUsable" = (["word", "at"] : List Str) := by decide +kernel
theorem gk9 : GG.con "is_positions" = con_is_positions := by kernel_rfl
theorem gk10 : GG.con "is_held" = con_is_held := by kernel_rfl
theorem gk11 : GG.con "is_known" = con_is_known := by kernel_rfl
theorem gk12 : GG.con "likely_ways" = con_likely_ways := by kernel_rfl
theorem gk13 : GG.con "root_ranks" = con_root_ranks := by kernel_rfl
theorem gk14 : GG.con "firm_ranks" = con_firm_ranks := by kernel_rfl
theorem gk15 : GG.con "_law_pick" = con__law_pick := by kernel_rfl
theorem gk16 : GG.con "_law_switch" = con__law_switch := by kernel_rfl
theorem gk17 : GG.con "_law_fillings" = con__law_fillings := by kernel_rfl
theorem gk18 : GG.con "_law_settled" = con__law_settled := by kernel_rfl
theorem gk19 : GG.con "_law_is_number" = con__law_is_number := by kernel_rfl
theorem gk20 : GG.con "_law_tape" = con__law_tape := by kernel_rfl
theorem gk21 : GG.con "_law_net" = con__law_net := by kernel_rfl
theorem gk22 : GG.con "_law_question" = con__law_question := by kernel_rfl
theorem gk23 : GG.con "_law_told" = con__law_told := by kernel_rfl
theorem gk24 : GG.con "response" = con_response := by kernel_rfl
theorem gk25 : GG.con "_law_same_values" = con__law_same_values := by kernel_rfl
theorem gk26 : GG.con "may" = con_may := by kernel_rfl
theorem pure : Pure GG where
  is_integer := fun ds A E Q _ h => Nt.b_is_integer  ds A E Q h
  is_value := fun ds A E Q _ h => Nt.b_is_value gk0 ds A E Q h
  is_known := fun ds A E Q _ h => Nt.b_is_known gk0 ds A E Q h
  node_ranks := fun ds A E Q _ h => Nt.b_node_ranks gk1 ds A E Q h
  ways_out := fun ds A E Q _ h => Nt.b_ways_out gk2 ds A E Q h
  flooded := fun ds A E Q _ h => Nt.b_flooded gk1 ds A E Q h
  is_positions := fun ds A E Q _ h => Nt.b_is_positions gk3 ds A E Q h
  _begins_as_held := fun ds A E Q _ h => Nt.b__begins_as_held gk3 ds A E Q h
  is_held := fun ds A E Q _ h => Nt.b_is_held gk4 ds A E Q h
  firm_ranks := fun ds A E Q _ h => Nt.b_firm_ranks gk5 gk6 gk7 ds A E Q h
  likely_ways := fun ds A E Q _ h => Nt.b_likely_ways gk6 ds A E Q h
  root_ranks := fun ds A E Q _ h => Nt.b_root_ranks gk5 ds A E Q h
  may := fun ds A E Q _ h => Nt.b_may gk8 gk9 gk10 gk11 gk12 gk13 gk14 gk7 ds A E Q h
  response := fun ds A E Q _ h => Nt.b_response gk8 gk9 gk10 gk12 gk13 gk14 gk7 ds A E Q h
  _law_tape := fun ds A E Q _ h => K02.b__law_tape  ds A E Q h
  _law_pick := fun ds A E Q _ h => K02.b__law_pick  ds A E Q h
  _law_switch := fun ds A E Q _ h => K02.b__law_switch gk15 ds A E Q h
  _law_net := fun ds A E Q _ h => K02.b__law_net gk15 gk16 ds A E Q h
  _law_question := fun ds A E Q _ h => K02.b__law_question gk15 ds A E Q h
  _law_settled := fun ds A E Q _ h => K02.b__law_settled  ds A E Q h
  _law_fillings := fun ds A E Q _ h => K02.b__law_fillings  ds A E Q h
  _law_told := fun ds A E Q _ h => K02.b__law_told gk17 gk18 ds A E Q h
  _law_is_number := fun ds A E Q _ h => K02.b__law_is_number  ds A E Q h
  _law_same_values := fun ds A E Q _ h => K02.b__law_same_values gk19 ds A E Q h
  law := fun ds A E Q _ h => K02.b_law gk20 gk21 gk22 gk23 gk24 gk25 gk17 gk18 gk26 gk19 ds A E Q h
theorem law_true : ∀ ns : List Int, ns.length ≤ 63 → con_law [.rol (ns.map .int)] [] (fun _ _ => False) (fun d _ => d = .bl true) := fun ns h => ⟨ns, rfl, h, fun _ => rfl⟩
end K02
end TextK02z

section TextK02y
set_option autoImplicit false
set_option maxRecDepth 100000
open PySem PySem.W PyProof.Rows
set_option maxHeartbeats 0 in
theorem PySem.Challenge.cw_everyohm_k02_whole_joined_fillings_holds : PySem.Challenge.rw_everyohm_k02_whole_joined_fillings.Holds := by
  w_on; o_law; k_head; (case hw => w_witness2)
  k_fill
  refine Px.walkP (l := PySem.Challenge.rw_everyohm_k02_whole_joined_fillings) (lv := 27) (x := "_law_script") (con := K02.con_law) rfl (by decide) rfl ⟨rfl, by decide, by decide⟩ (fun w h Y => PySem.W.kIn_of Y) K02.law_true ?F
  case F =>
    intro w mg fa h KX G hmg
    refine' K02.all_mk K02.pure KX G hmg ?a0 ?l0 ?c0 ?k0 ?a1 ?l1 ?c1 ?k1 ?a2 ?l2 ?c2 ?k2 ?a3 ?l3 ?c3 ?k3 ?a4 ?l4 ?c4 ?k4 ?a5 ?l5 ?c5 ?k5 ?a6 ?l6 ?c6 ?k6 ?a7 ?l7 ?c7 ?k7 ?a8 ?l8 ?c8 ?k8 ?a9 ?l9 ?c9 ?k9 ?a10 ?l10 ?c10 ?k10 ?a11 ?l11 ?c11 ?k11 ?a12 ?l12 ?c12 ?k12 ?a13 ?l13 ?c13 ?k13 ?a14 ?l14 ?c14 ?k14 ?a15 ?l15 ?c15 ?k15 ?a16 ?l16 ?c16 ?k16 ?a17 ?l17 ?c17 ?k17 ?a18 ?l18 ?c18 ?k18 ?a19 ?l19 ?c19 ?k19 ?a20 ?l20 ?c20 ?k20 ?a21 ?l21 ?c21 ?k21 ?a22 ?l22 ?c22 ?k22 ?a23 ?l23 ?c23 ?k23 ?a24 ?l24 ?c24 ?k24 ?b0 ?b1 ?b2 ?b3 ?b4 ?b5 ?b6 ?b7 ?b8 ?b9 ?b10 ?b11 ?b12 ?b13 ?b14 ?b15 ?b16 ?b17 ?b18 ?b19 ?b20 ?v0 ?v1 ?sn ?st ?aCNotUsable ?xLNotUsable ?rvNotUsable ?saNotUsable ?gaNotUsable ?ggNotUsable ?noNotUsableat ?noNotUsableword ?inNotUsable ?tiNotUsable ?liNotUsable ?ciNotUsable ?kiNotUsable ?kCNotUsable ?eCNotUsable ?tCNotUsable ?hCNotUsable ?clNotUsable ?moNotUsable
    (case a0 => k_is)
    (case l0 => k_is)
    (case c0 => k_is)
    (case k0 => k_is)
    (case a1 => k_is)
    (case l1 => k_is)
    (case c1 => k_is)
    (case k1 => k_is)
    (case a2 => k_is)
    (case l2 => k_is)
    (case c2 => k_is)
    (case k2 => k_is)
    (case a3 => k_is)
    (case l3 => k_is)
    (case c3 => k_is)
    (case k3 => k_is)
    (case a4 => k_is)
    (case l4 => k_is)
    (case c4 => k_is)
    (case k4 => k_is)
    (case a5 => k_is)
    (case l5 => k_is)
    (case c5 => k_is)
    (case k5 => k_is)
    (case a6 => k_is)
    (case l6 => k_is)
    (case c6 => k_is)
    (case k6 => k_is)
    (case a7 => k_is)
    (case l7 => k_is)
    (case c7 => k_is)
    (case k7 => k_is)
    (case a8 => k_is)
    (case l8 => k_is)
    (case c8 => k_is)
    (case k8 => k_is)
    (case a9 => k_is)
    (case l9 => k_is)
    (case c9 => k_is)
    (case k9 => k_is)
    (case a10 => k_is)
    (case l10 => k_is)
    (case c10 => k_is)
    (case k10 => k_is)
    (case a11 => k_is)
    (case l11 => k_is)
    (case c11 => k_is)
    (case k11 => k_is)
    (case a12 => k_is)
    (case l12 => k_is)
    (case c12 => k_is)
    (case k12 => k_is)
    (case a13 => k_is)
    (case l13 => k_is)
    (case c13 => k_is)
    (case k13 => k_is)
    (case a14 => k_is)
    (case l14 => k_is)
    (case c14 => k_is)
    (case k14 => k_is)
    (case a15 => k_is)
    (case l15 => k_is)
    (case c15 => k_is)
    (case k15 => k_is)
    (case a16 => k_is)
    (case l16 => k_is)
    (case c16 => k_is)
    (case k16 => k_is)
    (case a17 => k_is)
    (case l17 => k_is)
    (case c17 => k_is)
    (case k17 => k_is)
    (case a18 => k_is)
    (case l18 => k_is)
    (case c18 => k_is)
    (case k18 => k_is)
    (case a19 => k_is)
    (case l19 => k_is)
    (case c19 => k_is)
    (case k19 => k_is)
    (case a20 => k_is)
    (case l20 => k_is)
    (case c20 => k_is)
    (case k20 => k_is)
    (case a21 => k_is)
    (case l21 => k_is)
    (case c21 => k_is)
    (case k21 => k_is)
    (case a22 => k_is)
    (case l22 => k_is)
    (case c22 => k_is)
    (case k22 => k_is)
    (case a23 => k_is)
    (case l23 => k_is)
    (case c23 => k_is)
    (case k23 => k_is)
    (case a24 => k_is)
    (case l24 => k_is)
    (case c24 => k_is)
    (case k24 => k_is)
    (case b0 => k_is)
    (case b1 => k_is)
    (case b2 => k_is)
    (case b3 => k_is)
    (case b4 => k_is)
    (case b5 => k_is)
    (case b6 => k_is)
    (case b7 => k_is)
    (case b8 => k_is)
    (case b9 => k_is)
    (case b10 => k_is)
    (case b11 => k_is)
    (case b12 => k_is)
    (case b13 => k_is)
    (case b14 => k_is)
    (case b15 => k_is)
    (case b16 => k_is)
    (case b17 => k_is)
    (case b18 => k_is)
    (case b19 => k_is)
    (case b20 => k_is)
    (case v0 => k_is)
    (case v1 => k_is)
    (case sn => k_is)
    (case st => k_is)
    (case aCNotUsable => k_is)
    (case xLNotUsable => k_is)
    (case rvNotUsable => first | rfl | decide +kernel | k_is)
    (case saNotUsable => k_is)
    (case gaNotUsable => k_is)
    (case ggNotUsable => k_is)
    (case noNotUsableat => k_is)
    (case noNotUsableword => k_is)
    (case inNotUsable => k_is)
    (case tiNotUsable => k_is)
    (case liNotUsable => k_is)
    (case ciNotUsable => k_is)
    (case kiNotUsable => k_is)
    (case kCNotUsable => k_is)
    (case eCNotUsable => k_is)
    (case tCNotUsable => k_is)
    (case hCNotUsable => k_is)
    (case clNotUsable => k_is)
    (case moNotUsable => k_is)
end TextK02y
